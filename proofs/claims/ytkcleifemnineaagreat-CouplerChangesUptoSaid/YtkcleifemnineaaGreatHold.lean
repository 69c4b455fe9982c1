/-
  The contracts of this seat's functions, gathered.
-/
import Derived.Test.YtkcleifemnineaaGreatChecked
import Derived.Test.YtkcleifemnineaaGreatBits
import Derived.KernelRfl
import Derived.Test.YtkcleifemnineaaGreatM12
set_option maxRecDepth 100000
set_option linter.unusedVariables false
namespace Go.Abs
open Go.Proofs
theorem cK174:check Tryz.prog 174=some (25,Uc.strip,[.tmp 2]):=by kernel_rfl
theorem sK174:Sound Tryz.prog 174 (.fresh 1 Ju):=by
  apply waB (hc:=cK174) W3 <;> first | exact (rfl:@Eq Spec _ _) | skip
  all_goals decide
def L1:List (Nat×Spec):=(174,.fresh 1 Ju)::[]
theorem h1:Holds Tryz.prog (Gl L1):=za W3 sK174
theorem cK149:check Tryz.prog 149=some (14,(vi 174).strip,[.cell 4 2 true]):=by kernel_rfl
theorem sK149:Sound Tryz.prog 149 (.dat false zf):=by
  apply Qaa (hc:=cK149) h1 <;> first | exact (rfl:@Eq Spec _ _) | skip
  all_goals decide
def L2:List (Nat×Spec):=(149,.dat false zf)::L1
theorem h2:Holds Tryz.prog (Gl L2):=za h1 sK149
theorem cK138:check Tryz.prog 138=some (19,(kr 149).strip,[.cell 2 2 true]):=by kernel_rfl
theorem sK138:Sound Tryz.prog 138 (.dat false ZF):=by
  apply VZ (hc:=cK138) h2 <;> first | exact (rfl:@Eq Spec _ _) | skip
  all_goals decide
def L3:List (Nat×Spec):=(138,.dat false ZF)::L2
theorem h3:Holds Tryz.prog (Gl L3):=za h2 sK138
theorem cK178:check Tryz.prog 178=some (19,uk.strip,[.tmp 2]):=by kernel_rfl
theorem sK178:Sound Tryz.prog 178 (.dat true jj):=by
  apply zG (hc:=cK178) h3 <;> first | exact (rfl:@Eq Spec _ _) | skip
  all_goals decide
def L4:List (Nat×Spec):=(178,.dat true jj)::L3
theorem h4:Holds Tryz.prog (Gl L4):=za h3 sK178
theorem cK151:check Tryz.prog 151=some (8,(Xo 178).strip,[.tmp 2]):=by kernel_rfl
theorem sK151:Sound Tryz.prog 151 (.dat false vk):=by
  apply JM (hc:=cK151) h4 <;> first | exact (rfl:@Eq Spec _ _) | skip
  all_goals decide
def L5:List (Nat×Spec):=(151,.dat false vk)::L4
theorem h5:Holds Tryz.prog (Gl L5):=za h4 sK151
theorem cK166:check Tryz.prog 166=some (9,(uo 178).strip,[.tmp 2]):=by kernel_rfl
theorem sK166:Sound Tryz.prog 166 (.dat true Qh):=by
  apply uJ (hc:=cK166) h5 <;> first | exact (rfl:@Eq Spec _ _) | skip
  all_goals decide
def L6:List (Nat×Spec):=(166,.dat true Qh)::L5
theorem h6:Holds Tryz.prog (Gl L6):=za h5 sK166
theorem cK132:check Tryz.prog 132=some (9,(Ji 151 166).strip,[.tmp 2]):=by kernel_rfl
theorem sK132:Sound Tryz.prog 132 (.dat true uf):=by
  apply xS (hc:=cK132) h6 <;> first | exact (rfl:@Eq Spec _ _) | skip
  all_goals decide
def L7:List (Nat×Spec):=(132,.dat true uf)::L6
theorem h7:Holds Tryz.prog (Gl L7):=za h6 sK132
theorem cK139:check Tryz.prog 139=some (9,(qp 166 151 149).strip,[.cell 2 2 true]):=by kernel_rfl
theorem sK139:Sound Tryz.prog 139 (.dat false Ut):=by
  apply zM (hc:=cK139) h7 <;> first | exact (rfl:@Eq Spec _ _) | skip
  all_goals decide
def L8:List (Nat×Spec):=(139,.dat false Ut)::L7
theorem h8:Holds Tryz.prog (Gl L8):=za h7 sK139
theorem cK195:check Tryz.prog 195=some (14,Um.strip,[.tmp 4]):=by kernel_rfl
theorem sK195:Sound Tryz.prog 195 (.dat true qm):=by
  apply ZR (hc:=cK195) h8 <;> first | exact (rfl:@Eq Spec _ _) | skip
  all_goals decide
def L9:List (Nat×Spec):=(195,.dat true qm)::L8
theorem h9:Holds Tryz.prog (Gl L9):=za h8 sK195
theorem cK177:check Tryz.prog 177=some (21,yj.strip,[.tmp 2]):=by kernel_rfl
theorem sK177:Sound Tryz.prog 177 (.own Q5):=by
  apply WaQ (hc:=cK177) h9 <;> first | exact (rfl:@Eq Spec _ _) | skip
  all_goals decide
def L10:List (Nat×Spec):=(177,.own Q5)::L9
theorem h10:Holds Tryz.prog (Gl L10):=za h9 sK177
theorem cK175:check Tryz.prog 175=some (26,(Zh 195 177).strip,[.tmp 2]):=by kernel_rfl
theorem sK175:Sound Tryz.prog 175 (.own Jq):=by
  apply qae (hc:=cK175) h10 <;> first | exact (rfl:@Eq Spec _ _) | skip
  all_goals decide
def L11:List (Nat×Spec):=(175,.own Jq)::L10
theorem h11:Holds Tryz.prog (Gl L11):=za h10 sK175
theorem cK172:check Tryz.prog 172=some (30,(Zf 195).strip,[.tmp 4]):=by kernel_rfl
theorem sK172:Sound Tryz.prog 172 (.dat true qt):=by
  apply Uac (hc:=cK172) h11 <;> first | exact (rfl:@Eq Spec _ _) | skip
  all_goals decide
def L12:List (Nat×Spec):=(172,.dat true qt)::L11
theorem h12:Holds Tryz.prog (Gl L12):=za h11 sK172
theorem cK176:check Tryz.prog 176=some (31,(je 195).strip,[]):=by kernel_rfl
theorem sK176:Sound Tryz.prog 176 (.own yv):=by
  apply uaw (hc:=cK176) h12 <;> first | exact (rfl:@Eq Spec _ _) | skip
  all_goals decide
def L13:List (Nat×Spec):=(176,.own yv)::L12
theorem h13:Holds Tryz.prog (Gl L13):=za h12 sK176
theorem cK171:check Tryz.prog 171=some (37,(Uh 195 174).strip,[.tmp 4]):=by kernel_rfl
theorem sK171:Sound Tryz.prog 171 (.dat false yq):=by
  apply Y6 (hc:=cK171) h13 <;> first | exact (rfl:@Eq Spec _ _) | skip
  all_goals decide
def L14:List (Nat×Spec):=(171,.dat false yq)::L13
theorem h14:Holds Tryz.prog (Gl L14):=za h13 sK171
theorem cK150:check Tryz.prog 150=some (72,(jk 174 175 172 176 177 171).strip,[.tmp 4]):=by kernel_rfl
theorem sK150:Sound Tryz.prog 150 (.dat false Ux):=by
  apply wad (hc:=cK150) h14 <;> first | exact (rfl:@Eq Spec _ _) | skip
  all_goals decide
def L15:List (Nat×Spec):=(150,.dat false Ux)::L14
theorem h15:Holds Tryz.prog (Gl L15):=za h14 sK150
theorem cK104:check Tryz.prog 104=some (11,(xj 151 150 149).strip,[.cell 4 2 true]):=by kernel_rfl
theorem sK104:Sound Tryz.prog 104 (.dat false Qs):=by
  apply jaa (hc:=cK104) h15 <;> first | exact (rfl:@Eq Spec _ _) | skip
  all_goals decide
def L16:List (Nat×Spec):=(104,.dat false Qs)::L15
theorem h16:Holds Tryz.prog (Gl L16):=za h15 sK104
theorem cK202:check Tryz.prog 202=some (25,uh.strip,[.tmp 2]):=by kernel_rfl
theorem sK202:Sound Tryz.prog 202 (.dat true Jr):=by
  apply wW (hc:=cK202) h16 <;> first | exact (rfl:@Eq Spec _ _) | skip
  all_goals decide
def L17:List (Nat×Spec):=(202,.dat true Jr)::L16
theorem h17:Holds Tryz.prog (Gl L17):=za h16 sK202
theorem cK194:check Tryz.prog 194=some (76,(vf 202 172 176 174).strip,[.tmp 4,.tmp 5]):=by kernel_rfl
theorem sK194:Sound Tryz.prog 194 (.dat false Vh):=by
  apply VL (hc:=cK194) h17 <;> first | exact (rfl:@Eq Spec _ _) | skip
  all_goals decide
def L18:List (Nat×Spec):=(194,.dat false Vh)::L17
theorem h18:Holds Tryz.prog (Gl L18):=za h17 sK194
theorem cK173:check Tryz.prog 173=some (35,(vg 195 174).strip,[.tmp 4]):=by kernel_rfl
theorem sK173:Sound Tryz.prog 173 (.dat false Ws):=by
  apply zS (hc:=cK173) h18 <;> first | exact (rfl:@Eq Spec _ _) | skip
  all_goals decide
def L19:List (Nat×Spec):=(173,.dat false Ws)::L18
theorem h19:Holds Tryz.prog (Gl L19):=za h18 sK173
theorem cK169:check Tryz.prog 169=some (45,(Jk 132 151 194 166 171 173 149).strip,[.cell 4 2 true,.cell 5 2 true,.tmp 6]):=by kernel_rfl
theorem sK169:Sound Tryz.prog 169 (.dat false xr):=by
  apply WZ (hc:=cK169) h19 <;> first | exact (rfl:@Eq Spec _ _) | skip
  all_goals decide
def L20:List (Nat×Spec):=(169,.dat false xr)::L19
theorem h20:Holds Tryz.prog (Gl L20):=za h19 sK169
theorem cK137:check Tryz.prog 137=some (47,(Wi 132 139 104 169).strip,[.cell 4 3 true]):=by kernel_rfl
theorem sK137:Sound Tryz.prog 137 (.dat false wi):=by
  apply ZV (hc:=cK137) h20 <;> first | exact (rfl:@Eq Spec _ _) | skip
  all_goals decide
def L21:List (Nat×Spec):=(137,.dat false wi)::L20
theorem h21:Holds Tryz.prog (Gl L21):=za h20 sK137
theorem cK144:check Tryz.prog 144=some (13,(qi 132 137).strip,[.cell 4 3 true,.tmp 5]):=by kernel_rfl
theorem sK144:Sound Tryz.prog 144 (.dat false Yo):=by
  apply kab (hc:=cK144) h21 <;> first | exact (rfl:@Eq Spec _ _) | skip
  all_goals decide
def L22:List (Nat×Spec):=(144,.dat false Yo)::L21
theorem h22:Holds Tryz.prog (Gl L22):=za h21 sK144
theorem cK111:check Tryz.prog 111=some (13,(wh 138 144).strip,[.cell 4 3 true,.tmp 5]):=by kernel_rfl
theorem sK111:Sound Tryz.prog 111 (.dat false xw):=by
  apply V3 (hc:=cK111) h22 <;> first | exact (rfl:@Eq Spec _ _) | skip
  all_goals decide
def L23:List (Nat×Spec):=(111,.dat false xw)::L22
theorem h23:Holds Tryz.prog (Gl L23):=za h22 sK111
theorem cK105:check Tryz.prog 105=some (2,(xm 138).strip,[.cell 0 2 true]):=by kernel_rfl
theorem sK105:Sound Tryz.prog 105 (.dat false Vq):=by
  apply WM (hc:=cK105) h23 <;> first | exact (rfl:@Eq Spec _ _) | skip
  all_goals decide
def L24:List (Nat×Spec):=(105,.dat false Vq)::L23
theorem h24:Holds Tryz.prog (Gl L24):=za h23 sK105
theorem cK73:check Tryz.prog 73=some (7,(Uo 138 105 137).strip,[.cell 2 3 true]):=by kernel_rfl
theorem sK73:Sound Tryz.prog 73 (.dat false ku):=by
  apply QW (hc:=cK73) h24 <;> first | exact (rfl:@Eq Spec _ _) | skip
  all_goals decide
def L25:List (Nat×Spec):=(73,.dat false ku)::L24
theorem h25:Holds Tryz.prog (Gl L25):=za h24 sK73
theorem cK51:check Tryz.prog 51=some (10,(xl 73).strip,[.cell 4 6 true]):=by kernel_rfl
theorem sK51:Sound Tryz.prog 51 (.dat false xL):=by
  apply XaX (hc:=cK51) h25 <;> first | exact (rfl:@Eq Spec _ _) | skip
  all_goals decide
def L26:List (Nat×Spec):=(51,.dat false xL)::L25
theorem h26:Holds Tryz.prog (Gl L26):=za h25 sK51
theorem cK50:check Tryz.prog 50=some (15,(jf 111 73 51).strip,[.cell 0 27 true]):=by kernel_rfl
theorem sK50:Sound Tryz.prog 50 (.dat false QA):=by
  apply Zay (hc:=cK50) h26 <;> first | exact (rfl:@Eq Spec _ _) | skip
  all_goals decide
def L27:List (Nat×Spec):=(50,.dat false QA)::L26
theorem h27:Holds Tryz.prog (Gl L27):=za h26 sK50
theorem cK112:check Tryz.prog 112=some (19,uk.strip,[.tmp 2]):=by kernel_rfl
theorem sK112:Sound Tryz.prog 112 (.dat true jj):=by
  apply zG (hc:=cK112) h27 <;> first | exact (rfl:@Eq Spec _ _) | skip
  all_goals decide
def L28:List (Nat×Spec):=(112,.dat true jj)::L27
theorem h28:Holds Tryz.prog (Gl L28):=za h27 sK112
theorem cK125:check Tryz.prog 125=some (8,(Xo 112).strip,[.tmp 2]):=by kernel_rfl
theorem sK125:Sound Tryz.prog 125 (.dat false vk):=by
  apply JM (hc:=cK125) h28 <;> first | exact (rfl:@Eq Spec _ _) | skip
  all_goals decide
def L29:List (Nat×Spec):=(125,.dat false vk)::L28
theorem h29:Holds Tryz.prog (Gl L29):=za h28 sK125
theorem cK124:check Tryz.prog 124=some (41,vm.strip,[.tmp 4]):=by kernel_rfl
theorem sK124:Sound Tryz.prog 124 (.dat false yi):=by
  apply vU (hc:=cK124) h29 <;> first | exact (rfl:@Eq Spec _ _) | skip
  all_goals decide
def L30:List (Nat×Spec):=(124,.dat false yi)::L29
theorem h30:Holds Tryz.prog (Gl L30):=za h29 sK124
theorem cK163:check Tryz.prog 163=some (25,wt.strip,[.tmp 2]):=by kernel_rfl
theorem sK163:Sound Tryz.prog 163 (.dat false Xs):=by
  apply Uay (hc:=cK163) h30 <;> first | exact (rfl:@Eq Spec _ _) | skip
  all_goals decide
def L31:List (Nat×Spec):=(163,.dat false Xs)::L30
theorem h31:Holds Tryz.prog (Gl L31):=za h30 sK163
theorem cK182:check Tryz.prog 182=some (43,(kp 163).strip,[.tmp 4,.tmp 5]):=by kernel_rfl
theorem sK182:Sound Tryz.prog 182 (.dat false vx):=by
  apply kae (hc:=cK182) h31 <;> first | exact (rfl:@Eq Spec _ _) | skip
  all_goals decide
def L32:List (Nat×Spec):=(182,.dat false vx)::L31
theorem h32:Holds Tryz.prog (Gl L32):=za h31 sK182
theorem sK183:Sound Tryz.prog 183 (.dat true lz_G):=JaX (Yv Tryz.func183 (by kernel_rfl) (by kernel_rfl)) Wbh Jbt Tryz.bits_LeadingZeros32
def L33:List (Nat×Spec):=(183,.dat true lz_G)::L32
theorem h33:Holds Tryz.prog (Gl L33):=za h32 sK183
theorem cK184:check Tryz.prog 184=some (41,Vx.strip,[.tmp 4]):=by kernel_rfl
theorem sK184:Sound Tryz.prog 184 (.fresh 1 up_G):=by
  apply qa0 (hc:=cK184) h33 <;> first | exact (rfl:@Eq Spec _ _) | skip
  all_goals decide
def L34:List (Nat×Spec):=(184,.fresh 1 up_G)::L33
theorem h34:Holds Tryz.prog (Gl L34):=za h33 sK184
theorem cK193:check Tryz.prog 193=some (14,Um.strip,[.tmp 4]):=by kernel_rfl
theorem sK193:Sound Tryz.prog 193 (.dat true qm):=by
  apply ZR (hc:=cK193) h34 <;> first | exact (rfl:@Eq Spec _ _) | skip
  all_goals decide
def L35:List (Nat×Spec):=(193,.dat true qm)::L34
theorem h35:Holds Tryz.prog (Gl L35):=za h34 sK193
theorem cK185:check Tryz.prog 185=some (46,(Xn 193).strip,[.tmp 6]):=by kernel_rfl
theorem sK185:Sound Tryz.prog 185 (.own yr):=by
  apply uab (hc:=cK185) h35 <;> first | exact (rfl:@Eq Spec _ _) | skip
  all_goals decide
def L36:List (Nat×Spec):=(185,.own yr)::L35
theorem h36:Holds Tryz.prog (Gl L36):=za h35 sK185
theorem cK186:check Tryz.prog 186=some (30,(Qt 193).strip,[]):=by kernel_rfl
theorem sK186:Sound Tryz.prog 186 (.own QC):=by
  apply uaC (hc:=cK186) h36 <;> first | exact (rfl:@Eq Spec _ _) | skip
  all_goals decide
def L37:List (Nat×Spec):=(186,.own QC)::L36
theorem h37:Holds Tryz.prog (Gl L37):=za h36 sK186
theorem cK187:check Tryz.prog 187=some (35,(vt 193 163).strip,[.tmp 4]):=by kernel_rfl
theorem sK187:Sound Tryz.prog 187 (.dat false VD):=by
  apply Vax (hc:=cK187) h37 <;> first | exact (rfl:@Eq Spec _ _) | skip
  all_goals decide
def L38:List (Nat×Spec):=(187,.dat false VD)::L37
theorem h38:Holds Tryz.prog (Gl L38):=za h37 sK187
theorem cK154:check Tryz.prog 154=some (158,(zj 124 163 182 183 184 185 186 187).strip,[.tmp 4,.tmp 5]):=by kernel_rfl
theorem sK154:Sound Tryz.prog 154 (.dat false Vh):=by
  apply ZX (hc:=cK154) h38 <;> first | exact (rfl:@Eq Spec _ _) | skip
  all_goals decide
def L39:List (Nat×Spec):=(154,.dat false Vh)::L38
theorem h39:Holds Tryz.prog (Gl L39):=za h38 sK154
theorem cK127:check Tryz.prog 127=some (15,(Wp 163).strip,[.cell 4 2 true]):=by kernel_rfl
theorem sK127:Sound Tryz.prog 127 (.dat false zf):=by
  apply wac (hc:=cK127) h39 <;> first | exact (rfl:@Eq Spec _ _) | skip
  all_goals decide
def L40:List (Nat×Spec):=(127,.dat false zf)::L39
theorem h40:Holds Tryz.prog (Gl L40):=za h39 sK127
theorem cK113:check Tryz.prog 113=some (26,(Uu 125 154 127).strip,[.cell 4 2 true]):=by kernel_rfl
theorem sK113:Sound Tryz.prog 113 (.dat false Qs):=by
  apply zaC (hc:=cK113) h40 <;> first | exact (rfl:@Eq Spec _ _) | skip
  all_goals decide
def L41:List (Nat×Spec):=(113,.dat false Qs)::L40
theorem h41:Holds Tryz.prog (Gl L41):=za h40 sK113
theorem cK65:check Tryz.prog 65=some (19,(kr 127).strip,[.cell 2 2 true]):=by kernel_rfl
theorem sK65:Sound Tryz.prog 65 (.dat false ZF):=by
  apply VZ (hc:=cK65) h41 <;> first | exact (rfl:@Eq Spec _ _) | skip
  all_goals decide
def L42:List (Nat×Spec):=(65,.dat false ZF)::L41
theorem h42:Holds Tryz.prog (Gl L42):=za h41 sK65
theorem cK66:check Tryz.prog 66=some (2,(xm 65).strip,[.cell 0 2 true]):=by kernel_rfl
theorem sK66:Sound Tryz.prog 66 (.dat false Vq):=by
  apply WM (hc:=cK66) h42 <;> first | exact (rfl:@Eq Spec _ _) | skip
  all_goals decide
def L43:List (Nat×Spec):=(66,.dat false Vq)::L42
theorem h43:Holds Tryz.prog (Gl L43):=za h42 sK66
theorem cK98:check Tryz.prog 98=some (11,(kt 125).strip,[.tmp 2]):=by kernel_rfl
theorem sK98:Sound Tryz.prog 98 (.dat true uf):=by
  apply yah (hc:=cK98) h43 <;> first | exact (rfl:@Eq Spec _ _) | skip
  all_goals decide
def L44:List (Nat×Spec):=(98,.dat true uf)::L43
theorem h44:Holds Tryz.prog (Gl L44):=za h43 sK98
theorem cK126:check Tryz.prog 126=some (9,(uo 112).strip,[.tmp 2]):=by kernel_rfl
theorem sK126:Sound Tryz.prog 126 (.dat true Qh):=by
  apply uJ (hc:=cK126) h44 <;> first | exact (rfl:@Eq Spec _ _) | skip
  all_goals decide
def L45:List (Nat×Spec):=(126,.dat true Qh)::L44
theorem h45:Holds Tryz.prog (Gl L45):=za h44 sK126
theorem cK62:check Tryz.prog 62=some (28,(Yu 98 125 124 126).strip,[.tmp 4]):=by kernel_rfl
theorem sK62:Sound Tryz.prog 62 (.dat true xA):=by
  apply QaC (hc:=cK62) h45 <;> first | exact (rfl:@Eq Spec _ _) | skip
  all_goals decide
def L46:List (Nat×Spec):=(62,.dat true xA)::L45
theorem h46:Holds Tryz.prog (Gl L46):=za h45 sK62
theorem cK53:check Tryz.prog 53=some (50,(Un 112 113 66 62).strip,[.tmp 2]):=by kernel_rfl
theorem sK53:Sound Tryz.prog 53 (.dat true xc):=by
  apply QX (hc:=cK53) h46 <;> first | exact (rfl:@Eq Spec _ _) | skip
  all_goals decide
def L47:List (Nat×Spec):=(53,.dat true xc)::L46
theorem h47:Holds Tryz.prog (Gl L47):=za h46 sK53
theorem cK52:check Tryz.prog 52=some (11,(qe 53).strip,[.tmp 2]):=by kernel_rfl
theorem sK52:Sound Tryz.prog 52 (.dat true Wd):=by
  apply vy (hc:=cK52) h47 <;> first | exact (rfl:@Eq Spec _ _) | skip
  all_goals decide
def L48:List (Nat×Spec):=(52,.dat true Wd)::L47
theorem h48:Holds Tryz.prog (Gl L48):=za h47 sK52
theorem cK61:check Tryz.prog 61=some (28,(xn 53 66).strip,[.cell 2 2 true,.cell 3 2 true]):=by kernel_rfl
theorem sK61:Sound Tryz.prog 61 (.dat false xd):=by
  apply kX (hc:=cK61) h48 <;> first | exact (rfl:@Eq Spec _ _) | skip
  all_goals decide
def L49:List (Nat×Spec):=(61,.dat false xd)::L48
theorem h49:Holds Tryz.prog (Gl L49):=za h48 sK61
theorem cK36:check Tryz.prog 36=some (12,(Jl 61 98).strip,[.tmp 2]):=by kernel_rfl
theorem sK36:Sound Tryz.prog 36 (.dat true ue):=by
  apply jH (hc:=cK36) h49 <;> first | exact (rfl:@Eq Spec _ _) | skip
  all_goals decide
def L50:List (Nat×Spec):=(36,.dat true ue)::L49
theorem h50:Holds Tryz.prog (Gl L50):=za h49 sK36
theorem cK128:check Tryz.prog 128=some (67,(jq 163).strip,[.tmp 4]):=by kernel_rfl
theorem sK128:Sound Tryz.prog 128 (.dat false Up):=by
  apply kah (hc:=cK128) h50 <;> first | exact (rfl:@Eq Spec _ _) | skip
  all_goals decide
def L51:List (Nat×Spec):=(128,.dat false Up)::L50
theorem h51:Holds Tryz.prog (Gl L51):=za h50 sK128
theorem cK63:check Tryz.prog 63=some (16,(zp 126 125 128 127).strip,[.cell 4 2 true]):=by kernel_rfl
theorem sK63:Sound Tryz.prog 63 (.dat false js):=by
  apply uQ (hc:=cK63) h51 <;> first | exact (rfl:@Eq Spec _ _) | skip
  all_goals decide
def L52:List (Nat×Spec):=(63,.dat false js)::L51
theorem h52:Holds Tryz.prog (Gl L52):=za h51 sK63
theorem cK15:check Tryz.prog 15=some (26,(Ur 61 63 62).strip,[.tmp 4]):=by kernel_rfl
theorem sK15:Sound Tryz.prog 15 (.dat true Qj):=by
  apply Wae (hc:=cK15) h52 <;> first | exact (rfl:@Eq Spec _ _) | skip
  all_goals decide
def L53:List (Nat×Spec):=(15,.dat true Qj)::L52
theorem h53:Holds Tryz.prog (Gl L53):=za h52 sK15
theorem cK12:check Tryz.prog 12=some (75,(qg 52 53 36 15 70).strip,[.tmp 2]):=by kernel_rfl
theorem sK12:Sound Tryz.prog 12 (.dat false (Zy 70)):=by
  apply Uaw (hc:=cK12) h53 <;> first | exact (rfl:@Eq Spec _ _) | skip
  all_goals decide
def L54:List (Nat×Spec):=(12,.dat false (Zy 70))::L53
theorem h54:Holds Tryz.prog (Gl L54):=za h53 sK12
theorem cK77:check Tryz.prog 77=some (24,(jl 12 52 70).strip,[.tmp 4]):=by kernel_rfl
theorem sK77:Sound Tryz.prog 77 (.dat false (xu 70)):=by
  apply Yag (hc:=cK77) h54 <;> first | exact (rfl:@Eq Spec _ _) | skip
  all_goals decide
def L55:List (Nat×Spec):=(77,.dat false (xu 70))::L54
theorem h55:Holds Tryz.prog (Gl L55):=za h54 sK77
theorem cK129:check Tryz.prog 129=some (9,(qp 126 125 127).strip,[.cell 2 2 true]):=by kernel_rfl
theorem sK129:Sound Tryz.prog 129 (.dat false Ut):=by
  apply zM (hc:=cK129) h55 <;> first | exact (rfl:@Eq Spec _ _) | skip
  all_goals decide
def L56:List (Nat×Spec):=(129,.dat false Ut)::L55
theorem h56:Holds Tryz.prog (Gl L56):=za h55 sK129
theorem cK164:check Tryz.prog 164=some (39,(ur 193 163).strip,[.tmp 4]):=by kernel_rfl
theorem sK164:Sound Tryz.prog 164 (.dat false yq):=by
  apply Qax (hc:=cK164) h56 <;> first | exact (rfl:@Eq Spec _ _) | skip
  all_goals decide
def L57:List (Nat×Spec):=(164,.dat false yq)::L56
theorem h57:Holds Tryz.prog (Gl L57):=za h56 sK164
theorem cK165:check Tryz.prog 165=some (38,(Us 193 163).strip,[.tmp 4]):=by kernel_rfl
theorem sK165:Sound Tryz.prog 165 (.dat false Ws):=by
  apply qaA (hc:=cK165) h57 <;> first | exact (rfl:@Eq Spec _ _) | skip
  all_goals decide
def L58:List (Nat×Spec):=(165,.dat false Ws)::L57
theorem h58:Holds Tryz.prog (Gl L58):=za h57 sK165
theorem cK130:check Tryz.prog 130=some (47,(uu 125 154 126 164 165 127 70).strip,[.cell 4 2 true,.cell 5 2 true,.tmp 6]):=by kernel_rfl
theorem sK130:Sound Tryz.prog 130 (.dat false qE):=by
  apply jaC (hc:=cK130) h58 <;> first | exact (rfl:@Eq Spec _ _) | skip
  all_goals decide
def L59:List (Nat×Spec):=(130,.dat false qE)::L58
theorem h59:Holds Tryz.prog (Gl L59):=za h58 sK130
theorem cK64:check Tryz.prog 64=some (47,(Zq 98 129 113 130).strip,[.cell 4 3 true]):=by kernel_rfl
theorem sK64:Sound Tryz.prog 64 (.dat false wi):=by
  apply xac (hc:=cK64) h59 <;> first | exact (rfl:@Eq Spec _ _) | skip
  all_goals decide
def L60:List (Nat×Spec):=(64,.dat false wi)::L59
theorem h60:Holds Tryz.prog (Gl L60):=za h59 sK64
theorem cK16:check Tryz.prog 16=some (7,(Uo 65 66 64).strip,[.cell 2 3 true]):=by kernel_rfl
theorem sK16:Sound Tryz.prog 16 (.dat false ku):=by
  apply QW (hc:=cK16) h60 <;> first | exact (rfl:@Eq Spec _ _) | skip
  all_goals decide
def L61:List (Nat×Spec):=(16,.dat false ku)::L60
theorem h61:Holds Tryz.prog (Gl L61):=za h60 sK16
theorem cK81:check Tryz.prog 81=some (14,(Vm 61 129 64).strip,[.cell 2 3 true]):=by kernel_rfl
theorem sK81:Sound Tryz.prog 81 (.dat false zu):=by
  apply UO (hc:=cK81) h61 <;> first | exact (rfl:@Eq Spec _ _) | skip
  all_goals decide
def L62:List (Nat×Spec):=(81,.dat false zu)::L61
theorem h62:Holds Tryz.prog (Gl L62):=za h61 sK81
theorem cK122:check Tryz.prog 122=some (29,xp.strip,[.tmp 2]):=by kernel_rfl
theorem sK122:Sound Tryz.prog 122 (.dat true yk):=by
  apply uS (hc:=cK122) h62 <;> first | exact (rfl:@Eq Spec _ _) | skip
  all_goals decide
def L63:List (Nat×Spec):=(122,.dat true yk)::L62
theorem h63:Holds Tryz.prog (Gl L63):=za h62 sK122
theorem cK159:check Tryz.prog 159=some (8,Qe.strip,[.tmp 2]):=by kernel_rfl
theorem sK159:Sound Tryz.prog 159 (.fresh 5 Jo):=by
  apply J8 (hc:=cK159) h63 <;> first | exact (rfl:@Eq Spec _ _) | skip
  all_goals decide
def L64:List (Nat×Spec):=(159,.fresh 5 Jo)::L63
theorem h64:Holds Tryz.prog (Gl L64):=za h63 sK159
theorem cK192:check Tryz.prog 192=some (6,Vv.strip,[.tmp 2]):=by kernel_rfl
theorem sK192:Sound Tryz.prog 192 (.dat true yE):=by
  apply vaz (hc:=cK192) h64 <;> first | exact (rfl:@Eq Spec _ _) | skip
  all_goals decide
def L65:List (Nat×Spec):=(192,.dat true yE)::L64
theorem h65:Holds Tryz.prog (Gl L65):=za h64 sK192
theorem cK162:check Tryz.prog 162=some (20,(Zg 192).strip,[.tmp 4]):=by kernel_rfl
theorem sK162:Sound Tryz.prog 162 (.dat true qC):=by
  apply xaz (hc:=cK162) h65 <;> first | exact (rfl:@Eq Spec _ _) | skip
  all_goals decide
def L66:List (Nat×Spec):=(162,.dat true qC)::L65
theorem h66:Holds Tryz.prog (Gl L66):=za h65 sK162
theorem cK161:check Tryz.prog 161=some (18,wB.strip,[.tmp 2]):=by kernel_rfl
theorem sK161:Sound Tryz.prog 161 (.dat true VU):=by
  apply WaL (hc:=cK161) h66 <;> first | exact (rfl:@Eq Spec _ _) | skip
  all_goals decide
def L67:List (Nat×Spec):=(161,.dat true VU)::L66
theorem h67:Holds Tryz.prog (Gl L67):=za h66 sK161
theorem cK123:check Tryz.prog 123=some (23,(qs 162 161).strip,[.tmp 4]):=by kernel_rfl
theorem sK123:Sound Tryz.prog 123 (.dat true Xv):=by
  apply Z9 (hc:=cK123) h67 <;> first | exact (rfl:@Eq Spec _ _) | skip
  all_goals decide
def L68:List (Nat×Spec):=(123,.dat true Xv)::L67
theorem h68:Holds Tryz.prog (Gl L68):=za h67 sK123
theorem cK204:check Tryz.prog 204=some (53,Vc.strip,[]):=by kernel_rfl
theorem sK204:Sound Tryz.prog 204 (.own (JD 123)):=by
  apply XaA (hc:=cK204) h68 <;> first | exact (rfl:@Eq Spec _ _) | skip
  all_goals decide
def L69:List (Nat×Spec):=(204,.own (JD 123))::L68
theorem h69:Holds Tryz.prog (Gl L69):=za h68 sK204
theorem cK207:check Tryz.prog 207=some (38,Zd.strip,[]):=by kernel_rfl
theorem sK207:Sound Tryz.prog 207 (.own (YA 123)):=by
  apply jaz (hc:=cK207) h69 <;> first | exact (rfl:@Eq Spec _ _) | skip
  all_goals decide
def L70:List (Nat×Spec):=(207,.own (YA 123))::L69
theorem h70:Holds Tryz.prog (Gl L70):=za h69 sK207
theorem cK206:check Tryz.prog 206=some (58,(Ud 207).strip,[]):=by kernel_rfl
theorem sK206:Sound Tryz.prog 206 (.own (jD 123)):=by
  apply uax (hc:=cK206) h70 <;> first | exact (rfl:@Eq Spec _ _) | skip
  all_goals decide
def L71:List (Nat×Spec):=(206,.own (jD 123))::L70
theorem h71:Holds Tryz.prog (Gl L71):=za h70 sK206
theorem cK205:check Tryz.prog 205=some (220,(Qb 206 205).strip,[]):=by kernel_rfl
theorem sK205:Sound Tryz.prog 205 (.own (Wh 123 10000)):=by
  apply UU (hc:=cK205) h71 <;> first | exact (rfl:@Eq Spec _ _) | skip
  all_goals decide
def L72:List (Nat×Spec):=(205,.own (Wh 123 10000))::L71
theorem h72:Holds Tryz.prog (Gl L72):=za h71 sK205
theorem cK200:check Tryz.prog 200=some (63,(ud 204 205).strip,[]):=by kernel_rfl
theorem sK200:Sound Tryz.prog 200 (.own (yy 123 10000)):=by
  apply waf (hc:=cK200) h72 <;> first | exact (rfl:@Eq Spec _ _) | skip
  all_goals decide
def L73:List (Nat×Spec):=(200,.own (yy 123 10000))::L72
theorem h73:Holds Tryz.prog (Gl L73):=za h72 sK200
theorem cK189:check Tryz.prog 189=some (9,(wd 200).strip,[]):=by kernel_rfl
theorem sK189:Sound Tryz.prog 189 (.own (vv 123 10000)):=by
  apply wag (hc:=cK189) h73 <;> first | exact (rfl:@Eq Spec _ _) | skip
  all_goals decide
def L74:List (Nat×Spec):=(189,.own (vv 123 10000))::L73
theorem h74:Holds Tryz.prog (Gl L74):=za h73 sK189
theorem cK141:check Tryz.prog 141=some (40,(jv 125 126 164 127 124 165).strip,[.cell 4 2 true]):=by kernel_rfl
theorem sK141:Sound Tryz.prog 141 (.dat false Ww):=by
  apply Vay (hc:=cK141) h74 <;> first | exact (rfl:@Eq Spec _ _) | skip
  all_goals decide
def L75:List (Nat×Spec):=(141,.dat false Ww)::L74
theorem h75:Holds Tryz.prog (Gl L75):=za h74 sK141
theorem cK82:check Tryz.prog 82=some (30,(Wm 61 63 141 64).strip,[.cell 4 3 true]):=by kernel_rfl
theorem sK82:Sound Tryz.prog 82 (.dat false Wj):=by
  apply WR (hc:=cK82) h75 <;> first | exact (rfl:@Eq Spec _ _) | skip
  all_goals decide
def L76:List (Nat×Spec):=(82,.dat false Wj)::L75
theorem h76:Holds Tryz.prog (Gl L76):=za h75 sK82
theorem cK191:check Tryz.prog 191=some (7,(Zt 36).strip,[.tmp 2]):=by kernel_rfl
theorem sK191:Sound Tryz.prog 191 (.dat true jA):=by
  apply kay (hc:=cK191) h76 <;> first | exact (rfl:@Eq Spec _ _) | skip
  all_goals decide
def L77:List (Nat×Spec):=(191,.dat true jA)::L76
theorem h77:Holds Tryz.prog (Gl L77):=za h76 sK191
theorem cK201:check Tryz.prog 201=some (19,yg.strip,[.tmp 4]):=by kernel_rfl
theorem sK201:Sound Tryz.prog 201 (.dat true (kD 191)):=by
  apply Waz (hc:=cK201) h77 <;> first | exact (rfl:@Eq Spec _ _) | skip
  all_goals decide
def L78:List (Nat×Spec):=(201,.dat true (kD 191))::L77
theorem h78:Holds Tryz.prog (Gl L78):=za h77 sK201
theorem cK190:check Tryz.prog 190=some (42,(Jc 201).strip,[.tmp 4]):=by kernel_rfl
theorem sK190:Sound Tryz.prog 190 (.own (XE 191)):=by
  apply Wax (hc:=cK190) h78 <;> first | exact (rfl:@Eq Spec _ _) | skip
  all_goals decide
def L79:List (Nat×Spec):=(190,.own (XE 191))::L78
theorem h79:Holds Tryz.prog (Gl L79):=za h78 sK190
theorem cK158:check Tryz.prog 158=some (60,(kx 159 189 123 82 190 191).strip,[.tmp 2]):=by kernel_rfl
theorem sK158:Sound Tryz.prog 158 (.dat false (qw 10000)):=by
  apply JaC (hc:=cK158) h79 <;> first | exact (rfl:@Eq Spec _ _) | skip
  all_goals decide
def L80:List (Nat×Spec):=(158,.dat false (qw 10000))::L79
theorem h80:Holds Tryz.prog (Gl L80):=za h79 sK158
theorem cK155:check Tryz.prog 155=some (28,(yo 122 53 158 70).strip,[.tmp 2,.tmp 3]):=by kernel_rfl
theorem sK155:Sound Tryz.prog 155 (.dat false (qv 70)):=by
  apply Xah (hc:=cK155) h80 <;> first | exact (rfl:@Eq Spec _ _) | skip
  all_goals decide
def L81:List (Nat×Spec):=(155,.dat false (qv 70))::L80
theorem h81:Holds Tryz.prog (Gl L81):=za h80 sK155
theorem cK118:check Tryz.prog 118=some (17,xe.strip,[.tmp 6]):=by kernel_rfl
theorem sK118:Sound Tryz.prog 118 (.red Zm):=by
  apply qad (hc:=cK118) h81 <;> first | exact (rfl:@Eq Spec _ _) | skip
  all_goals decide
def L82:List (Nat×Spec):=(118,.red Zm)::L81
theorem h82:Holds Tryz.prog (Gl L82):=za h81 sK118
theorem cK114:check Tryz.prog 114=some (23,(Xc 16 81 155 118).strip,[.tmp 6]):=by kernel_rfl
theorem sK114:Sound Tryz.prog 114 (.red JC):=by
  apply XaC (hc:=cK114) h82 <;> first | exact (rfl:@Eq Spec _ _) | skip
  all_goals decide
def L83:List (Nat×Spec):=(114,.red JC)::L82
theorem h83:Holds Tryz.prog (Gl L83):=za h82 sK114
theorem cK79:check Tryz.prog 79=some (9,(Qn 81 82).strip,[.cell 4 3 true]):=by kernel_rfl
theorem sK79:Sound Tryz.prog 79 (.dat false Xm):=by
  apply zR (hc:=cK79) h83 <;> first | exact (rfl:@Eq Spec _ _) | skip
  all_goals decide
def L84:List (Nat×Spec):=(79,.dat false Xm)::L83
theorem h84:Holds Tryz.prog (Gl L84):=za h83 sK79
theorem cK59:check Tryz.prog 59=some (48,(Zn 122 53 36 123 70).strip,[.tmp 2]):=by kernel_rfl
theorem sK59:Sound Tryz.prog 59 (.dat false (Jm 70)):=by
  apply Y7 (hc:=cK59) h84 <;> first | exact (rfl:@Eq Spec _ _) | skip
  all_goals decide
def L85:List (Nat×Spec):=(59,.dat false (Jm 70))::L84
theorem h85:Holds Tryz.prog (Gl L85):=za h84 sK59
theorem cK48:check Tryz.prog 48=some (26,(wm 61 63 64).strip,[.cell 4 3 true]):=by kernel_rfl
theorem sK48:Sound Tryz.prog 48 (.dat false Ue):=by
  apply xO (hc:=cK48) h85 <;> first | exact (rfl:@Eq Spec _ _) | skip
  all_goals decide
def L86:List (Nat×Spec):=(48,.dat false Ue)::L85
theorem h86:Holds Tryz.prog (Gl L86):=za h85 sK48
theorem cK160:check Tryz.prog 160=some (28,(Zs 48).strip,[.tmp 4]):=by kernel_rfl
theorem sK160:Sound Tryz.prog 160 (.dat false zB):=by
  apply uaA (hc:=cK160) h86 <;> first | exact (rfl:@Eq Spec _ _) | skip
  all_goals decide
def L87:List (Nat×Spec):=(160,.dat false zB)::L86
theorem h87:Holds Tryz.prog (Gl L87):=za h86 sK160
theorem cK121:check Tryz.prog 121=some (16,(Jn 59 160 158).strip,[.tmp 4,.tmp 5]):=by kernel_rfl
theorem sK121:Sound Tryz.prog 121 (.dat false (uq 70)):=by
  apply YZ (hc:=cK121) h87 <;> first | exact (rfl:@Eq Spec _ _) | skip
  all_goals decide
def L88:List (Nat×Spec):=(121,.dat false (uq 70))::L87
theorem h88:Holds Tryz.prog (Gl L88):=za h87 sK121
theorem cK57:check Tryz.prog 57=some (14,(We 121 118).strip,[.tmp 6]):=by kernel_rfl
theorem sK57:Sound Tryz.prog 57 (.red Vo):=by
  apply U4 (hc:=cK57) h88 <;> first | exact (rfl:@Eq Spec _ _) | skip
  all_goals decide
def L89:List (Nat×Spec):=(57,.red Vo)::L88
theorem h89:Holds Tryz.prog (Gl L89):=za h88 sK57
theorem cK157:check Tryz.prog 157=some (18,(Qq 59).strip,[.tmp 2]):=by kernel_rfl
theorem sK157:Sound Tryz.prog 157 (.dat false (xh 70)):=by
  apply jV (hc:=cK157) h89 <;> first | exact (rfl:@Eq Spec _ _) | skip
  all_goals decide
def L90:List (Nat×Spec):=(157,.dat false (xh 70))::L89
theorem h90:Holds Tryz.prog (Gl L90):=za h89 sK157
theorem cK119:check Tryz.prog 119=some (21,(xq 157 159 16 160 158).strip,[.tmp 4,.tmp 5]):=by kernel_rfl
theorem sK119:Sound Tryz.prog 119 (.dat false (kE 70)):=by
  apply uaz (hc:=cK119) h90 <;> first | exact (rfl:@Eq Spec _ _) | skip
  all_goals decide
def L91:List (Nat×Spec):=(119,.dat false (kE 70))::L90
theorem h91:Holds Tryz.prog (Gl L91):=za h90 sK119
theorem cK55:check Tryz.prog 55=some (14,(Vf 119 118).strip,[.tmp 6]):=by kernel_rfl
theorem sK55:Sound Tryz.prog 55 (.red Wy):=by
  apply Zax (hc:=cK55) h91 <;> first | exact (rfl:@Eq Spec _ _) | skip
  all_goals decide
def L92:List (Nat×Spec):=(55,.red Wy)::L91
theorem h92:Holds Tryz.prog (Gl L92):=za h91 sK55
theorem cK199:check Tryz.prog 199=some (27,Wn.strip,[.tmp 4]):=by kernel_rfl
theorem sK199:Sound Tryz.prog 199 (.fresh 5 zy):=by
  apply yaf (hc:=cK199) h92 <;> first | exact (rfl:@Eq Spec _ _) | skip
  all_goals decide
def L93:List (Nat×Spec):=(199,.fresh 5 zy)::L92
theorem h93:Holds Tryz.prog (Gl L93):=za h92 sK199
theorem cK188:check Tryz.prog 188=some (36,(Vl 199).strip,[.tmp 2]):=by kernel_rfl
theorem sK188:Sound Tryz.prog 188 (.fresh 5 zx):=by
  apply Zah (hc:=cK188) h93 <;> first | exact (rfl:@Eq Spec _ _) | skip
  all_goals decide
def L94:List (Nat×Spec):=(188,.fresh 5 zx)::L93
theorem h94:Holds Tryz.prog (Gl L94):=za h93 sK188
theorem cK156:check Tryz.prog 156=some (19,(wr 157 188 158).strip,[.tmp 4,.tmp 5]):=by kernel_rfl
theorem sK156:Sound Tryz.prog 156 (.dat false (ZE 70)):=by
  apply Yax (hc:=cK156) h94 <;> first | exact (rfl:@Eq Spec _ _) | skip
  all_goals decide
def L95:List (Nat×Spec):=(156,.dat false (ZE 70))::L94
theorem h95:Holds Tryz.prog (Gl L95):=za h94 sK156
theorem cK116:check Tryz.prog 116=some (14,(zg 156 118).strip,[.tmp 6]):=by kernel_rfl
theorem sK116:Sound Tryz.prog 116 (.red qz):=by
  apply xaC (hc:=cK116) h95 <;> first | exact (rfl:@Eq Spec _ _) | skip
  all_goals decide
def L96:List (Nat×Spec):=(116,.red qz)::L95
theorem h96:Holds Tryz.prog (Gl L96):=za h95 sK116
theorem cK115:check Tryz.prog 115=some (34,(we 57 55 116).strip,[.cell 8 2 true]):=by kernel_rfl
theorem sK115:Sound Tryz.prog 115 (.red YD):=by
  apply JaB (hc:=cK115) h96 <;> first | exact (rfl:@Eq Spec _ _) | skip
  all_goals decide
def L97:List (Nat×Spec):=(115,.red YD)::L96
theorem h97:Holds Tryz.prog (Gl L97):=za h96 sK115
theorem cK83:check Tryz.prog 83=some (12,(wn 48 82).strip,[.cell 4 3 true]):=by kernel_rfl
theorem sK83:Sound Tryz.prog 83 (.dat false UA):=by
  apply jaB (hc:=cK83) h97 <;> first | exact (rfl:@Eq Spec _ _) | skip
  all_goals decide
def L98:List (Nat×Spec):=(83,.dat false UA)::L97
theorem h98:Holds Tryz.prog (Gl L98):=za h97 sK83
theorem cK60:check Tryz.prog 60=some (21,xk.strip,[.tmp 2]):=by kernel_rfl
theorem sK60:Sound Tryz.prog 60 (.dat true xC):=by
  apply YaA (hc:=cK60) h98 <;> first | exact (rfl:@Eq Spec _ _) | skip
  all_goals decide
def L99:List (Nat×Spec):=(60,.dat true xC)::L98
theorem h99:Holds Tryz.prog (Gl L99):=za h98 sK60
theorem cK120:check Tryz.prog 120=some (71,(Qm 157 60 48 158 70).strip,[.tmp 4,.tmp 5]):=by kernel_rfl
theorem sK120:Sound Tryz.prog 120 (.dat false (zE 70)):=by
  apply jay (hc:=cK120) h99 <;> first | exact (rfl:@Eq Spec _ _) | skip
  all_goals decide
def L100:List (Nat×Spec):=(120,.dat false (zE 70))::L99
theorem h100:Holds Tryz.prog (Gl L100):=za h99 sK120
theorem cK56:check Tryz.prog 56=some (14,(Wf 120 118).strip,[.tmp 6]):=by kernel_rfl
theorem sK56:Sound Tryz.prog 56 (.red Jy):=by
  apply jaA (hc:=cK56) h100 <;> first | exact (rfl:@Eq Spec _ _) | skip
  all_goals decide
def L101:List (Nat×Spec):=(56,.red Jy)::L100
theorem h101:Holds Tryz.prog (Gl L101):=za h100 sK56
theorem cK58:check Tryz.prog 58=some (19,(Xe 56 116).strip,[.tmp 4]):=by kernel_rfl
theorem sK58:Sound Tryz.prog 58 (.red yA):=by
  apply kaC (hc:=cK58) h101 <;> first | exact (rfl:@Eq Spec _ _) | skip
  all_goals decide
def L102:List (Nat×Spec):=(58,.red yA)::L101
theorem h102:Holds Tryz.prog (Gl L102):=za h101 sK58
theorem cK117:check Tryz.prog 117=some (13,(vd 155 118).strip,[.tmp 4]):=by kernel_rfl
theorem sK117:Sound Tryz.prog 117 (.red JE):=by
  apply YaB (hc:=cK117) h102 <;> first | exact (rfl:@Eq Spec _ _) | skip
  all_goals decide
def L103:List (Nat×Spec):=(117,.red JE)::L102
theorem h103:Holds Tryz.prog (Gl L103):=za h102 sK117
theorem cK54:check Tryz.prog 54=some (111,(ye 114 16 79 81 115 83 48 58 117 116 55 56).strip,[.cell 4 7 true]):=by kernel_rfl
theorem sK54:Sound Tryz.prog 54 (.red qD):=by
  apply qax (hc:=cK54) h103 <;> first | exact (rfl:@Eq Spec _ _) | skip
  all_goals decide
def L104:List (Nat×Spec):=(54,.red qD)::L103
theorem h104:Holds Tryz.prog (Gl L104):=za h103 sK54
theorem cK13:check Tryz.prog 13=some (78,(Uk 12 54 56 55 16 48 57 58).strip,[.tmp 2,.tmp 3]):=by kernel_rfl
theorem sK13:Sound Tryz.prog 13 (.dat false (zF 70)):=by
  apply xax (hc:=cK13) h104 <;> first | exact (rfl:@Eq Spec _ _) | skip
  all_goals decide
def L105:List (Nat×Spec):=(13,.dat false (zF 70))::L104
theorem h105:Holds Tryz.prog (Gl L105):=za h104 sK13
theorem cK142:check Tryz.prog 142=some (14,(vq 98 64 70).strip,[.cell 4 3 true,.tmp 5]):=by kernel_rfl
theorem sK142:Sound Tryz.prog 142 (.dat false (Wr 70)):=by
  apply yab (hc:=cK142) h105 <;> first | exact (rfl:@Eq Spec _ _) | skip
  all_goals decide
def L106:List (Nat×Spec):=(142,.dat false (Wr 70))::L105
theorem h106:Holds Tryz.prog (Gl L106):=za h105 sK142
theorem cK84:check Tryz.prog 84=some (29,(Ys 61 63 142).strip,[.cell 4 3 true,.tmp 5]):=by kernel_rfl
theorem sK84:Sound Tryz.prog 84 (.dat false (Xu 70)):=by
  apply Jaf (hc:=cK84) h106 <;> first | exact (rfl:@Eq Spec _ _) | skip
  all_goals decide
def L107:List (Nat×Spec):=(84,.dat false (Xu 70))::L106
theorem h107:Holds Tryz.prog (Gl L107):=za h106 sK84
theorem cK49:check Tryz.prog 49=some (34,(jo 16 48 84 70).strip,[.cell 4 3 true,.tmp 5]):=by kernel_rfl
theorem sK49:Sound Tryz.prog 49 (.dat false (QD 70)):=by
  apply waC (hc:=cK49) h107 <;> first | exact (rfl:@Eq Spec _ _) | skip
  all_goals decide
def L108:List (Nat×Spec):=(49,.dat false (QD 70))::L107
theorem h108:Holds Tryz.prog (Gl L108):=za h107 sK49
theorem cK35:check Tryz.prog 35=some (59,(ko 59 49 48 82).strip,[.cell 6 3 true,.tmp 7]):=by kernel_rfl
theorem sK35:Sound Tryz.prog 35 (.dat false (uw 70)):=by
  apply Qad (hc:=cK35) h108 <;> first | exact (rfl:@Eq Spec _ _) | skip
  all_goals decide
def L109:List (Nat×Spec):=(35,.dat false (uw 70))::L108
theorem h109:Holds Tryz.prog (Gl L109):=za h108 sK35
theorem cK24:check Tryz.prog 24=some (42,(Xq 77 13 35 36).strip,[.tmp 4,.tmp 5]):=by kernel_rfl
theorem sK24:Sound Tryz.prog 24 (.dat false (uA 70)):=by
  apply Yaz (hc:=cK24) h109 <;> first | exact (rfl:@Eq Spec _ _) | skip
  all_goals decide
def L110:List (Nat×Spec):=(24,.dat false (uA 70))::L109
theorem h110:Holds Tryz.prog (Gl L110):=za h109 sK24
theorem cK78:check Tryz.prog 78=some (16,(Wu 79).strip,[.cell 4 6 true]):=by kernel_rfl
theorem sK78:Sound Tryz.prog 78 (.dat false Wv):=by
  apply jai (hc:=cK78) h110 <;> first | exact (rfl:@Eq Spec _ _) | skip
  all_goals decide
def L111:List (Nat×Spec):=(78,.dat false Wv)::L110
theorem h111:Holds Tryz.prog (Gl L111):=za h110 sK78
theorem cK80:check Tryz.prog 80=some (26,(qq 48 79 82).strip,[.cell 6 6 true]):=by kernel_rfl
theorem sK80:Sound Tryz.prog 80 (.dat false kL):=by
  apply zaO (hc:=cK80) h111 <;> first | exact (rfl:@Eq Spec _ _) | skip
  all_goals decide
def L112:List (Nat×Spec):=(80,.dat false kL)::L111
theorem h112:Holds Tryz.prog (Gl L112):=za h111 sK80
theorem cK85:check Tryz.prog 85=some (16,(xo 82).strip,[.cell 4 6 true]):=by kernel_rfl
theorem sK85:Sound Tryz.prog 85 (.dat false ji):=by
  apply jJ (hc:=cK85) h112 <;> first | exact (rfl:@Eq Spec _ _) | skip
  all_goals decide
def L113:List (Nat×Spec):=(85,.dat false ji)::L112
theorem h113:Holds Tryz.prog (Gl L113):=za h112 sK85
theorem cK25:check Tryz.prog 25=some (171,(Qf 24 78 16 79 81 80 48 36 83 82 84 85 70).strip,[.cell 4 6 true,.cell 5 6 true,.tmp 6]):=by kernel_rfl
theorem sK25:Sound Tryz.prog 25 (.dat false (UD 70)):=by
  apply zay (hc:=cK25) h113 <;> first | exact (rfl:@Eq Spec _ _) | skip
  all_goals decide
def L114:List (Nat×Spec):=(25,.dat false (UD 70))::L113
theorem h114:Holds Tryz.prog (Gl L114):=za h113 sK25
theorem cK26:check Tryz.prog 26=some (28,(Zl 77 78 80 85).strip,[.cell 6 6 true,.tmp 7]):=by kernel_rfl
theorem sK26:Sound Tryz.prog 26 (.dat false (zD 70)):=by
  apply zax (hc:=cK26) h114 <;> first | exact (rfl:@Eq Spec _ _) | skip
  all_goals decide
def L115:List (Nat×Spec):=(26,.dat false (zD 70))::L114
theorem h115:Holds Tryz.prog (Gl L115):=za h114 sK26
theorem cK133:check Tryz.prog 133=some (26,Qi.strip,[.tmp 4]):=by kernel_rfl
theorem sK133:Sound Tryz.prog 133 (.dat true Uq):=by
  apply ZW (hc:=cK133) h115 <;> first | exact (rfl:@Eq Spec _ _) | skip
  all_goals decide
def L116:List (Nat×Spec):=(133,.dat true Uq)::L115
theorem h116:Holds Tryz.prog (Gl L116):=za h115 sK133
theorem cK69:check Tryz.prog 69=some (24,(Yl 133).strip,[.tmp 4]):=by kernel_rfl
theorem sK69:Sound Tryz.prog 69 (.dat true VA):=by
  apply Uax (hc:=cK69) h116 <;> first | exact (rfl:@Eq Spec _ _) | skip
  all_goals decide
def L117:List (Nat×Spec):=(69,.dat true VA)::L116
theorem h117:Holds Tryz.prog (Gl L117):=za h116 sK69
theorem cK29:check Tryz.prog 29=some (17,(Ze 69).strip,[.tmp 4]):=by kernel_rfl
theorem sK29:Sound Tryz.prog 29 (.dat true Qv):=by
  apply Qah (hc:=cK29) h117 <;> first | exact (rfl:@Eq Spec _ _) | skip
  all_goals decide
def L118:List (Nat×Spec):=(29,.dat true Qv)::L117
theorem h118:Holds Tryz.prog (Gl L118):=za h117 sK29
theorem cK10:check Tryz.prog 10=some (72,(Ug 50 51 24 25 26 29).strip,[.tmp 0]):=by kernel_rfl
theorem sK10:Sound Tryz.prog 10 (.dat true ux):=by
  apply Uaf (hc:=cK10) h118 <;> first | exact (rfl:@Eq Spec _ _) | skip
  all_goals decide
def L119:List (Nat×Spec):=(10,.dat true ux)::L118
theorem h119:Holds Tryz.prog (Gl L119):=za h118 sK10
theorem cK11:check Tryz.prog 11=some (44,xg.strip,[.tmp 2]):=by kernel_rfl
theorem sK11:Sound Tryz.prog 11 (.dat true UE):=by
  apply Vaz (hc:=cK11) h119 <;> first | exact (rfl:@Eq Spec _ _) | skip
  all_goals decide
def L120:List (Nat×Spec):=(11,.dat true UE)::L119
theorem h120:Holds Tryz.prog (Gl L120):=za h119 sK11
theorem cK39:check Tryz.prog 39=some (40,jh.strip,[.tmp 2]):=by kernel_rfl
theorem sK39:Sound Tryz.prog 39 (.dat true vr):=by
  apply J0 (hc:=cK39) h120 <;> first | exact (rfl:@Eq Spec _ _) | skip
  all_goals decide
def L121:List (Nat×Spec):=(39,.dat true vr)::L120
theorem h121:Holds Tryz.prog (Gl L121):=za h120 sK39
theorem cK146:check Tryz.prog 146=some (18,(ui 53 36 70).strip,[.tmp 2]):=by kernel_rfl
theorem sK146:Sound Tryz.prog 146 (.dat false (Xk 70)):=by
  apply YW (hc:=cK146) h121 <;> first | exact (rfl:@Eq Spec _ _) | skip
  all_goals decide
def L122:List (Nat×Spec):=(146,.dat false (Xk 70))::L121
theorem h122:Holds Tryz.prog (Gl L122):=za h121 sK146
theorem cK108:check Tryz.prog 108=some (11,(qe 53).strip,[.tmp 2]):=by kernel_rfl
theorem sK108:Sound Tryz.prog 108 (.dat true Wd):=by
  apply vy (hc:=cK108) h122 <;> first | exact (rfl:@Eq Spec _ _) | skip
  all_goals decide
def L123:List (Nat×Spec):=(108,.dat true Wd)::L122
theorem h123:Holds Tryz.prog (Gl L123):=za h122 sK108
theorem cK99:check Tryz.prog 99=some (12,(Zr 146 108).strip,[.tmp 2]):=by kernel_rfl
theorem sK99:Sound Tryz.prog 99 (.dat true vu):=by
  apply zaB (hc:=cK99) h123 <;> first | exact (rfl:@Eq Spec _ _) | skip
  all_goals decide
def L124:List (Nat×Spec):=(99,.dat true vu)::L123
theorem h124:Holds Tryz.prog (Gl L124):=za h123 sK99
theorem cK147:check Tryz.prog 147=some (13,(Xl 48).strip,[.cell 3 6 true]):=by kernel_rfl
theorem sK147:Sound Tryz.prog 147 (.dat false kV):=by
  apply kaP (hc:=cK147) h124 <;> first | exact (rfl:@Eq Spec _ _) | skip
  all_goals decide
def L125:List (Nat×Spec):=(147,.dat false kV)::L124
theorem h125:Holds Tryz.prog (Gl L125):=za h124 sK147
theorem cK100:check Tryz.prog 100=some (40,(yn 16 48 147).strip,[.cell 6 27 true]):=by kernel_rfl
theorem sK100:Sound Tryz.prog 100 (.dat false JA):=by
  apply waA (hc:=cK100) h125 <;> first | exact (rfl:@Eq Spec _ _) | skip
  all_goals decide
def L126:List (Nat×Spec):=(100,.dat false JA)::L125
theorem h126:Holds Tryz.prog (Gl L126):=za h125 sK100
theorem cK203:check Tryz.prog 203=some (17,(Yt 84).strip,[.cell 4 3 true]):=by kernel_rfl
theorem sK203:Sound Tryz.prog 203 (.dat false yp):=by
  apply Wah (hc:=cK203) h126 <;> first | exact (rfl:@Eq Spec _ _) | skip
  all_goals decide
def L127:List (Nat×Spec):=(203,.dat false yp)::L126
theorem h127:Holds Tryz.prog (Gl L127):=za h126 sK203
theorem cK197:check Tryz.prog 197=some (32,(qf 16 48 82 79 203).strip,[.cell 2 3 true,.cell 3 3 true]):=by kernel_rfl
theorem sK197:Sound Tryz.prog 197 (.dat false Jw):=by
  apply uN (hc:=cK197) h127 <;> first | exact (rfl:@Eq Spec _ _) | skip
  all_goals decide
def L128:List (Nat×Spec):=(197,.dat false Jw)::L127
theorem h128:Holds Tryz.prog (Gl L128):=za h127 sK197
theorem cK180:check Tryz.prog 180=some (19,(Qo 146 197).strip,[.cell 2 3 true,.tmp 3]):=by kernel_rfl
theorem sK180:Sound Tryz.prog 180 (.dat false (ZC 70)):=by
  apply vaA (hc:=cK180) h128 <;> first | exact (rfl:@Eq Spec _ _) | skip
  all_goals decide
def L129:List (Nat×Spec):=(180,.dat false (ZC 70))::L128
theorem h129:Holds Tryz.prog (Gl L129):=za h128 sK180
theorem cK181:check Tryz.prog 181=some (19,(Yn 146 197).strip,[.cell 2 3 true,.tmp 3]):=by kernel_rfl
theorem sK181:Sound Tryz.prog 181 (.dat false (vD 70)):=by
  apply WaA (hc:=cK181) h129 <;> first | exact (rfl:@Eq Spec _ _) | skip
  all_goals decide
def L130:List (Nat×Spec):=(181,.dat false (vD 70))::L129
theorem h130:Holds Tryz.prog (Gl L130):=za h129 sK181
theorem cK153:check Tryz.prog 153=some (29,(kj 146 180 181 70).strip,[.cell 2 3 true,.cell 3 3 true,.tmp 4]):=by kernel_rfl
theorem sK153:Sound Tryz.prog 153 (.dat false (jC 70)):=by
  apply QaA (hc:=cK153) h130 <;> first | exact (rfl:@Eq Spec _ _) | skip
  all_goals decide
def L131:List (Nat×Spec):=(153,.dat false (jC 70))::L130
theorem h131:Holds Tryz.prog (Gl L131):=za h130 sK153
theorem cK109:check Tryz.prog 109=some (38,(Wo 153 48 79 82).strip,[.cell 4 6 true,.tmp 5]):=by kernel_rfl
theorem sK109:Sound Tryz.prog 109 (.dat false (yC 70)):=by
  apply Qaz (hc:=cK109) h131 <;> first | exact (rfl:@Eq Spec _ _) | skip
  all_goals decide
def L132:List (Nat×Spec):=(109,.dat false (yC 70))::L131
theorem h132:Holds Tryz.prog (Gl L132):=za h131 sK109
theorem cK110:check Tryz.prog 110=some (16,(qB 82).strip,[.cell 4 6 true]):=by kernel_rfl
theorem sK110:Sound Tryz.prog 110 (.dat false ji):=by
  apply kac (hc:=cK110) h132 <;> first | exact (rfl:@Eq Spec _ _) | skip
  all_goals decide
def L133:List (Nat×Spec):=(110,.dat false ji)::L132
theorem h133:Holds Tryz.prog (Gl L133):=za h132 sK110
theorem cK47:check Tryz.prog 47=some (33,(jm 99 108 109 110 70).strip,[.cell 4 6 true,.tmp 5]):=by kernel_rfl
theorem sK47:Sound Tryz.prog 47 (.dat false (QE 70)):=by
  apply Qay (hc:=cK47) h133 <;> first | exact (rfl:@Eq Spec _ _) | skip
  all_goals decide
def L134:List (Nat×Spec):=(47,.dat false (QE 70))::L133
theorem h134:Holds Tryz.prog (Gl L134):=za h133 sK47
theorem cK40:check Tryz.prog 40=some (51,(yh 12 99 16 100 47 70).strip,[.cell 4 27 true,.tmp 5]):=by kernel_rfl
theorem sK40:Sound Tryz.prog 40 (.dat false (vE 70)):=by
  apply vaC (hc:=cK40) h134 <;> first | exact (rfl:@Eq Spec _ _) | skip
  all_goals decide
def L135:List (Nat×Spec):=(40,.dat false (vE 70))::L134
theorem h135:Holds Tryz.prog (Gl L135):=za h134 sK40
theorem cK41:check Tryz.prog 41=some (29,(ze 12 53 36 48 100 70).strip,[.cell 4 27 true,.tmp 5]):=by kernel_rfl
theorem sK41:Sound Tryz.prog 41 (.dat false (WE 70)):=by
  apply wax (hc:=cK41) h135 <;> first | exact (rfl:@Eq Spec _ _) | skip
  all_goals decide
def L136:List (Nat×Spec):=(41,.dat false (WE 70))::L135
theorem h136:Holds Tryz.prog (Gl L136):=za h135 sK41
theorem cK102:check Tryz.prog 102=some (15,Vg.strip,[.tmp 2]):=by kernel_rfl
theorem sK102:Sound Tryz.prog 102 (.dat true Qr):=by
  apply YL (hc:=cK102) h136 <;> first | exact (rfl:@Eq Spec _ _) | skip
  all_goals decide
def L137:List (Nat×Spec):=(102,.dat true Qr)::L136
theorem h137:Holds Tryz.prog (Gl L137):=za h136 sK102
theorem cK145:check Tryz.prog 145=some (38,(Uj 151 166 171 149 172 173).strip,[.cell 4 2 true]):=by kernel_rfl
theorem sK145:Sound Tryz.prog 145 (.dat false Ww):=by
  apply vW (hc:=cK145) h137 <;> first | exact (rfl:@Eq Spec _ _) | skip
  all_goals decide
def L138:List (Nat×Spec):=(145,.dat false Ww)::L137
theorem h138:Holds Tryz.prog (Gl L138):=za h137 sK145
theorem cK148:check Tryz.prog 148=some (9,(zk 139 145).strip,[.cell 4 2 true]):=by kernel_rfl
theorem sK148:Sound Tryz.prog 148 (.dat false VC):=by
  apply J3 (hc:=cK148) h138 <;> first | exact (rfl:@Eq Spec _ _) | skip
  all_goals decide
def L139:List (Nat×Spec):=(148,.dat false VC)::L138
theorem h139:Holds Tryz.prog (Gl L139):=za h138 sK148
theorem cK103:check Tryz.prog 103=some (9,(uj 148 132).strip,[.tmp 4]):=by kernel_rfl
theorem sK103:Sound Tryz.prog 103 (.dat true jr):=by
  apply yY (hc:=cK103) h139 <;> first | exact (rfl:@Eq Spec _ _) | skip
  all_goals decide
def L140:List (Nat×Spec):=(103,.dat true jr)::L139
theorem h140:Holds Tryz.prog (Gl L140):=za h139 sK103
theorem cK43:check Tryz.prog 43=some (36,(Wg 102 104 105 103).strip,[.tmp 2]):=by kernel_rfl
theorem sK43:Sound Tryz.prog 43 (.dat true xc):=by
  apply uL (hc:=cK43) h140 <;> first | exact (rfl:@Eq Spec _ _) | skip
  all_goals decide
def L141:List (Nat×Spec):=(43,.dat true xc)::L140
theorem h141:Holds Tryz.prog (Gl L141):=za h140 sK43
theorem cK28:check Tryz.prog 28=some (11,(qe 43).strip,[.tmp 2]):=by kernel_rfl
theorem sK28:Sound Tryz.prog 28 (.dat true Wd):=by
  apply vy (hc:=cK28) h141 <;> first | exact (rfl:@Eq Spec _ _) | skip
  all_goals decide
def L142:List (Nat×Spec):=(28,.dat true Wd)::L141
theorem h142:Holds Tryz.prog (Gl L142):=za h141 sK28
theorem cK131:check Tryz.prog 131=some (23,(Yg 43 105).strip,[.cell 2 2 true,.cell 3 2 true]):=by kernel_rfl
theorem sK131:Sound Tryz.prog 131 (.dat false xd):=by
  apply yL (hc:=cK131) h142 <;> first | exact (rfl:@Eq Spec _ _) | skip
  all_goals decide
def L143:List (Nat×Spec):=(131,.dat false xd)::L142
theorem h143:Holds Tryz.prog (Gl L143):=za h142 sK131
theorem cK67:check Tryz.prog 67=some (12,(Jl 131 132).strip,[.tmp 2]):=by kernel_rfl
theorem sK67:Sound Tryz.prog 67 (.dat true ue):=by
  apply jH (hc:=cK67) h143 <;> first | exact (rfl:@Eq Spec _ _) | skip
  all_goals decide
def L144:List (Nat×Spec):=(67,.dat true ue)::L143
theorem h144:Holds Tryz.prog (Gl L144):=za h143 sK67
theorem cK75:check Tryz.prog 75=some (14,(Vm 131 139 137).strip,[.cell 2 3 true]):=by kernel_rfl
theorem sK75:Sound Tryz.prog 75 (.dat false zu):=by
  apply UO (hc:=cK75) h144 <;> first | exact (rfl:@Eq Spec _ _) | skip
  all_goals decide
def L145:List (Nat×Spec):=(75,.dat false zu)::L144
theorem h145:Holds Tryz.prog (Gl L145):=za h144 sK75
theorem cK170:check Tryz.prog 170=some (68,(Xg 174).strip,[.tmp 4]):=by kernel_rfl
theorem sK170:Sound Tryz.prog 170 (.dat false Up):=by
  apply yT (hc:=cK170) h145 <;> first | exact (rfl:@Eq Spec _ _) | skip
  all_goals decide
def L146:List (Nat×Spec):=(170,.dat false Up)::L145
theorem h146:Holds Tryz.prog (Gl L146):=za h145 sK170
theorem cK140:check Tryz.prog 140=some (16,(zp 166 151 170 149).strip,[.cell 4 2 true]):=by kernel_rfl
theorem sK140:Sound Tryz.prog 140 (.dat false js):=by
  apply uQ (hc:=cK140) h146 <;> first | exact (rfl:@Eq Spec _ _) | skip
  all_goals decide
def L147:List (Nat×Spec):=(140,.dat false js)::L146
theorem h147:Holds Tryz.prog (Gl L147):=za h146 sK140
theorem cK89:check Tryz.prog 89=some (30,(Wm 131 140 145 137).strip,[.cell 4 3 true]):=by kernel_rfl
theorem sK89:Sound Tryz.prog 89 (.dat false Wj):=by
  apply WR (hc:=cK89) h147 <;> first | exact (rfl:@Eq Spec _ _) | skip
  all_goals decide
def L148:List (Nat×Spec):=(89,.dat false Wj)::L147
theorem h148:Holds Tryz.prog (Gl L148):=za h147 sK89
theorem cK95:check Tryz.prog 95=some (9,(Qn 75 89).strip,[.cell 4 3 true]):=by kernel_rfl
theorem sK95:Sound Tryz.prog 95 (.dat false Xm):=by
  apply zR (hc:=cK95) h148 <;> first | exact (rfl:@Eq Spec _ _) | skip
  all_goals decide
def L149:List (Nat×Spec):=(95,.dat false Xm)::L148
theorem h149:Holds Tryz.prog (Gl L149):=za h148 sK95
theorem cK97:check Tryz.prog 97=some (9,(Zk 95 67).strip,[.tmp 4]):=by kernel_rfl
theorem sK97:Sound Tryz.prog 97 (.dat true Qj):=by
  apply Xab (hc:=cK97) h149 <;> first | exact (rfl:@Eq Spec _ _) | skip
  all_goals decide
def L150:List (Nat×Spec):=(97,.dat true Qj)::L149
theorem h150:Holds Tryz.prog (Gl L150):=za h149 sK97
theorem cK68:check Tryz.prog 68=some (19,(Ql 97).strip,[.tmp 4]):=by kernel_rfl
theorem sK68:Sound Tryz.prog 68 (.dat true qy):=by
  apply vac (hc:=cK68) h150 <;> first | exact (rfl:@Eq Spec _ _) | skip
  all_goals decide
def L151:List (Nat×Spec):=(68,.dat true qy)::L150
theorem h151:Holds Tryz.prog (Gl L151):=za h150 sK68
theorem cK18:check Tryz.prog 18=some (56,(Jh 43 28 67 68).strip,[.tmp 2]):=by kernel_rfl
theorem sK18:Sound Tryz.prog 18 (.dat true VE):=by
  apply Xaz (hc:=cK18) h151 <;> first | exact (rfl:@Eq Spec _ _) | skip
  all_goals decide
def L152:List (Nat×Spec):=(18,.dat true VE)::L151
theorem h152:Holds Tryz.prog (Gl L152):=za h151 sK18
theorem cK31:check Tryz.prog 31=some (6,(ki 67).strip,[.tmp 2]):=by kernel_rfl
theorem sK31:Sound Tryz.prog 31 (.dat true Vu):=by
  apply Zag (hc:=cK31) h152 <;> first | exact (rfl:@Eq Spec _ _) | skip
  all_goals decide
def L153:List (Nat×Spec):=(31,.dat true Vu)::L152
theorem h153:Holds Tryz.prog (Gl L153):=za h152 sK31
theorem cK101:check Tryz.prog 101=some (16,(Qc 43 31).strip,[.tmp 2]):=by kernel_rfl
theorem sK101:Sound Tryz.prog 101 (.dat true Xr):=by
  apply VY (hc:=cK101) h153 <;> first | exact (rfl:@Eq Spec _ _) | skip
  all_goals decide
def L154:List (Nat×Spec):=(101,.dat true Xr)::L153
theorem h154:Holds Tryz.prog (Gl L154):=za h153 sK101
theorem cK42:check Tryz.prog 42=some (11,(Yd 101 28).strip,[.tmp 2]):=by kernel_rfl
theorem sK42:Sound Tryz.prog 42 (.dat true vu):=by
  apply Xag (hc:=cK42) h154 <;> first | exact (rfl:@Eq Spec _ _) | skip
  all_goals decide
def L155:List (Nat×Spec):=(42,.dat true vu)::L154
theorem h155:Holds Tryz.prog (Gl L155):=za h154 sK42
theorem cK76:check Tryz.prog 76=some (26,(wm 131 140 137).strip,[.cell 4 3 true]):=by kernel_rfl
theorem sK76:Sound Tryz.prog 76 (.dat false Ue):=by
  apply xO (hc:=cK76) h155 <;> first | exact (rfl:@Eq Spec _ _) | skip
  all_goals decide
def L156:List (Nat×Spec):=(76,.dat false Ue)::L155
theorem h156:Holds Tryz.prog (Gl L156):=za h155 sK76
theorem cK88:check Tryz.prog 88=some (29,(qk 131 140 144).strip,[.cell 4 3 true,.tmp 5]):=by kernel_rfl
theorem sK88:Sound Tryz.prog 88 (.dat false Yx):=by
  apply qac (hc:=cK88) h156 <;> first | exact (rfl:@Eq Spec _ _) | skip
  all_goals decide
def L157:List (Nat×Spec):=(88,.dat false Yx)::L156
theorem h157:Holds Tryz.prog (Gl L157):=za h156 sK88
theorem cK196:check Tryz.prog 196=some (14,(Vi 88).strip,[.cell 4 3 true]):=by kernel_rfl
theorem sK196:Sound Tryz.prog 196 (.dat false yp):=by
  apply qY (hc:=cK196) h157 <;> first | exact (rfl:@Eq Spec _ _) | skip
  all_goals decide
def L158:List (Nat×Spec):=(196,.dat false yp)::L157
theorem h158:Holds Tryz.prog (Gl L158):=za h157 sK196
theorem cK179:check Tryz.prog 179=some (32,(qf 73 76 89 95 196).strip,[.cell 2 3 true,.cell 3 3 true]):=by kernel_rfl
theorem sK179:Sound Tryz.prog 179 (.dat false Jw):=by
  apply uN (hc:=cK179) h158 <;> first | exact (rfl:@Eq Spec _ _) | skip
  all_goals decide
def L159:List (Nat×Spec):=(179,.dat false Jw)::L158
theorem h159:Holds Tryz.prog (Gl L159):=za h158 sK179
theorem cK152:check Tryz.prog 152=some (31,(Yf 179 76 95 89).strip,[.cell 4 6 true]):=by kernel_rfl
theorem sK152:Sound Tryz.prog 152 (.dat false XC):=by
  apply kaz (hc:=cK152) h159 <;> first | exact (rfl:@Eq Spec _ _) | skip
  all_goals decide
def L160:List (Nat×Spec):=(152,.dat false XC)::L159
theorem h160:Holds Tryz.prog (Gl L160):=za h159 sK152
theorem cK93:check Tryz.prog 93=some (16,(xo 89).strip,[.cell 4 6 true]):=by kernel_rfl
theorem sK93:Sound Tryz.prog 93 (.dat false ji):=by
  apply jJ (hc:=cK93) h160 <;> first | exact (rfl:@Eq Spec _ _) | skip
  all_goals decide
def L161:List (Nat×Spec):=(93,.dat false ji)::L160
theorem h161:Holds Tryz.prog (Gl L161):=za h160 sK93
theorem cK106:check Tryz.prog 106=some (12,(kg 152 93).strip,[.cell 4 6 true]):=by kernel_rfl
theorem sK106:Sound Tryz.prog 106 (.dat false WD):=by
  apply qaz (hc:=cK106) h161 <;> first | exact (rfl:@Eq Spec _ _) | skip
  all_goals decide
def L162:List (Nat×Spec):=(106,.dat false WD)::L161
theorem h162:Holds Tryz.prog (Gl L162):=za h161 sK106
theorem cK44:check Tryz.prog 44=some (16,(Xh 106).strip,[.cell 4 27 true]):=by kernel_rfl
theorem sK44:Sound Tryz.prog 44 (.dat false qF):=by
  apply Jay (hc:=cK44) h162 <;> first | exact (rfl:@Eq Spec _ _) | skip
  all_goals decide
def L163:List (Nat×Spec):=(44,.dat false qF)::L162
theorem h163:Holds Tryz.prog (Gl L163):=za h162 sK44
theorem cK91:check Tryz.prog 91=some (28,(ug 76 95 89).strip,[.cell 4 6 true]):=by kernel_rfl
theorem sK91:Sound Tryz.prog 91 (.dat false qr):=by
  apply J5 (hc:=cK91) h163 <;> first | exact (rfl:@Eq Spec _ _) | skip
  all_goals decide
def L164:List (Nat×Spec):=(91,.dat false qr)::L163
theorem h164:Holds Tryz.prog (Gl L164):=za h163 sK91
theorem cK45:check Tryz.prog 45=some (37,(Jg 76 91).strip,[.cell 4 27 true]):=by kernel_rfl
theorem sK45:Sound Tryz.prog 45 (.dat false XD):=by
  apply Xax (hc:=cK45) h164 <;> first | exact (rfl:@Eq Spec _ _) | skip
  all_goals decide
def L165:List (Nat×Spec):=(45,.dat false XD)::L164
theorem h165:Holds Tryz.prog (Gl L165):=za h164 sK45
theorem cK19:check Tryz.prog 19=some (15,(kf 70).strip,[.tmp 2]):=by kernel_rfl
theorem sK19:Sound Tryz.prog 19 (.dat true (UC 70)):=by
  apply waz (hc:=cK19) h165 <;> first | exact (rfl:@Eq Spec _ _) | skip
  all_goals decide
def L166:List (Nat×Spec):=(19,.dat true (UC 70))::L165
theorem h166:Holds Tryz.prog (Gl L166):=za h165 sK19
theorem cK107:check Tryz.prog 107=some (27,(Yj 69).strip,[.tmp 4]):=by kernel_rfl
theorem sK107:Sound Tryz.prog 107 (.dat true Zx):=by
  apply zad (hc:=cK107) h166 <;> first | exact (rfl:@Eq Spec _ _) | skip
  all_goals decide
def L167:List (Nat×Spec):=(107,.dat true Zx)::L166
theorem h167:Holds Tryz.prog (Gl L167):=za h166 sK107
theorem cK46:check Tryz.prog 46=some (42,(uc 29 107).strip,[.tmp 4]):=by kernel_rfl
theorem sK46:Sound Tryz.prog 46 (.dat true Yr):=by
  apply WX (hc:=cK46) h167 <;> first | exact (rfl:@Eq Spec _ _) | skip
  all_goals decide
def L168:List (Nat×Spec):=(46,.dat true Yr)::L167
theorem h168:Holds Tryz.prog (Gl L168):=za h167 sK46
theorem cK8:check Tryz.prog 8=some (108,(ua 10 11 39 40 41 18 42 43 31 44 45 19 46).strip,[.tmp 6]):=by kernel_rfl
theorem sK8:Sound Tryz.prog 8 (.dat true Xf):=by
  apply vL (hc:=cK8) h168 <;> first | exact (rfl:@Eq Spec _ _) | skip
  all_goals decide
def L169:List (Nat×Spec):=(8,.dat true Xf)::L168
theorem h169:Holds Tryz.prog (Gl L169):=za h168 sK8
theorem hold:Holds Tryz.prog (Gl L169):=h169
end Go.Abs
