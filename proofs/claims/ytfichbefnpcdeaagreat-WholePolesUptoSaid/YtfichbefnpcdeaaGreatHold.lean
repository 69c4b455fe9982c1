/-
  The contracts of this seat's functions, gathered.
-/
import Derived.Test.YtfichbefnpcdeaaGreatChecked
import Derived.Test.YtfichbefnpcdeaaGreatBits
import Derived.KernelRfl
import Derived.Test.YtfichbefnpcdeaaGreatM19
set_option maxRecDepth 100000
set_option linter.unusedVariables false
namespace Go.Abs
open Go.Proofs
noncomputable abbrev qPp:=Tryz.prog
abbrev qLS:=List (Nat×Spec)
abbrev qHL(l:qLS):=Holds qPp (Gl l)
theorem qrS{a:Spec}:a=a:=rfl
theorem cK187:check qPp 187=some (19,qg.strip,[.tmp 2]):=by kernel_rfl
theorem sK187:Sound qPp 187 (.dat true Wi):=by
  apply xx (hc:=cK187) zQ<;>first|exact qrS|skip
  all_goals decide
def L1:qLS:=(187,.dat true Wi)::[]
theorem h1:qHL L1:=za zQ sK187
theorem cK177:check qPp 177=some (8,(yi 187).strip,[.tmp 2]):=by kernel_rfl
theorem sK177:Sound qPp 177 (.dat false xi):=by
  apply QF (hc:=cK177) h1<;>first|exact qrS|skip
  all_goals decide
def L2:qLS:=(177,.dat false xi)::L1
theorem h2:qHL L2:=za h1 sK177
theorem cK220:check qPp 220=some (41,qh.strip,[.tmp 4]):=by kernel_rfl
theorem sK220:Sound qPp 220 (.dat false qj):=by
  apply jK (hc:=cK220) h2<;>first|exact qrS|skip
  all_goals decide
def L3:qLS:=(220,.dat false qj)::L2
theorem h3:qHL L3:=za h2 sK220
theorem cK234:check qPp 234=some (25,vl.strip,[.tmp 2]):=by kernel_rfl
theorem sK234:Sound qPp 234 (.dat false Up):=by
  apply yak (hc:=cK234) h3<;>first|exact qrS|skip
  all_goals decide
def L4:qLS:=(234,.dat false Up)::L3
theorem h4:qHL L4:=za h3 sK234
theorem cK281:check qPp 281=some (43,(Zj 234).strip,[.tmp 4,.tmp 5]):=by kernel_rfl
theorem sK281:Sound qPp 281 (.dat false Zx):=by
  apply yX (hc:=cK281) h4<;>first|exact qrS|skip
  all_goals decide
def L5:qLS:=(281,.dat false Zx)::L4
theorem h5:qHL L5:=za h4 sK281
theorem sK282:Sound qPp 282 (.dat true lz_G):=Waq (Vd Tryz.func282 (by kernel_rfl) (by kernel_rfl)) yaT ua1 Tryz.bits_LeadingZeros32
def L6:qLS:=(282,.dat true lz_G)::L5
theorem h6:qHL L6:=za h5 sK282
theorem cK283:check qPp 283=some (41,qp.strip,[.tmp 4]):=by kernel_rfl
theorem sK283:Sound qPp 283 (.fresh 1 up_G):=by
  apply qaF (hc:=cK283) h6<;>first|exact qrS|skip
  all_goals decide
def L7:qLS:=(283,.fresh 1 up_G)::L6
theorem h7:qHL L7:=za h6 sK283
theorem cK277:check qPp 277=some (14,xg.strip,[.tmp 4]):=by kernel_rfl
theorem sK277:Sound qPp 277 (.dat true zj):=by
  apply XF (hc:=cK277) h7<;>first|exact qrS|skip
  all_goals decide
def L8:qLS:=(277,.dat true zj)::L7
theorem h8:qHL L8:=za h7 sK277
theorem cK284:check qPp 284=some (46,(wh 277).strip,[.tmp 6]):=by kernel_rfl
theorem sK284:Sound qPp 284 (.own qk):=by
  apply jO (hc:=cK284) h8<;>first|exact qrS|skip
  all_goals decide
def L9:qLS:=(284,.own qk)::L8
theorem h9:qHL L9:=za h8 sK284
theorem cK285:check qPp 285=some (30,(Xk 277).strip,[]):=by kernel_rfl
theorem sK285:Sound qPp 285 (.own ku):=by
  apply Qah (hc:=cK285) h9<;>first|exact qrS|skip
  all_goals decide
def L10:qLS:=(285,.own ku)::L9
theorem h10:qHL L10:=za h9 sK285
theorem cK286:check qPp 286=some (35,(Yl 277 234).strip,[.tmp 4]):=by kernel_rfl
theorem sK286:Sound qPp 286 (.dat false jG):=by
  apply Xaj (hc:=cK286) h10<;>first|exact qrS|skip
  all_goals decide
def L11:qLS:=(286,.dat false jG)::L10
theorem h11:qHL L11:=za h10 sK286
theorem cK233:check qPp 233=some (158,(Zf 220 234 281 282 283 284 285 286).strip,[.tmp 4,.tmp 5]):=by kernel_rfl
theorem sK233:Sound qPp 233 (.dat false Uo):=by
  apply QQ (hc:=cK233) h11<;>first|exact qrS|skip
  all_goals decide
def L12:qLS:=(233,.dat false Uo)::L11
theorem h12:qHL L12:=za h11 sK233
theorem cK162:check qPp 162=some (15,(yj 234).strip,[.cell 4 2 true]):=by kernel_rfl
theorem sK162:Sound qPp 162 (.dat false kf):=by
  apply QW (hc:=cK162) h12<;>first|exact qrS|skip
  all_goals decide
def L13:qLS:=(162,.dat false kf)::L12
theorem h13:qHL L13:=za h12 sK162
theorem cK160:check qPp 160=some (26,(Qn 177 233 162).strip,[.cell 4 2 true]):=by kernel_rfl
theorem sK160:Sound qPp 160 (.dat false Yq):=by
  apply zak (hc:=cK160) h13<;>first|exact qrS|skip
  all_goals decide
def L14:qLS:=(160,.dat false Yq)::L13
theorem h14:qHL L14:=za h13 sK160
theorem cK84:check qPp 84=some (19,(Zk 162).strip,[.cell 2 2 true]):=by kernel_rfl
theorem sK84:Sound qPp 84 (.dat false YL):=by
  apply kT (hc:=cK84) h14<;>first|exact qrS|skip
  all_goals decide
def L15:qLS:=(84,.dat false YL)::L14
theorem h15:qHL L15:=za h14 sK84
theorem cK85:check qPp 85=some (2,(Zh 84).strip,[.cell 0 2 true]):=by kernel_rfl
theorem sK85:Sound qPp 85 (.dat false ko):=by
  apply zH (hc:=cK85) h15<;>first|exact qrS|skip
  all_goals decide
def L16:qLS:=(85,.dat false ko)::L15
theorem h16:qHL L16:=za h15 sK85
theorem cK141:check qPp 141=some (11,(Uk 177).strip,[.tmp 2]):=by kernel_rfl
theorem sK141:Sound qPp 141 (.dat true Xh):=by
  apply VV (hc:=cK141) h16<;>first|exact qrS|skip
  all_goals decide
def L17:qLS:=(141,.dat true Xh)::L16
theorem h17:qHL L17:=za h16 sK141
theorem cK176:check qPp 176=some (9,(Vi 187).strip,[.tmp 2]):=by kernel_rfl
theorem sK176:Sound qPp 176 (.dat true zh):=by
  apply VC (hc:=cK176) h17<;>first|exact qrS|skip
  all_goals decide
def L18:qLS:=(176,.dat true zh)::L17
theorem h18:qHL L18:=za h17 sK176
theorem cK142:check qPp 142=some (28,(zn 141 177 220 176).strip,[.tmp 4]):=by kernel_rfl
theorem sK142:Sound qPp 142 (.dat true Xz):=by
  apply qal (hc:=cK142) h18<;>first|exact qrS|skip
  all_goals decide
def L19:qLS:=(142,.dat true Xz)::L18
theorem h19:qHL L19:=za h18 sK142
theorem cK108:check qPp 108=some (50,(Wh 187 160 85 142).strip,[.tmp 2]):=by kernel_rfl
theorem sK108:Sound qPp 108 (.dat true Xc):=by
  apply xM (hc:=cK108) h19<;>first|exact qrS|skip
  all_goals decide
def L20:qLS:=(108,.dat true Xc)::L19
theorem h20:qHL L20:=za h19 sK108
theorem cK98:check qPp 98=some (28,(qi 108 85).strip,[.cell 2 2 true,.cell 3 2 true]):=by kernel_rfl
theorem sK98:Sound qPp 98 (.dat false qe):=by
  apply yO (hc:=cK98) h20<;>first|exact qrS|skip
  all_goals decide
def L21:qLS:=(98,.dat false qe)::L20
theorem h21:qHL L21:=za h20 sK98
theorem cK218:check qPp 218=some (67,(wj 234).strip,[.tmp 4]):=by kernel_rfl
theorem sK218:Sound qPp 218 (.dat false Uw):=by
  apply UV (hc:=cK218) h21<;>first|exact qrS|skip
  all_goals decide
def L22:qLS:=(218,.dat false Uw)::L21
theorem h22:qHL L22:=za h21 sK218
theorem cK138:check qPp 138=some (16,(Jn 176 177 218 162).strip,[.cell 4 2 true]):=by kernel_rfl
theorem sK138:Sound qPp 138 (.dat false Vv):=by
  apply Qaj (hc:=cK138) h22<;>first|exact qrS|skip
  all_goals decide
def L23:qLS:=(138,.dat false Vv)::L22
theorem h23:qHL L23:=za h22 sK138
theorem cK221:check qPp 221=some (39,(Jl 277 234).strip,[.tmp 4]):=by kernel_rfl
theorem sK221:Sound qPp 221 (.dat false Xp):=by
  apply Jai (hc:=cK221) h23<;>first|exact qrS|skip
  all_goals decide
def L24:qLS:=(221,.dat false Xp)::L23
theorem h24:qHL L24:=za h23 sK221
theorem cK222:check qPp 222=some (38,(Ql 277 234).strip,[.tmp 4]):=by kernel_rfl
theorem sK222:Sound qPp 222 (.dat false Wq):=by
  apply Uah (hc:=cK222) h24<;>first|exact qrS|skip
  all_goals decide
def L25:qLS:=(222,.dat false Wq)::L24
theorem h25:qHL L25:=za h24 sK222
theorem cK144:check qPp 144=some (40,(vm 177 176 221 162 220 222).strip,[.cell 4 2 true]):=by kernel_rfl
theorem sK144:Sound qPp 144 (.dat false Xs):=by
  apply yah (hc:=cK144) h25<;>first|exact qrS|skip
  all_goals decide
def L26:qLS:=(144,.dat false Xs)::L25
theorem h26:qHL L26:=za h25 sK144
theorem cK99:check qPp 99=some (9,(Ji 176 177 162).strip,[.cell 2 2 true]):=by kernel_rfl
theorem sK99:Sound qPp 99 (.dat false Vs):=by
  apply yH (hc:=cK99) h26<;>first|exact qrS|skip
  all_goals decide
def L27:qLS:=(99,.dat false Vs)::L26
theorem h27:qHL L27:=za h26 sK99
theorem cK161:check qPp 161=some (47,(wm 177 233 176 221 222 162 75).strip,[.cell 4 2 true,.cell 5 2 true,.tmp 6]):=by kernel_rfl
theorem sK161:Sound qPp 161 (.dat false wG):=by
  apply jah (hc:=cK161) h27<;>first|exact qrS|skip
  all_goals decide
def L28:qLS:=(161,.dat false wG)::L27
theorem h28:qHL L28:=za h27 sK161
theorem cK83:check qPp 83=some (47,(Wj 141 99 160 161).strip,[.cell 4 3 true]):=by kernel_rfl
theorem sK83:Sound qPp 83 (.dat false Zn):=by
  apply JU (hc:=cK83) h28<;>first|exact qrS|skip
  all_goals decide
def L29:qLS:=(83,.dat false Zn)::L28
theorem h29:qHL L29:=za h28 sK83
theorem cK67:check qPp 67=some (30,(xk 98 138 144 83).strip,[.cell 4 3 true]):=by kernel_rfl
theorem sK67:Sound qPp 67 (.dat false Wl):=by
  apply Yaj (hc:=cK67) h29<;>first|exact qrS|skip
  all_goals decide
def L30:qLS:=(67,.dat false Wl)::L29
theorem h30:qHL L30:=za h29 sK67
theorem cK44:check qPp 44=some (14,(ul 98 99 83).strip,[.cell 2 3 true]):=by kernel_rfl
theorem sK44:Sound qPp 44 (.dat false Ys):=by
  apply vak (hc:=cK44) h30<;>first|exact qrS|skip
  all_goals decide
def L31:qLS:=(44,.dat false Ys)::L30
theorem h31:qHL L31:=za h30 sK44
theorem cK66:check qPp 66=some (9,(jl 44 67).strip,[.cell 4 3 true]):=by kernel_rfl
theorem sK66:Sound qPp 66 (.dat false Un):=by
  apply Jak (hc:=cK66) h31<;>first|exact qrS|skip
  all_goals decide
def L32:qLS:=(66,.dat false Un)::L31
theorem h32:qHL L32:=za h31 sK66
theorem cK60:check qPp 60=some (26,(Zl 98 138 83).strip,[.cell 4 3 true]):=by kernel_rfl
theorem sK60:Sound qPp 60 (.dat false Zq):=by
  apply yag (hc:=cK60) h32<;>first|exact qrS|skip
  all_goals decide
def L33:qLS:=(60,.dat false Zq)::L32
theorem h33:qHL L33:=za h32 sK60
theorem cK143:check qPp 143=some (14,(Qj 141 83 75).strip,[.cell 4 3 true,.tmp 5]):=by kernel_rfl
theorem sK143:Sound qPp 143 (.dat false (Vr 75)):=by
  apply uM (hc:=cK143) h33<;>first|exact qrS|skip
  all_goals decide
def L34:qLS:=(143,.dat false (Vr 75))::L33
theorem h34:qHL L34:=za h33 sK143
theorem cK65:check qPp 65=some (29,(zl 98 138 143).strip,[.cell 4 3 true,.tmp 5]):=by kernel_rfl
theorem sK65:Sound qPp 65 (.dat false (Zp 75)):=by
  apply xX (hc:=cK65) h34<;>first|exact qrS|skip
  all_goals decide
def L35:qLS:=(65,.dat false (Zp 75))::L34
theorem h35:qHL L35:=za h34 sK65
theorem cK62:check qPp 62=some (12,(zg 98 141).strip,[.tmp 2]):=by kernel_rfl
theorem sK62:Sound qPp 62 (.dat true jh):=by
  apply wE (hc:=cK62) h35<;>first|exact qrS|skip
  all_goals decide
def L36:qLS:=(62,.dat true jh)::L35
theorem h36:qHL L36:=za h35 sK62
theorem cK63:check qPp 63=some (26,(uk 98 138 142).strip,[.tmp 4]):=by kernel_rfl
theorem sK63:Sound qPp 63 (.dat true ux):=by
  apply Waj (hc:=cK63) h36<;>first|exact qrS|skip
  all_goals decide
def L37:qLS:=(63,.dat true ux)::L36
theorem h37:qHL L37:=za h36 sK63
theorem cK34:check qPp 34=some (7,(Wm 84 85 83).strip,[.cell 2 3 true]):=by kernel_rfl
theorem sK34:Sound qPp 34 (.dat false QE):=by
  apply vaq (hc:=cK34) h37<;>first|exact qrS|skip
  all_goals decide
def L38:qLS:=(34,.dat false QE)::L37
theorem h38:qHL L38:=za h37 sK34
theorem sK7:Sound qPp 7 (.dat true Uv):=yba (awk_sound sK67 sK66 sK60 sK65 sK44 sK62 sK63 sK108 sK34)
def L39:qLS:=(7,.dat true Uv)::L38
theorem h39:qHL L39:=za h38 sK7
theorem cK134:check qPp 134=some (15,Yd.strip,[.tmp 2]):=by kernel_rfl
theorem sK134:Sound qPp 134 (.dat true js):=by
  apply UE (hc:=cK134) h39<;>first|exact qrS|skip
  all_goals decide
def L40:qLS:=(134,.dat true js)::L39
theorem h40:qHL L40:=za h39 sK134
theorem cK275:check qPp 275=some (19,qg.strip,[.tmp 2]):=by kernel_rfl
theorem sK275:Sound qPp 275 (.dat true Wi):=by
  apply xx (hc:=cK275) h40<;>first|exact qrS|skip
  all_goals decide
def L41:qLS:=(275,.dat true Wi)::L40
theorem h41:qHL L41:=za h40 sK275
theorem cK216:check qPp 216=some (8,(yi 275).strip,[.tmp 2]):=by kernel_rfl
theorem sK216:Sound qPp 216 (.dat false xi):=by
  apply QF (hc:=cK216) h41<;>first|exact qrS|skip
  all_goals decide
def L42:qLS:=(216,.dat false xi)::L41
theorem h42:qHL L42:=za h41 sK216
theorem cK269:check qPp 269=some (25,qc.strip,[.tmp 2]):=by kernel_rfl
theorem sK269:Sound qPp 269 (.fresh 1 ju):=by
  apply yai (hc:=cK269) h42<;>first|exact qrS|skip
  all_goals decide
def L43:qLS:=(269,.fresh 1 ju)::L42
theorem h43:qHL L43:=za h42 sK269
theorem cK329:check qPp 329=some (14,xg.strip,[.tmp 4]):=by kernel_rfl
theorem sK329:Sound qPp 329 (.dat true zj):=by
  apply XF (hc:=cK329) h43<;>first|exact qrS|skip
  all_goals decide
def L44:qLS:=(329,.dat true zj)::L43
theorem h44:qHL L44:=za h43 sK329
theorem cK273:check qPp 273=some (21,yf.strip,[.tmp 2]):=by kernel_rfl
theorem sK273:Sound qPp 273 (.own VR):=by
  apply Uax (hc:=cK273) h44<;>first|exact qrS|skip
  all_goals decide
def L45:qLS:=(273,.own VR)::L44
theorem h45:qHL L45:=za h44 sK273
theorem cK270:check qPp 270=some (26,(Xd 329 273).strip,[.tmp 2]):=by kernel_rfl
theorem sK270:Sound qPp 270 (.own Vj):=by
  apply wW (hc:=cK270) h45<;>first|exact qrS|skip
  all_goals decide
def L46:qLS:=(270,.own Vj)::L45
theorem h46:qHL L46:=za h45 sK270
theorem cK271:check qPp 271=some (30,(Uc 329).strip,[.tmp 4]):=by kernel_rfl
theorem sK271:Sound qPp 271 (.dat true Wt):=by
  apply JX (hc:=cK271) h46<;>first|exact qrS|skip
  all_goals decide
def L47:qLS:=(271,.dat true Wt)::L46
theorem h47:qHL L47:=za h46 sK271
theorem cK272:check qPp 272=some (31,(xc 329).strip,[]):=by kernel_rfl
theorem sK272:Sound qPp 272 (.own Uq):=by
  apply Wag (hc:=cK272) h47<;>first|exact qrS|skip
  all_goals decide
def L48:qLS:=(272,.own Uq)::L47
theorem h48:qHL L48:=za h47 sK272
theorem cK274:check qPp 274=some (37,(je 329 269).strip,[.tmp 4]):=by kernel_rfl
theorem sK274:Sound qPp 274 (.dat false Xp):=by
  apply JR (hc:=cK274) h48<;>first|exact qrS|skip
  all_goals decide
def L49:qLS:=(274,.dat false Xp)::L48
theorem h49:qHL L49:=za h48 sK274
theorem cK215:check qPp 215=some (72,(Vf 269 270 271 272 273 274).strip,[.tmp 4]):=by kernel_rfl
theorem sK215:Sound qPp 215 (.dat false Jw):=by
  apply uX (hc:=cK215) h49<;>first|exact qrS|skip
  all_goals decide
def L50:qLS:=(215,.dat false Jw)::L49
theorem h50:qHL L50:=za h49 sK215
theorem cK214:check qPp 214=some (14,(we 269).strip,[.cell 4 2 true]):=by kernel_rfl
theorem sK214:Sound qPp 214 (.dat false kf):=by
  apply vQ (hc:=cK214) h50<;>first|exact qrS|skip
  all_goals decide
def L51:qLS:=(214,.dat false kf)::L50
theorem h51:qHL L51:=za h50 sK214
theorem cK136:check qPp 136=some (11,(jf 216 215 214).strip,[.cell 4 2 true]):=by kernel_rfl
theorem sK136:Sound qPp 136 (.dat false Yq):=by
  apply wO (hc:=cK136) h51<;>first|exact qrS|skip
  all_goals decide
def L52:qLS:=(136,.dat false Yq)::L51
theorem h52:qHL L52:=za h51 sK136
theorem cK217:check qPp 217=some (19,(Zk 214).strip,[.cell 2 2 true]):=by kernel_rfl
theorem sK217:Sound qPp 217 (.dat false YL):=by
  apply kT (hc:=cK217) h52<;>first|exact qrS|skip
  all_goals decide
def L53:qLS:=(217,.dat false YL)::L52
theorem h53:qHL L53:=za h52 sK217
theorem cK137:check qPp 137=some (2,(Zh 217).strip,[.cell 0 2 true]):=by kernel_rfl
theorem sK137:Sound qPp 137 (.dat false ko):=by
  apply zH (hc:=cK137) h53<;>first|exact qrS|skip
  all_goals decide
def L54:qLS:=(137,.dat false ko)::L53
theorem h54:qHL L54:=za h53 sK137
theorem cK239:check qPp 239=some (9,(Vi 275).strip,[.tmp 2]):=by kernel_rfl
theorem sK239:Sound qPp 239 (.dat true zh):=by
  apply VC (hc:=cK239) h54<;>first|exact qrS|skip
  all_goals decide
def L55:qLS:=(239,.dat true zh)::L54
theorem h55:qHL L55:=za h54 sK239
theorem cK268:check qPp 268=some (9,(Ji 239 216 214).strip,[.cell 2 2 true]):=by kernel_rfl
theorem sK268:Sound qPp 268 (.dat false Vs):=by
  apply yH (hc:=cK268) h55<;>first|exact qrS|skip
  all_goals decide
def L56:qLS:=(268,.dat false Vs)::L55
theorem h56:qHL L56:=za h55 sK268
theorem cK328:check qPp 328=some (35,(Ud 329 269).strip,[.tmp 4]):=by kernel_rfl
theorem sK328:Sound qPp 328 (.dat false Wq):=by
  apply QL (hc:=cK328) h56<;>first|exact qrS|skip
  all_goals decide
def L57:qLS:=(328,.dat false Wq)::L56
theorem h57:qHL L57:=za h56 sK328
theorem cK267:check qPp 267=some (38,(Jf 216 239 274 214 271 328).strip,[.cell 4 2 true]):=by kernel_rfl
theorem sK267:Sound qPp 267 (.dat false Xs):=by
  apply jP (hc:=cK267) h57<;>first|exact qrS|skip
  all_goals decide
def L58:qLS:=(267,.dat false Xs)::L57
theorem h58:qHL L58:=za h57 sK267
theorem cK213:check qPp 213=some (9,(Yf 268 267).strip,[.cell 4 2 true]):=by kernel_rfl
theorem sK213:Sound qPp 213 (.dat false YF):=by
  apply yR (hc:=cK213) h58<;>first|exact qrS|skip
  all_goals decide
def L59:qLS:=(213,.dat false YF)::L58
theorem h59:qHL L59:=za h58 sK213
theorem cK168:check qPp 168=some (9,(ke 216 239).strip,[.tmp 2]):=by kernel_rfl
theorem sK168:Sound qPp 168 (.dat true Xh):=by
  apply yL (hc:=cK168) h59<;>first|exact qrS|skip
  all_goals decide
def L60:qLS:=(168,.dat true Xh)::L59
theorem h60:qHL L60:=za h59 sK168
theorem cK135:check qPp 135=some (9,(vf 213 168).strip,[.tmp 4]):=by kernel_rfl
theorem sK135:Sound qPp 135 (.dat true kr):=by
  apply zS (hc:=cK135) h60<;>first|exact qrS|skip
  all_goals decide
def L61:qLS:=(135,.dat true kr)::L60
theorem h61:qHL L61:=za h60 sK135
theorem cK58:check qPp 58=some (36,(yd 134 136 137 135).strip,[.tmp 2]):=by kernel_rfl
theorem sK58:Sound qPp 58 (.dat true Xc):=by
  apply zF (hc:=cK58) h61<;>first|exact qrS|skip
  all_goals decide
def L62:qLS:=(58,.dat true Xc)::L61
theorem h62:qHL L62:=za h61 sK58
theorem cK167:check qPp 167=some (23,(xd 58 137).strip,[.cell 2 2 true,.cell 3 2 true]):=by kernel_rfl
theorem sK167:Sound qPp 167 (.dat false qe):=by
  apply qF (hc:=cK167) h62<;>first|exact qrS|skip
  all_goals decide
def L63:qLS:=(167,.dat false qe)::L62
theorem h63:qHL L63:=za h62 sK167
theorem cK90:check qPp 90=some (12,(zg 167 168).strip,[.tmp 2]):=by kernel_rfl
theorem sK90:Sound qPp 90 (.dat true jh):=by
  apply wE (hc:=cK90) h63<;>first|exact qrS|skip
  all_goals decide
def L64:qLS:=(90,.dat true jh)::L63
theorem h64:qHL L64:=za h63 sK90
theorem cK37:check qPp 37=some (17,(wb 58 90).strip,[.tmp 2]):=by kernel_rfl
theorem sK37:Sound qPp 37 (.dat true Qx):=by
  apply UX (hc:=cK37) h64<;>first|exact qrS|skip
  all_goals decide
def L65:qLS:=(37,.dat true Qx)::L64
theorem h65:qHL L65:=za h64 sK37
theorem cK28:check qPp 28=some (61,(vb 37 58).strip,[.tmp 2]):=by kernel_rfl
theorem sK28:Sound qPp 28 (.dat true kw):=by
  apply JV (hc:=cK28) h65<;>first|exact qrS|skip
  all_goals decide
def L66:qLS:=(28,.dat true kw)::L65
theorem h66:qHL L66:=za h65 sK28
theorem cK51:check qPp 51=some (18,(Xe 108 62 75).strip,[.tmp 2]):=by kernel_rfl
theorem sK51:Sound qPp 51 (.dat false (Xf 75)):=by
  apply zP (hc:=cK51) h66<;>first|exact qrS|skip
  all_goals decide
def L67:qLS:=(51,.dat false (Xf 75))::L66
theorem h67:qHL L67:=za h66 sK51
theorem cK155:check qPp 155=some (11,(wd 108).strip,[.tmp 2]):=by kernel_rfl
theorem sK155:Sound qPp 155 (.dat true ki):=by
  apply qy (hc:=cK155) h67<;>first|exact qrS|skip
  all_goals decide
def L68:qLS:=(155,.dat true ki)::L67
theorem h68:qHL L68:=za h67 sK155
theorem cK80:check qPp 80=some (12,(xj 51 155).strip,[.tmp 2]):=by kernel_rfl
theorem sK80:Sound qPp 80 (.dat true jq):=by
  apply Vak (hc:=cK80) h68<;>first|exact qrS|skip
  all_goals decide
def L69:qLS:=(80,.dat true jq)::L68
theorem h69:qHL L69:=za h68 sK80
theorem cK100:check qPp 100=some (9,(yt 44).strip,[.cell 2 4 true]):=by kernel_rfl
theorem sK100:Sound qPp 100 (.dat false ZI):=by
  apply jaj (hc:=cK100) h69<;>first|exact qrS|skip
  all_goals decide
def L70:qLS:=(100,.dat false ZI)::L69
theorem h70:qHL L70:=za h69 sK100
theorem cK45:check qPp 45=some (13,(Vp 51 100).strip,[.cell 2 4 true,.tmp 3]):=by kernel_rfl
theorem sK45:Sound qPp 45 (.dat false (Ww 75)):=by
  apply kU (hc:=cK45) h70<;>first|exact qrS|skip
  all_goals decide
def L71:qLS:=(45,.dat false (Ww 75))::L70
theorem h71:qHL L71:=za h70 sK45
theorem cK158:check qPp 158=some (10,(kt 44).strip,[.cell 2 6 true]):=by kernel_rfl
theorem sK158:Sound qPp 158 (.dat false vI):=by
  apply Yag (hc:=cK158) h71<;>first|exact qrS|skip
  all_goals decide
def L72:qLS:=(158,.dat false vI)::L71
theorem h72:qHL L72:=za h71 sK158
theorem cK279:check qPp 279=some (17,(jm 65).strip,[.cell 4 3 true]):=by kernel_rfl
theorem sK279:Sound qPp 279 (.dat false jr):=by
  apply ZW (hc:=cK279) h72<;>first|exact qrS|skip
  all_goals decide
def L73:qLS:=(279,.dat false jr)::L72
theorem h73:qHL L73:=za h72 sK279
theorem cK262:check qPp 262=some (32,(qf 34 60 67 66 279).strip,[.cell 2 3 true,.cell 3 3 true]):=by kernel_rfl
theorem sK262:Sound qPp 262 (.dat false YD):=by
  apply Vah (hc:=cK262) h73<;>first|exact qrS|skip
  all_goals decide
def L74:qLS:=(262,.dat false YD)::L73
theorem h74:qHL L74:=za h73 sK262
theorem cK193:check qPp 193=some (19,(Zi 51 262).strip,[.cell 2 3 true,.tmp 3]):=by kernel_rfl
theorem sK193:Sound qPp 193 (.dat false (qI 75)):=by
  apply Xai (hc:=cK193) h74<;>first|exact qrS|skip
  all_goals decide
def L75:qLS:=(193,.dat false (qI 75))::L74
theorem h75:qHL L75:=za h74 sK193
theorem cK194:check qPp 194=some (19,(yh 51 262).strip,[.cell 2 3 true,.tmp 3]):=by kernel_rfl
theorem sK194:Sound qPp 194 (.dat false (vJ 75)):=by
  apply kai (hc:=cK194) h75<;>first|exact qrS|skip
  all_goals decide
def L76:qLS:=(194,.dat false (vJ 75))::L75
theorem h76:qHL L76:=za h75 sK194
theorem cK154:check qPp 154=some (29,(Qf 51 193 194 75).strip,[.cell 2 3 true,.cell 3 3 true,.tmp 4]):=by kernel_rfl
theorem sK154:Sound qPp 154 (.dat false (UC 75)):=by
  apply yaj (hc:=cK154) h76<;>first|exact qrS|skip
  all_goals decide
def L77:qLS:=(154,.dat false (UC 75))::L76
theorem h77:qHL L77:=za h76 sK154
theorem cK156:check qPp 156=some (38,(Qi 154 60 66 67).strip,[.cell 4 6 true,.tmp 5]):=by kernel_rfl
theorem sK156:Sound qPp 156 (.dat false (qD 75)):=by
  apply uah (hc:=cK156) h77<;>first|exact qrS|skip
  all_goals decide
def L78:qLS:=(156,.dat false (qD 75))::L77
theorem h78:qHL L78:=za h77 sK156
theorem cK81:check qPp 81=some (37,(yg 80 45 158 156 75).strip,[.cell 2 10 true,.tmp 3]):=by kernel_rfl
theorem sK81:Sound qPp 81 (.dat false (uG 75)):=by
  apply kag (hc:=cK81) h78<;>first|exact qrS|skip
  all_goals decide
def L79:qLS:=(81,.dat false (uG 75))::L78
theorem h79:qHL L79:=za h78 sK81
theorem cK231:check qPp 231=some (18,(vj 51).strip,[.tmp 2]):=by kernel_rfl
theorem sK231:Sound qPp 231 (.dat false (yx 75)):=by
  apply vX (hc:=cK231) h79<;>first|exact qrS|skip
  all_goals decide
def L80:qLS:=(231,.dat false (yx 75))::L79
theorem h80:qHL L80:=za h79 sK231
theorem cK280:check qPp 280=some (2,xq.strip,[.cell 0 4 true]):=by kernel_rfl
theorem sK280:Sound qPp 280 (.dat false Qr):=by
  apply ZV (hc:=cK280) h80<;>first|exact qrS|skip
  all_goals decide
def L81:qLS:=(280,.dat false Qr)::L80
theorem h81:qHL L81:=za h80 sK280
theorem cK232:check qPp 232=some (57,(vd 232 62 34 279 60 66 280 67).strip,[.cell 4 4 true]):=by kernel_rfl
theorem sK232:Sound qPp 232 (.dat false (Us true)):=by
  apply vai (hc:=cK232) h81<;>first|exact qrS|skip
  all_goals decide
def L82:qLS:=(232,.dat false (Us true))::L81
theorem h82:qHL L82:=za h81 sK232
theorem cK159:check qPp 159=some (18,(qt 231 232).strip,[.cell 4 4 true,.tmp 5]):=by kernel_rfl
theorem sK159:Sound qPp 159 (.dat false uI):=by
  apply wag (hc:=cK159) h82<;>first|exact qrS|skip
  all_goals decide
def L83:qLS:=(159,.dat false uI)::L82
theorem h83:qHL L83:=za h82 sK159
theorem cK157:check qPp 157=some (16,(Vt 67).strip,[.cell 4 6 true]):=by kernel_rfl
theorem sK157:Sound qPp 157 (.dat false ww):=by
  apply WU (hc:=cK157) h83<;>first|exact qrS|skip
  all_goals decide
def L84:qLS:=(157,.dat false ww)::L83
theorem h84:qHL L84:=za h83 sK157
theorem cK78:check qPp 78=some (33,(Xg 80 155 156 157 75).strip,[.cell 4 6 true,.tmp 5]):=by kernel_rfl
theorem sK78:Sound qPp 78 (.dat false (qC 75)):=by
  apply Uai (hc:=cK78) h84<;>first|exact qrS|skip
  all_goals decide
def L85:qLS:=(78,.dat false (qC 75))::L84
theorem h85:qHL L85:=za h84 sK78
theorem cK82:check qPp 82=some (45,(Jq 80 159 78 75).strip,[.cell 4 10 true,.tmp 5]):=by kernel_rfl
theorem sK82:Sound qPp 82 (.dat false Xv):=by
  apply uV (hc:=cK82) h85<;>first|exact qrS|skip
  all_goals decide
def L86:qLS:=(82,.dat false Xv)::L85
theorem h86:qHL L86:=za h85 sK82
theorem cK32:check qPp 32=some (32,(Ul 80 81 82 75).strip,[.cell 4 10 true,.tmp 5]):=by kernel_rfl
theorem sK32:Sound qPp 32 (.dat false Yx):=by
  apply Zah (hc:=cK32) h86<;>first|exact qrS|skip
  all_goals decide
def L87:qLS:=(32,.dat false Yx)::L86
theorem h87:qHL L87:=za h86 sK32
theorem cK76:check qPp 76=some (86,(Ug 80 62 154 34 66 60 65 67 75).strip,[.cell 2 6 true,.tmp 3]):=by kernel_rfl
theorem sK76:Sound qPp 76 (.dat false (WG 75)):=by
  apply xah (hc:=cK76) h87<;>first|exact qrS|skip
  all_goals decide
def L88:qLS:=(76,.dat false (WG 75))::L87
theorem h88:qHL L88:=za h87 sK76
theorem cK29:check qPp 29=some (22,(Xo 32 76).strip,[.cell 4 6 true,.tmp 5]):=by kernel_rfl
theorem sK29:Sound qPp 29 (.dat false (uv 75)):=by
  apply WW (hc:=cK29) h88<;>first|exact qrS|skip
  all_goals decide
def L89:qLS:=(29,.dat false (uv 75))::L88
theorem h89:qHL L89:=za h88 sK29
theorem cK12:check qPp 12=some (15,(zd 75).strip,[.tmp 2]):=by kernel_rfl
theorem sK12:Sound qPp 12 (.dat true (YI 75)):=by
  apply kak (hc:=cK12) h89<;>first|exact qrS|skip
  all_goals decide
def L90:qLS:=(12,.dat true (YI 75))::L89
theorem h90:qHL L90:=za h89 sK12
theorem cK70:check qPp 70=some (9,(Vg 12).strip,[.tmp 4]):=by kernel_rfl
theorem sK70:Sound qPp 70 (.dat true (Vai 75)):=by
  apply QaA (hc:=cK70) h90<;>first|exact qrS|skip
  all_goals decide
def L91:qLS:=(70,.dat true (Vai 75))::L90
theorem h91:qHL L91:=za h90 sK70
theorem cK24:check qPp 24=some (18,(Uh 70).strip,[.tmp 4]):=by kernel_rfl
theorem sK24:Sound qPp 24 (.dat true (qaj 75)):=by
  apply kax (hc:=cK24) h91<;>first|exact qrS|skip
  all_goals decide
def L92:qLS:=(24,.dat true (qaj 75))::L91
theorem h92:qHL L92:=za h91 sK24
theorem cK30:check qPp 30=some (17,(Xm 32).strip,[.cell 4 4 true,.tmp 5]):=by kernel_rfl
theorem sK30:Sound qPp 30 (.dat false Zs):=by
  apply jQ (hc:=cK30) h92<;>first|exact qrS|skip
  all_goals decide
def L93:qLS:=(30,.dat false Zs)::L92
theorem h93:qHL L93:=za h92 sK30
theorem cK77:check qPp 77=some (11,(wd 108).strip,[.tmp 2]):=by kernel_rfl
theorem sK77:Sound qPp 77 (.dat true ki):=by
  apply qy (hc:=cK77) h93<;>first|exact qrS|skip
  all_goals decide
def L94:qLS:=(77,.dat true ki)::L93
theorem h94:qHL L94:=za h93 sK77
theorem cK79:check qPp 79=some (16,(Ym 66).strip,[.cell 4 6 true]):=by kernel_rfl
theorem sK79:Sound qPp 79 (.dat false jx):=by
  apply kW (hc:=cK79) h94<;>first|exact qrS|skip
  all_goals decide
def L95:qLS:=(79,.dat false jx)::L94
theorem h95:qHL L95:=za h94 sK79
theorem cK31:check qPp 31=some (41,(km 77 51 67 78 79 75).strip,[.cell 4 10 true,.tmp 5]):=by kernel_rfl
theorem sK31:Sound qPp 31 (.dat false Xr):=by
  apply zT (hc:=cK31) h95<;>first|exact qrS|skip
  all_goals decide
def L96:qLS:=(31,.dat false Xr)::L95
theorem h96:qHL L96:=za h95 sK31
theorem cK33:check qPp 33=some (52,(Vq 80 63 75).strip,[.tmp 4,.tmp 5]):=by kernel_rfl
theorem sK33:Sound qPp 33 (.dat false uag):=by
  apply Wal (hc:=cK33) h96<;>first|exact qrS|skip
  all_goals decide
def L97:qLS:=(33,.dat false uag)::L96
theorem h97:qHL L97:=za h96 sK33
theorem cK6:check qPp 6=some (77,(qb 7 28 29 24 30 31 32 33).strip,[.tmp 4]):=by kernel_rfl
theorem sK6:Sound qPp 6 (.dat true Zo):=by
  apply wL (hc:=cK6) h97<;>first|exact qrS|skip
  all_goals decide
def L98:qLS:=(6,.dat true Zo)::L97
theorem h98:qHL L98:=za h97 sK6
theorem hold:qHL L98:=h98
end Go.Abs
