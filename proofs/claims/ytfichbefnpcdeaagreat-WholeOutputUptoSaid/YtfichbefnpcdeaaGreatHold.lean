/-
  The contracts of this seat's functions, gathered.
-/
import Derived.Test.YtfichbefnpcdeaaGreatChecked
import Derived.Test.YtfichbefnpcdeaaGreatBits
import Derived.KernelRfl
import Derived.Test.YtfichbefnpcdeaaGreatM20
set_option maxRecDepth 100000
set_option linter.unusedVariables false
namespace Go.Abs
open Go.Proofs
noncomputable abbrev qPp:=Tryz.prog
abbrev qLS:=List (Nat×Spec)
abbrev qHL(l:qLS):=Holds qPp (Gl l)
theorem qrS{a:Spec}:a=a:=rfl
theorem cK187:check qPp 187=some (19,Wg.strip,[.tmp 2]):=by kernel_rfl
theorem sK187:Sound qPp 187 (.dat true qj):=by
  apply uy (hc:=cK187) ZV<;>first|exact qrS|skip
  all_goals decide
def L1:qLS:=(187,.dat true qj)::[]
theorem h1:qHL L1:=Qa ZV sK187
theorem cK177:check qPp 177=some (8,(ui 187).strip,[.tmp 2]):=by kernel_rfl
theorem sK177:Sound qPp 177 (.dat false kj):=by
  apply jH (hc:=cK177) h1<;>first|exact qrS|skip
  all_goals decide
def L2:qLS:=(177,.dat false kj)::L1
theorem h2:qHL L2:=Qa h1 sK177
theorem cK220:check qPp 220=some (41,zh.strip,[.tmp 4]):=by kernel_rfl
theorem sK220:Sound qPp 220 (.dat false Jj):=by
  apply zO (hc:=cK220) h2<;>first|exact qrS|skip
  all_goals decide
def L3:qLS:=(220,.dat false Jj)::L2
theorem h3:qHL L3:=Qa h2 sK220
theorem cK234:check qPp 234=some (25,jl.strip,[.tmp 2]):=by kernel_rfl
theorem sK234:Sound qPp 234 (.dat false kp):=by
  apply qal (hc:=cK234) h3<;>first|exact qrS|skip
  all_goals decide
def L4:qLS:=(234,.dat false kp)::L3
theorem h4:qHL L4:=Qa h3 sK234
theorem cK281:check qPp 281=some (43,(Yj 234).strip,[.tmp 4,.tmp 5]):=by kernel_rfl
theorem sK281:Sound qPp 281 (.dat false ux):=by
  apply qY (hc:=cK281) h4<;>first|exact qrS|skip
  all_goals decide
def L5:qLS:=(281,.dat false ux)::L4
theorem h5:qHL L5:=Qa h4 sK281
theorem sK282:Sound qPp 282 (.dat true lz_G):=uav (Xa Tryz.func282 (by kernel_rfl) (by kernel_rfl)) waV ybg Tryz.bits_LeadingZeros32
def L6:qLS:=(282,.dat true lz_G)::L5
theorem h6:qHL L6:=Qa h5 sK282
theorem cK283:check qPp 283=some (41,Zp.strip,[.tmp 4]):=by kernel_rfl
theorem sK283:Sound qPp 283 (.fresh 1 up_G):=by
  apply waG (hc:=cK283) h6<;>first|exact qrS|skip
  all_goals decide
def L7:qLS:=(283,.fresh 1 up_G)::L6
theorem h7:qHL L7:=Qa h6 sK283
theorem cK277:check qPp 277=some (14,vh.strip,[.tmp 4]):=by kernel_rfl
theorem sK277:Sound qPp 277 (.dat true Qj):=by
  apply VH (hc:=cK277) h7<;>first|exact qrS|skip
  all_goals decide
def L8:qLS:=(277,.dat true Qj)::L7
theorem h8:qHL L8:=Qa h7 sK277
theorem cK284:check qPp 284=some (46,(qi 277).strip,[.tmp 6]):=by kernel_rfl
theorem sK284:Sound qPp 284 (.own Jk):=by
  apply YT (hc:=cK284) h8<;>first|exact qrS|skip
  all_goals decide
def L9:qLS:=(284,.own Jk)::L8
theorem h9:qHL L9:=Qa h8 sK284
theorem cK285:check qPp 285=some (30,(wl 277).strip,[]):=by kernel_rfl
theorem sK285:Sound qPp 285 (.own uv):=by
  apply Qan (hc:=cK285) h9<;>first|exact qrS|skip
  all_goals decide
def L10:qLS:=(285,.own uv)::L9
theorem h10:qHL L10:=Qa h9 sK285
theorem cK286:check qPp 286=some (35,(xk 277 234).strip,[.tmp 4]):=by kernel_rfl
theorem sK286:Sound qPp 286 (.dat false QL):=by
  apply Xam (hc:=cK286) h10<;>first|exact qrS|skip
  all_goals decide
def L11:qLS:=(286,.dat false QL)::L10
theorem h11:qHL L11:=Qa h10 sK286
theorem cK233:check qPp 233=some (158,(Zf 220 234 281 282 283 284 285 286).strip,[.tmp 4,.tmp 5]):=by kernel_rfl
theorem sK233:Sound qPp 233 (.dat false zp):=by
  apply zW (hc:=cK233) h11<;>first|exact qrS|skip
  all_goals decide
def L12:qLS:=(233,.dat false zp)::L11
theorem h12:qHL L12:=Qa h11 sK233
theorem cK162:check qPp 162=some (15,(uj 234).strip,[.cell 4 2 true]):=by kernel_rfl
theorem sK162:Sound qPp 162 (.dat false Yf):=by
  apply U4 (hc:=cK162) h12<;>first|exact qrS|skip
  all_goals decide
def L13:qLS:=(162,.dat false Yf)::L12
theorem h13:qHL L13:=Qa h12 sK162
theorem cK160:check qPp 160=some (26,(ym 177 233 162).strip,[.cell 4 2 true]):=by kernel_rfl
theorem sK160:Sound qPp 160 (.dat false xq):=by
  apply Qal (hc:=cK160) h13<;>first|exact qrS|skip
  all_goals decide
def L14:qLS:=(160,.dat false xq)::L13
theorem h14:qHL L14:=Qa h13 sK160
theorem cK84:check qPp 84=some (19,(vk 162).strip,[.cell 2 2 true]):=by kernel_rfl
theorem sK84:Sound qPp 84 (.dat false wO):=by
  apply xX (hc:=cK84) h14<;>first|exact qrS|skip
  all_goals decide
def L15:qLS:=(84,.dat false wO)::L14
theorem h15:qHL L15:=Qa h14 sK84
theorem cK85:check qPp 85=some (2,(qh 84).strip,[.cell 0 2 true]):=by kernel_rfl
theorem sK85:Sound qPp 85 (.dat false Wn):=by
  apply uK (hc:=cK85) h15<;>first|exact qrS|skip
  all_goals decide
def L16:qLS:=(85,.dat false Wn)::L15
theorem h16:qHL L16:=Qa h15 sK85
theorem cK141:check qPp 141=some (11,(Yl 177).strip,[.tmp 2]):=by kernel_rfl
theorem sK141:Sound qPp 141 (.dat true Wi):=by
  apply QZ (hc:=cK141) h16<;>first|exact qrS|skip
  all_goals decide
def L17:qLS:=(141,.dat true Wi)::L16
theorem h17:qHL L17:=Qa h16 sK141
theorem cK176:check qPp 176=some (9,(Ui 187).strip,[.tmp 2]):=by kernel_rfl
theorem sK176:Sound qPp 176 (.dat true yh):=by
  apply QC (hc:=cK176) h17<;>first|exact qrS|skip
  all_goals decide
def L18:qLS:=(176,.dat true yh)::L17
theorem h18:qHL L18:=Qa h17 sK176
theorem cK142:check qPp 142=some (28,(Wm 141 177 220 176).strip,[.tmp 4]):=by kernel_rfl
theorem sK142:Sound qPp 142 (.dat true zE):=by
  apply Xak (hc:=cK142) h18<;>first|exact qrS|skip
  all_goals decide
def L19:qLS:=(142,.dat true zE)::L18
theorem h19:qHL L19:=Qa h18 sK142
theorem cK108:check qPp 108=some (50,(Zi 187 160 85 142).strip,[.tmp 2]):=by kernel_rfl
theorem sK108:Sound qPp 108 (.dat true yd):=by
  apply JU (hc:=cK108) h19<;>first|exact qrS|skip
  all_goals decide
def L20:qLS:=(108,.dat true yd)::L19
theorem h20:qHL L20:=Qa h19 sK108
theorem cK98:check qPp 98=some (28,(ki 108 85).strip,[.cell 2 2 true,.cell 3 2 true]):=by kernel_rfl
theorem sK98:Sound qPp 98 (.dat false ye):=by
  apply xP (hc:=cK98) h20<;>first|exact qrS|skip
  all_goals decide
def L21:qLS:=(98,.dat false ye)::L20
theorem h21:qHL L21:=Qa h20 sK98
theorem cK218:check qPp 218=some (67,(yj 234).strip,[.tmp 4]):=by kernel_rfl
theorem sK218:Sound qPp 218 (.dat false yw):=by
  apply vZ (hc:=cK218) h21<;>first|exact qrS|skip
  all_goals decide
def L22:qLS:=(218,.dat false yw)::L21
theorem h22:qHL L22:=Qa h21 sK218
theorem cK138:check qPp 138=some (16,(Um 176 177 218 162).strip,[.cell 4 2 true]):=by kernel_rfl
theorem sK138:Sound qPp 138 (.dat false jv):=by
  apply Jam (hc:=cK138) h22<;>first|exact qrS|skip
  all_goals decide
def L23:qLS:=(138,.dat false jv)::L22
theorem h23:qHL L23:=Qa h22 sK138
theorem cK221:check qPp 221=some (39,(ul 277 234).strip,[.tmp 4]):=by kernel_rfl
theorem sK221:Sound qPp 221 (.dat false vp):=by
  apply jal (hc:=cK221) h23<;>first|exact qrS|skip
  all_goals decide
def L24:qLS:=(221,.dat false vp)::L23
theorem h24:qHL L24:=Qa h23 sK221
theorem cK222:check qPp 222=some (38,(Zm 277 234).strip,[.tmp 4]):=by kernel_rfl
theorem sK222:Sound qPp 222 (.dat false Yp):=by
  apply yan (hc:=cK222) h24<;>first|exact qrS|skip
  all_goals decide
def L25:qLS:=(222,.dat false Yp)::L24
theorem h25:qHL L25:=Qa h24 sK222
theorem cK144:check qPp 144=some (40,(Qn 177 176 221 162 220 222).strip,[.cell 4 2 true]):=by kernel_rfl
theorem sK144:Sound qPp 144 (.dat false Qs):=by
  apply van (hc:=cK144) h25<;>first|exact qrS|skip
  all_goals decide
def L26:qLS:=(144,.dat false Qs)::L25
theorem h26:qHL L26:=Qa h25 sK144
theorem cK99:check qPp 99=some (9,(xi 176 177 162).strip,[.cell 2 2 true]):=by kernel_rfl
theorem sK99:Sound qPp 99 (.dat false Vs):=by
  apply uI (hc:=cK99) h26<;>first|exact qrS|skip
  all_goals decide
def L27:qLS:=(99,.dat false Vs)::L26
theorem h27:qHL L27:=Qa h26 sK99
theorem cK161:check qPp 161=some (47,(wm 177 233 176 221 222 162 75).strip,[.cell 4 2 true,.cell 5 2 true,.tmp 6]):=by kernel_rfl
theorem sK161:Sound qPp 161 (.dat false yJ):=by
  apply wam (hc:=cK161) h27<;>first|exact qrS|skip
  all_goals decide
def L28:qLS:=(161,.dat false yJ)::L27
theorem h28:qHL L28:=Qa h27 sK161
theorem cK83:check qPp 83=some (47,(Xj 141 99 160 161).strip,[.cell 4 3 true]):=by kernel_rfl
theorem sK83:Sound qPp 83 (.dat false Zn):=by
  apply UY (hc:=cK83) h28<;>first|exact qrS|skip
  all_goals decide
def L29:qLS:=(83,.dat false Zn)::L28
theorem h29:qHL L29:=Qa h28 sK83
theorem cK67:check qPp 67=some (30,(qm 98 138 144 83).strip,[.cell 4 3 true]):=by kernel_rfl
theorem sK67:Sound qPp 67 (.dat false wu):=by
  apply Yal (hc:=cK67) h29<;>first|exact qrS|skip
  all_goals decide
def L30:qLS:=(67,.dat false wu)::L29
theorem h30:qHL L30:=Qa h29 sK67
theorem cK44:check qPp 44=some (14,(Uk 98 99 83).strip,[.cell 2 3 true]):=by kernel_rfl
theorem sK44:Sound qPp 44 (.dat false yu):=by
  apply wan (hc:=cK44) h30<;>first|exact qrS|skip
  all_goals decide
def L31:qLS:=(44,.dat false yu)::L30
theorem h31:qHL L31:=Qa h30 sK44
theorem cK66:check qPp 66=some (9,(Ul 44 67).strip,[.cell 4 3 true]):=by kernel_rfl
theorem sK66:Sound qPp 66 (.dat false Jy):=by
  apply zam (hc:=cK66) h31<;>first|exact qrS|skip
  all_goals decide
def L32:qLS:=(66,.dat false Jy)::L31
theorem h32:qHL L32:=Qa h31 sK66
theorem cK60:check qPp 60=some (26,(Xk 98 138 83).strip,[.cell 4 3 true]):=by kernel_rfl
theorem sK60:Sound qPp 60 (.dat false Wy):=by
  apply wak (hc:=cK60) h32<;>first|exact qrS|skip
  all_goals decide
def L33:qLS:=(60,.dat false Wy)::L32
theorem h33:qHL L33:=Qa h32 sK60
theorem cK143:check qPp 143=some (14,(zk 141 83 75).strip,[.cell 4 3 true,.tmp 5]):=by kernel_rfl
theorem sK143:Sound qPp 143 (.dat false (Yr 75)):=by
  apply xR (hc:=cK143) h33<;>first|exact qrS|skip
  all_goals decide
def L34:qLS:=(143,.dat false (Yr 75))::L33
theorem h34:qHL L34:=Qa h33 sK143
theorem cK65:check qPp 65=some (29,(Xl 98 138 143).strip,[.cell 4 3 true,.tmp 5]):=by kernel_rfl
theorem sK65:Sound qPp 65 (.dat false (qq 75)):=by
  apply VY (hc:=cK65) h34<;>first|exact qrS|skip
  all_goals decide
def L35:qLS:=(65,.dat false (qq 75))::L34
theorem h35:qHL L35:=Qa h34 sK65
theorem cK62:check qPp 62=some (12,(kg 98 141).strip,[.tmp 2]):=by kernel_rfl
theorem sK62:Sound qPp 62 (.dat true Wj):=by
  apply zF (hc:=cK62) h35<;>first|exact qrS|skip
  all_goals decide
def L36:qLS:=(62,.dat true Wj)::L35
theorem h36:qHL L36:=Qa h35 sK62
theorem cK63:check qPp 63=some (26,(vl 98 138 142).strip,[.tmp 4]):=by kernel_rfl
theorem sK63:Sound qPp 63 (.dat true qy):=by
  apply wal (hc:=cK63) h36<;>first|exact qrS|skip
  all_goals decide
def L37:qLS:=(63,.dat true qy)::L36
theorem h37:qHL L37:=Qa h36 sK63
theorem cK34:check qPp 34=some (7,(xm 84 85 83).strip,[.cell 2 3 true]):=by kernel_rfl
theorem sK34:Sound qPp 34 (.dat false wR):=by
  apply kap (hc:=cK34) h37<;>first|exact qrS|skip
  all_goals decide
def L38:qLS:=(34,.dat false wR)::L37
theorem h38:qHL L38:=Qa h37 sK34
theorem cK134:check qPp 134=some (15,Qe.strip,[.tmp 2]):=by kernel_rfl
theorem sK134:Sound qPp 134 (.dat true vr):=by
  apply UG (hc:=cK134) h38<;>first|exact qrS|skip
  all_goals decide
def L39:qLS:=(134,.dat true vr)::L38
theorem h39:qHL L39:=Qa h38 sK134
theorem cK275:check qPp 275=some (19,Wg.strip,[.tmp 2]):=by kernel_rfl
theorem sK275:Sound qPp 275 (.dat true qj):=by
  apply uy (hc:=cK275) h39<;>first|exact qrS|skip
  all_goals decide
def L40:qLS:=(275,.dat true qj)::L39
theorem h40:qHL L40:=Qa h39 sK275
theorem cK216:check qPp 216=some (8,(ui 275).strip,[.tmp 2]):=by kernel_rfl
theorem sK216:Sound qPp 216 (.dat false kj):=by
  apply jH (hc:=cK216) h40<;>first|exact qrS|skip
  all_goals decide
def L41:qLS:=(216,.dat false kj)::L40
theorem h41:qHL L41:=Qa h40 sK216
theorem cK269:check qPp 269=some (25,Yc.strip,[.tmp 2]):=by kernel_rfl
theorem sK269:Sound qPp 269 (.fresh 1 Yv):=by
  apply Zal (hc:=cK269) h41<;>first|exact qrS|skip
  all_goals decide
def L42:qLS:=(269,.fresh 1 Yv)::L41
theorem h42:qHL L42:=Qa h41 sK269
theorem cK329:check qPp 329=some (14,vh.strip,[.tmp 4]):=by kernel_rfl
theorem sK329:Sound qPp 329 (.dat true Qj):=by
  apply VH (hc:=cK329) h42<;>first|exact qrS|skip
  all_goals decide
def L43:qLS:=(329,.dat true Qj)::L42
theorem h43:qHL L43:=Qa h42 sK329
theorem cK273:check qPp 273=some (21,Xf.strip,[.tmp 2]):=by kernel_rfl
theorem sK273:Sound qPp 273 (.own YP):=by
  apply qay (hc:=cK273) h43<;>first|exact qrS|skip
  all_goals decide
def L44:qLS:=(273,.own YP)::L43
theorem h44:qHL L44:=Qa h43 sK273
theorem cK270:check qPp 270=some (26,(Ze 329 273).strip,[.tmp 2]):=by kernel_rfl
theorem sK270:Sound qPp 270 (.own xj):=by
  apply xY (hc:=cK270) h44<;>first|exact qrS|skip
  all_goals decide
def L45:qLS:=(270,.own xj)::L44
theorem h45:qHL L45:=Qa h44 sK270
theorem cK271:check qPp 271=some (30,(xd 329).strip,[.tmp 4]):=by kernel_rfl
theorem sK271:Sound qPp 271 (.dat true Zt):=by
  apply yY (hc:=cK271) h45<;>first|exact qrS|skip
  all_goals decide
def L46:qLS:=(271,.dat true Zt)::L45
theorem h46:qHL L46:=Qa h45 sK271
theorem cK272:check qPp 272=some (31,(Jd 329).strip,[]):=by kernel_rfl
theorem sK272:Sound qPp 272 (.own yp):=by
  apply zan (hc:=cK272) h46<;>first|exact qrS|skip
  all_goals decide
def L47:qLS:=(272,.own yp)::L46
theorem h47:qHL L47:=Qa h46 sK272
theorem cK274:check qPp 274=some (37,(ue 329 269).strip,[.tmp 4]):=by kernel_rfl
theorem sK274:Sound qPp 274 (.dat false vp):=by
  apply wU (hc:=cK274) h47<;>first|exact qrS|skip
  all_goals decide
def L48:qLS:=(274,.dat false vp)::L47
theorem h48:qHL L48:=Qa h47 sK274
theorem cK215:check qPp 215=some (72,(uf 269 270 271 272 273 274).strip,[.tmp 4]):=by kernel_rfl
theorem sK215:Sound qPp 215 (.dat false zy):=by
  apply V5 (hc:=cK215) h48<;>first|exact qrS|skip
  all_goals decide
def L49:qLS:=(215,.dat false zy)::L48
theorem h49:qHL L49:=Qa h48 sK215
theorem cK214:check qPp 214=some (14,(Ye 269).strip,[.cell 4 2 true]):=by kernel_rfl
theorem sK214:Sound qPp 214 (.dat false Yf):=by
  apply jT (hc:=cK214) h49<;>first|exact qrS|skip
  all_goals decide
def L50:qLS:=(214,.dat false Yf)::L49
theorem h50:qHL L50:=Qa h49 sK214
theorem cK136:check qPp 136=some (11,(qg 216 215 214).strip,[.cell 4 2 true]):=by kernel_rfl
theorem sK136:Sound qPp 136 (.dat false xq):=by
  apply QV (hc:=cK136) h50<;>first|exact qrS|skip
  all_goals decide
def L51:qLS:=(136,.dat false xq)::L50
theorem h51:qHL L51:=Qa h50 sK136
theorem cK217:check qPp 217=some (19,(vk 214).strip,[.cell 2 2 true]):=by kernel_rfl
theorem sK217:Sound qPp 217 (.dat false wO):=by
  apply xX (hc:=cK217) h51<;>first|exact qrS|skip
  all_goals decide
def L52:qLS:=(217,.dat false wO)::L51
theorem h52:qHL L52:=Qa h51 sK217
theorem cK137:check qPp 137=some (2,(qh 217).strip,[.cell 0 2 true]):=by kernel_rfl
theorem sK137:Sound qPp 137 (.dat false Wn):=by
  apply uK (hc:=cK137) h52<;>first|exact qrS|skip
  all_goals decide
def L53:qLS:=(137,.dat false Wn)::L52
theorem h53:qHL L53:=Qa h52 sK137
theorem cK239:check qPp 239=some (9,(Ui 275).strip,[.tmp 2]):=by kernel_rfl
theorem sK239:Sound qPp 239 (.dat true yh):=by
  apply QC (hc:=cK239) h53<;>first|exact qrS|skip
  all_goals decide
def L54:qLS:=(239,.dat true yh)::L53
theorem h54:qHL L54:=Qa h53 sK239
theorem cK268:check qPp 268=some (9,(xi 239 216 214).strip,[.cell 2 2 true]):=by kernel_rfl
theorem sK268:Sound qPp 268 (.dat false Vs):=by
  apply uI (hc:=cK268) h54<;>first|exact qrS|skip
  all_goals decide
def L55:qLS:=(268,.dat false Vs)::L54
theorem h55:qHL L55:=Qa h54 sK268
theorem cK328:check qPp 328=some (35,(je 329 269).strip,[.tmp 4]):=by kernel_rfl
theorem sK328:Sound qPp 328 (.dat false Yp):=by
  apply zP (hc:=cK328) h55<;>first|exact qrS|skip
  all_goals decide
def L56:qLS:=(328,.dat false Yp)::L55
theorem h56:qHL L56:=Qa h55 sK328
theorem cK267:check qPp 267=some (38,(xf 216 239 274 214 271 328).strip,[.cell 4 2 true]):=by kernel_rfl
theorem sK267:Sound qPp 267 (.dat false Qs):=by
  apply QR (hc:=cK267) h56<;>first|exact qrS|skip
  all_goals decide
def L57:qLS:=(267,.dat false Qs)::L56
theorem h57:qHL L57:=Qa h56 sK267
theorem cK213:check qPp 213=some (9,(kf 268 267).strip,[.cell 4 2 true]):=by kernel_rfl
theorem sK213:Sound qPp 213 (.dat false WJ):=by
  apply ZR (hc:=cK213) h57<;>first|exact qrS|skip
  all_goals decide
def L58:qLS:=(213,.dat false WJ)::L57
theorem h58:qHL L58:=Qa h57 sK213
theorem cK168:check qPp 168=some (9,(xe 216 239).strip,[.tmp 2]):=by kernel_rfl
theorem sK168:Sound qPp 168 (.dat true Wi):=by
  apply VM (hc:=cK168) h58<;>first|exact qrS|skip
  all_goals decide
def L59:qLS:=(168,.dat true Wi)::L58
theorem h59:qHL L59:=Qa h58 sK168
theorem cK135:check qPp 135=some (9,(Uf 213 168).strip,[.tmp 4]):=by kernel_rfl
theorem sK135:Sound qPp 135 (.dat true Vr):=by
  apply vW (hc:=cK135) h59<;>first|exact qrS|skip
  all_goals decide
def L60:qLS:=(135,.dat true Vr)::L59
theorem h60:qHL L60:=Qa h59 sK135
theorem cK58:check qPp 58=some (36,(qe 134 136 137 135).strip,[.tmp 2]):=by kernel_rfl
theorem sK58:Sound qPp 58 (.dat true yd):=by
  apply QH (hc:=cK58) h60<;>first|exact qrS|skip
  all_goals decide
def L61:qLS:=(58,.dat true yd)::L60
theorem h61:qHL L61:=Qa h60 sK58
theorem cK36:check qPp 36=some (24,Xg.strip,[.tmp 2]):=by kernel_rfl
theorem sK36:Sound qPp 36 (.dat true Wq):=by
  apply V3 (hc:=cK36) h61<;>first|exact qrS|skip
  all_goals decide
def L62:qLS:=(36,.dat true Wq)::L61
theorem h62:qHL L62:=Qa h61 sK36
theorem cK167:check qPp 167=some (23,(Ve 58 137).strip,[.cell 2 2 true,.cell 3 2 true]):=by kernel_rfl
theorem sK167:Sound qPp 167 (.dat false ye):=by
  apply ZH (hc:=cK167) h62<;>first|exact qrS|skip
  all_goals decide
def L63:qLS:=(167,.dat false ye)::L62
theorem h63:qHL L63:=Qa h62 sK167
theorem cK90:check qPp 90=some (12,(kg 167 168).strip,[.tmp 2]):=by kernel_rfl
theorem sK90:Sound qPp 90 (.dat true Wj):=by
  apply zF (hc:=cK90) h63<;>first|exact qrS|skip
  all_goals decide
def L64:qLS:=(90,.dat true Wj)::L63
theorem h64:qHL L64:=Qa h63 sK90
theorem cK57:check qPp 57=some (32,(yf 58 36 90).strip,[.tmp 2]):=by kernel_rfl
theorem sK57:Sound qPp 57 (.dat true Xq):=by
  apply zQ (hc:=cK57) h64<;>first|exact qrS|skip
  all_goals decide
def L65:qLS:=(57,.dat true Xq)::L64
theorem h65:qHL L65:=Qa h64 sK57
theorem cK19:check qPp 19=some (32,(Yb 57 58 36).strip,[.tmp 2]):=by kernel_rfl
theorem sK19:Sound qPp 19 (.dat true XK):=by
  apply qan (hc:=cK19) h65<;>first|exact qrS|skip
  all_goals decide
def L66:qLS:=(19,.dat true XK)::L65
theorem h66:qHL L66:=Qa h65 sK19
theorem cK37:check qPp 37=some (17,(Xb 58 90).strip,[.tmp 2]):=by kernel_rfl
theorem sK37:Sound qPp 37 (.dat true xw):=by
  apply J2 (hc:=cK37) h66<;>first|exact qrS|skip
  all_goals decide
def L67:qLS:=(37,.dat true xw)::L66
theorem h67:qHL L67:=Qa h66 sK37
theorem cK20:check qPp 20=some (13,(zd 37 36).strip,[.tmp 2]):=by kernel_rfl
theorem sK20:Sound qPp 20 (.dat true Xw):=by
  apply ZZ (hc:=cK20) h67<;>first|exact qrS|skip
  all_goals decide
def L68:qLS:=(20,.dat true Xw)::L67
theorem h68:qHL L68:=Qa h67 sK20
theorem sK5:Sound qPp 5 (.dat true yn):=out_sound ⟨sK67,sK66,sK60,sK65,sK44,sK62,sK63,sK108,sK34⟩ (awk_sound sK67 sK66 sK60 sK65 sK44 sK62 sK63 sK108 sK34) sK19 sK20 (Xa Tryz.func5 (by kernel_rfl) rfl)
def L69:qLS:=(5,.dat true yn)::L68
theorem h69:qHL L69:=Qa h68 sK5
theorem hold:qHL L69:=h69
end Go.Abs
