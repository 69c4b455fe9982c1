/-
  Parts of the proof, merged: WhoJ, WhoA.
-/
import Derived.Test.YtfichbefnpcdeaaGreatM18
import Derived.Test.YtfichbefnpcdeaaGreatChecked
set_option linter.unusedVariables false
set_option linter.unusedSimpArgs false
set_option linter.unnecessarySimpa false
set_option maxRecDepth 100000
section
namespace Go.Abs.Wp
open Go.Proofs
noncomputable section
def seL:Code->Code
 | .seq a _=>a
 | c=>c
def seR:Code->Code
 | .seq _ b=>b
 | c=>c
def bkC:Code->Code
 | .block _ c=>c
 | c=>c
def rfA:Code->Code
 | .rangeFunc _ _ a _=>a
 | c=>c
def rfB:Code->Code
 | .rangeFunc _ _ _ b=>b
 | c=>c
def bodyOf(f:Func):Code:=f.body.getD .skip
noncomputable def K291:Code:=bodyOf Tryz.f291
noncomputable def kc0:Code:=seL K291
noncomputable def kc1:Code:=seL (seL (seR K291))
noncomputable def kRF:Code:=bkC (seR (seL (seR K291)))
noncomputable def kc2:Code:=seR (seR K291)
noncomputable def kR4:Code:=seL (bkC (rfB kRF))
def opsOf:Code->Array Oper
 | .region _ ops _=>ops
 | _=>#[]
def pB:AC:=.block 1 (.seq (.ops true pL) pR)
end
theorem en350:Enters Tryz.prog 350:=Vd Tryz.func350 (by kernel_rfl) rfl
theorem en291:Enters Tryz.prog 291:=Vd Tryz.func291 (by kernel_rfl) rfl
theorem hb291:Tryz.f291.body=some (.seq kc0 (.seq (.seq kc1 (.block 0 (.rangeFunc (.tmp 10) #[11,12] (rfA kRF) (rfB kRF)))) kc2)):=by kernel_rfl
theorem k0:compile Tryz.prog 42 kc0=some p0:=by kernel_rfl
theorem k1:compile Tryz.prog 42 kc1=some p1:=by kernel_rfl
theorem k2:compile Tryz.prog 42 kc2=some p2:=by kernel_rfl
theorem kA:compile Tryz.prog 42 (rfA kRF)=some pA:=by kernel_rfl
theorem kB:compile Tryz.prog 42 (rfB kRF)=some pB:=by kernel_rfl
theorem kI:compile Tryz.prog 42 (bodyOf Tryz.f350)=some pI:=by kernel_rfl
theorem rnd:Rnd Tryz.prog 42 11 12 (rfA kRF) pA:=⟨kA,by kernel_rfl,by kernel_rfl,by decide,by decide,by decide⟩
theorem pcode:PairCode Tryz.prog 291 350 0 10 11 12 42 42 Tryz.f291 Tryz.f350 kc0 kc1 (rfA kRF) (rfB kRF) kc2 (bodyOf Tryz.f350) p0 p1 pA p2 rvP:=
 ⟨Tryz.func291,hb291,by kernel_rfl,k0,k1,k2,⟨by kernel_rfl,by kernel_rfl,by kernel_rfl⟩,⟨by kernel_rfl,by kernel_rfl,by kernel_rfl⟩,rnd,by kernel_rfl,Tryz.func350,by kernel_rfl,by kernel_rfl,⟨by decide,by decide⟩,by kernel_rfl,en350,by decide⟩
theorem an291:anc (opsOf kR4)=an4/\(opsOf kR4).size=pL.length:=⟨by kernel_rfl,by kernel_rfl⟩
theorem hR4:rfB kRF=.block 1 (.seq (.region 4 (opsOf kR4) true) (seR (bkC (rfB kRF)))):=by kernel_rfl
theorem pqB{P:Program}(hP:P=Tryz.prog)(hL:LvOk P L0):PqOk P 291 qB:=by
 subst hP;refine Ua6 hL pcode (once:=false) (cap:=cB) (by decide) (by simp [cB]) (s2:=s2 qB) (i1:=jB) (λv x=>congrFun (congrFun begB v) x) (λv x=>?_) (λv x l=>congrFun (congrFun (congrFun finB v) x) l)
 exact Wan hL (n:=fu) (e:=.nrm) kI (by kernel_rfl) (by kernel_rfl) (λi h=>by cases h) (λl=>congrFun (congrFun (congrFun runB v) x) l)
theorem walkA{F:Fence}(hF:Wd F)(hL:LvOk Tryz.prog L0)(v:Tr)(x:List Tr)(l:Nat):Walks F Tryz.prog 42 (rfB kRF) (uA v x l) .ret (wA v x l):=by
 refine xak hL hF (n:=fu) (n2:=9) (l:=pL) (rest:=pR) (an:=an4) (t1:=vA v x l) (ts:=List.replicate 40 (vA v x l)) kB (λid ops y h=>?_) (by kernel_rfl) (by kernel_rfl) (congrFun (congrFun (congrFun allA v) x) l) (λy hy=>(List.mem_replicate.1 hy).2) (congrFun (congrFun (congrFun bodA v) x) l)
 rw [hR4]at h;injection h with _ h
 injection h with h _
 injection h with _ h _
 rw [<-h];exact an291
theorem pqA{P:Program}(hP:P=Tryz.prog)(hL:LvOk P L0):PqOk P 291 qA:=by
 subst hP;refine Ua6 hL pcode (once:=true) (cap:=cA) (by decide) (by simp [cA]) (s2:=s2 qA) (i1:=jA) (λv x=>congrFun (congrFun begA v) x) (λv x=>?_) (λv x l=>congrFun (congrFun (congrFun finA v) x) l)
 refine Qat (b0:=0) (b1:=pC.b1) (b2:=pC.b2) (b3:=pC.b3) (r0:=pC.r0) (r1:=pC.r1) (cn1:=pC.cn1) (r2:=pC.r2) (r3:=pC.r3) (r45:=pC.r45) (cn6:=pC.cn6) (r5:=pC.r5) (r7:=pC.r7) (l1:=pC.l1) (l2:=pC.l2) (d:=pC.d) (g:=pC.g) (j:=pC.j) (p:=pC.p) (q:=pC.q) hL (n:=fu) rnd kI (by kernel_rfl) (by kernel_rfl) ⟨by kernel_rfl,by kernel_rfl⟩ (by decide) (by decide) λl=>?_
 exact XaP (c:=pC) (congrFun (congrFun (congrFun preA v) x) l) (walkA (.inr ⟨l,rfl⟩) hL v x l) (congrFun (congrFun (congrFun posA v) x) l)
end Go.Abs.Wp
end
section
namespace Go.Abs.Wp
open Go.Proofs Go.Num
theorem ck7:check Tryz.prog 7=some (57,b7,[.tmp 0]):=by kernel_rfl
theorem ck11:check Tryz.prog 11=some (29,b11,[.tmp 4,.tmp 5]):=by kernel_rfl
theorem ck14:check Tryz.prog 14=some (49,b14,[.tmp 6,.cell 7 2 true,.tmp 8]):=by kernel_rfl
theorem ck21:check Tryz.prog 21=some (61,b21,[.cell 2 4 true]):=by kernel_rfl
theorem ck40:check Tryz.prog 40=some (33,b40,[.tmp 2]):=by kernel_rfl
theorem ck46:check Tryz.prog 46=some (43,b46,[.tmp 4,.tmp 5]):=by kernel_rfl
theorem ck47:check Tryz.prog 47=some (85,b47,[.tmp 4]):=by kernel_rfl
theorem ck48:check Tryz.prog 48=some (19,b48,[.cell 2 3 true]):=by kernel_rfl
theorem ck51:check Tryz.prog 51=some (18,b51,[.tmp 2]):=by kernel_rfl
theorem ck52:check Tryz.prog 52=some (49,b52,[.cell 6 2 true]):=by kernel_rfl
theorem ck54:check Tryz.prog 54=some (17,b54,[.tmp 4,.tmp 5]):=by kernel_rfl
theorem ck59:check Tryz.prog 59=some (11,b59,[.cell 6 7 true]):=by kernel_rfl
theorem ck71:check Tryz.prog 71=some (43,b71,[.tmp 2]):=by kernel_rfl
theorem ck72:check Tryz.prog 72=some (54,b72,[.cell 8 2 true,.tmp 9]):=by kernel_rfl
theorem ck73:check Tryz.prog 73=some (22,b73,[.tmp 6,.tmp 7]):=by kernel_rfl
theorem ck74:check Tryz.prog 74=some (22,b74,[.tmp 6,.tmp 7]):=by kernel_rfl
theorem ck75:check Tryz.prog 75=some (21,b75,[.tmp 6,.tmp 7]):=by kernel_rfl
theorem ck94:check Tryz.prog 94=some (18,b94,[.tmp 2]):=by kernel_rfl
theorem ck95:check Tryz.prog 95=some (85,b95,[.tmp 2]):=by kernel_rfl
theorem ck96:check Tryz.prog 96=some (49,b96,[.tmp 2]):=by kernel_rfl
theorem ck97:check Tryz.prog 97=some (72,b97,[.tmp 2]):=by kernel_rfl
theorem ck101:check Tryz.prog 101=some (31,b101,[.tmp 2,.tmp 3]):=by kernel_rfl
theorem ck102:check Tryz.prog 102=some (5,b102,[.tmp 4]):=by kernel_rfl
theorem ck103:check Tryz.prog 103=some (57,b103,[.cell 2 3 true]):=by kernel_rfl
theorem ck104:check Tryz.prog 104=some (50,b104,[.tmp 8,.tmp 9]):=by kernel_rfl
theorem ck105:check Tryz.prog 105=some (17,b105,[.cell 4 4 true]):=by kernel_rfl
theorem ck106:check Tryz.prog 106=some (42,b106,[.cell 6 3 true]):=by kernel_rfl
theorem ck107:check Tryz.prog 107=some (8,b107,[.tmp 2]):=by kernel_rfl
theorem ck109:check Tryz.prog 109=some (20,b109,[.tmp 4]):=by kernel_rfl
theorem ck110:check Tryz.prog 110=some (22,b110,[.tmp 5]):=by kernel_rfl
theorem ck111:check Tryz.prog 111=some (49,b111,[.tmp 4]):=by kernel_rfl
theorem ck112:check Tryz.prog 112=some (33,b112,[.tmp 4]):=by kernel_rfl
theorem ck113:check Tryz.prog 113=some (20,b113,[.tmp 4]):=by kernel_rfl
theorem ck114:check Tryz.prog 114=some (12,b114,[.tmp 6]):=by kernel_rfl
theorem ck115:check Tryz.prog 115=some (81,b115,[.tmp 6]):=by kernel_rfl
theorem ck116:check Tryz.prog 116=some (20,b116,[.tmp 4]):=by kernel_rfl
theorem ck117:check Tryz.prog 117=some (21,b117,[.tmp 6]):=by kernel_rfl
theorem ck118:check Tryz.prog 118=some (38,b118,[.tmp 6]):=by kernel_rfl
theorem ck119:check Tryz.prog 119=some (121,b119,[.tmp 8,.tmp 9]):=by kernel_rfl
theorem ck121:check Tryz.prog 121=some (46,b121,[.cell 2 14 true,.cell 3 14 true]):=by kernel_rfl
theorem ck122:check Tryz.prog 122=some (17,b122,[.cell 6 2 true]):=by kernel_rfl
theorem ck123:check Tryz.prog 123=some (17,b123,[.tmp 6]):=by kernel_rfl
theorem ck124:check Tryz.prog 124=some (14,b124,[.tmp 6,.tmp 7]):=by kernel_rfl
theorem ck127:check Tryz.prog 127=some (14,b127,[.tmp 6,.tmp 7]):=by kernel_rfl
theorem ck130:check Tryz.prog 130=some (45,b130,[.cell 6 2 true]):=by kernel_rfl
theorem ck131:check Tryz.prog 131=some (27,b131,[.tmp 4]):=by kernel_rfl
theorem ck132:check Tryz.prog 132=some (64,b132,[.tmp 4]):=by kernel_rfl
theorem ck145:check Tryz.prog 145=some (34,b145,[.tmp 4]):=by kernel_rfl
theorem ck146:check Tryz.prog 146=some (31,b146,[.tmp 4]):=by kernel_rfl
theorem ck147:check Tryz.prog 147=some (57,b147,[.cell 8 2 true,.tmp 9]):=by kernel_rfl
theorem ck148:check Tryz.prog 148=some (10,b148,[.cell 4 2 true]):=by kernel_rfl
theorem ck149:check Tryz.prog 149=some (39,b149,[.cell 6 2 true,.tmp 7]):=by kernel_rfl
theorem ck150:check Tryz.prog 150=some (45,b150,[.tmp 2]):=by kernel_rfl
theorem ck151:check Tryz.prog 151=some (37,b151,[.tmp 4]):=by kernel_rfl
theorem ck152:check Tryz.prog 152=some (23,b152,[.tmp 2]):=by kernel_rfl
theorem ck153:check Tryz.prog 153=some (100,b153,[.tmp 6]):=by kernel_rfl
theorem ck173:check Tryz.prog 173=some (25,b173,[.tmp 2]):=by kernel_rfl
theorem ck174:check Tryz.prog 174=some (107,b174,[.tmp 4]):=by kernel_rfl
theorem ck175:check Tryz.prog 175=some (12,b175,[.tmp 4]):=by kernel_rfl
theorem ck178:check Tryz.prog 178=some (105,b178,[.tmp 2,.tmp 3]):=by kernel_rfl
theorem ck179:check Tryz.prog 179=some (9,b179,[.tmp 4]):=by kernel_rfl
theorem ck181:check Tryz.prog 181=some (20,b181,[.tmp 2]):=by kernel_rfl
theorem ck182:check Tryz.prog 182=some (82,b182,[.tmp 4,.tmp 5]):=by kernel_rfl
theorem ck183:check Tryz.prog 183=some (60,b183,[.tmp 2,.tmp 3]):=by kernel_rfl
theorem ck188:check Tryz.prog 188=some (10,b188,[.tmp 4]):=by kernel_rfl
theorem ck189:check Tryz.prog 189=some (23,b189,[.tmp 6]):=by kernel_rfl
theorem ck190:check Tryz.prog 190=some (34,b190,[.cell 8 2 true,.tmp 9]):=by kernel_rfl
theorem ck191:check Tryz.prog 191=some (52,b191,[.tmp 6,.tmp 7]):=by kernel_rfl
theorem ck193:check Tryz.prog 193=some (19,b193,[.cell 2 3 true,.tmp 3]):=by kernel_rfl
theorem ck194:check Tryz.prog 194=some (19,b194,[.cell 2 3 true,.tmp 3]):=by kernel_rfl
theorem ck195:check Tryz.prog 195=some (72,b195,[.tmp 4,.tmp 5]):=by kernel_rfl
theorem ck196:check Tryz.prog 196=some (11,b196,[]):=by kernel_rfl
theorem ck197:check Tryz.prog 197=some (17,b197,[.tmp 4,.tmp 5]):=by kernel_rfl
theorem ck198:check Tryz.prog 198=some (50,b198,[.cell 6 6 true,.cell 7 2 true]):=by kernel_rfl
theorem ck199:check Tryz.prog 199=some (34,b199,[.cell 4 6 true]):=by kernel_rfl
theorem ck200:check Tryz.prog 200=some (32,b200,[.tmp 8,.tmp 9]):=by kernel_rfl
theorem ck201:check Tryz.prog 201=some (21,b201,[.tmp 6]):=by kernel_rfl
theorem ck202:check Tryz.prog 202=some (25,b202,[.tmp 4]):=by kernel_rfl
theorem ck203:check Tryz.prog 203=some (17,b203,[.cell 4 2 true,.tmp 5]):=by kernel_rfl
theorem ck204:check Tryz.prog 204=some (20,b204,[.cell 6 2 true]):=by kernel_rfl
theorem ck205:check Tryz.prog 205=some (25,b205,[.cell 6 6 true]):=by kernel_rfl
theorem ck206:check Tryz.prog 206=some (21,b206,[.tmp 6]):=by kernel_rfl
theorem ck207:check Tryz.prog 207=some (16,b207,[.cell 4 6 true]):=by kernel_rfl
theorem ck209:check Tryz.prog 209=some (7,b209,[.tmp 2]):=by kernel_rfl
theorem ck210:check Tryz.prog 210=some (17,b210,[.tmp 2]):=by kernel_rfl
theorem ck223:check Tryz.prog 223=some (18,b223,[.tmp 6]):=by kernel_rfl
theorem ck224:check Tryz.prog 224=some (18,b224,[.tmp 6]):=by kernel_rfl
theorem ck225:check Tryz.prog 225=some (18,b225,[.tmp 6]):=by kernel_rfl
theorem ck226:check Tryz.prog 226=some (28,b226,[.tmp 2]):=by kernel_rfl
theorem ck227:check Tryz.prog 227=some (26,b227,[.tmp 2]):=by kernel_rfl
theorem ck228:check Tryz.prog 228=some (12,b228,[.tmp 4]):=by kernel_rfl
theorem ck229:check Tryz.prog 229=some (15,b229,[.tmp 2]):=by kernel_rfl
theorem ck230:check Tryz.prog 230=some (14,b230,[.tmp 6]):=by kernel_rfl
theorem ck242:check Tryz.prog 242=some (17,b242,[.tmp 2]):=by kernel_rfl
theorem ck243:check Tryz.prog 243=some (13,b243,[.tmp 2]):=by kernel_rfl
theorem ck244:check Tryz.prog 244=some (26,b244,[.cell 2 4 true,.tmp 3]):=by kernel_rfl
theorem ck245:check Tryz.prog 245=some (19,b245,[.tmp 4]):=by kernel_rfl
theorem ck246:check Tryz.prog 246=some (84,b246,[.cell 10 4 true]):=by kernel_rfl
theorem ck247:check Tryz.prog 247=some (37,b247,[.cell 2 1 true]):=by kernel_rfl
theorem ck248:check Tryz.prog 248=some (5,b248,[.tmp 2]):=by kernel_rfl
theorem ck249:check Tryz.prog 249=some (131,b249,[.cell 6 2 true,.tmp 7]):=by kernel_rfl
theorem ck250:check Tryz.prog 250=some (12,b250,[.cell 2 3 true]):=by kernel_rfl
theorem ck251:check Tryz.prog 251=some (89,b251,[.tmp 4,.tmp 5]):=by kernel_rfl
theorem ck255:check Tryz.prog 255=some (63,b255,[.cell 4 1 true,.tmp 5,.tmp 6]):=by kernel_rfl
theorem ck257:check Tryz.prog 257=some (18,b257,[.tmp 6]):=by kernel_rfl
theorem ck258:check Tryz.prog 258=some (10,b258,[.tmp 4]):=by kernel_rfl
theorem ck259:check Tryz.prog 259=some (23,b259,[.tmp 6,.tmp 7]):=by kernel_rfl
theorem ck260:check Tryz.prog 260=some (16,b260,[.tmp 4,.tmp 5]):=by kernel_rfl
theorem ck262:check Tryz.prog 262=some (32,b262,[.cell 2 3 true,.cell 3 3 true]):=by kernel_rfl
theorem ck263:check Tryz.prog 263=some (9,b263,[.tmp 4]):=by kernel_rfl
theorem ck264:check Tryz.prog 264=some (134,b264,[]):=by kernel_rfl
theorem ck265:check Tryz.prog 265=some (8,b265,[.tmp 2]):=by kernel_rfl
theorem ck266:check Tryz.prog 266=some (16,b266,[.cell 4 3 true]):=by kernel_rfl
theorem ck278:check Tryz.prog 278=some (17,b278,[.tmp 6]):=by kernel_rfl
theorem ck279:check Tryz.prog 279=some (17,b279,[.cell 4 3 true]):=by kernel_rfl
theorem ck290:check Tryz.prog 290=some (41,b290,[.cell 2 4 true,.tmp 3]):=by kernel_rfl
theorem ck292:check Tryz.prog 292=some (53,b292,[.cell 2 4 true,.tmp 3]):=by kernel_rfl
theorem ck293:check Tryz.prog 293=some (18,b293,[.tmp 6]):=by kernel_rfl
theorem ck294:check Tryz.prog 294=some (9,b294,[.tmp 4]):=by kernel_rfl
theorem ck295:check Tryz.prog 295=some (8,b295,[.tmp 2]):=by kernel_rfl
theorem ck296:check Tryz.prog 296=some (30,b296,[.tmp 4]):=by kernel_rfl
theorem ck297:check Tryz.prog 297=some (45,b297,[.tmp 6,.tmp 7]):=by kernel_rfl
theorem ck298:check Tryz.prog 298=some (26,b298,[.tmp 4]):=by kernel_rfl
theorem ck300:check Tryz.prog 300=some (20,b300,[.cell 4 2 true,.tmp 5]):=by kernel_rfl
theorem ck301:check Tryz.prog 301=some (18,b301,[.tmp 6]):=by kernel_rfl
theorem ck302:check Tryz.prog 302=some (13,b302,[.tmp 6]):=by kernel_rfl
theorem ck303:check Tryz.prog 303=some (28,b303,[.cell 8 2 true]):=by kernel_rfl
theorem ck304:check Tryz.prog 304=some (18,b304,[.tmp 6]):=by kernel_rfl
theorem ck305:check Tryz.prog 305=some (18,b305,[.tmp 6]):=by kernel_rfl
theorem ck306:check Tryz.prog 306=some (34,b306,[.tmp 4]):=by kernel_rfl
theorem ck307:check Tryz.prog 307=some (23,b307,[.tmp 4]):=by kernel_rfl
theorem ck308:check Tryz.prog 308=some (9,b308,[.tmp 4]):=by kernel_rfl
theorem ck309:check Tryz.prog 309=some (29,b309,[.tmp 4]):=by kernel_rfl
theorem ck310:check Tryz.prog 310=some (17,b310,[.tmp 6]):=by kernel_rfl
theorem ck311:check Tryz.prog 311=some (18,b311,[.tmp 6]):=by kernel_rfl
theorem ck313:check Tryz.prog 313=some (21,b313,[.tmp 4,.tmp 5]):=by kernel_rfl
theorem ck314:check Tryz.prog 314=some (13,b314,[.tmp 2]):=by kernel_rfl
theorem ck315:check Tryz.prog 315=some (29,b315,[.tmp 6,.tmp 7]):=by kernel_rfl
theorem ck316:check Tryz.prog 316=some (19,b316,[.tmp 4]):=by kernel_rfl
theorem ck317:check Tryz.prog 317=some (49,b317,[]):=by kernel_rfl
theorem ck323:check Tryz.prog 323=some (17,b323,[.tmp 4]):=by kernel_rfl
theorem ck327:check Tryz.prog 327=some (25,b327,[.tmp 2]):=by kernel_rfl
theorem ck332:check Tryz.prog 332=some (13,b332,[.tmp 6]):=by kernel_rfl
theorem ck334:check Tryz.prog 334=some (16,b334,[.tmp 8]):=by kernel_rfl
theorem ck336:check Tryz.prog 336=some (23,b336,[.tmp 4]):=by kernel_rfl
theorem ck337:check Tryz.prog 337=some (19,b337,[.tmp 4]):=by kernel_rfl
theorem ck338:check Tryz.prog 338=some (34,b338,[.tmp 6,.tmp 7]):=by kernel_rfl
theorem ck339:check Tryz.prog 339=some (40,b339,[.cell 2 1 true]):=by kernel_rfl
theorem ck340:check Tryz.prog 340=some (57,b340,[.tmp 4]):=by kernel_rfl
theorem ck346:check Tryz.prog 346=some (6,b346,[.tmp 2]):=by kernel_rfl
theorem ck349:check Tryz.prog 349=some (12,b349,[.tmp 4]):=by kernel_rfl
theorem ck351:check Tryz.prog 351=some (19,b351,[.tmp 4]):=by kernel_rfl
theorem ck352:check Tryz.prog 352=some (23,b352,[.tmp 5]):=by kernel_rfl
theorem ck353:check Tryz.prog 353=some (18,b353,[.tmp 4]):=by kernel_rfl
theorem ck333:check Tryz.prog 333=some (4,b333,[.tmp 2]):=by kernel_rfl
theorem ck335:check Tryz.prog 335=some (7,b335,[.tmp 3]):=by kernel_rfl
theorem ck180:check Tryz.prog 180=some (8,b180,[.tmp 2]):=by kernel_rfl
theorem ck186:check Tryz.prog 186=some (8,b186,[.tmp 2]):=by kernel_rfl
theorem ckAll:∀e∈bodies,check Tryz.prog e.1=some e.2:=List.forall_mem_cons.2 ⟨ck7,List.forall_mem_cons.2 ⟨ck11,List.forall_mem_cons.2 ⟨ck14,List.forall_mem_cons.2 ⟨ck21,List.forall_mem_cons.2 ⟨ck40,List.forall_mem_cons.2 ⟨ck46,List.forall_mem_cons.2 ⟨ck47,List.forall_mem_cons.2 ⟨ck48,List.forall_mem_cons.2 ⟨ck51,List.forall_mem_cons.2 ⟨ck52,List.forall_mem_cons.2 ⟨ck54,List.forall_mem_cons.2 ⟨ck59,List.forall_mem_cons.2 ⟨ck71,List.forall_mem_cons.2 ⟨ck72,List.forall_mem_cons.2 ⟨ck73,List.forall_mem_cons.2 ⟨ck74,List.forall_mem_cons.2 ⟨ck75,List.forall_mem_cons.2 ⟨ck94,List.forall_mem_cons.2 ⟨ck95,List.forall_mem_cons.2 ⟨ck96,List.forall_mem_cons.2 ⟨ck97,List.forall_mem_cons.2 ⟨ck101,List.forall_mem_cons.2 ⟨ck102,List.forall_mem_cons.2 ⟨ck103,List.forall_mem_cons.2 ⟨ck104,List.forall_mem_cons.2 ⟨ck105,List.forall_mem_cons.2 ⟨ck106,List.forall_mem_cons.2 ⟨ck107,List.forall_mem_cons.2 ⟨ck109,List.forall_mem_cons.2 ⟨ck110,List.forall_mem_cons.2 ⟨ck111,List.forall_mem_cons.2 ⟨ck112,List.forall_mem_cons.2 ⟨ck113,List.forall_mem_cons.2 ⟨ck114,List.forall_mem_cons.2 ⟨ck115,List.forall_mem_cons.2 ⟨ck116,List.forall_mem_cons.2 ⟨ck117,List.forall_mem_cons.2 ⟨ck118,List.forall_mem_cons.2 ⟨ck119,List.forall_mem_cons.2 ⟨ck121,List.forall_mem_cons.2 ⟨ck122,List.forall_mem_cons.2 ⟨ck123,List.forall_mem_cons.2 ⟨ck124,List.forall_mem_cons.2 ⟨ck127,List.forall_mem_cons.2 ⟨ck130,List.forall_mem_cons.2 ⟨ck131,List.forall_mem_cons.2 ⟨ck132,List.forall_mem_cons.2 ⟨ck145,List.forall_mem_cons.2 ⟨ck146,List.forall_mem_cons.2 ⟨ck147,List.forall_mem_cons.2 ⟨ck148,List.forall_mem_cons.2 ⟨ck149,List.forall_mem_cons.2 ⟨ck150,List.forall_mem_cons.2 ⟨ck151,List.forall_mem_cons.2 ⟨ck152,List.forall_mem_cons.2 ⟨ck153,List.forall_mem_cons.2 ⟨ck173,List.forall_mem_cons.2 ⟨ck174,List.forall_mem_cons.2 ⟨ck175,List.forall_mem_cons.2 ⟨ck178,List.forall_mem_cons.2 ⟨ck179,List.forall_mem_cons.2 ⟨ck181,List.forall_mem_cons.2 ⟨ck182,List.forall_mem_cons.2 ⟨ck183,List.forall_mem_cons.2 ⟨ck188,List.forall_mem_cons.2 ⟨ck189,List.forall_mem_cons.2 ⟨ck190,List.forall_mem_cons.2 ⟨ck191,List.forall_mem_cons.2 ⟨ck193,List.forall_mem_cons.2 ⟨ck194,List.forall_mem_cons.2 ⟨ck195,List.forall_mem_cons.2 ⟨ck196,List.forall_mem_cons.2 ⟨ck197,List.forall_mem_cons.2 ⟨ck198,List.forall_mem_cons.2 ⟨ck199,List.forall_mem_cons.2 ⟨ck200,List.forall_mem_cons.2 ⟨ck201,List.forall_mem_cons.2 ⟨ck202,List.forall_mem_cons.2 ⟨ck203,List.forall_mem_cons.2 ⟨ck204,List.forall_mem_cons.2 ⟨ck205,List.forall_mem_cons.2 ⟨ck206,List.forall_mem_cons.2 ⟨ck207,List.forall_mem_cons.2 ⟨ck209,List.forall_mem_cons.2 ⟨ck210,List.forall_mem_cons.2 ⟨ck223,List.forall_mem_cons.2 ⟨ck224,List.forall_mem_cons.2 ⟨ck225,List.forall_mem_cons.2 ⟨ck226,List.forall_mem_cons.2 ⟨ck227,List.forall_mem_cons.2 ⟨ck228,List.forall_mem_cons.2 ⟨ck229,List.forall_mem_cons.2 ⟨ck230,List.forall_mem_cons.2 ⟨ck242,List.forall_mem_cons.2 ⟨ck243,List.forall_mem_cons.2 ⟨ck244,List.forall_mem_cons.2 ⟨ck245,List.forall_mem_cons.2 ⟨ck246,List.forall_mem_cons.2 ⟨ck247,List.forall_mem_cons.2 ⟨ck248,List.forall_mem_cons.2 ⟨ck249,List.forall_mem_cons.2 ⟨ck250,List.forall_mem_cons.2 ⟨ck251,List.forall_mem_cons.2 ⟨ck255,List.forall_mem_cons.2 ⟨ck257,List.forall_mem_cons.2 ⟨ck258,List.forall_mem_cons.2 ⟨ck259,List.forall_mem_cons.2 ⟨ck260,List.forall_mem_cons.2 ⟨ck262,List.forall_mem_cons.2 ⟨ck263,List.forall_mem_cons.2 ⟨ck264,List.forall_mem_cons.2 ⟨ck265,List.forall_mem_cons.2 ⟨ck266,List.forall_mem_cons.2 ⟨ck278,List.forall_mem_cons.2 ⟨ck279,List.forall_mem_cons.2 ⟨ck290,List.forall_mem_cons.2 ⟨ck292,List.forall_mem_cons.2 ⟨ck293,List.forall_mem_cons.2 ⟨ck294,List.forall_mem_cons.2 ⟨ck295,List.forall_mem_cons.2 ⟨ck296,List.forall_mem_cons.2 ⟨ck297,List.forall_mem_cons.2 ⟨ck298,List.forall_mem_cons.2 ⟨ck300,List.forall_mem_cons.2 ⟨ck301,List.forall_mem_cons.2 ⟨ck302,List.forall_mem_cons.2 ⟨ck303,List.forall_mem_cons.2 ⟨ck304,List.forall_mem_cons.2 ⟨ck305,List.forall_mem_cons.2 ⟨ck306,List.forall_mem_cons.2 ⟨ck307,List.forall_mem_cons.2 ⟨ck308,List.forall_mem_cons.2 ⟨ck309,List.forall_mem_cons.2 ⟨ck310,List.forall_mem_cons.2 ⟨ck311,List.forall_mem_cons.2 ⟨ck313,List.forall_mem_cons.2 ⟨ck314,List.forall_mem_cons.2 ⟨ck315,List.forall_mem_cons.2 ⟨ck316,List.forall_mem_cons.2 ⟨ck317,List.forall_mem_cons.2 ⟨ck323,List.forall_mem_cons.2 ⟨ck327,List.forall_mem_cons.2 ⟨ck332,List.forall_mem_cons.2 ⟨ck334,List.forall_mem_cons.2 ⟨ck336,List.forall_mem_cons.2 ⟨ck337,List.forall_mem_cons.2 ⟨ck338,List.forall_mem_cons.2 ⟨ck339,List.forall_mem_cons.2 ⟨ck340,List.forall_mem_cons.2 ⟨ck346,List.forall_mem_cons.2 ⟨ck349,List.forall_mem_cons.2 ⟨ck351,List.forall_mem_cons.2 ⟨ck352,List.forall_mem_cons.2 ⟨ck353,List.forall_mem_cons.2 ⟨ck333,List.forall_mem_cons.2 ⟨ck335,List.forall_mem_cons.2 ⟨ck180,List.forall_mem_cons.2 ⟨ck186,λ_ h=>nomatch h⟩⟩⟩⟩⟩⟩⟩⟩⟩⟩⟩⟩⟩⟩⟩⟩⟩⟩⟩⟩⟩⟩⟩⟩⟩⟩⟩⟩⟩⟩⟩⟩⟩⟩⟩⟩⟩⟩⟩⟩⟩⟩⟩⟩⟩⟩⟩⟩⟩⟩⟩⟩⟩⟩⟩⟩⟩⟩⟩⟩⟩⟩⟩⟩⟩⟩⟩⟩⟩⟩⟩⟩⟩⟩⟩⟩⟩⟩⟩⟩⟩⟩⟩⟩⟩⟩⟩⟩⟩⟩⟩⟩⟩⟩⟩⟩⟩⟩⟩⟩⟩⟩⟩⟩⟩⟩⟩⟩⟩⟩⟩⟩⟩⟩⟩⟩⟩⟩⟩⟩⟩⟩⟩⟩⟩⟩⟩⟩⟩⟩⟩⟩⟩⟩⟩⟩⟩⟩⟩⟩⟩⟩⟩⟩⟩⟩⟩⟩⟩⟩⟩⟩⟩⟩⟩⟩⟩⟩
theorem okAll:(bodies.all λe=>okAC e.2.2.1)=true:=by kernel_rfl
theorem ZA:∀{l:List (Nat×Nat×AC×List RV)} {f:Nat} {x:Nat×AC×List RV},lookB f l=some x->(f,x)∈l
 | [],f,x,h=>nos h
 | (k,y)::r,f,x,h=>by
  simp only [lookB]at h;cases hb:Nat.beq f k with
  | true=>rw [hb]at h;cases h;rw [beq_eq hb];exact List.mem_cons_self ..
  | false=>rw [hb]at h;exact List.mem_cons_of_mem _ (ZA h)
theorem tabOk:TabOk Tryz.prog tb:=⟨λf x h=>ckAll (f,x) (ZA h),λf n ac rv h=>List.all_eq_true.1 okAll (f,n,ac,rv) (ZA h)⟩
theorem ja4{x:Option AV}(h:isT x=true):x=some (.one (.lit (.bool true))):=by
 unfold isT at h;split at h
 .rw [h]
 .exact Bool.noConfusion h
theorem awk_sound(h67:Sound Tryz.prog 67 (.dat false Wl))(h66:Sound Tryz.prog 66 (.dat false Un))(h60:Sound Tryz.prog 60 (.dat false Zq))(h65:Sound Tryz.prog 65 (.dat false (Zp 75)))(h44:Sound Tryz.prog 44 (.dat false Ys))(h62:Sound Tryz.prog 62 (.dat true jh))(h63:Sound Tryz.prog 63 (.dat true ux))(h108:Sound Tryz.prog 108 (.dat true Xc))(h34:Sound Tryz.prog 34 (.dat false QE)) :
  Sound Tryz.prog 7 (.dat true λargs K=>args=[]/\K (.one (.lit (.bool true)))):=by
 have hf:∀p∈N0.fr,Enters Tryz.prog p.1/\DSound Tryz.prog p.1 (fG 75 p.2):=by
  refine List.forall_mem_cons.2 ⟨⟨h67.1,h67.2.2⟩,List.forall_mem_cons.2 ⟨⟨h66.1,h66.2.2⟩,List.forall_mem_cons.2 ⟨⟨h60.1,h60.2.2⟩,List.forall_mem_cons.2 ⟨⟨h65.1,h65.2.2⟩,List.forall_mem_cons.2 ⟨⟨h44.1,h44.2.2⟩,List.forall_mem_cons.2 ⟨⟨h62.1,h62.2.2⟩,List.forall_mem_cons.2 ⟨⟨h63.1,h63.2.2⟩,List.forall_mem_cons.2 ⟨⟨h108.1,h108.2.2⟩,List.forall_mem_cons.2 ⟨⟨h34.1,h34.2.2⟩,λ_ h=>nomatch h⟩⟩⟩⟩⟩⟩⟩⟩⟩
 have hcl:∀f∈N0.clones,Enters Tryz.prog f/\FSound Tryz.prog f ((baseN N0).z f) λargs K=>∃r,cloneE args=some r/\K r:=
  List.forall_mem_cons.2 ⟨⟨Vd Tryz.func180 (by kernel_rfl) rfl,Q3 (z:=1) ck180⟩,List.forall_mem_cons.2 ⟨⟨Vd Tryz.func186 (by kernel_rfl) rfl,Q3 (z:=4) ck186⟩,λ_ h=>nomatch h⟩⟩
 have b0:BaseOk Tryz.prog (baseN N0):=Vaz hf hcl en291 (xz (l:=[]) λ_ h=>nomatch h);have hL:LvOk Tryz.prog L0:=(zab tabOk b0 12).1;have b1:BaseOk Tryz.prog (baseN NN):=Vaz hf hcl en291 (xz (l:=[qA,qB]) (List.forall_mem_cons.2 ⟨pqA rfl hL,List.forall_mem_cons.2 ⟨pqB rfl hL,λ_ h=>nomatch h⟩⟩));exact Yav tabOk b1 (ja4 mainT)
end Go.Abs.Wp
namespace Go.Abs
open Go.Proofs
theorem awk_sound:type_of% @Wp.awk_sound:=@Wp.awk_sound
theorem yba{P:Program}{f:Nat}(h:Sound P f (.dat true λargs K=>args=[]/\K (.one (.lit (.bool true))))):Sound P f (.dat true Uv):=
 ⟨h.1,Zal,h.2.2.mono λargs K hk=>by
  match args,hk with
  | [],hk=>exact⟨rfl,hk⟩⟩
end Go.Abs
end
