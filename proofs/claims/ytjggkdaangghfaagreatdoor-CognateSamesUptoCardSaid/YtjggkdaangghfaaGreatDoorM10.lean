/-
  Parts of the proof, merged: CoupA, CoupB, CoupC, CoupD, CoupE, CoupF, CoupG, CoupH, CoupJ.
-/
import Derived.Test.YtjggkdaangghfaaGreatDoorM9
set_option linter.unusedVariables false
set_option linter.unusedSimpArgs false
set_option maxRecDepth 100000
section
namespace Go.Num
open Go.Abs
theorem Jbp{p q:BQ}(h:mcs p=mcs q):p=q:=by rw [<-QH p,h,QH]
theorem YM{p:BQ}{N:Nat}(h:sz p<=N):∀t∈mcs p,rl t.2.2<=N:=λt ht=>by
 obtain⟨u,hu,rfl⟩:=List.mem_map.1 ht;have h1:=vaZ hu;have h2:rl (mcan u).2.2=rz u.2.2:=rfl;omega
theorem wX{p q:BQ}(hp:Canon p)(hq:Canon q):chk2 (mcs p) (mcs q)=0:=by unfold chk2;rw [wK hp,if_neg (by decide),wK hq]
theorem qbf{p q:BQ}(hp:Canon p)(hq:Canon q)(hd:degB p+degB q<=24):mulC (mcs p) (mcs q)=0:=by
 unfold mulC;rw [wX hp hq,if_neg (by decide),jv,jv,if_neg (by omega)]
theorem wa8{p:BQ}(hp:Canon p){d:Nat}(hd:Deg d p):degB p<=d:=by
 unfold degB;cases hl:p.getLast? with
 | none=>simp only;omega
 | some u=>exact hd u (List.mem_of_getLast? hl)
theorem PB.dd{d s e t:Nat}{p q:BQ}(hp:PB d s p)(hq:PB e t q)(h:d+e<=24):degB p+degB q<=24:=by
 have h1:=wa8 hp.canon hp.deg;have h2:=wa8 hq.canon hq.deg;omega
theorem yM{p q:BQ}(hp:Canon p)(hq:Canon q):Canon (addB p q):=jn (Zh.2 ⟨hp.ins,hq.ins⟩)
theorem yaf{p q:BQ}(hp:Canon p)(hq:Canon q):Canon (subB p q):=jn (Zh.2 ⟨hp.ins,ZD hq.ins⟩)
theorem Ua6{p:BQ}(c:Rat)(hp:Canon p):Canon (sclB c p):=jn (ZD hp.ins)
theorem Va2{p q:BQ}(hp:Canon p)(hq:Canon q)(hd:degB p+degB q<=24):Canon (mulB p q):=by
 refine jn λt ht=>?_;obtain⟨a,ha,hb⟩:=List.mem_flatMap.1 ht;obtain⟨b,hb',rfl⟩:=List.mem_map.1 hb;obtain⟨x1,x2,x3⟩:=hp.ins a ha;obtain⟨y1,y2,y3⟩:=hq.ins b hb';have h1:=ZO hp a ha;have h2:=ZO hq b hb';unfold inQ mulT;simp only;omega
theorem Xbm(b:Bool)(c:Rat):mkC [((if b then 0 else 1:Int),(if b then 1 else 0:Int),rcan 1),(0,0,rcan c)]=0:=by
 have v1:vldR (rcan 1)=true:=uc _;have v2:vldR (rcan c)=true:=uc _;unfold mkC;rw [if_neg (by simp)]
 cases b <;> simp [mkG,mkT,inM,v1,v2]
theorem Ybj(b:Bool)(c:Rat):nf (([((if b then 0 else 1:Int),(if b then 1 else 0:Int),rcan 1),(0,0,rcan (-c))]:List Mo).map mv)=linB b c:=by
 unfold linB;simp only [List.map_cons,List.map_nil,mv,Wb]
theorem YbE(x:R):nf (([(0,0,x)]:List Mo).map mv)=conB (rv x):=rfl
theorem UbB{x:R}(h:vldR x=true):mkC [(0,0,x)]=0:=by
 unfold mkC;rw [if_neg (by simp)]
 simp [mkG,mkT,inM,h]
end Go.Num
namespace Go.Abs
open Go.Num
variable {P:Program} {Γ:Nat->Spec}
def bC(p:BQ):C:=.slice ((mcs p).map mC)
def onB(k:BQ->Prop)(a:AV):Prop:=∃p,a=.one (bC p)/\Canon p/\k p
@[congr] theorem vb3 {k:BQ->Prop} {a a' : AV} (h:a=a'):onB k a=onB k a':=by subst h;rfl
theorem va5{p q:BQ}(h:bC p=bC q):p=q:=by
 simp only [bC,C.slice.injEq]at h;exact Jbp (Xo h)
theorem JbA(k:BQ->Prop)(p:BQ):onB k (.one (bC p))=(Canon p/\k p):=by
 refine propext ⟨λ⟨x,h,h1,h2⟩=>?_,λh=>⟨p,rfl,h⟩⟩;simp only [AV.one.injEq]at h;have:=va5 h;subst this;exact⟨h1,h2⟩
theorem Xa2(k:BQ->Prop)(p:BQ):onB k (.one (.slice ((mcs p).map mC)))=(Canon p/\k p):=JbA k p
theorem zaf{β:Type}{T:BQ->(β->Prop)->Prop}(h:∀p,GoodT (T p)){a:AV}:GoodT λK=>onB (λp=>T p K) a:=
 .of λK hx=>by
  obtain⟨p,rfl,hc,hk⟩:=hx;have:(λK=>onB (λp=>T p K) (.one (bC p)))=λK=>Canon p/\T p K:=funext λK=>JbA _ p;rw [this];exact .and λ_=>h p
def onV(k:BQ×BQ->Prop)(a:AV):Prop:=∃p q,a=.agg [bC p,bC q]/\(Canon p/\Canon q)/\k (p,q)
@[congr] theorem ub2 {k:BQ×BQ->Prop} {a a' : AV} (h:a=a'):onV k a=onV k a':=by subst h;rfl
theorem UbD(k:BQ×BQ->Prop)(p q:BQ):onV k (.agg [bC p,bC q])=((Canon p/\Canon q)/\k (p,q)):=by
 refine propext ⟨λ⟨x,y,h,h1,h2⟩=>?_,λh=>⟨p,q,rfl,h⟩⟩;simp only [AV.agg.injEq,List.cons.injEq,and_true]at h;obtain⟨e1,e2⟩:=h;have:=va5 e1;have:=va5 e2
 subst_vars;exact⟨h1,h2⟩
theorem VbD(k:BQ×BQ->Prop)(p q:BQ):onV k (.agg [.slice ((mcs p).map mC),.slice ((mcs q).map mC)])=((Canon p/\Canon q)/\k (p,q)):=UbD k p q
theorem kbF{β:Type}{T:BQ×BQ->(β->Prop)->Prop}(h:∀p,GoodT (T p)){a:AV}:GoodT λK=>onV (λp=>T p K) a:=
 .of λK hx=>by
  obtain⟨p,q,rfl,hc,hk⟩:=hx;have:(λK=>onV (λp=>T p K) (.agg [bC p,bC q]))=λK=>(Canon p/\Canon q)/\T (p,q) K:=funext λK=>UbD _ p q;rw [this];exact .and λ_=>h (p,q)
theorem XbD(p:BQ):bC p=.slice ((mcs p).map mC):=eq_of_heq (HEq.refl _)
attribute [go_sem,go_sem ↓] Xa2 VbD XbD
def Zo(l:List AV)(K:AV->Prop):Prop:=
 match l with
 | [p,e]=>e=.one (.lit .nilIface)/\onB (λp=>K (.one (bC p))) p
 | _=>False
theorem wax(p e:AV)(K:AV->Prop):Zo [p,e] K=(e=.one (.lit .nilIface)/\onB (λp=>K (.one (bC p))) p):=propext Iff.rfl
@[congr] theorem XbR {K:AV->Prop} {l l' : List AV} (h:l=l'):Zo l K=Zo l' K:=by subst h;rfl
attribute [go_sem,go_sem ↓] wax
theorem WaI:Good Zo:=Wa λas=>by
 unfold Zo;split
 .exact(.and λ_=>(zaf λ_=>(.ret _)))
 .exact .of λK hk=>hk.elim
def xA(l:List AV)(K:AV->Prop):Prop:=
 match l with
 | [a,b]=>onB (λp=>onB (λq=>sz p+sz q<=1000000000/\K (.one (bC (addB p q)))) b) a
 | _=>False
theorem jaP(a b:AV)(K:AV->Prop):xA [a,b] K=(onB (λp=>onB (λq=>sz p+sz q<=1000000000/\K (.one (bC (addB p q)))) b) a):=propext Iff.rfl
@[congr] theorem WbW {K:AV->Prop} {l l' : List AV} (h:l=l'):xA l K=xA l' K:=by subst h;rfl
attribute [go_sem,go_sem ↓] jaP
theorem VaZ:Good xA:=Wa λas=>by
 unfold xA;split
 .exact(zaf λ_=>(zaf λ_=>(.and λ_=>(.ret _))))
 .exact .of λK hk=>hk.elim
def jA(l:List AV)(K:AV->Prop):Prop:=
 match l with
 | [a,b]=>onB (λp=>onB (λq=>sz p+sz q<=1000000000/\K (.one (bC (subB p q)))) b) a
 | _=>False
theorem xaQ(a b:AV)(K:AV->Prop):jA [a,b] K=(onB (λp=>onB (λq=>sz p+sz q<=1000000000/\K (.one (bC (subB p q)))) b) a):=propext Iff.rfl
@[congr] theorem VbY {K:AV->Prop} {l l' : List AV} (h:l=l'):jA l K=jA l' K:=by subst h;rfl
attribute [go_sem,go_sem ↓] xaQ
theorem JaL:Good jA:=Wa λas=>by
 unfold jA;split
 .exact(zaf λ_=>(zaf λ_=>(.and λ_=>(.ret _))))
 .exact .of λK hk=>hk.elim
def zB(l:List AV)(K:AV->Prop):Prop:=
 match l with
 | [a,b]=>onB (λp=>onB (λq=>sz p+sz q<=3000000/\degB p+degB q<=24/\K (.one (bC (mulB p q)))) b) a
 | _=>False
theorem VaW(a b:AV)(K:AV->Prop):zB [a,b] K=(onB (λp=>onB (λq=>sz p+sz q<=3000000/\degB p+degB q<=24/\K (.one (bC (mulB p q)))) b) a):=propext Iff.rfl
@[congr] theorem ybZ {K:AV->Prop} {l l' : List AV} (h:l=l'):zB l K=zB l' K:=by subst h;rfl
attribute [go_sem,go_sem ↓] VaW
theorem ka7:Good zB:=Wa λas=>by
 unfold zB;split
 .exact(zaf λ_=>(zaf λ_=>(.and λ_=>(.and λ_=>(.ret _)))))
 .exact .of λK hk=>hk.elim
def Vp(l:List AV)(K:AV->Prop):Prop:=
 match l with
 | [a,x]=>onB (λp=>onR (λx=>rl x<=1000000/\sz p<=100000000/\K (.one (bC (sclB (rv x) p)))) x) a
 | _=>False
theorem Y8(a x:AV)(K:AV->Prop):Vp [a,x] K=(onB (λp=>onR (λx=>rl x<=1000000/\sz p<=100000000/\K (.one (bC (sclB (rv x) p)))) x) a):=propext Iff.rfl
@[congr] theorem kbG {K:AV->Prop} {l l' : List AV} (h:l=l'):Vp l K=Vp l' K:=by subst h;rfl
attribute [go_sem,go_sem ↓] Y8
theorem qam:Good Vp:=Wa λas=>by
 unfold Vp;split
 .exact(zaf λ_=>(yg λ_=>(.and λ_=>(.and λ_=>(.ret _)))))
 .exact .of λK hk=>hk.elim
def JE(l:List AV)(K:AV->Prop):Prop:=
 match l with
 | [b,x]=>asBool (λb=>onR (λx=>rl x<=1000000/\K (.one (bC (linB b (rv x))))) x) b
 | _=>False
theorem QaO(b x:AV)(K:AV->Prop):JE [b,x] K=(asBool (λb=>onR (λx=>rl x<=1000000/\K (.one (bC (linB b (rv x))))) x) b):=propext Iff.rfl
@[congr] theorem Zb0 {K:AV->Prop} {l l' : List AV} (h:l=l'):JE l K=JE l' K:=by subst h;rfl
attribute [go_sem,go_sem ↓] QaO
theorem Za7:Good JE:=Wa λas=>by
 unfold JE;split
 .exact(JC (λ_=>(yg λ_=>(.and λ_=>(.ret _)))) _)
 .exact .of λK hk=>hk.elim
def xG(l:List AV)(K:AV->Prop):Prop:=
 match l with
 | [x]=>onR (λx=>rl x<=1000000/\vldR x=true/\K (.one (bC (conB (rv x))))) x
 | _=>False
theorem Xa5(x:AV)(K:AV->Prop):xG [x] K=(onR (λx=>rl x<=1000000/\vldR x=true/\K (.one (bC (conB (rv x))))) x):=propext Iff.rfl
@[congr] theorem ZbX {K:AV->Prop} {l l' : List AV} (h:l=l'):xG l K=xG l' K:=by subst h;rfl
attribute [go_sem,go_sem ↓] Xa5
theorem QaZ:Good xG:=Wa λas=>by
 unfold xG;split
 .exact(yg λ_=>(.and λ_=>(.and λ_=>(.ret _))))
 .exact .of λK hk=>hk.elim
def Yf:AC:=(.seq (.ops false [.m 6 (.c (.one .emp))])
 (.fg [0,1,2] (.seq (.seq (.ops false [.m 7 (.t 0),.u 8 (.nilck (.t 7)),.u 9 (.fa 0 (.t 8)),.u 10 (.ld none 1 false (.t 9)),.u 11 (.binn .eql (.t 10) (.c (.one (.lit .nilIface))))])
 (.fg [0,1,2,11] (.cond (.t 11) (.ops false [.m 12 (.t 0),.m 13 (.t 2),.u 14 (.nilck (.t 12)),.u 15 (.fa 0 (.t 14)),.n (.st none 1 (.t 15) (.t 13))]) .skip)))
 (.fg [1] (.seq (.ops false [.m 16 (.t 1),.m 6 (.t 16)])
 .ret)))))
def Uf(f0 f1:Nat):AC:=(.seq (.ops false [.m 6 (.c (.one .emp))])
 (.fg [0,1,2] (.seq (.ops false [.m 7 (.t 0),.m 8 (.t 1),.m 9 (.t 2),.u 10 (.call f0 [(.t 8),(.t 9)]),.u 11 (.ext 0 (.t 10)),.u 12 (.ext 1 (.t 10)),.u 13 (.callr f1 [(.t 7),(.t 11),(.t 12)]),.m 6 (.t 13)])
 .ret)))
def kg(f0 f1:Nat):AC:=(.seq (.ops false [.m 6 (.c (.one .emp))])
 (.fg [0,1,2] (.seq (.ops false [.m 7 (.t 0),.m 8 (.t 1),.m 9 (.t 2),.u 10 (.call f0 [(.t 8),(.t 9)]),.u 11 (.ext 0 (.t 10)),.u 12 (.ext 1 (.t 10)),.u 13 (.callr f1 [(.t 7),(.t 11),(.t 12)]),.m 6 (.t 13)])
 .ret)))
def qg(f0 f1:Nat):AC:=(.seq (.ops false [.m 6 (.c (.one .emp))])
 (.fg [0,1,2] (.seq (.ops false [.m 7 (.t 0),.m 8 (.t 1),.m 9 (.t 2),.u 10 (.call f0 [(.t 8),(.t 9)]),.u 11 (.ext 0 (.t 10)),.u 12 (.ext 1 (.t 10)),.u 13 (.callr f1 [(.t 7),(.t 11),(.t 12)]),.m 6 (.t 13)])
 .ret)))
def zf(f0 f1:Nat):AC:=(.seq (.ops false [.u 5 (.box 3 (.t 2)),.m 6 (.c (.one .emp))])
 (.fg [0,1,5] (.seq (.ops false [.m 7 (.t 0),.m 8 (.t 1),.u 9 (.ld none 3 true (.t 5)),.u 10 (.call f0 [(.t 8),(.t 9)]),.u 11 (.ext 0 (.t 10)),.u 12 (.ext 1 (.t 10)),.u 13 (.callr f1 [(.t 7),(.t 11),(.t 12)]),.m 6 (.t 13)])
 .ret)))
def Zd(f0 f1 f2 f3:Nat):AC:=(.seq (.ops false [.u 5 (.box 3 (.t 2)),.m 6 (.c (.one .emp))])
 (.fg [0,1,5] (.seq (.ops false [.u 8 (.call f0 [(.i 1)]),.u 9 (.build [.x 1 (.i 1),.z [(.lit (.int .i64 0))],.x 3 (.t 8)]),.u 7 (.alloc [(.lit (.int .i64 0)),(.lit (.int .i64 0)),(.lit (.bool false)),.emp,.emp]),.n (.st none 5 (.t 7) (.t 9))])
 (.fg [0,1,5,7] (.seq (.seq (.ops false [.m 10 (.t 1)])
 (.fg [0,5,7,10] (.cond (.t 10) (.ops false [.u 11 (.fa 0 (.t 7)),.n (.st none 1 (.t 11) (.i 0)),.u 12 (.fa 1 (.t 7)),.n (.st none 1 (.t 12) (.i 1))]) .skip)))
 (.fg [0,5,7] (.seq (.ops true [.m 13 (.t 0),.u 14 (.ld none 5 true (.t 7)),.u 15 (.ld none 3 true (.t 5)),.u 16 (.call f1 [(.t 15)]),.u 17 (.build [.z [(.lit (.int .i64 0)),(.lit (.int .i64 0))],.x 3 (.t 16)]),.u 18 (.row 5 [[.x 5 (.t 14)],[.x 5 (.t 17)]]),.u 19 (.call f2 [(.t 18)]),.u 20 (.ext 0 (.t 19)),.u 21 (.ext 1 (.t 19)),.u 22 (.callr f3 [(.t 13),(.t 20),(.t 21)]),.m 6 (.t 22)])
 .ret)))))))
def Yd(f0 f1:Nat):AC:=(.seq (.ops false [.u 3 (.box 3 (.t 1)),.m 4 (.c (.one .emp))])
 (.fg [0,3] (.seq (.ops false [.m 5 (.t 0),.u 6 (.ld none 3 true (.t 3)),.u 7 (.build [.z [(.lit (.int .i64 0)),(.lit (.int .i64 0))],.x 3 (.t 6)]),.u 8 (.row 5 [[.x 5 (.t 7)]]),.u 9 (.call f0 [(.t 8)]),.u 10 (.ext 0 (.t 9)),.u 11 (.ext 1 (.t 9)),.u 12 (.callr f1 [(.t 5),(.t 10),(.t 11)]),.m 4 (.t 12)])
 .ret)))
theorem yA{h:Nat->HB}{r ver:Nat}(hr:h r=⟨ver,some mk0⟩):upd h r ⟨ver,some ⟨[[.lit .nilIface]],1,true⟩⟩=h:=qbd hr
theorem Jan(hΓ:Holds P Γ){f:Nat}(hc:check P f=some (17,Yf.strip,[.tmp 6])):Sound P f (.red Zo):=by
 refine Yl hc WaI hΓ (λrest h r ver K hr hcl hfi hG=>?_);match rest,hG with
 | [a,b],hG=>
  obtain⟨rfl,p,rfl,hp,hK⟩:=hG;refine⟨by simp,?_⟩
  simp only [go_sem,Yf,hr];rw [yA hr];exact hK
theorem ZaJ(hΓ:Holds P Γ){f fa ft tE:Nat}(ha:Γ fa=.dat false (uF tE))(ht:Γ ft=.red Zo)(hc:check P f=some (14,(Uf fa ft).strip,[.tmp 6])):Sound P f (.red xA):=by
 refine Yl hc VaZ hΓ (λrest h r ver K hr hcl hfi hG=>?_);match rest,hG with
 | [a,b],hG=>
  obtain⟨p,rfl,hp,q,rfl,hq,hsz,hK⟩:=hG;refine⟨by simp,?_⟩
  have hc0:=wX hp hq;have hrp:=YM (p:=p) (N:=4294967296) (by omega)
  have hrq:=YM (p:=q) (N:=4294967296) (by omega)
  simp only [go_sem,Uf,hr,ha,ht,hc0,QH,xt,Jd];refine⟨ku hp.ins,ku hq.ins,hrp,hrq,hsz,yM hp hq,?_⟩;rw [yA hr];exact hK
theorem waG(hΓ:Holds P Γ){f fa ft tE:Nat}(ha:Γ fa=.dat false (yG tE))(ht:Γ ft=.red Zo)(hc:check P f=some (14,(kg fa ft).strip,[.tmp 6])):Sound P f (.red jA):=by
 refine Yl hc JaL hΓ (λrest h r ver K hr hcl hfi hG=>?_);match rest,hG with
 | [a,b],hG=>
  obtain⟨p,rfl,hp,q,rfl,hq,hsz,hK⟩:=hG;refine⟨by simp,?_⟩
  have hc0:=wX hp hq;have hrp:=YM (p:=p) (N:=1000000000) (by omega)
  have hrq:=YM (p:=q) (N:=1000000000) (by omega)
  simp only [go_sem,kg,hr,ha,ht,hc0,QH,xt,Jd];refine⟨ku hp.ins,ku hq.ins,hrp,hrq,hsz,yaf hp hq,?_⟩;rw [yA hr];exact hK
theorem jaF(hΓ:Holds P Γ){f fa ft tE:Nat}(ha:Γ fa=.dat false (JG tE))(ht:Γ ft=.red Zo)(hc:check P f=some (14,(qg fa ft).strip,[.tmp 6])):Sound P f (.red zB):=by
 refine Yl hc ka7 hΓ (λrest h r ver K hr hcl hfi hG=>?_);match rest,hG with
 | [a,b],hG=>
  obtain⟨p,rfl,hp,q,rfl,hq,hsz,hd,hK⟩:=hG;refine⟨by simp,?_⟩
  have hc0:=qbf hp hq hd;have hrp:=YM (p:=p) (N:=1000000000) (by omega)
  have hrq:=YM (p:=q) (N:=1000000000) (by omega)
  simp only [go_sem,qg,hr,ha,ht,hc0,QH,xt,Jd];refine⟨ku hp.ins,ku hq.ins,hrp,hrq,hsz,Va2 hp hq hd,?_⟩;rw [yA hr];exact hK
theorem vac(hΓ:Holds P Γ){f fa ft tE:Nat}(ha:Γ fa=.dat false (Jt tE))(ht:Γ ft=.red Zo)(hc:check P f=some (14,(zf fa ft).strip,[.tmp 6])):Sound P f (.red Vp):=by
 refine Yl hc qam hΓ (λrest h r ver K hr hcl hfi hG=>?_);match rest,hG with
 | [a,b],hG=>
  obtain⟨p,rfl,hp,x,rfl,hwx,hx,hsz,hK⟩:=hG;refine⟨by simp,?_⟩
  have hc0:=wK hp;have hrp:=YM (p:=p) (N:=1000000000) (by omega)
  simp only [go_sem,zf,hr,ha,ht,hc0,QH,xt,Jd,rA];refine⟨ku hp.ins,hwx,hrp,hx,hsz,Ua6 _ hp,?_⟩;rw [yA hr];exact hK
theorem yaF(hΓ:Holds P Γ){f fo fn fm ft tE:Nat}(ho:Γ fo=.dat false Wx)(hn:Γ fn=.dat false Xp)(hm:Γ fm=.dat false (Yw tE))(ht:Γ ft=.red Zo)(hc:check P f=some (23,(Zd fo fn fm ft).strip,[.tmp 6])):Sound P f (.red JE):=by
 refine Yl hc Za7 hΓ (λrest h r ver K hr hcl hfi hG=>?_);match rest,hG with
 | [a,b],hG=>
  obtain⟨y,rfl,x,rfl,hwx,hx,hK⟩:=yx hG;refine⟨by simp,?_⟩
  have hz:=Ze hwx;have hz2:=Vv (rv x);have z1:=rz_1;have hcl0:=(PB.lin y (rv x)).canon;cases y with
  | false=>
   simp only [go_sem,Zd,hr,ho,hn,hm,ht,rA,rone1];refine⟨by decide,by decide,hwx,by omega,?_⟩
   change onMs _ (.one (.slice (List.map mC [((if false then 0 else 1:Int),(if false then 1 else 0:Int),rcan 1),(0,0,rcan (-rv x))])))
   rw [QI,Xbm false (-rv x),Jd,xt,Ybj false (rv x),Xa2,yA hr];refine⟨λt ht=>?_,λt ht=>?_,?_,rfl,rfl,hcl0,hK⟩
   .simp only [List.mem_cons,List.not_mem_nil,or_false]at ht;rcases ht with rfl|rfl
    .exact⟨by simp [i64r],by simp [i64r],Ye _⟩
    .exact⟨by simp [i64r],by simp [i64r],Ye _⟩
   .simp only [List.mem_cons,List.not_mem_nil,or_false]at ht;rcases ht with rfl|rfl
    .have e:rl (rcan 1)=rz 1:=rfl;simp only;omega
    .have e:rl (rcan (-rv x))=rz (-rv x):=rfl;simp only;omega
   .simp only [List.map_cons,List.map_nil,mv,Wb,sz];omega
  | true=>
   simp only [go_sem,Zd,hr,ho,hn,hm,ht,rA,rone1];refine⟨by decide,by decide,hwx,by omega,?_⟩
   change onMs _ (.one (.slice (List.map mC [((if true then 0 else 1:Int),(if true then 1 else 0:Int),rcan 1),(0,0,rcan (-rv x))])))
   rw [QI,Xbm true (-rv x),Jd,xt,Ybj true (rv x),Xa2,yA hr];refine⟨λt ht=>?_,λt ht=>?_,?_,rfl,rfl,hcl0,hK⟩
   .simp only [List.mem_cons,List.not_mem_nil,or_false]at ht;rcases ht with rfl|rfl
    .exact⟨by simp [i64r],by simp [i64r],Ye _⟩
    .exact⟨by simp [i64r],by simp [i64r],Ye _⟩
   .simp only [List.mem_cons,List.not_mem_nil,or_false]at ht;rcases ht with rfl|rfl
    .have e:rl (rcan 1)=rz 1:=rfl;simp only;omega
    .have e:rl (rcan (-rv x))=rz (-rv x):=rfl;simp only;omega
   .simp only [List.map_cons,List.map_nil,mv,Wb,sz];omega
theorem QaH(hΓ:Holds P Γ){f fm ft tE:Nat}(hm:Γ fm=.dat false (Yw tE))(ht:Γ ft=.red Zo)(hc:check P f=some (13,(Yd fm ft).strip,[.tmp 4])):Sound P f (.red xG):=by
 refine Yl hc QaZ hΓ (λrest h r ver K hr hcl hfi hG=>?_);match rest,hG with
 | [a],hG=>
  obtain⟨x,rfl,hwx,hx,hv,hK⟩:=hG;refine⟨by simp,?_⟩
  have hz:=Ze hwx;have hmk:=UbB hv;simp only [go_sem,Yd,hr,hm,ht,rA];have hcl0:=(PB.con (rv x)).canon;change onMs _ (.one (.slice (List.map mC [(0,0,x)])));rw [QI,hmk,Jd,xt,YbE,Xa2,yA hr];refine⟨λt ht=>?_,λt ht=>?_,?_,rfl,rfl,hcl0,hK⟩
  .rw [List.mem_singleton.1 ht];exact⟨by simp [i64r],by simp [i64r],hwx⟩
  .rw [List.mem_singleton.1 ht];simp only;omega
  .simp only [List.map_cons,List.map_nil,mv,sz];omega
end Go.Abs
end
section
namespace Go.Num
open Go.Abs
def cps3(c:Cp):List R:=[c.2.2.1,c.2.2.2.1,c.2.2.2.2.1]
def cps5(c:Cp):List R:=[c.2.2.1,c.2.2.2.1,c.2.2.2.2.1,c.2.2.2.2.2.1,c.2.2.2.2.2.2]
def gt0R(x:R):Bool:=decide (0<rv x)
def cchk(c:Cp):Nat:=if avld c.1=false∨avld c.2.1=false then 2 else if (cps5 c).all vldR=false then 2 else if (cps3 c).all gt0R=false then 3 else if av c.1=av c.2.1 then 8 else 0
def cpv(c:Cp):CpR:=(av c.1,av c.2.1,rv c.2.2.1,rv c.2.2.2.1,rv c.2.2.2.2.1,rv c.2.2.2.2.2.1,rv c.2.2.2.2.2.2)
def cchk2(c:Cp)(l:List Arc):Nat:=if cchk c≠0 then cchk c else if l.all avld=false then 2 else 0
theorem Zbl{c:Cp}(h:cchk c=0):avld c.1=true/\avld c.2.1=true/\(cps5 c).all vldR=true/\(cps3 c).all gt0R=true/\av c.1≠av c.2.1:=by
 unfold cchk at h;split at h
 .contradiction
 .rename_i h1;split at h
  .contradiction
  .rename_i h2;split at h
   .contradiction
   .rename_i h3;split at h
    .contradiction
    .rename_i h4;simp only [not_or]at h1;exact⟨by simpa using h1.1,by simpa using h1.2,by simpa using h2,by simpa using h3,h4⟩
theorem YL{c:Cp}(hw:WLC c)(hl:cl c<=4000):CB (cpv c):=by
 obtain⟨wo,wq,w1,w2,w3,w4,w5⟩:=hw;unfold cl at hl;simp only [Nat.max_le]at hl;obtain⟨l1,l2,l3,l4,l5,l6,l7⟩:=hl;have o:=QO wo;have q:=QO wq;have o1:rz (av c.1).1<=zq (av c.1):=Nat.le_max_left _ _;have o2:rz (av c.1).2<=zq (av c.1):=Nat.le_max_right _ _;have q1:rz (av c.2.1).1<=zq (av c.2.1):=Nat.le_max_left _ _;have q2:rz (av c.2.1).2<=zq (av c.2.1):=Nat.le_max_right _ _;exact⟨by show rz (av c.1).1<=4000;omega,by show rz (av c.1).2<=4000;omega,by show rz (av c.2.1).1<=4000;omega,by show rz (av c.2.1).2<=4000;omega,
  Nat.le_trans (Ze w1) l3,Nat.le_trans (Ze w2) l4,Nat.le_trans (Ze w3) l5,Nat.le_trans (Ze w4) l6,Nat.le_trans (Ze w5) l7⟩
theorem yI(x:Rat):(ordQ x 0<=0)=(¬0<x):=by
 unfold ordQ;refine propext ⟨λh h1=>?_,λh=>?_⟩
 .rw [if_neg (by grind),if_pos h1]at h
  exact absurd h (by decide)
 .by_cases h1:x<0
  .rw [if_pos h1];decide
  .rw [if_neg h1,if_neg h];decide
end Go.Num
namespace Go.Abs
open Go.Num
variable {P:Program} {Γ:Nat->Spec}
theorem clean27(c:Cp):CleanR [cpC c]:=λe he x hx=>by
 rw [List.mem_singleton]at he;subst he;simp only [cpC,List.mem_cons,List.not_mem_nil,or_false]at hx;rcases hx with rfl|rfl|rfl|rfl|rfl|rfl|rfl|rfl|rfl|rfl|rfl|rfl|rfl|rfl|rfl|rfl|rfl|rfl|rfl|rfl|rfl|rfl|rfl|rfl|rfl|rfl|rfl
 all_goals first|exact of_eq_true (yi _)|exact of_eq_true (wi _)|exact of_eq_true (Ji _)
theorem zI{h h' : Nat->HB}{z:Nat}{b:Bool}{e:List C}{c:Cp}(he:e=cpC c):okB h h' (some ⟨[e],z,b⟩) (some ⟨[cpC c],z,b⟩):=by
 subst he;exact Ub (clean27 c)
def QE(l:List AV)(K:AV->Prop):Prop:=
 match l with
 | [a,b]=>onR (λx=>onR (λy=>rl x<=100000000/\rl y<=100000000/\K (rQ (sqQ (rv x,rv y)))) b) a
 | _=>False
theorem Ja5(a b:AV)(K:AV->Prop):QE [a,b] K=(onR (λx=>onR (λy=>rl x<=100000000/\rl y<=100000000/\K (rQ (sqQ (rv x,rv y)))) b) a):=propext Iff.rfl
@[congr] theorem ubZ {K:AV->Prop} {l l' : List AV} (h:l=l'):QE l K=QE l' K:=by subst h;rfl
attribute [go_sem,go_sem ↓] Ja5
theorem xaY:Good QE:=Wa λas=>by
 unfold QE;split
 .exact(yg λ_=>(yg λ_=>(.and λ_=>(.and λ_=>(.ret _)))))
 .exact .of λK hk=>hk.elim
def xbo(l:List AV)(K:AV->Prop):Prop:=
 match l with
 | [a,b,c]=>onA (λp=>onR (λu=>onR (λv=>al p<=100000000/\rl u<=100000000/\rl v<=100000000/\K (pQ (timQ (av p) (rv u) (rv v)))) c) b) a
 | _=>False
theorem Jbl(a b c:AV)(K:AV->Prop):xbo [a,b,c] K=(onA (λp=>onR (λu=>onR (λv=>al p<=100000000/\rl u<=100000000/\rl v<=100000000/\K (pQ (timQ (av p) (rv u) (rv v)))) c) b) a):=propext Iff.rfl
@[congr] theorem xb3 {K:AV->Prop} {l l' : List AV} (h:l=l'):xbo l K=xbo l' K:=by subst h;rfl
attribute [go_sem,go_sem ↓] Jbl
def xaT(l:List AV)(K:AV->Prop):Prop:=
 match l with
 | [a,b]=>onA (λp=>onA (λq=>al p<=10000000/\al q<=10000000/\K (rQ (sqQ (subQ (av p) (av q))))) b) a
 | _=>False
theorem Ya6(a b:AV)(K:AV->Prop):xaT [a,b] K=(onA (λp=>onA (λq=>al p<=10000000/\al q<=10000000/\K (rQ (sqQ (subQ (av p) (av q))))) b) a):=propext Iff.rfl
@[congr] theorem qbZ {K:AV->Prop} {l l' : List AV} (h:l=l'):xaT l K=xaT l' K:=by subst h;rfl
attribute [go_sem,go_sem ↓] Ya6
def VA(tE:Nat)(l:List AV)(K:AV->Prop):Prop:=
 match l with
 | [a]=>onCp (λc=>cl c<=100000000/\K (errV tE (cchk c))) a
 | _=>False
theorem yaV(tE:Nat)(a:AV)(K:AV->Prop):VA tE [a] K=(onCp (λc=>cl c<=100000000/\K (errV tE (cchk c))) a):=propext Iff.rfl
@[congr] theorem ybX (tE:Nat) {K:AV->Prop} {l l' : List AV} (h:l=l'):VA tE l K=VA tE l' K:=by subst h;rfl
attribute [go_sem,go_sem ↓] yaV
theorem kaN(tE:Nat):Good (VA tE):=Wa λas=>by
 unfold VA;split
 .exact(Ym λ_=>(.and λ_=>(.ret _)))
 .exact .of λK hk=>hk.elim
def uam(tE:Nat)(l:List AV)(K:AV->Prop):Prop:=
 match l with
 | [a,b]=>onCp (λc=>onAs (λl=>cl c<=100000000/\okAs 100000000 l/\K (errV tE (cchk2 c l))) b) a
 | _=>False
theorem Yar(tE:Nat)(a b:AV)(K:AV->Prop):uam tE [a,b] K=(onCp (λc=>onAs (λl=>cl c<=100000000/\okAs 100000000 l/\K (errV tE (cchk2 c l))) b) a):=propext Iff.rfl
@[congr] theorem UbQ (tE:Nat) {K:AV->Prop} {l l' : List AV} (h:l=l'):uam tE l K=uam tE l' K:=by subst h;rfl
attribute [go_sem,go_sem ↓] Yar
def zh(f0:Nat):AC:=(.seq (.ops false [.u 1 (.box 6 (.t 0)),.m 2 .fa])
 (.fg [1] (.seq (.ops false [.u 3 (.fa 0 (.t 1)),.u 4 (.ld none 3 true (.t 3)),.u 5 (.call f0 [(.t 4)]),.m 6 (.t 5),.w 7 6 true (.fa 3 (.t 1)),.w 8 6 true (.ld none 3 true (.t 7)),.w 9 6 true (.call f0 [(.t 8)]),.u 10 (.pick (.t 6) (.t 9) .fa),.m 2 (.t 10)])
 .ret)))
def Jp(f0:Nat):AC:=(.seq (.ops false [.u 2 (.box 6 (.t 0)),.u 3 (.box 6 (.t 1)),.u 4 (.alloc [(.lit (.bool false)),.emp,.emp,(.lit (.bool false)),.emp,.emp])])
 (.fg [2,3,4] (.seq (.ops true [.u 5 (.fa 0 (.t 2)),.u 6 (.ld none 3 true (.t 5)),.u 7 (.fa 0 (.t 3)),.u 8 (.ld none 3 true (.t 7)),.u 9 (.call f0 [(.t 6),(.t 8)]),.u 10 (.fa 3 (.t 2)),.u 11 (.ld none 3 true (.t 10)),.u 12 (.fa 3 (.t 3)),.u 13 (.ld none 3 true (.t 12)),.u 14 (.call f0 [(.t 11),(.t 13)]),.u 15 (.build [.x 3 (.t 9),.x 3 (.t 14)]),.n (.st none 6 (.t 4) (.t 15))])
 .ret)))
def vw(f0:Nat):AC:=(.seq (.ops false [.u 2 (.box 6 (.t 0)),.u 3 (.box 6 (.t 1)),.u 4 (.alloc [(.lit (.bool false)),.emp,.emp,(.lit (.bool false)),.emp,.emp])])
 (.fg [2,3,4] (.seq (.ops true [.u 5 (.fa 0 (.t 2)),.u 6 (.ld none 3 true (.t 5)),.u 7 (.fa 0 (.t 3)),.u 8 (.ld none 3 true (.t 7)),.u 9 (.call f0 [(.t 6),(.t 8)]),.u 10 (.fa 3 (.t 2)),.u 11 (.ld none 3 true (.t 10)),.u 12 (.fa 3 (.t 3)),.u 13 (.ld none 3 true (.t 12)),.u 14 (.call f0 [(.t 11),(.t 13)]),.u 15 (.build [.x 3 (.t 9),.x 3 (.t 14)]),.n (.st none 6 (.t 4) (.t 15))])
 .ret)))
def qp(f0 f1:Nat):AC:=(.seq (.ops false [.u 2 (.box 3 (.t 0)),.u 3 (.box 3 (.t 1)),.u 4 (.alloc [(.lit (.bool false)),.emp,.emp])])
 (.fg [2,3,4] (.seq (.ops true [.u 5 (.ld none 3 true (.t 2)),.u 6 (.ld none 3 true (.t 2)),.u 7 (.call f0 [(.t 5),(.t 6)]),.u 8 (.ld none 3 true (.t 3)),.u 9 (.ld none 3 true (.t 3)),.u 10 (.call f0 [(.t 8),(.t 9)]),.u 11 (.call f1 [(.t 7),(.t 10)]),.n (.st none 3 (.t 4) (.t 11))])
 .ret)))
def ug(f0 f1 f2 f3 tE:Nat):AC:=(.seq (.ops false [.u 1 (.box 27 (.t 0)),.m 2 (.c (.one (.lit .nilIface)))])
 (.fg [1] (.seq (.seq (.ops false [.u 7 (.fa 0 (.t 1)),.u 8 (.ld none 6 true (.t 7)),.u 9 (.call f0 [(.t 8)]),.u 10 (.un .not (.t 9)),.m 11 (.t 10),.w 12 11 false (.fa 6 (.t 1)),.w 13 11 false (.ld none 6 true (.t 12)),.w 14 11 false (.call f0 [(.t 13)]),.w 15 11 false (.un .not (.t 14)),.u 16 (.pick (.t 11) .tr (.t 15))])
 (.fg [1,16] (.cond (.t 16) (.seq (.ops false [.u 17 (.iface tE (.i 2)),.m 2 (.t 17)])
 .ret) .skip)))
 (.fg [1] (.seq (.seq (.ops false [.u 18 (.fa 12 (.t 1)),.u 19 (.ld none 3 true (.t 18)),.u 20 (.fa 15 (.t 1)),.u 21 (.ld none 3 true (.t 20)),.u 22 (.fa 18 (.t 1)),.u 23 (.ld none 3 true (.t 22)),.u 24 (.fa 21 (.t 1)),.u 25 (.ld none 3 true (.t 24)),.u 26 (.fa 24 (.t 1)),.u 27 (.ld none 3 true (.t 26)),.u 28 (.row 3 [[.x 3 (.t 19)],[.x 3 (.t 21)],[.x 3 (.t 23)],[.x 3 (.t 25)],[.x 3 (.t 27)]]),.u 29 (.len (.t 28)),.m 30 (.i 0)])
 (.fg [1,28,29,30] (.block 0 (.loop (.seq (.ops false [.u 31 (.bin .lss (.t 30) (.t 29))])
 (.fg [1,28,29,30,31] (.seq (.cond (.t 31) .skip (.exit 0))
 (.fg [1,28,29,30] (.seq (.block 1 (.seq (.ops false [.u 32 (.idx 3 (.t 28) (.t 30)),.u 33 (.ld none 3 true (.t 32)),.u 4 (.alloc [(.lit (.bool false)),.emp,.emp]),.n (.st none 3 (.t 4) (.t 33))])
 (.fg [1,4,28,29,30] (.seq (.ops false [.u 34 (.ld none 3 true (.t 4)),.u 35 (.call f1 [(.t 34)]),.u 36 (.un .not (.t 35))])
 (.fg [1,28,29,30,36] (.cond (.t 36) (.seq (.ops false [.u 37 (.iface tE (.i 2)),.m 2 (.t 37)])
 .ret) .skip))))))
 (.fg [1,28,29,30] (.ops false [.u 38 (.bin .add (.t 30) (.i 1)),.m 30 (.t 38)])))))))))))
 (.fg [1] (.seq (.seq (.ops false [.u 39 (.fa 12 (.t 1)),.u 40 (.ld none 3 true (.t 39)),.u 41 (.fa 15 (.t 1)),.u 42 (.ld none 3 true (.t 41)),.u 43 (.fa 18 (.t 1)),.u 44 (.ld none 3 true (.t 43)),.u 45 (.row 3 [[.x 3 (.t 40)],[.x 3 (.t 42)],[.x 3 (.t 44)]]),.u 46 (.len (.t 45)),.m 47 (.i 0)])
 (.fg [1,45,46,47] (.block 2 (.loop (.seq (.ops false [.u 48 (.bin .lss (.t 47) (.t 46))])
 (.fg [1,45,46,47,48] (.seq (.cond (.t 48) .skip (.exit 2))
 (.fg [1,45,46,47] (.seq (.block 3 (.seq (.ops false [.u 49 (.idx 3 (.t 45) (.t 47)),.u 50 (.ld none 3 true (.t 49)),.u 6 (.alloc [(.lit (.bool false)),.emp,.emp]),.n (.st none 3 (.t 6) (.t 50))])
 (.fg [1,6,45,46,47] (.seq (.ops false [.u 51 (.ld none 3 true (.t 6)),.u 52 (.call f2 [(.t 51)]),.u 53 (.bin .leq (.t 52) (.i 0))])
 (.fg [1,45,46,47,53] (.cond (.t 53) (.seq (.ops false [.u 54 (.iface tE (.i 3)),.m 2 (.t 54)])
 .ret) .skip))))))
 (.fg [1,45,46,47] (.ops false [.u 55 (.bin .add (.t 47) (.i 1)),.m 47 (.t 55)])))))))))))
 (.fg [1] (.seq (.seq (.ops false [.u 56 (.fa 0 (.t 1)),.u 57 (.fa 0 (.t 56)),.u 58 (.ld none 3 true (.t 57)),.u 59 (.fa 6 (.t 1)),.u 60 (.fa 0 (.t 59)),.u 61 (.ld none 3 true (.t 60)),.u 62 (.call f3 [(.t 58),(.t 61)]),.u 63 (.bin .eql (.t 62) (.i 0)),.m 64 (.t 63),.w 65 64 true (.fa 0 (.t 1)),.w 66 64 true (.fa 3 (.t 65)),.w 67 64 true (.ld none 3 true (.t 66)),.w 68 64 true (.fa 6 (.t 1)),.w 69 64 true (.fa 3 (.t 68)),.w 70 64 true (.ld none 3 true (.t 69)),.w 71 64 true (.call f3 [(.t 67),(.t 70)]),.w 72 64 true (.bin .eql (.t 71) (.i 0)),.u 73 (.pick (.t 64) (.t 72) .fa)])
 (.fg [73] (.cond (.t 73) (.seq (.ops false [.u 74 (.iface tE (.i 8)),.m 2 (.t 74)])
 .ret) .skip)))
 (.fg [] (.seq (.ops false [.m 2 (.c (.one (.lit .nilIface)))])
 .ret)))))))))))
theorem uH(hΓ:Holds P Γ){f fv:Nat}(hv:Γ fv=.dat true je)(hc:check P f=some (11,(zh fv).strip,[.tmp 2])):Sound P f (.dat true vm):=by
 refine ka hc kan hΓ (λargs K hcl hfi hG=>?_);match args,hG with
 | [a],hG=>
  obtain⟨⟨x,y⟩,rfl,⟨wx,wy⟩,hl,hK⟩:=hG;refine⟨by simp,?_⟩
  have hl':=Nat.max_le.1 hl;simp only at wx wy hl';unfold avld at hK;simp only at hK;cases hx:vldR x with
  | true=>
   rw [hx,Bool.true_and]at hK;simp only [go_sem,zh,hv,Zw,hx];repeat first|refine ja (by omega) ?_|refine ja (by assumption) ?_|refine ja rfl ?_|refine ja ⟨rfl,by omega⟩ ?_|refine ja ⟨rfl,by omega,by omega⟩ ?_|intro _
   exact hK
  | false=>
   rw [hx,Bool.false_and]at hK;simp only [go_sem,zh,hv,Zw,hx];repeat first|refine ja (by omega) ?_|refine ja (by assumption) ?_|refine ja rfl ?_|refine ja ⟨rfl,by omega⟩ ?_|refine ja ⟨rfl,by omega,by omega⟩ ?_|intro _
   exact hK
theorem ZM(hΓ:Holds P Γ){f fs:Nat}(hs:Γ fs=.dat false vr)(hc:check P f=some (16,(Jp fs).strip,[.cell 4 6 true])):Sound P f (.dat false ko):=by
 refine ka hc qaH hΓ (λargs K hcl hfi hG=>?_);match args,hG with
 | [a,b],hG=>
  obtain⟨⟨x,y⟩,rfl,⟨wx,wy⟩,⟨u,v⟩,rfl,⟨wu,wv⟩,hl,hl2,hK⟩:=hG;refine⟨by simp,?_⟩
  have hl':=Nat.max_le.1 hl;have hl2':=Nat.max_le.1 hl2;simp only at wx wy wu wv hl' hl2';simp only [go_sem,Jp,hs,Zw];repeat first|refine ja (by omega) ?_|refine ja (by assumption) ?_|refine ja rfl ?_|refine ja ⟨rfl,by omega⟩ ?_|refine ja ⟨rfl,by omega,by omega⟩ ?_|intro _
  exact hK
theorem jai(hΓ:Holds P Γ){f fs:Nat}(hs:Γ fs=.dat false Zn)(hc:check P f=some (16,(vw fs).strip,[.cell 4 6 true])):Sound P f (.dat false zx):=by
 refine ka hc jaH hΓ (λargs K hcl hfi hG=>?_);match args,hG with
 | [a,b],hG=>
  obtain⟨⟨x,y⟩,rfl,⟨wx,wy⟩,⟨u,v⟩,rfl,⟨wu,wv⟩,hl,hl2,hK⟩:=hG;refine⟨by simp,?_⟩
  have hl':=Nat.max_le.1 hl;have hl2':=Nat.max_le.1 hl2;simp only at wx wy wu wv hl' hl2';simp only [go_sem,vw,hs,Zw];repeat first|refine ja (by omega) ?_|refine ja (by assumption) ?_|refine ja rfl ?_|refine ja ⟨rfl,by omega⟩ ?_|refine ja ⟨rfl,by omega,by omega⟩ ?_|intro _
  exact hK
theorem YaF(hΓ:Holds P Γ){f fm fa:Nat}(hm:Γ fm=.dat false kj)(ha:Γ fa=.dat false Zn)(hc:check P f=some (12,(qp fm fa).strip,[.cell 4 3 true])):Sound P f (.dat false QE):=by
 refine ka hc xaY hΓ (λargs K hcl hfi hG=>?_);match args,hG with
 | [a,b],hG=>
  obtain⟨x,rfl,wx,y,rfl,wy,hx,hy,hK⟩:=hG;refine⟨by simp,?_⟩
  have z1:=Ze wx;have z2:=Ze wy;have m1:=jc (rv x) (rv x);have m2:=jc (rv y) (rv y);simp only [go_sem,qp,hm,ha,rA,Wb];repeat first|refine ja (by omega) ?_|refine ja (by assumption) ?_|refine ja rfl ?_|refine ja ⟨rfl,by omega⟩ ?_|refine ja ⟨rfl,by omega,by omega⟩ ?_|intro _
  exact hK
theorem kaG(hΓ:Holds P Γ){f fv fr fg fq tE:Nat}(hv:Γ fv=.dat true vm)(hr:Γ fr=.dat true je)(hg:Γ fg=.dat true xk)(hq' : Γ fq=.dat true jg)(hc:check P f=some (75,(ug fv fr fg fq tE).strip,[.tmp 2])):Sound P f (.dat false (VA tE)):=by
 refine ka hc (kaN tE) hΓ (λargs K hcl hfi hG=>?_);match args,hG with
 | [a],hG=>
  obtain⟨c,rfl,hw,hl,hK⟩:=hG;refine⟨by simp,?_⟩
  obtain⟨wo,wq,w1,w2,w3,w4,w5⟩:=id hw;have hl0:=hl;unfold cl at hl0;simp only [Nat.max_le]at hl0;obtain⟨l1,l2,l3,l4,l5,l6,l7⟩:=hl0;have wo1:=wo.1;have wo2:=wo.2;have wq1:=wq.1;have wq2:=wq.2;have lo1:=(Nat.max_le.1 l1).1;have lo2:=(Nat.max_le.1 l1).2;have lq1:=(Nat.max_le.1 l2).1;have lq2:=(Nat.max_le.1 l2).2;have h5:∀x∈cps5 c,WLR x/\rl x<=100000000:=λx hx=>by
   simp only [cps5,List.mem_cons,List.not_mem_nil,or_false]at hx;rcases hx with rfl|rfl|rfl|rfl|rfl
   .exact⟨w1,l3⟩
   .exact⟨w2,l4⟩
   .exact⟨w3,l5⟩
   .exact⟨w4,l6⟩
   .exact⟨w5,l7⟩
  have h3:∀x∈cps3 c,WLR x/\rl x<=100000000:=λx hx=>h5 x (by
   simp only [cps3,cps5,List.mem_cons,List.not_mem_nil,or_false]at hx ⊢;rcases hx with rfl|rfl|rfl <;> simp)
  have n5:(cps5 c).length=5:=rfl;have n3:(cps3 c).length=3:=rfl;have e2:=qe tE (by decide:2≠0)
  cases ha:avld c.1 with
  | false=>
   have e:cchk c=2:=if_pos (.inl ha);rw [e,e2]at hK;simp only [go_sem,ug,hv,cpA,cpC,vd,ha];repeat first|refine ja (by omega) ?_|refine ja (by assumption) ?_|refine ja rfl ?_|refine ja ⟨rfl,by omega⟩ ?_|refine ja ⟨rfl,by omega,by omega⟩ ?_|intro _
   exact hK
  | true=>
  cases hb:avld c.2.1 with
  | false=>
   have e:cchk c=2:=if_pos (.inr hb);rw [e,e2]at hK;simp only [go_sem,ug,hv,cpA,cpC,vd,ha,hb];repeat first|refine ja (by omega) ?_|refine ja (by assumption) ?_|refine ja rfl ?_|refine ja ⟨rfl,by omega⟩ ?_|refine ja ⟨rfl,by omega,by omega⟩ ?_|intro _
   exact hK
  | true=>
   have hab:¬(avld c.1=false∨avld c.2.1=false):=by simp [ha,hb]
   have hch:cchk c=if (cps5 c).all vldR=false then 2 else if (cps3 c).all gt0R=false then 3 else if av c.1=av c.2.1 then 8 else 0:=if_neg hab
   rw [hch]at hK;simp only [go_sem,ug,hv,cpA,cpC,vd,ha,hb];repeat first|refine ja (by omega) ?_|refine ja (by assumption) ?_|refine ja rfl ?_|refine ja ⟨rfl,by omega⟩ ?_|refine ja ⟨rfl,by omega,by omega⟩ ?_|intro _
   refine Ya (λk:Nat=>⟨mkV [(1,.one (.ptr 1 1 0 0)),(28,.one (.full ((cps5 c).map rC))),(29,.one (.lit (.int .i64 5))),(30,.one (.lit (.int .i64 k)))],mkH [(1,⟨1,some ⟨[cpC c],27,true⟩⟩)]⟩) (λk=>k<=5/\((cps5 c).take k).all vldR=true) (λk=>5-k) 0 ?_ ?_ ?_
   .exact Qa (by simp [okS,okV,okC,okL,okH,okB,okE,Za,Va,za,Ja,wsA,ws,rC,cps5]) ⟨zI rfl,trivial⟩
   .exact⟨Nat.zero_le _,rfl⟩
   .rintro k ⟨hk,hall⟩;by_cases hlt:k<5
    .obtain⟨x,hx⟩:∃x,(cps5 c).getD k (rcan 0)=x:=⟨_,rfl⟩;have hx0:(cps5 c)[k]?=some x:=by
      rw [<-hx,List.getD_eq_getElem?_getD,List.getElem?_eq_getElem (by omega)];rfl
     obtain⟨g1,g2⟩:=h5 x (List.mem_of_getElem? hx0);have hlt' : ((k:Nat):Int)<5:=by omega
     cases hz:vldR x with
     | true=>
      simp only [go_sem,hlt',hlt,hr,Xw,n5,hx,rC,hz];repeat first|refine ja (by omega) ?_|refine ja (by assumption) ?_|refine ja rfl ?_|refine ja ⟨rfl,by omega⟩ ?_|refine ja ⟨rfl,by omega,by omega⟩ ?_|intro _
      exact⟨k+1,Qa (by simp [okS,okV,okC,okL,okH,okB,okE,Za,Va,za,Ja,wsA,ws,rC,cps5]) ⟨zI rfl,trivial⟩,⟨by omega,allS hx0 hall hz⟩,by omega⟩
     | false=>
      have hf:(cps5 c).all vldR=false:=by
       rw [List.all_eq_false];exact⟨x,List.mem_of_getElem? hx0,by simp [hz]⟩
      rw [if_pos hf,e2]at hK;simp only [go_sem,hlt',hlt,hr,Xw,n5,hx,rC,hz];repeat first|refine ja (by omega) ?_|refine ja (by assumption) ?_|refine ja rfl ?_|refine ja ⟨rfl,by omega⟩ ?_|refine ja ⟨rfl,by omega,by omega⟩ ?_|intro _
      exact hK
    .have hv5:(cps5 c).all vldR=true:=by rw [List.take_of_length_le (by omega)]at hall;exact hall
     rw [if_neg (by simp [hv5])]at hK
     have hlt' : ¬((k:Nat):Int)<5:=by omega
     simp only [go_sem,hlt',cpC];repeat first|refine ja (by omega) ?_|refine ja (by assumption) ?_|refine ja rfl ?_|refine ja ⟨rfl,by omega⟩ ?_|refine ja ⟨rfl,by omega,by omega⟩ ?_|intro _
     refine Ya (λk:Nat=>⟨mkV [(1,.one (.ptr 1 1 0 0)),(45,.one (.full ((cps3 c).map rC))),(46,.one (.lit (.int .i64 3))),(47,.one (.lit (.int .i64 k)))],mkH [(1,⟨1,some ⟨[cpC c],27,true⟩⟩)]⟩) (λk=>k<=3/\((cps3 c).take k).all gt0R=true) (λk=>3-k) 0 ?_ ?_ ?_
     .exact Qa (by simp [okS,okV,okC,okL,okH,okB,okE,Za,Va,za,Ja,wsA,ws,rC,cps3]) ⟨zI rfl,trivial⟩
     .exact⟨Nat.zero_le _,rfl⟩
     .rintro k ⟨hk,hall⟩;by_cases hlt:k<3
      .obtain⟨x,hx⟩:∃x,(cps3 c).getD k (rcan 0)=x:=⟨_,rfl⟩;have hx0:(cps3 c)[k]?=some x:=by
        rw [<-hx,List.getD_eq_getElem?_getD,List.getElem?_eq_getElem (by omega)];rfl
       obtain⟨g1,g2⟩:=h3 x (List.mem_of_getElem? hx0);have hlt' : ((k:Nat):Int)<3:=by omega
       cases hz:gt0R x with
       | true=>
        have hp:(ordQ (rv x) 0<=0)=False:=by rw [yI];simpa [gt0R] using hz
        simp only [go_sem,hlt',hlt,hg,Xw,n3,hx,rC,hp];repeat first|refine ja (by omega) ?_|refine ja (by assumption) ?_|refine ja rfl ?_|refine ja ⟨rfl,by omega⟩ ?_|refine ja ⟨rfl,by omega,by omega⟩ ?_|intro _
        exact⟨k+1,Qa (by simp [okS,okV,okC,okL,okH,okB,okE,Za,Va,za,Ja,wsA,ws,rC,cps3]) ⟨zI rfl,trivial⟩,⟨by omega,allS hx0 hall hz⟩,by omega⟩
       | false=>
        have hp:(ordQ (rv x) 0<=0)=True:=by rw [yI];simpa [gt0R] using hz
        have hf:(cps3 c).all gt0R=false:=by
         rw [List.all_eq_false];exact⟨x,List.mem_of_getElem? hx0,by simp [hz]⟩
        rw [if_pos hf,qe tE (by decide)]at hK
        simp only [go_sem,hlt',hlt,hg,Xw,n3,hx,rC,hp];repeat first|refine ja (by omega) ?_|refine ja (by assumption) ?_|refine ja rfl ?_|refine ja ⟨rfl,by omega⟩ ?_|refine ja ⟨rfl,by omega,by omega⟩ ?_|intro _
        exact hK
      .have hv3:(cps3 c).all gt0R=true:=by rw [List.take_of_length_le (by omega)]at hall;exact hall
       rw [if_neg (by simp [hv3])]at hK
       have hlt' : ¬((k:Nat):Int)<3:=by omega
       have eav:(av c.1=av c.2.1)=(rv c.1.1=rv c.2.1.1/\rv c.1.2=rv c.2.1.2):=by
        unfold av;rw [Prod.mk.injEq]
       by_cases q1:rv c.1.1=rv c.2.1.1
       .by_cases q2:rv c.1.2=rv c.2.1.2
        .rw [if_pos (by rw [eav];exact⟨q1,q2⟩),qe tE (by decide)]at hK
         have o1:ordQ (rv c.1.1) (rv c.2.1.1)=0:=Zf.2 q1;have o2:ordQ (rv c.1.2) (rv c.2.1.2)=0:=Zf.2 q2;simp only [go_sem,hlt',cpC,hq',o1,o2];repeat first|refine ja (by omega) ?_|refine ja (by assumption) ?_|refine ja rfl ?_|refine ja ⟨rfl,by omega⟩ ?_|refine ja ⟨rfl,by omega,by omega⟩ ?_|intro _
         exact hK
        .rw [if_neg (by rw [eav];exact λh=>q2 h.2),Jd]at hK
         have o1:ordQ (rv c.1.1) (rv c.2.1.1)=0:=Zf.2 q1;have o2:¬ordQ (rv c.1.2) (rv c.2.1.2)=0:=λh=>q2 (Zf.1 h);simp only [go_sem,hlt',cpC,hq',o1,o2];repeat first|refine ja (by omega) ?_|refine ja (by assumption) ?_|refine ja rfl ?_|refine ja ⟨rfl,by omega⟩ ?_|refine ja ⟨rfl,by omega,by omega⟩ ?_|intro _
         exact hK
       .rw [if_neg (by rw [eav];exact λh=>q1 h.1),Jd]at hK
        have o1:¬ordQ (rv c.1.1) (rv c.2.1.1)=0:=λh=>q1 (Zf.1 h);simp only [go_sem,hlt',cpC,hq',o1];repeat first|refine ja (by omega) ?_|refine ja (by assumption) ?_|refine ja rfl ?_|refine ja ⟨rfl,by omega⟩ ?_|refine ja ⟨rfl,by omega,by omega⟩ ?_|intro _
        exact hK
end Go.Abs
end
section
namespace Go.Num
open Go.Abs
def tOk(v:BQ×BQ)(u w:Rat):Prop:=PB 1 4006 v.1/\PB 1 4006 v.2/\rz u<=4004/\rz w<=4004
def nOk(v:BQ×BQ):Prop:=∃d s,PB d s v.1/\PB d s v.2/\d+d<=24/\s<=1000000
theorem PB.mulok{d s e t:Nat}{p q:BQ}(hp:PB d s p)(hq:PB e t q)(h:d+e<=24)(h2:s+t<=3000000):sz p+sz q<=3000000/\degB p+degB q<=24:=
 ⟨by have:=hp.size;have:=hq.size;omega,hp.dd hq h⟩
end Go.Num
namespace Go.Abs
open Go.Num
variable {P:Program} {Γ:Nat->Spec}
def XF(l:List AV)(K:AV->Prop):Prop:=
 match l with
 | [v,u,w]=>onV (λv=>onR (λu=>onR (λw=>tOk v (rv u) (rv w)/\rl u<=1000000/\rl w<=1000000/\K (.agg [bC (timB v (rv u) (rv w)).1,bC (timB v (rv u) (rv w)).2])) w) u) v
 | _=>False
theorem YaK(v u w:AV)(K:AV->Prop):XF [v,u,w] K=(onV (λv=>onR (λu=>onR (λw=>tOk v (rv u) (rv w)/\rl u<=1000000/\rl w<=1000000/\K (.agg [bC (timB v (rv u) (rv w)).1,bC (timB v (rv u) (rv w)).2])) w) u) v):=propext Iff.rfl
@[congr] theorem XbX {K:AV->Prop} {l l' : List AV} (h:l=l'):XF l K=XF l' K:=by subst h;rfl
attribute [go_sem,go_sem ↓] YaK
theorem kaP:Good XF:=Wa λas=>by
 unfold XF;split
 .exact(kbF λ_=>(yg λ_=>(yg λ_=>(.and λ_=>(.and λ_=>(.and λ_=>(.ret _)))))))
 .exact .of λK hk=>hk.elim
def YC(l:List AV)(K:AV->Prop):Prop:=
 match l with
 | [v]=>onV (λv=>nOk v/\K (.one (bC (nrmB v)))) v
 | _=>False
theorem WaW(v:AV)(K:AV->Prop):YC [v] K=(onV (λv=>nOk v/\K (.one (bC (nrmB v)))) v):=propext Iff.rfl
@[congr] theorem ubV {K:AV->Prop} {l l' : List AV} (h:l=l'):YC l K=YC l' K:=by subst h;rfl
attribute [go_sem,go_sem ↓] WaW
theorem yaO:Good YC:=Wa λas=>by
 unfold YC;split
 .exact(kbF λ_=>(.and λ_=>(.ret _)))
 .exact .of λK hk=>hk.elim
def qF(l:List AV)(K:AV->Prop):Prop:=
 match l with
 | [c]=>onCp (λc=>cl c<=4000/\K (.agg [bC (cAl (cpv c)).1,bC (cAl (cpv c)).2,bC (cBe (cpv c)).1,bC (cBe (cpv c)).2,bC (cE (cpv c)),bC (cF (cpv c)),bC (cM (cpv c))])) c
 | _=>False
theorem xa7(c:AV)(K:AV->Prop):qF [c] K=(onCp (λc=>cl c<=4000/\K (.agg [bC (cAl (cpv c)).1,bC (cAl (cpv c)).2,bC (cBe (cpv c)).1,bC (cBe (cpv c)).2,bC (cE (cpv c)),bC (cF (cpv c)),bC (cM (cpv c))])) c):=propext Iff.rfl
@[congr] theorem VbS {K:AV->Prop} {l l' : List AV} (h:l=l'):qF l K=qF l' K:=by subst h;rfl
attribute [go_sem,go_sem ↓] xa7
theorem vaY:Good qF:=Wa λas=>by
 unfold qF;split
 .exact(Ym λ_=>(.and λ_=>(.ret _)))
 .exact .of λK hk=>hk.elim
def xe(f0 f1 f2:Nat):AC:=(.seq (.ops false [.u 5 (.box 2 (.t 1)),.u 6 (.box 3 (.t 2)),.u 7 (.box 3 (.t 3)),.u 8 (.alloc [.emp,.emp])])
 (.fg [0,5,6,7,8] (.seq (.ops true [.m 9 (.t 0),.m 10 (.t 0),.u 11 (.fa 0 (.t 5)),.u 12 (.ld none 1 false (.t 11)),.u 13 (.ld none 3 true (.t 6)),.u 14 (.callr f0 [(.t 10),(.t 12),(.t 13)]),.m 15 (.t 0),.u 16 (.fa 1 (.t 5)),.u 17 (.ld none 1 false (.t 16)),.u 18 (.ld none 3 true (.t 7)),.u 19 (.callr f0 [(.t 15),(.t 17),(.t 18)]),.u 20 (.callr f1 [(.t 9),(.t 14),(.t 19)]),.m 21 (.t 0),.m 22 (.t 0),.u 23 (.fa 1 (.t 5)),.u 24 (.ld none 1 false (.t 23)),.u 25 (.ld none 3 true (.t 6)),.u 26 (.callr f0 [(.t 22),(.t 24),(.t 25)]),.m 27 (.t 0),.u 28 (.fa 0 (.t 5)),.u 29 (.ld none 1 false (.t 28)),.u 30 (.ld none 3 true (.t 7)),.u 31 (.callr f0 [(.t 27),(.t 29),(.t 30)]),.u 32 (.callr f2 [(.t 21),(.t 26),(.t 31)]),.u 33 (.build [.x 1 (.t 20),.x 1 (.t 32)]),.n (.st none 2 (.t 8) (.t 33))])
 .ret)))
def jf(f0 f1:Nat):AC:=(.seq (.ops false [.u 3 (.box 2 (.t 1)),.m 4 (.c (.one .emp))])
 (.fg [0,3] (.seq (.ops true [.m 5 (.t 0),.m 6 (.t 0),.u 7 (.fa 0 (.t 3)),.u 8 (.ld none 1 false (.t 7)),.u 9 (.fa 0 (.t 3)),.u 10 (.ld none 1 false (.t 9)),.u 11 (.callr f0 [(.t 6),(.t 8),(.t 10)]),.m 12 (.t 0),.u 13 (.fa 1 (.t 3)),.u 14 (.ld none 1 false (.t 13)),.u 15 (.fa 1 (.t 3)),.u 16 (.ld none 1 false (.t 15)),.u 17 (.callr f0 [(.t 12),(.t 14),(.t 16)]),.u 18 (.callr f1 [(.t 5),(.t 11),(.t 17)]),.m 4 (.t 18)])
 .ret)))
def Ue(f0 f1 f2 f3 f4 f5 f6 f7 f8 f9 f10 f11:Nat):AC:=(.seq (.ops false [.u 3 (.box 27 (.t 1)),.u 4 (.alloc [.emp,.emp,.emp,.emp,.emp,.emp,.emp])])
 (.fg [0,3,4] (.seq (.ops true [.m 11 (.t 0),.u 12 (.fa 0 (.t 3)),.u 13 (.fa 0 (.t 12)),.u 14 (.ld none 3 true (.t 13)),.u 15 (.callr f0 [(.t 11),.fa,(.t 14)]),.m 16 (.t 0),.u 17 (.fa 0 (.t 3)),.u 18 (.fa 3 (.t 17)),.u 19 (.ld none 3 true (.t 18)),.u 20 (.callr f0 [(.t 16),.tr,(.t 19)]),.u 21 (.build [.x 1 (.t 15),.x 1 (.t 20)]),.u 5 (.alloc [.emp,.emp]),.n (.st none 2 (.t 5) (.t 21))])
 (.fg [0,3,4,5] (.seq (.ops true [.m 22 (.t 0),.u 23 (.fa 6 (.t 3)),.u 24 (.fa 0 (.t 23)),.u 25 (.ld none 3 true (.t 24)),.u 26 (.callr f0 [(.t 22),.fa,(.t 25)]),.m 27 (.t 0),.u 28 (.fa 6 (.t 3)),.u 29 (.fa 3 (.t 28)),.u 30 (.ld none 3 true (.t 29)),.u 31 (.callr f0 [(.t 27),.tr,(.t 30)]),.u 32 (.build [.x 1 (.t 26),.x 1 (.t 31)]),.u 6 (.alloc [.emp,.emp]),.n (.st none 2 (.t 6) (.t 32))])
 (.fg [0,3,4,5,6] (.seq (.ops true [.u 33 (.call f1 [(.i 1)]),.u 34 (.fa 21 (.t 3)),.u 35 (.ld none 3 true (.t 34)),.u 36 (.call f2 [(.t 33),(.t 35)]),.u 7 (.alloc [(.lit (.bool false)),.emp,.emp]),.n (.st none 3 (.t 7) (.t 36))])
 (.fg [0,3,4,5,6,7] (.seq (.ops true [.m 37 (.t 0),.u 38 (.ld none 2 true (.t 5)),.u 39 (.fa 21 (.t 3)),.u 40 (.ld none 3 true (.t 39)),.u 41 (.fa 24 (.t 3)),.u 42 (.ld none 3 true (.t 41)),.u 43 (.call f3 [(.t 42)]),.u 44 (.callr f4 [(.t 37),(.t 38),(.t 40),(.t 43)]),.m 45 (.t 0),.u 46 (.ld none 2 true (.t 6)),.u 47 (.ld none 3 true (.t 7)),.u 48 (.fa 24 (.t 3)),.u 49 (.ld none 3 true (.t 48)),.u 50 (.callr f4 [(.t 45),(.t 46),(.t 47),(.t 49)]),.u 51 (.build [.x 2 (.t 44),.x 2 (.t 50),.z [.emp,.emp,.emp]]),.u 8 (.alloc [.emp,.emp,.emp,.emp,.emp,.emp,.emp]),.n (.st none 7 (.t 8) (.t 51))])
 (.fg [0,3,4,5,6,7,8] (.seq (.ops true [.u 52 (.fa 21 (.t 3)),.u 53 (.ld none 3 true (.t 52)),.u 54 (.fa 24 (.t 3)),.u 55 (.ld none 3 true (.t 54)),.u 56 (.call f5 [(.t 53),(.t 55)]),.u 57 (.fa 15 (.t 3)),.u 58 (.ld none 3 true (.t 57)),.u 59 (.call f6 [(.t 56),(.t 58)]),.u 60 (.fa 12 (.t 3)),.u 61 (.ld none 3 true (.t 60)),.u 62 (.call f2 [(.t 59),(.t 61)]),.u 9 (.alloc [(.lit (.bool false)),.emp,.emp]),.n (.st none 3 (.t 9) (.t 62))])
 (.fg [0,3,4,5,6,7,8,9] (.seq (.ops true [.u 63 (.fa 18 (.t 3)),.u 64 (.ld none 3 true (.t 63)),.u 65 (.ld none 3 true (.t 7)),.u 66 (.fa 24 (.t 3)),.u 67 (.ld none 3 true (.t 66)),.u 68 (.call f5 [(.t 65),(.t 67)]),.u 69 (.fa 15 (.t 3)),.u 70 (.ld none 3 true (.t 69)),.u 71 (.call f6 [(.t 68),(.t 70)]),.u 72 (.call f2 [(.t 64),(.t 71)]),.u 10 (.alloc [(.lit (.bool false)),.emp,.emp]),.n (.st none 3 (.t 10) (.t 72))])
 (.fg [0,4,5,6,8,9,10] (.seq (.ops true [.m 73 (.t 0),.m 74 (.t 0),.u 75 (.ld none 2 true (.t 5)),.u 76 (.callr f7 [(.t 74),(.t 75)]),.m 77 (.t 0),.u 78 (.ld none 3 true (.t 9)),.u 79 (.callr f8 [(.t 77),(.t 78)]),.u 80 (.callr f9 [(.t 73),(.t 76),(.t 79)]),.u 81 (.fa 4 (.t 8)),.n (.st none 1 (.t 81) (.t 80))])
 (.fg [0,4,6,8,10] (.seq (.ops true [.m 82 (.t 0),.m 83 (.t 0),.u 84 (.ld none 3 true (.t 10)),.u 85 (.callr f8 [(.t 83),(.t 84)]),.m 86 (.t 0),.u 87 (.ld none 2 true (.t 6)),.u 88 (.callr f7 [(.t 86),(.t 87)]),.u 89 (.callr f10 [(.t 82),(.t 85),(.t 88)]),.u 90 (.fa 5 (.t 8)),.n (.st none 1 (.t 90) (.t 89))])
 (.fg [0,4,8] (.seq (.ops true [.m 91 (.t 0),.m 92 (.t 0),.u 93 (.fa 0 (.t 8)),.u 94 (.fa 0 (.t 93)),.u 95 (.ld none 1 false (.t 94)),.u 96 (.fa 2 (.t 8)),.u 97 (.fa 1 (.t 96)),.u 98 (.ld none 1 false (.t 97)),.u 99 (.callr f11 [(.t 92),(.t 95),(.t 98)]),.m 100 (.t 0),.u 101 (.fa 0 (.t 8)),.u 102 (.fa 1 (.t 101)),.u 103 (.ld none 1 false (.t 102)),.u 104 (.fa 2 (.t 8)),.u 105 (.fa 0 (.t 104)),.u 106 (.ld none 1 false (.t 105)),.u 107 (.callr f11 [(.t 100),(.t 103),(.t 106)]),.u 108 (.callr f10 [(.t 91),(.t 99),(.t 107)]),.u 109 (.fa 6 (.t 8)),.n (.st none 1 (.t 109) (.t 108))])
 (.fg [4,8] (.seq (.ops false [.u 110 (.ld none 7 true (.t 8)),.n (.st none 7 (.t 4) (.t 110))])
 .ret)))))))))))))))))))))
theorem QaI(hΓ:Holds P Γ){f fl fs fa:Nat}(hl:Γ fl=.red Vp)(hs:Γ fs=.red jA)(ha:Γ fa=.red xA)(hc:check P f=some (34,(xe fl fs fa).strip,[.cell 8 2 true])):Sound P f (.red XF):=by
 refine Yl hc kaP hΓ (λrest h r ver K hr hcl hfi hG=>?_);match rest,hG with
 | [a,b,c],hG=>
  obtain⟨p,q,rfl,⟨hp,hq⟩,u,rfl,wu,w,rfl,ww,⟨p1,p2,r1,r2⟩,h1,h2,hK⟩:=hG;refine⟨by simp,?_⟩
  simp only [timB]at p1 p2 hK;have e:tri (1+1)=3:=rfl;have a1:=p1.scl r1;have a2:=p1.scl r2;have a3:=p2.scl r1;have a4:=p2.scl r2;rw [e]at a1 a2 a3 a4;have c1:=a1.canon;have c2:=a2.canon;have c3:=a3.canon;have c4:=a4.canon;have s1:=a1.size;have s2:=a2.size;have s3:=a3.size;have s4:=a4.size;have s5:=p1.size;have s6:=p2.size;have c5:=yaf c1 c4;have c6:=yM c3 c2;simp only [go_sem,xe,hr,hl,hs,ha,rA];repeat first|refine ja (by omega) ?_|refine ja (by assumption) ?_|refine ja rfl ?_|refine ja ⟨rfl,by omega⟩ ?_|refine ja ⟨rfl,by omega,by omega⟩ ?_|intro _
  rw [yA hr];exact hK
theorem YaI(hΓ:Holds P Γ){f fm fa:Nat}(hm:Γ fm=.red zB)(ha:Γ fa=.red xA)(hc:check P f=some (19,(jf fm fa).strip,[.tmp 4])):Sound P f (.red YC):=by
 refine Yl hc yaO hΓ (λrest h r ver K hr hcl hfi hG=>?_);match rest,hG with
 | [a],hG=>
  obtain⟨p,q,rfl,⟨hp,hq⟩,⟨d,s,p1,p2,hd,hs⟩,hK⟩:=hG;refine⟨by simp,?_⟩
  simp only at p1 p2 hK;obtain⟨m1,m2⟩:=p1.mulok p1 hd (by omega)
  obtain⟨m3,m4⟩:=p2.mulok p2 hd (by omega)
  have q1:=p1.mul p1 hd;have q2:=p2.mul p2 hd;have t1:tri (d+1)<=91:=Xas (show d+1<=13 by omega)
  have t2:tri (d+1)*s<=91*1000000:=Nat.mul_le_mul t1 hs;have s1:=q1.size;have s2:=q2.size;have c1:=q1.canon;have c2:=q2.canon;have c3:=yM c1 c2;simp only [go_sem,jf,hr,hm,ha];repeat first|refine ja (by omega) ?_|refine ja (by assumption) ?_|refine ja rfl ?_|refine ja ⟨rfl,by omega⟩ ?_|refine ja ⟨rfl,by omega,by omega⟩ ?_|intro _
  rw [yA hr];exact hK
set_option maxHeartbeats 1000000 in
theorem yaI(hΓ:Holds P Γ){f fl fo fs fn ft fq fm fk fc fa fb fu:Nat}(hl:Γ fl=.red JE)(ho:Γ fo=.dat false Wx)(hs:Γ fs=.dat false vr)(hn:Γ fn=.dat false Xp)(ht:Γ ft=.red XF)(hq' : Γ fq=.dat false QE)(hm:Γ fm=.dat false kj)(hk:Γ fk=.red YC)(hcn:Γ fc=.red xG)(ha:Γ fa=.red xA)(hb:Γ fb=.red jA)(hu:Γ fu=.red zB)(hc:check P f=some (111,(Ue fl fo fs fn ft fq fm fk fc fa fb fu).strip,[.cell 4 7 true])):Sound P f (.red qF):=by
 refine Yl hc vaY hΓ (λrest h r ver K hr hcl hfi hG=>?_);match rest,hG with
 | [a],hG=>
  obtain⟨c,rfl,hw,hl1,hK⟩:=hG;refine⟨by simp,?_⟩
  have hB:=YL hw hl1;obtain⟨wo,wq,w1,w2,w3,w4,w5⟩:=id hw;have hl0:=hl1;unfold cl at hl0;simp only [Nat.max_le]at hl0;obtain⟨l1,l2,l3,l4,l5,l6,l7⟩:=hl0;have wo1:=wo.1;have wo2:=wo.2;have wq1:=wq.1;have wq2:=wq.2;have lo1:=(Nat.max_le.1 l1).1;have lo2:=(Nat.max_le.1 l1).2;have lq1:=(Nat.max_le.1 l2).1;have lq2:=(Nat.max_le.1 l2).2;have z1:=rz_1;have x1:PB 1 4006 (linB false (rv c.1.1)):=PB.lx hB.o1;have x2:PB 1 4006 (linB true (rv c.1.2)):=PB.lx hB.o2;have x3:PB 1 4006 (linB false (rv c.2.1.1)):=PB.lx hB.q1;have x4:PB 1 4006 (linB true (rv c.2.1.2)):=PB.lx hB.q2;have y1:=x1.canon;have y2:=x2.canon;have y3:=x3.canon;have y4:=x4.canon;have ru:rz (rv c.2.2.2.2.2.1)<=4000:=hB.u;have rw' : rz (rv c.2.2.2.2.2.2)<=4000:=hB.v;have rb:rz (rv c.2.2.2.1)<=4000:=hB.b2;have ra:rz (rv c.2.2.1)<=4000:=hB.a2;have rc:rz (rv c.2.2.2.2.1)<=4000:=hB.c2;have rr:rz (1-rv c.2.2.2.2.2.1)<=4004:=ubu hB;have rn:rz (-rv c.2.2.2.2.2.2)<=4000:=by rw [Vv];exact rw'
  have t1:tOk (linB false (rv c.1.1),linB true (rv c.1.2)) (rv c.2.2.2.2.2.1) (-rv c.2.2.2.2.2.2):=⟨x1,x2,by omega,by omega⟩
  have t2:tOk (linB false (rv c.2.1.1),linB true (rv c.2.1.2)) (1-rv c.2.2.2.2.2.1) (rv c.2.2.2.2.2.2):=⟨x3,x4,by omega,by omega⟩
  have n1:nOk (linB false (rv c.1.1),linB true (rv c.1.2)):=⟨1,4006,x1,x2,by decide,by decide⟩
  have n2:nOk (linB false (rv c.2.1.1),linB true (rv c.2.1.2)):=⟨1,4006,x3,x4,by decide,by decide⟩
  have k1:=jI (rv c.2.2.2.2.2.1,rv c.2.2.2.2.2.2);have k2:zq (rv c.2.2.2.2.2.1,rv c.2.2.2.2.2.2)<=4000:=Nat.max_le.2 ⟨ru,rw'⟩;have k3:=jc (sqQ (rv c.2.2.2.2.2.1,rv c.2.2.2.2.2.2)) (rv c.2.2.2.1);have k4:=zw (sqQ (rv c.2.2.2.2.2.1,rv c.2.2.2.2.2.2)*rv c.2.2.2.1) (rv c.2.2.1);have k5:=jI (1-rv c.2.2.2.2.2.1,rv c.2.2.2.2.2.2);have k6:zq (1-rv c.2.2.2.2.2.1,rv c.2.2.2.2.2.2)<=4004:=Nat.max_le.2 ⟨rr,Nat.le_trans rw' (by decide)⟩
  have k7:=jc (sqQ (1-rv c.2.2.2.2.2.1,rv c.2.2.2.2.2.2)) (rv c.2.2.2.1);have k8:=zw (rv c.2.2.2.2.1) (sqQ (1-rv c.2.2.2.2.2.1,rv c.2.2.2.2.2.2)*rv c.2.2.2.1);have y12:=And.intro y1 y2;have y34:=And.intro y3 y4;have e1:PB 2 48072 (nrmB (linB false (rv c.1.1),linB true (rv c.1.2))):=waI (o:=(rv c.1.1,rv c.1.2)) hB.o1 hB.o2;have e2:PB 2 48072 (nrmB (linB false (rv c.2.1.1),linB true (rv c.2.1.2))):=waI (o:=(rv c.2.1.1,rv c.2.1.2)) hB.q1 hB.q2;have e1c:=e1.canon;have e1s:=e1.size;have e2c:=e2.canon;have e2s:=e2.size;have b1:=PB.con (sqQ (rv c.2.2.2.2.2.1,rv c.2.2.2.2.2.2)*rv c.2.2.2.1-rv c.2.2.1);have b2:=PB.con (rv c.2.2.2.2.1-sqQ (1-rv c.2.2.2.2.2.1,rv c.2.2.2.2.2.2)*rv c.2.2.2.1);have b1c:=b1.canon;have b1s:=b1.size;have b2c:=b2.canon;have b2s:=b2.size;have A1:PB 1 32100 (timB (linB false (rv c.1.1),linB true (rv c.1.2)) (rv c.2.2.2.2.2.1) (-rv c.2.2.2.2.2.2)).1:=(xJ hB).1;have A2:PB 1 32100 (timB (linB false (rv c.1.1),linB true (rv c.1.2)) (rv c.2.2.2.2.2.1) (-rv c.2.2.2.2.2.2)).2:=(xJ hB).2;have B1:PB 1 32200 (timB (linB false (rv c.2.1.1),linB true (rv c.2.1.2)) (1-rv c.2.2.2.2.2.1) (rv c.2.2.2.2.2.2)).1:=(kO hB).1;have B2:PB 1 32200 (timB (linB false (rv c.2.1.1),linB true (rv c.2.1.2)) (1-rv c.2.2.2.2.2.1) (rv c.2.2.2.2.2.2)).2:=(kO hB).2;obtain⟨m1,m2⟩:=A1.mulok B2 (by decide) (by decide)
  obtain⟨m3,m4⟩:=A2.mulok B1 (by decide) (by decide)
  have M1:=A1.mul B2 (by decide)
  have M2:=A2.mul B1 (by decide)
  have tt:tri (1+1)=3:=rfl;rw [tt]at M1 M2;have A1c:=A1.canon;have A2c:=A2.canon;have B1c:=B1.canon;have B2c:=B2.canon;have M1c:=M1.canon;have M1s:=M1.size;have M2c:=M2.canon;have M2s:=M2.size;have q1:rl c.1.1<=1000000:=Nat.le_trans lo1 (by decide)
  have q2:rl c.1.2<=1000000:=Nat.le_trans lo2 (by decide)
  have q3:rl c.2.1.1<=1000000:=Nat.le_trans lq1 (by decide)
  have q4:rl c.2.1.2<=1000000:=Nat.le_trans lq2 (by decide)
  have q5:rz 1<=4294967296:=Nat.le_trans z1 (by decide)
  have q6:rl c.2.2.2.2.2.1<=4294967296:=Nat.le_trans l6 (by decide)
  have q7:rl c.2.2.2.2.2.2<=4294967296:=Nat.le_trans l7 (by decide)
  have q8:rl c.2.2.2.2.2.1<=1000000:=Nat.le_trans l6 (by decide)
  have q9:rl c.2.2.2.2.2.2<=1000000:=Nat.le_trans l7 (by decide)
  have q10:rl c.2.2.2.2.2.1<=100000000:=Nat.le_trans l6 (by decide)
  have q11:rl c.2.2.2.2.2.2<=100000000:=Nat.le_trans l7 (by decide)
  have q12:rz (-rv c.2.2.2.2.2.2)<=1000000:=Nat.le_trans rn (by decide)
  have q13:rz (1-rv c.2.2.2.2.2.1)<=1000000:=Nat.le_trans rr (by decide)
  have q14:rz (1-rv c.2.2.2.2.2.1)<=100000000:=Nat.le_trans rr (by decide)
  have q15:rl c.2.2.2.1<=4294967296:=Nat.le_trans l4 (by decide)
  have q16:rl c.2.2.1<=4294967296:=Nat.le_trans l3 (by decide)
  have q17:rl c.2.2.2.2.1<=4294967296:=Nat.le_trans l5 (by decide)
  have q18:rz (sqQ (rv c.2.2.2.2.2.1,rv c.2.2.2.2.2.2))<=4294967296:=by omega
  have q19:rz (sqQ (rv c.2.2.2.2.2.1,rv c.2.2.2.2.2.2)*rv c.2.2.2.1)<=4294967296:=by omega
  have q20:rz (sqQ (1-rv c.2.2.2.2.2.1,rv c.2.2.2.2.2.2))<=4294967296:=by omega
  have q21:rz (sqQ (1-rv c.2.2.2.2.2.1,rv c.2.2.2.2.2.2)*rv c.2.2.2.1)<=4294967296:=by omega
  have q22a:=xbB hB;have q23a:=WbK hB;have q22:rz (sqQ (rv c.2.2.2.2.2.1,rv c.2.2.2.2.2.2)*rv c.2.2.2.1-rv c.2.2.1)<=1000000:=Nat.le_trans q22a (by decide)
  have q23:rz (rv c.2.2.2.2.1-sqQ (1-rv c.2.2.2.2.2.1,rv c.2.2.2.2.2.2)*rv c.2.2.2.1)<=1000000:=Nat.le_trans q23a (by decide)
  have q24:=Nat.le_trans (Nat.add_le_add e1s (Nat.le_trans b1s (Nat.add_le_add_right q22a 2))) (by decide:48072+(40000+2)<=1000000000)
  have q25:=Nat.le_trans (Nat.add_le_add (Nat.le_trans b2s (Nat.add_le_add_right q23a 2)) e2s) (by decide:(40000+2)+48072<=1000000000)
  have q26:=Nat.le_trans (Nat.add_le_add M1s M2s) (by decide:_<=1000000000)
  simp only [go_sem,Ue,hr,hl,ho,hs,hn,ht,hq',hm,hk,hcn,ha,hb,hu,cpA,cpC,vd,Wb,rone1,uc];repeat first|refine ja (by with_reducible assumption) ?_|refine ja (Nat.le_trans (by with_reducible assumption) (by decide)) ?_|refine ja (by decide) ?_
  rw [yA hr];exact hK
end Go.Abs
end
section
namespace Go.Num
open Go.Abs
theorem WbM{d s:Nat}{x y:BQ}(h1:PB d s x)(h2:PB d s y)(hd:d+d<=24)(hs:s<=1000000):nOk (x,y):=⟨d,s,h1,h2,hd,hs⟩
theorem qP(a:V2):av (rcan a.1,rcan a.2)=a:=YbM a
instance decH(c:CpR)(a b:V2):Decidable (hldQ c a b):=inferInstanceAs (Decidable (_/\_/\_))
end Go.Num
namespace Go.Abs
open Go.Num
variable {P:Program} {Γ:Nat->Spec}
def QF(tE:Nat)(l:List AV)(K:AV->Prop):Prop:=
 match l with
 | [c]=>onCp (λc=>cl c<=4000/\K (.tup [.one (.slice ((bres (cchk c) (cCur (cpv c))).map mC)),errV tE (cchk c)])) c
 | _=>False
theorem xaK(tE:Nat)(c:AV)(K:AV->Prop):QF tE [c] K=(onCp (λc=>cl c<=4000/\K (.tup [.one (.slice ((bres (cchk c) (cCur (cpv c))).map mC)),errV tE (cchk c)])) c):=propext Iff.rfl
@[congr] theorem wb0 (tE:Nat) {K:AV->Prop} {l l' : List AV} (h:l=l'):QF tE l K=QF tE l' K:=by subst h;rfl
attribute [go_sem,go_sem ↓] xaK
theorem kaU(tE:Nat):Good (QF tE):=Wa λas=>by
 unfold QF;split
 .exact(Ym λ_=>(.and λ_=>(.ret _)))
 .exact .of λK hk=>hk.elim
def vaW(tE:Nat)(l:List AV)(K:AV->Prop):Prop:=
 match l with
 | [c]=>onCp (λc=>cl c<=4000/\K (.tup [.one (.slice ((bres (cchk c) (cM (cpv c))).map mC)),errV tE (cchk c)])) c
 | _=>False
theorem WaQ(tE:Nat)(c:AV)(K:AV->Prop):vaW tE [c] K=(onCp (λc=>cl c<=4000/\K (.tup [.one (.slice ((bres (cchk c) (cM (cpv c))).map mC)),errV tE (cchk c)])) c):=propext Iff.rfl
@[congr] theorem xbV (tE:Nat) {K:AV->Prop} {l l' : List AV} (h:l=l'):vaW tE l K=vaW tE l' K:=by subst h;rfl
attribute [go_sem,go_sem ↓] WaQ
def va4(tE:Nat)(l:List AV)(K:AV->Prop):Prop:=
 match l with
 | [c,p]=>onCp (λc=>onA (λp=>cl c<=4000/\al p<=10000/\K (.tup [.one (.lit (.bool (decide (cchk2 c [p]=0) && decide (wV (cpv c) (av p)=0)))),errV tE (cchk2 c [p])])) p) c
 | _=>False
theorem WaY(tE:Nat)(c p:AV)(K:AV->Prop):va4 tE [c,p] K=(onCp (λc=>onA (λp=>cl c<=4000/\al p<=10000/\K (.tup [.one (.lit (.bool (decide (cchk2 c [p]=0) && decide (wV (cpv c) (av p)=0)))),errV tE (cchk2 c [p])])) p) c):=propext Iff.rfl
@[congr] theorem vb1 (tE:Nat) {K:AV->Prop} {l l' : List AV} (h:l=l'):va4 tE l K=va4 tE l' K:=by subst h;rfl
attribute [go_sem,go_sem ↓] WaY
def JaZ(tE:Nat)(l:List AV)(K:AV->Prop):Prop:=
 match l with
 | [c,a,b]=>onCp (λc=>onA (λa=>onA (λb=>cl c<=10000/\al a<=10000/\al b<=10000/\K (.tup [pQ (if cchk2 c [a,b]=0 then ptQ (cpv c) (av a) (av b) else (0,0)),errV tE (cchk2 c [a,b])])) b) a) c
 | _=>False
theorem vaO(tE:Nat)(c a b:AV)(K:AV->Prop):JaZ tE [c,a,b] K=(onCp (λc=>onA (λa=>onA (λb=>cl c<=10000/\al a<=10000/\al b<=10000/\K (.tup [pQ (if cchk2 c [a,b]=0 then ptQ (cpv c) (av a) (av b) else (0,0)),errV tE (cchk2 c [a,b])])) b) a) c):=propext Iff.rfl
@[congr] theorem YbX (tE:Nat) {K:AV->Prop} {l l' : List AV} (h:l=l'):JaZ tE l K=JaZ tE l' K:=by subst h;rfl
attribute [go_sem,go_sem ↓] vaO
def uaU(tE:Nat)(l:List AV)(K:AV->Prop):Prop:=
 match l with
 | [c,a,b]=>onCp (λc=>onA (λa=>onA (λb=>cl c<=10000/\al a<=10000/\al b<=10000/\K (.tup [.one (.lit (.bool (decide (cchk2 c [a,b]=0) && decide (hldQ (cpv c) (av a) (av b))))),errV tE (cchk2 c [a,b])])) b) a) c
 | _=>False
theorem VaK(tE:Nat)(c a b:AV)(K:AV->Prop):uaU tE [c,a,b] K=(onCp (λc=>onA (λa=>onA (λb=>cl c<=10000/\al a<=10000/\al b<=10000/\K (.tup [.one (.lit (.bool (decide (cchk2 c [a,b]=0) && decide (hldQ (cpv c) (av a) (av b))))),errV tE (cchk2 c [a,b])])) b) a) c):=propext Iff.rfl
@[congr] theorem qb2 (tE:Nat) {K:AV->Prop} {l l' : List AV} (h:l=l'):uaU tE l K=uaU tE l' K:=by subst h;rfl
attribute [go_sem,go_sem ↓] VaK
def Jm(f0 f1 f2 f3 f4 f5 f6 f7:Nat):AC:=(.seq (.ops false [.u 1 (.box 27 (.t 0)),.m 2 (.c (.one .emp)),.m 3 (.c (.one (.lit .nilIface)))])
 (.fg [1] (.seq (.seq (.ops false [.u 11 (.ld none 27 true (.t 1)),.u 12 (.call f0 [(.t 11)]),.m 4 (.t 12)])
 (.fg [1,4] (.seq (.ops false [.m 13 (.t 4),.u 14 (.binn .neq (.t 13) (.c (.one (.lit .nilIface))))])
 (.fg [1,4,14] (.cond (.t 14) (.seq (.ops false [.m 15 (.t 4),.m 2 (.c (.one .emp)),.m 3 (.t 15)])
 .ret) .skip)))))
 (.fg [1] (.seq (.ops false [.u 16 (.build [.z [(.lit .nilIface)]]),.u 17 (.box 1 (.t 16)),.m 5 (.t 17)])
 (.fg [1,5] (.seq (.ops false [.m 18 (.t 5),.u 19 (.ld none 27 true (.t 1)),.u 20 (.callr f1 [(.t 18),(.t 19)]),.u 6 (.alloc [.emp,.emp,.emp,.emp,.emp,.emp,.emp]),.n (.st none 7 (.t 6) (.t 20))])
 (.fg [1,5,6] (.seq (.ops true [.m 21 (.t 5),.m 22 (.t 5),.u 23 (.fa 4 (.t 6)),.u 24 (.ld none 1 false (.t 23)),.u 25 (.fa 2 (.t 6)),.u 26 (.fa 1 (.t 25)),.u 27 (.ld none 1 false (.t 26)),.u 28 (.callr f2 [(.t 22),(.t 24),(.t 27)]),.m 29 (.t 5),.u 30 (.fa 5 (.t 6)),.u 31 (.ld none 1 false (.t 30)),.u 32 (.fa 0 (.t 6)),.u 33 (.fa 1 (.t 32)),.u 34 (.ld none 1 false (.t 33)),.u 35 (.callr f2 [(.t 29),(.t 31),(.t 34)]),.u 36 (.callr f3 [(.t 21),(.t 28),(.t 35)]),.m 7 (.t 36)])
 (.fg [1,5,6,7] (.seq (.ops true [.m 37 (.t 5),.m 38 (.t 5),.u 39 (.fa 5 (.t 6)),.u 40 (.ld none 1 false (.t 39)),.u 41 (.fa 0 (.t 6)),.u 42 (.fa 0 (.t 41)),.u 43 (.ld none 1 false (.t 42)),.u 44 (.callr f2 [(.t 38),(.t 40),(.t 43)]),.m 45 (.t 5),.u 46 (.fa 4 (.t 6)),.u 47 (.ld none 1 false (.t 46)),.u 48 (.fa 2 (.t 6)),.u 49 (.fa 0 (.t 48)),.u 50 (.ld none 1 false (.t 49)),.u 51 (.callr f2 [(.t 45),(.t 47),(.t 50)]),.u 52 (.callr f3 [(.t 37),(.t 44),(.t 51)]),.m 8 (.t 52)])
 (.fg [1,5,6,7,8] (.seq (.ops true [.m 53 (.t 5),.m 54 (.t 5),.u 55 (.fa 6 (.t 6)),.u 56 (.ld none 1 false (.t 55)),.u 57 (.fa 6 (.t 6)),.u 58 (.ld none 1 false (.t 57)),.u 59 (.callr f2 [(.t 54),(.t 56),(.t 58)]),.u 60 (.call f4 [(.i 4)]),.u 61 (.fa 15 (.t 1)),.u 62 (.ld none 3 true (.t 61)),.u 63 (.call f5 [(.t 60),(.t 62)]),.u 64 (.callr f6 [(.t 53),(.t 59),(.t 63)]),.m 9 (.t 64)])
 (.fg [5,7,8,9] (.seq (.ops false [.m 65 (.t 5),.m 66 (.t 5),.m 67 (.t 7),.m 68 (.t 8),.u 69 (.build [.x 1 (.t 67),.x 1 (.t 68)]),.u 70 (.callr f7 [(.t 66),(.t 69)]),.m 71 (.t 9),.u 72 (.callr f3 [(.t 65),(.t 70),(.t 71)]),.m 10 (.t 72)])
 (.fg [5,10] (.seq (.ops true [.m 73 (.t 10),.m 74 (.t 5),.u 75 (.nilck (.t 74)),.u 76 (.fa 0 (.t 75)),.u 77 (.ld none 1 false (.t 76)),.m 2 (.t 73),.m 3 (.t 77)])
 .ret)))))))))))))))))
set_option maxHeartbeats 2000000 in
theorem qaJ(hΓ:Holds P Γ){f fk fb fm fs fo ft fl fn tE:Nat}(hk:Γ fk=.dat false (VA tE))(hb:Γ fb=.red qF)(hm:Γ fm=.red zB)(hs:Γ fs=.red jA)(ho:Γ fo=.dat false Wx)(ht:Γ ft=.dat false kj)(hl' : Γ fl=.red Vp)(hn:Γ fn=.red YC)(hc:check P f=some (78,(Jm fk fb fm fs fo ft fl fn).strip,[.tmp 2,.tmp 3])):Sound P f (.dat false (QF tE)):=by
 refine ka hc (kaU tE) hΓ (λargs K hcl hfi hG=>?_);match args,hG with
 | [a],hG=>
  obtain⟨c,rfl,hw,hl,hK⟩:=hG;refine⟨by simp,?_⟩
  have hl2:cl c<=100000000:=Nat.le_trans hl (by decide)
  by_cases h0:cchk c=0
  .have e0:=Jd tE;rw [<-h0]at e0;rw [h0,xt,Jd]at hK;have hB:=YL hw hl;have i4:((4:Int):Rat)=4:=rfl;have w4:=hw.2.2.2.1;have l4:rl c.2.2.2.1<=4294967296:=by unfold cl at hl;omega
   have z4:rz 4<=4294967296:=Nat.le_trans rz_4 (by decide)
   have z4c:=JbJ hB;have eb:(cpv c).2.2.2.1=rv c.2.2.2.1:=rfl;rw [eb]at z4c;have z4b:=Nat.le_trans z4c (by decide:_<=1000000)
   have pe:=pb_e hB;have pf:=pb_f hB;obtain⟨a1,a2⟩:=xJ hB;obtain⟨b1,b2⟩:=kO hB;have pm:=pb_m hB;have c1:=pe.canon;have c2:=pf.canon;have c3:=a1.canon;have c4:=a2.canon;have c5:=b1.canon;have c6:=b2.canon;have c7:=pm.canon;obtain⟨m1,m2⟩:=pe.mulok b2 (by decide) (by decide)
   obtain⟨m3,m4⟩:=pf.mulok a2 (by decide) (by decide)
   obtain⟨m5,m6⟩:=pf.mulok a1 (by decide) (by decide)
   obtain⟨m7,m8⟩:=pe.mulok b1 (by decide) (by decide)
   obtain⟨m9,m10⟩:=pm.mulok pm (by decide) (by decide)
   have t1:tri (1+1)=3:=rfl;have t2:tri (2+1)=6:=rfl;have M1:=pe.mul b2 (by decide)
   have M2:=pf.mul a2 (by decide)
   have M3:=pf.mul a1 (by decide)
   have M4:=pe.mul b1 (by decide)
   rw [t1,t2]at M1 M2 M3 M4;have s1:=Nat.le_trans (Nat.add_le_add M1.size M2.size) (by decide:_<=1000000000)
   have s2:=Nat.le_trans (Nat.add_le_add M3.size M4.size) (by decide:_<=1000000000)
   have k1:=M1.canon;have k2:=M2.canon;have k3:=M3.canon;have k4:=M4.canon;have pmm:PB 4 4704000 (mulB (cM (cpv c)) (cM (cpv c))):=Ubv hB;have k5:=pmm.canon;have s3:=Nat.le_trans pmm.size (by decide:_<=100000000)
   have px:PB 3 960000 (subB (mulB (cE (cpv c)) (cBe (cpv c)).2) (mulB (cF (cpv c)) (cAl (cpv c)).2)):=pb_x hB;have py:PB 3 960000 (subB (mulB (cF (cpv c)) (cAl (cpv c)).1) (mulB (cE (cpv c)) (cBe (cpv c)).1)):=pb_y hB;have k6:=And.intro px.canon py.canon;have n1:nOk (subB (mulB (cE (cpv c)) (cBe (cpv c)).2) (mulB (cF (cpv c)) (cAl (cpv c)).2),subB (mulB (cF (cpv c)) (cAl (cpv c)).1) (mulB (cE (cpv c)) (cBe (cpv c)).1)):=WbM px py (by decide) (by decide)
   have pnn:PB 6 38400000 (nrmB (subB (mulB (cE (cpv c)) (cBe (cpv c)).2) (mulB (cF (cpv c)) (cAl (cpv c)).2),subB (mulB (cF (cpv c)) (cAl (cpv c)).1) (mulB (cE (cpv c)) (cBe (cpv c)).1))):=wbr hB;have pla:=Zby hB;unfold cLa cMM at pla;rw [eb]at pla;have k7:=pnn.canon;have k8:=pla.canon;have s4:=Nat.le_trans (Nat.add_le_add pnn.size pla.size) (by decide:_<=1000000000)
   simp only [go_sem,Jm,hk,hb,hm,hs,ho,ht,hl',hn,cpA,cpC,vd,Wb,i4,e0];repeat first|refine ja (by with_reducible assumption) ?_|refine ja (Nat.le_trans (by with_reducible assumption) (by decide)) ?_|refine ja (by decide) ?_
   exact hK
  .have e0:=qe tE h0;rw [JA h0,e0]at hK;simp only [go_sem,Jm,hk,cpA,cpC,vd,e0];repeat first|refine ja (by with_reducible assumption) ?_|refine ja (Nat.le_trans (by with_reducible assumption) (by decide)) ?_|refine ja (by decide) ?_
   exact hK
end Go.Abs
end
section
namespace Go.Num
open Go.Abs
def liC(c:Cp)(p:Arc):Nat:=if cchk2 c [p]≠0 then cchk2 c [p] else if wV (cpv c) (av p)≠0 then 21 else if wM (cpv c) (av p)=0 then 15 else 0
end Go.Num
namespace Go.Abs
open Go.Num
variable {P:Program} {Γ:Nat->Spec}
def XaQ(tE:Nat)(l:List AV)(K:AV->Prop):Prop:=
 match l with
 | [c,p]=>onCp (λc=>onA (λp=>cl c<=1000/\al p<=1000/\K (.tup [pQ (if liC c p=0 then endA (cpv c) (av p) (zL (cpv c) (av p)) else (0,0)),pQ (if liC c p=0 then endB (cpv c) (av p) (zL (cpv c) (av p)) else (0,0)),errV tE (liC c p)])) p) c
 | _=>False
theorem vaK(tE:Nat)(c p:AV)(K:AV->Prop):XaQ tE [c,p] K=(onCp (λc=>onA (λp=>cl c<=1000/\al p<=1000/\K (.tup [pQ (if liC c p=0 then endA (cpv c) (av p) (zL (cpv c) (av p)) else (0,0)),pQ (if liC c p=0 then endB (cpv c) (av p) (zL (cpv c) (av p)) else (0,0)),errV tE (liC c p)])) p) c):=propext Iff.rfl
@[congr] theorem wbU (tE:Nat) {K:AV->Prop} {l l' : List AV} (h:l=l'):XaQ tE l K=XaQ tE l' K:=by subst h;rfl
attribute [go_sem,go_sem ↓] vaK
end Go.Abs
end
section
namespace Go.Num
open Go.Abs
def cqR(X:CpQ):AV:=.agg [cb (rcan X.1.1),cn (rcan X.1.1),cd (rcan X.1.1),cb (rcan X.1.2),cn (rcan X.1.2),cd (rcan X.1.2),cb (rcan X.2.1.1),cn (rcan X.2.1.1),cd (rcan X.2.1.1),cb (rcan X.2.1.2),cn (rcan X.2.1.2),cd (rcan X.2.1.2),cb (rcan X.2.2.1),cn (rcan X.2.2.1),cd (rcan X.2.2.1),cb (rcan X.2.2.2.1),cn (rcan X.2.2.2.1),cd (rcan X.2.2.2.1),cb (rcan X.2.2.2.2.1),cn (rcan X.2.2.2.2.1),cd (rcan X.2.2.2.2.1),cb (rcan X.2.2.2.2.2.1),cn (rcan X.2.2.2.2.2.1),cd (rcan X.2.2.2.2.2.1),cb (rcan X.2.2.2.2.2.2),cn (rcan X.2.2.2.2.2.2),cd (rcan X.2.2.2.2.2.2)]
def scq(c:CpR)(k k2:Rat):CpR:=((c.1.1*k,c.1.2*k),(c.2.1.1*k,c.2.1.2*k),c.2.2.1*k2,c.2.2.2.1*k2,c.2.2.2.2.1*k2,c.2.2.2.2.2.1,c.2.2.2.2.2.2)
def z27:CpR:=((0,0),(0,0),0,0,0,0,0)
def moC(c:Cp)(g:Ps):Nat:=if cchk c≠0 then cchk c else if pvld g=false then 2 else 0
def scC(c:Cp)(k:R):Nat:=if cchk c≠0 then cchk c else if vldR k=false then 2 else if rv k=0 then 8 else 0
end Go.Num
namespace Go.Abs
open Go.Num
variable {P:Program} {Γ:Nat->Spec}
def pfA(x:R):AV:=.one (.ref [cb x,cn x,cd x])
theorem zbx(x y:R)(h:pfA x=pfA y):x=y:=by
 simp only [pfA,AV.one.injEq,C.ref.injEq,List.cons.injEq,and_true]at h;exact uO h.1 h.2.1 h.2.2
def onPf(k:R->Prop)(a:AV):Prop:=onE pfA (λx=>WLR x/\k x) a
@[congr] theorem Wb0 {k:R->Prop} {a a' : AV} (h:a=a'):onPf k a=onPf k a':=by subst h;rfl
theorem vbl(k:R->Prop)(x:R):onPf k (.one (.ref [cb x,cn x,cd x]))=(WLR x/\k x):=jo zbx (λx=>WLR x/\k x) x
attribute [go_sem,go_sem ↓] vbl
theorem uI(y:R):CleanL [cb y,cn y,cd y]:=by
 intro c hc;simp only [List.mem_cons,List.not_mem_nil,or_false]at hc;rcases hc with rfl|rfl|rfl
 .exact of_eq_true (yi _)
 .exact of_eq_true (wi _)
 .exact of_eq_true (Ji _)
theorem Yaa(f r ver i off:Nat):ownC (.clo f [.ptr r ver i off])=[r]:=eq_of_heq (HEq.refl _)
attribute [go_sem,go_sem ↓] Yaa
def wbs(l:List AV)(K:AV->Prop):Prop:=
 match l with
 | [a,k]=>onA (λp=>onPf (λk=>al p<=100000000/\rl k<=100000000/\K (pQ (rv p.1*rv k,rv p.2*rv k))) k) a
 | _=>False
theorem xbn(a k:AV)(K:AV->Prop):wbs [a,k] K=(onA (λp=>onPf (λk=>al p<=100000000/\rl k<=100000000/\K (pQ (rv p.1*rv k,rv p.2*rv k))) k) a):=propext Iff.rfl
@[congr] theorem Zb3 {K:AV->Prop} {l l' : List AV} (h:l=l'):wbs l K=wbs l' K:=by subst h;rfl
attribute [go_sem,go_sem ↓] xbn
def xa9(l:List AV)(K:AV->Prop):Prop:=
 match l with
 | [c,k,l]=>onCp (λc=>onR (λk=>onR (λl=>cl c<=100000000/\rl k<=100000000/\rl l<=100000000/\K (cqR (scq (cpv c) (rv k) (rv l)))) l) k) c
 | _=>False
theorem Va3(c k l:AV)(K:AV->Prop):xa9 [c,k,l] K=(onCp (λc=>onR (λk=>onR (λl=>cl c<=100000000/\rl k<=100000000/\rl l<=100000000/\K (cqR (scq (cpv c) (rv k) (rv l)))) l) k) c):=propext Iff.rfl
@[congr] theorem zbW {K:AV->Prop} {l l' : List AV} (h:l=l'):xa9 l K=xa9 l' K:=by subst h;rfl
attribute [go_sem,go_sem ↓] Va3
def za1(tE:Nat)(l:List AV)(K:AV->Prop):Prop:=
 match l with
 | [c,g]=>onCp (λc=>onPo (λg=>cl c<=1000/\pl g<=1000/\K (.tup [cqR (if moC c g=0 then movQ38 (cpv c) (pv g) else z27),errV tE (moC c g)])) g) c
 | _=>False
theorem uaM(tE:Nat)(c g:AV)(K:AV->Prop):za1 tE [c,g] K=(onCp (λc=>onPo (λg=>cl c<=1000/\pl g<=1000/\K (.tup [cqR (if moC c g=0 then movQ38 (cpv c) (pv g) else z27),errV tE (moC c g)])) g) c):=propext Iff.rfl
@[congr] theorem YbS (tE:Nat) {K:AV->Prop} {l l' : List AV} (h:l=l'):za1 tE l K=za1 tE l' K:=by subst h;rfl
attribute [go_sem,go_sem ↓] uaM
def uaZ(tE:Nat)(l:List AV)(K:AV->Prop):Prop:=
 match l with
 | [c,k]=>onCp (λc=>onR (λk=>cl c<=1000/\rl k<=1000/\K (.tup [cqR (if scC c k=0 then sclQ38 (cpv c) (rv k) else z27),errV tE (scC c k)])) k) c
 | _=>False
theorem za5(tE:Nat)(c k:AV)(K:AV->Prop):uaZ tE [c,k] K=(onCp (λc=>onR (λk=>cl c<=1000/\rl k<=1000/\K (.tup [cqR (if scC c k=0 then sclQ38 (cpv c) (rv k) else z27),errV tE (scC c k)])) k) c):=propext Iff.rfl
@[congr] theorem kb0 (tE:Nat) {K:AV->Prop} {l l' : List AV} (h:l=l'):uaZ tE l K=uaZ tE l' K:=by subst h;rfl
attribute [go_sem,go_sem ↓] za5
end Go.Abs
end
section
namespace Go.Num
open Go.Abs
def cps9(c:Cp):List R:=[c.1.1,c.1.2,c.2.1.1,c.2.1.2,c.2.2.1,c.2.2.2.1,c.2.2.2.2.1,c.2.2.2.2.2.1,c.2.2.2.2.2.2]
def sC(c:Cp):Bool:=(cps9 c).all (sR 2)
def exQ:CpR:=((0,0),(4,0),1,16,1,1 / 2,0)
theorem Zal(X:CpR):cpv (canC X)=X:=by unfold cpv canC av;simp only [Wb]
theorem Vbu:cchk (canC exQ)=0:=by
 have h1:avld (canC exQ).1=true:=by show(vldR (rcan _) && vldR (rcan _))=true;rw [uc,uc];rfl
 have h2:avld (canC exQ).2.1=true:=by show(vldR (rcan _) && vldR (rcan _))=true;rw [uc,uc];rfl
 have h3:(cps5 (canC exQ)).all vldR=true:=by simp [cps5,canC,uc]
 have h4:(cps3 (canC exQ)).all gt0R=true:=by simp [cps3,canC,gt0R,Wb,exQ];decide
 have h5:av (canC exQ).1≠av (canC exQ).2.1:=by
  have e1:av (canC exQ).1=(cpv (canC exQ)).1:=rfl;have e2:av (canC exQ).2.1=(cpv (canC exQ)).2.1:=rfl;rw [e1,e2,Zal];decide
 unfold cchk;rw [if_neg (by simp [h1,h2]),if_neg (by simp [h3]),if_neg (by simp [h4]),if_neg h5]
theorem QbM{c:Cp}(h:sC c=true):cl c<=2:=by
 unfold sC cps9 at h;simp only [List.all_cons,List.all_nil,Bool.and_true,Bool.and_eq_true]at h;obtain⟨h1,h2,h3,h4,h5,h6,h7,h8,h9⟩:=h;unfold cl;simp only [Nat.max_le];exact⟨Nat.max_le.2 ⟨vV h1,vV h2⟩,Nat.max_le.2 ⟨vV h3,vV h4⟩,vV h5,vV h6,vV h7,vV h8,vV h9⟩
end Go.Num
namespace Go.Abs
open Go.Num
variable {P:Program} {Γ:Nat->Spec}
theorem Qaq(dr:Bool):∀(l m:List AO) (Q:S->Prop),wpL Γ dr Q (l++m)=wpL Γ dr (wpL Γ dr Q m) l
 | [],m,Q=>rfl
 | o::l,m,Q=>by
  have ih:=Qaq dr l m Q
  funext s
  show wpG Γ dr s (wpL Γ dr Q (l++m)) o=wpG Γ dr s (wpL Γ dr (wpL Γ dr Q m) l) o;rw [ih]
theorem zbI(dr:Bool)(l:List AO)(Q:Ex->S->Prop)(s:S):wpA Γ (.seq (.ops dr l) .ret) Q s=wpL Γ dr (Q .ret) l s:=rfl
def vG(l:List AV)(K:AV->Prop):Prop:=
 match l with
 | [c]=>onCp (λc=>cl c<=4294967296/\K (.one (.lit (.bool (sC c))))) c
 | _=>False
theorem ua4(c:AV)(K:AV->Prop):vG [c] K=(onCp (λc=>cl c<=4294967296/\K (.one (.lit (.bool (sC c))))) c):=propext Iff.rfl
@[congr] theorem UbX {K:AV->Prop} {l l' : List AV} (h:l=l'):vG l K=vG l' K:=by subst h;rfl
attribute [go_sem,go_sem ↓] ua4
theorem JaT:Good vG:=Wa λas=>by
 unfold vG;split
 .exact(Ym λ_=>(.and λ_=>(.ret _)))
 .exact .of λK hk=>hk.elim
def yV(l:List AV)(K:AV->Prop):Prop:=
 match l with
 | [a,b]=>asInt (λk n=>asInt (λk' m=>k=.i64/\k' = .i64/\(-9223372036854775808<=n/\n<=9223372036854775807)/\(-9223372036854775808<=m/\m<=9223372036854775807)/\K (pQ (n,m))) b) a
 | _=>False
theorem qbg(a b:AV)(K:AV->Prop):yV [a,b] K=(asInt (λk n=>asInt (λk' m=>k=.i64/\k' = .i64/\(-9223372036854775808<=n/\n<=9223372036854775807)/\(-9223372036854775808<=m/\m<=9223372036854775807)/\K (pQ (n,m))) b) a):=propext Iff.rfl
@[congr] theorem Zb2 {K:AV->Prop} {l l' : List AV} (h:l=l'):yV l K=yV l' K:=by subst h;rfl
attribute [go_sem,go_sem ↓] qbg
theorem Zbf:Good yV:=Wa λas=>by
 unfold yV;split
 .repeat (first|exact .ret _|exact .of (λK hk=>hk.elim)|(refine .and λ_=>?_)|(refine Yg λ_=>?_)|(refine yg λ_=>?_)|(refine yg λ_=>?_)|(refine Jz λ_=>?_)|(refine Ym λ_=>?_)|(refine jd (λ_ _=>?_) _)|(refine JC (λ_=>?_) _)|(refine JI ?_ ?_)|(intro _)|assumption)
 .exact .of λK hk=>hk.elim
def vC(l:List AV)(K:AV->Prop):Prop:=
 match l with
 | []=>K (cqR exQ)
 | _=>False
theorem Va5(K:AV->Prop):vC [] K=(K (cqR exQ)):=propext Iff.rfl
@[congr] theorem JbU {K:AV->Prop} {l l' : List AV} (h:l=l'):vC l K=vC l' K:=by subst h;rfl
attribute [go_sem,go_sem ↓] Va5
theorem Qa5:Good vC:=Wa λas=>by
 unfold vC;split
 .exact(.ret _)
 .exact .of λK hk=>hk.elim
def Qai(l:List AV)(K:AV->Prop):Prop:=
 match l with
 | []=>K (.one (.lit (.bool true)))
 | _=>False
theorem QaB(K:AV->Prop):Qai [] K=(K (.one (.lit (.bool true)))):=propext Iff.rfl
@[congr] theorem JbQ {K:AV->Prop} {l l' : List AV} (h:l=l'):Qai l K=Qai l' K:=by subst h;rfl
attribute [go_sem,go_sem ↓] QaB
def uh:AC:=(.seq (.ops false [.u 1 (.box 27 (.t 0)),.m 2 .fa])
 (.fg [1] (.seq (.seq (.ops false [.u 5 (.fa 0 (.t 1)),.u 6 (.fa 0 (.t 5)),.u 7 (.ld none 3 true (.t 6)),.u 8 (.fa 0 (.t 1)),.u 9 (.fa 3 (.t 8)),.u 10 (.ld none 3 true (.t 9)),.u 11 (.fa 6 (.t 1)),.u 12 (.fa 0 (.t 11)),.u 13 (.ld none 3 true (.t 12)),.u 14 (.fa 6 (.t 1)),.u 15 (.fa 3 (.t 14)),.u 16 (.ld none 3 true (.t 15)),.u 17 (.fa 12 (.t 1)),.u 18 (.ld none 3 true (.t 17)),.u 19 (.fa 15 (.t 1)),.u 20 (.ld none 3 true (.t 19)),.u 21 (.fa 18 (.t 1)),.u 22 (.ld none 3 true (.t 21)),.u 23 (.fa 21 (.t 1)),.u 24 (.ld none 3 true (.t 23)),.u 25 (.fa 24 (.t 1)),.u 26 (.ld none 3 true (.t 25)),.u 27 (.row 3 [[.x 3 (.t 7)],[.x 3 (.t 10)],[.x 3 (.t 13)],[.x 3 (.t 16)],[.x 3 (.t 18)],[.x 3 (.t 20)],[.x 3 (.t 22)],[.x 3 (.t 24)],[.x 3 (.t 26)]]),.u 28 (.len (.t 27)),.m 29 (.i 0)])
 (.fg [27,28,29] (.block 0 (.loop (.seq (.ops false [.u 30 (.bin .lss (.t 29) (.t 28))])
 (.fg [27,28,29,30] (.seq (.cond (.t 30) .skip (.exit 0))
 (.fg [27,28,29] (.seq (.block 1 (.seq (.ops false [.u 31 (.idx 3 (.t 27) (.t 29)),.u 32 (.ld none 3 true (.t 31)),.u 4 (.alloc [(.lit (.bool false)),.emp,.emp]),.n (.st none 3 (.t 4) (.t 32))])
 (.fg [4,27,28,29] (.seq (.ops false [.u 33 (.fa 1 (.t 4)),.u 34 (.ld none 1 false (.t 33)),.u 35 (.len (.t 34)),.u 36 (.bin .gtr (.t 35) (.i 2)),.m 37 (.t 36),.w 38 37 false (.fa 2 (.t 4)),.w 39 37 false (.ld none 1 false (.t 38)),.w 40 37 false (.len (.t 39)),.w 41 37 false (.bin .gtr (.t 40) (.i 2)),.u 42 (.pick (.t 37) .tr (.t 41))])
 (.fg [27,28,29,42] (.cond (.t 42) (.seq (.ops false [.m 2 .fa])
 .ret) .skip))))))
 (.fg [27,28,29] (.ops false [.u 43 (.bin .add (.t 29) (.i 1)),.m 29 (.t 43)])))))))))))
 (.fg [] (.seq (.ops false [.m 2 .tr])
 .ret)))))
def ym(f0:Nat):AC:=(.seq (.ops false [.u 4 (.alloc [(.lit (.bool false)),.emp,.emp,(.lit (.bool false)),.emp,.emp])])
 (.fg [0,1,4] (.seq (.ops false [.m 5 (.t 0),.u 6 (.call f0 [(.t 5)]),.m 7 (.t 1),.u 8 (.call f0 [(.t 7)]),.u 9 (.build [.x 3 (.t 6),.x 3 (.t 8)]),.n (.st none 6 (.t 4) (.t 9))])
 .ret)))
def yf(f0 f1 f2:Nat):AC:=(.seq (.ops false [.u 0 (.alloc [(.lit (.bool false)),.emp,.emp,(.lit (.bool false)),.emp,.emp,(.lit (.bool false)),.emp,.emp,(.lit (.bool false)),.emp,.emp,(.lit (.bool false)),.emp,.emp,(.lit (.bool false)),.emp,.emp,(.lit (.bool false)),.emp,.emp,(.lit (.bool false)),.emp,.emp,(.lit (.bool false)),.emp,.emp])])
 (.fg [0] (.seq (.ops false [.u 5 (.call f0 [(.i 1),(.i 2)]),.m 4 (.t 5),.u 6 (.ext 0 (.t 4)),.u 7 (.ext 1 (.t 4)),.u 1 (.alloc [(.lit (.bool false)),.emp,.emp]),.n (.st none 3 (.t 1) (.t 6)),.m 2 (.t 7)])
 (.fg [0,1] (.seq (.ops false [.u 8 (.call f1 [(.i 1)]),.u 3 (.alloc [(.lit (.bool false)),.emp,.emp]),.n (.st none 3 (.t 3) (.t 8))])
 (.fg [0,1,3] (.seq (.ops true [.u 9 (.call f2 [(.i 4),(.i 0)]),.u 10 (.ld none 3 true (.t 3)),.u 11 (.call f1 [(.i 16)]),.u 12 (.ld none 3 true (.t 3)),.u 13 (.ld none 3 true (.t 1)),.u 14 (.build [.z [(.lit (.bool false)),.emp,.emp,(.lit (.bool false)),.emp,.emp],.x 6 (.t 9),.x 3 (.t 10),.x 3 (.t 11),.x 3 (.t 12),.x 3 (.t 13),.z [(.lit (.bool false)),.emp,.emp]]),.n (.st none 27 (.t 0) (.t 14))])
 .ret)))))))
def xr(f0 f1 f2 f3 f4 f5:Nat):List AO:=[.m 36 (.t 2),.u 37 (.binn .eql (.t 36) (.c (.one (.lit .nilIface)))),.m 38 (.t 37),.w 39 38 true (.mv (.t 5)),.w 40 38 true (.binn .eql (.t 39) (.c (.one (.lit .nilIface)))),.u 41 (.pick (.t 38) (.t 40) .fa),.m 42 (.t 41),.w 43 42 true (.mv (.t 7)),.w 44 42 true (.binn .eql (.t 43) (.c (.one (.lit .nilIface)))),.u 45 (.pick (.t 42) (.t 44) .fa),.m 46 (.t 45),.w 47 46 true (.mv (.t 9))]
def jt(f0 f1 f2 f3 f4 f5:Nat):List AO:=[.w 48 46 true (.binn .eql (.t 47) (.c (.one (.lit .nilIface)))),.u 49 (.pick (.t 46) (.t 48) .fa),.m 50 (.t 49),.w 51 50 true (.mv (.t 1)),.u 52 (.pick (.t 50) (.t 51) .fa),.m 53 (.t 52),.w 54 53 true (.mv (.t 8)),.w 55 53 true (.un .not (.t 54)),.u 56 (.pick (.t 53) (.t 55) .fa),.m 57 (.t 56),.w 58 57 true (.ld none 6 true (.t 3)),.w 59 57 true (.call f1 [(.i 0),(.i 1)])]
def Wr(f0 f1 f2 f3 f4 f5:Nat):List AO:=[.w 60 57 true (.call f5 [(.t 58),(.t 59)]),.u 61 (.pick (.t 57) (.t 60) .fa),.m 62 (.t 61),.w 63 62 true (.ld none 6 true (.t 4)),.w 64 62 true (.call f1 [(.i 4),(.i 1)]),.w 65 62 true (.call f5 [(.t 63),(.t 64)]),.u 66 (.pick (.t 62) (.t 65) .fa),.m 67 (.t 66),.w 68 67 true (.ld none 6 true (.t 6)),.w 69 67 true (.call f1 [(.i 2),(.i 1)]),.w 70 67 true (.call f5 [(.t 68),(.t 69)]),.u 71 (.pick (.t 67) (.t 70) .fa)]
def Zs(f0 f1 f2 f3 f4 f5:Nat):List AO:=[.m 0 (.t 71)]
def yl(f0 f1 f2 f3 f4 f5:Nat):AC:=(.seq (.ops true (xr f0 f1 f2 f3 f4 f5++(jt f0 f1 f2 f3 f4 f5++(Wr f0 f1 f2 f3 f4 f5++(Zs f0 f1 f2 f3 f4 f5)))))
 .ret)
def Qx(f0 f1 f2 f3 f4 f5:Nat):AC:=(.seq (.ops false [.u 17 (.call f0 []),.u 18 (.call f1 [(.i 2),(.i 1)]),.u 19 (.call f3 [(.t 17),(.t 18)]),.m 16 (.t 19),.u 20 (.ext 0 (.t 16)),.u 21 (.ext 1 (.t 16)),.u 22 (.ext 2 (.t 16)),.u 3 (.alloc [(.lit (.bool false)),.emp,.emp,(.lit (.bool false)),.emp,.emp]),.u 4 (.alloc [(.lit (.bool false)),.emp,.emp,(.lit (.bool false)),.emp,.emp]),.n (.st none 6 (.t 3) (.t 20)),.n (.st none 6 (.t 4) (.t 21)),.m 5 (.t 22)])
 (.fg [1,2,3,4,5] (.seq (.ops false [.u 24 (.call f0 []),.u 25 (.call f1 [(.i 0),(.i 1)]),.u 26 (.call f1 [(.i 4),(.i 1)]),.u 27 (.call f4 [(.t 24),(.t 25),(.t 26)]),.m 23 (.t 27),.u 28 (.ext 0 (.t 23)),.u 29 (.ext 1 (.t 23)),.u 6 (.alloc [(.lit (.bool false)),.emp,.emp,(.lit (.bool false)),.emp,.emp]),.n (.st none 6 (.t 6) (.t 28)),.m 7 (.t 29)])
 (.fg [1,2,3,4,5,6,7] (.seq (.ops false [.u 31 (.call f0 []),.u 32 (.call f1 [(.i 2),(.i 2)]),.u 33 (.call f2 [(.t 31),(.t 32)]),.m 30 (.t 33),.u 34 (.ext 0 (.t 30)),.u 35 (.ext 1 (.t 30)),.m 8 (.t 34),.m 9 (.t 35)])
 (.fg [1,2,3,4,5,6,7,8,9] (yl f0 f1 f2 f3 f4 f5)))))))
theorem Wj{f0 f1 f2 f3 f4 f5:Nat}(Γ:Nat->Spec)(Q:Ex->S->Prop)(s:S):wpA Γ (Qx f0 f1 f2 f3 f4 f5) Q s=wpA Γ (.seq (.ops false [.u 17 (.call f0 []),.u 18 (.call f1 [(.i 2),(.i 1)]),.u 19 (.call f3 [(.t 17),(.t 18)]),.m 16 (.t 19),.u 20 (.ext 0 (.t 16)),.u 21 (.ext 1 (.t 16)),.u 22 (.ext 2 (.t 16)),.u 3 (.alloc [(.lit (.bool false)),.emp,.emp,(.lit (.bool false)),.emp,.emp]),.u 4 (.alloc [(.lit (.bool false)),.emp,.emp,(.lit (.bool false)),.emp,.emp]),.n (.st none 6 (.t 3) (.t 20)),.n (.st none 6 (.t 4) (.t 21)),.m 5 (.t 22)])
 (.fg [1,2,3,4,5] (.seq (.ops false [.u 24 (.call f0 []),.u 25 (.call f1 [(.i 0),(.i 1)]),.u 26 (.call f1 [(.i 4),(.i 1)]),.u 27 (.call f4 [(.t 24),(.t 25),(.t 26)]),.m 23 (.t 27),.u 28 (.ext 0 (.t 23)),.u 29 (.ext 1 (.t 23)),.u 6 (.alloc [(.lit (.bool false)),.emp,.emp,(.lit (.bool false)),.emp,.emp]),.n (.st none 6 (.t 6) (.t 28)),.m 7 (.t 29)])
 (.fg [1,2,3,4,5,6,7] (.seq (.ops false [.u 31 (.call f0 []),.u 32 (.call f1 [(.i 2),(.i 2)]),.u 33 (.call f2 [(.t 31),(.t 32)]),.m 30 (.t 33),.u 34 (.ext 0 (.t 30)),.u 35 (.ext 1 (.t 30)),.m 8 (.t 34),.m 9 (.t 35)])
 (.fg [1,2,3,4,5,6,7,8,9] (yl f0 f1 f2 f3 f4 f5))))))) Q s:=eq_of_heq (HEq.refl _)
attribute [go_sem ↓] Wj
attribute [go_sem] Wj
theorem Qad(hΓ:Holds P Γ){f fo ff:Nat}(ho:Γ fo=.dat false zH)(hf:Γ ff=.dat false Ws)(hc:check P f=some (13,(Qj fo ff).strip,[.cell 4 3 true,.tmp 5])):Sound P f (.dat false yz):=by
 refine ka hc kaJ hΓ (λargs K hcl hfi hG=>?_);match args,hG with
 | [a,b],hG=>
  obtain⟨k,n,rfl,hG⟩:=Vb hG;obtain⟨k',d,rfl,rfl,rfl,hn,hd,h0,hK⟩:=Vb hG;refine⟨by simp,?_⟩
  have e:(if d=0 then 8 else 0:Int)=0:=if_neg h0
  simp only [go_sem,Qj,ho,hf,h0];have z1:zs n<=2:=uV (by omega)
  have z2:zs d<=2:=uV (by omega)
  exact⟨hn.1,hn.2,hd.1,hd.2,by omega,by omega,hK⟩
theorem VaG(hΓ:Holds P Γ){f:Nat}(hc:check P f=some (44,uh.strip,[.tmp 2])):Sound P f (.dat true vG):=by
 refine ka hc JaT hΓ (λargs K hcl hfi hG=>?_);match args,hG with
 | [a],hG=>
  obtain⟨c,rfl,hw,hl,hK⟩:=hG;refine⟨by simp,?_⟩
  obtain⟨xs,hxs⟩:∃xs:List R,xs=cps9 c:=⟨_,rfl⟩;have hlx:xs.length=9:=by rw [hxs];rfl
  have hwx:∀x∈xs,rl x<=4294967296:=by
   intro x hx;rw [hxs]at hx;simp only [cps9,List.mem_cons,List.not_mem_nil,or_false]at hx;unfold cl al at hl;rcases hx with rfl|rfl|rfl|rfl|rfl|rfl|rfl|rfl|rfl <;> omega
  have hex:xs.all (sR 2)=sC c:=by rw [hxs];rfl
  simp only [go_sem,uh,cpA,cpC];refine Ya (λj:Nat=>⟨mkV [(27,.one (.full (xs.map rC))),(28,.one (.lit (.int .i64 9))),(29,.one (.lit (.int .i64 j)))],mkH []⟩) (λj=>j<=9/\(xs.take j).all (sR 2)=true) (λj=>9-j) 0 ?_ ?_ ?_
  .exact Qa (by rw [hxs];simp [okS,okV,okC,okL,okH,okB,okE,Za,Va,za,Ja,wsA,ws,rC,cps9]) trivial
  .exact⟨Nat.zero_le _,rfl⟩
  .rintro j ⟨hj,hallj⟩;by_cases hltj:j<9
   .obtain⟨x,hx⟩:∃x,xs.getD j (rcan 0)=x:=⟨_,rfl⟩;have hx0:=vba (by omega:j<xs.length) hx
    have hxr:=hwx x (List.mem_of_getElem? hx0);have hjx:j<xs.length:=by omega
    obtain⟨b,n,d⟩:=x;have w1:n.length<=4294967296:=Nat.le_trans (Nat.le_max_left _ _) hxr;have w2:d.length<=4294967296:=Nat.le_trans (Nat.le_max_right _ _) hxr;have bad:¬(sR 2 (b,n,d)=true)->K (.one (.lit (.bool false))):=by
     intro hb;have e1:sC c=false:=by rw [<-hex];exact ub0 hx0 (by simpa using hb)
     rw [e1]at hK;exact hK
    have hsr:sR 2 (b,n,d)=true↔n.length<=2/\d.length<=2:=by simp [sR]
    simp only [go_sem,hltj,hjx,hx,Xb0,cb,cn,cd,ws,hlx];exact⟨λ_ _=>⟨λh=>bad (λe=>by have:=hsr.1 e;omega),λh _=>⟨λh'=>bad (λe=>by have:=hsr.1 e;omega),λh'=>⟨by omega,j+1,Qa (by simp [okS,okV,okC,okL,okH,okB,okE,Za,Va,za,Ja,wsA,ws]) trivial,⟨by omega,Zbe hx0 hallj (hsr.2 ⟨by omega,by omega⟩)⟩,by omega⟩⟩⟩,λh=>absurd (by omega) h⟩
   .rw [List.take_of_length_le (by omega),hex]at hallj
    rw [hallj]at hK;simp only [go_sem,hltj];exact⟨λh=>absurd h (by omega),λ_=>hK⟩
theorem xaP(hΓ:Holds P Γ){f fo:Nat}(ho:Γ fo=.dat false Wx)(hc:check P f=some (10,(ym fo).strip,[.cell 4 6 true])):Sound P f (.dat false yV):=by
 refine ka hc Zbf hΓ (λargs K hcl hfi hG=>?_);match args,hG with
 | [a,b],hG=>
  obtain⟨k,n,rfl,hG'⟩:=Vb hG;obtain⟨k',m,rfl,rfl,rfl,h1,h2,hK⟩:=Vb hG';clear hG hG';refine⟨by simp,?_⟩
  simp only [go_sem,ym,ho];exact⟨h1.1,h1.2,h2.1,h2.2,hK⟩
theorem ZaH(hΓ:Holds P Γ){f fm fo fl:Nat}(hm:Γ fm=.dat false yz)(ho:Γ fo=.dat false Wx)(hl:Γ fl=.dat false yV)(hc:check P f=some (15,(yf fm fo fl).strip,[.cell 0 27 true])):Sound P f (.dat false vC):=by
 refine ka hc Qa5 hΓ (λargs K hcl hfi hG=>?_);match args,hG with
 | [],hK=>
  refine⟨by simp,?_⟩
  have i1:((1:Int):Rat)=1:=rfl;have i4:((4:Int):Rat)=4:=rfl;have i0:((0:Int):Rat)=0:=rfl;have i16:((16:Int):Rat)=16:=rfl;have ih:Rat.divInt 1 2=1 / 2:=by decide +kernel
  unfold vC cqR exQ at hK;simp only [Qd]at hK;simp only [go_sem,yf,hm,ho,hl,i1,i4,i0,i16,ih,Qd];exact⟨by decide,by decide,by decide,by decide,by decide,by decide,by decide,by decide,by decide,hK⟩
end Go.Abs
end
section
namespace Go.Num
open Go.Abs
theorem Jbh(a:V2):avld (rcan a.1,rcan a.2)=true:=by show(vldR (rcan _) && vldR (rcan _))=true;rw [uc,uc];rfl
def CB'(b:Nat)(c:CpR):Prop:=zq c.1<=b/\zq c.2.1<=b/\rz c.2.2.1<=b/\rz c.2.2.2.1<=b/\rz c.2.2.2.2.1<=b/\rz c.2.2.2.2.2.1<=b/\rz c.2.2.2.2.2.2<=b
theorem vbZ{c:Cp}(hw:WLC c){b:Nat}(hl:cl c<=b):CB' b (cpv c):=by
 obtain⟨wo,wq,w1,w2,w3,w4,w5⟩:=hw;unfold cl at hl;simp only [Nat.max_le]at hl;obtain⟨l1,l2,l3,l4,l5,l6,l7⟩:=hl;exact⟨Nat.le_trans (QO wo) l1,Nat.le_trans (QO wq) l2,Nat.le_trans (Ze w1) l3,Nat.le_trans (Ze w2) l4,Nat.le_trans (Ze w3) l5,Nat.le_trans (Ze w4) l6,Nat.le_trans (Ze w5) l7⟩
theorem zq_1(a:V2):rz a.1<=zq a:=Nat.le_max_left _ _
theorem zq_2(a:V2):rz a.2<=zq a:=Nat.le_max_right _ _
end Go.Num
namespace Go.Abs
open Go.Num
variable {P:Program} {Γ:Nat->Spec}
def wL(l:List AV)(K:AV->Prop):Prop:=
 match l with
 | [c,p]=>onCp (λc=>onA (λp=>cl c<=1048576/\al p<=1048576/\K (.one (.lit (.bool true)))) p) c
 | _=>False
theorem xT(c p:AV)(K:AV->Prop):wL [c,p] K=(onCp (λc=>onA (λp=>cl c<=1048576/\al p<=1048576/\K (.one (.lit (.bool true)))) p) c):=propext Iff.rfl
@[congr] theorem Xby {K:AV->Prop} {l l' : List AV} (h:l=l'):wL l K=wL l' K:=by subst h;rfl
attribute [go_sem,go_sem ↓] xT
end Go.Abs
end
section
namespace Go.Num
open Go.Abs
def cpsA(c:Cp):List R:=[c.2.2.2.2.2.1,c.2.2.2.2.2.2,c.2.2.1,c.2.2.2.1,c.2.2.2.2.1]
theorem ubm(c:Cp):(cpsA c).all vldR=(cps5 c).all vldR:=by
 unfold cpsA cps5;simp only [List.all_cons,List.all_nil,Bool.and_true];cases vldR c.2.2.2.2.2.1 <;> cases vldR c.2.2.2.2.2.2 <;> simp
def clsC(c:Cp)(a b:Arc):Cp:=(c.1,c.2.1,rcan (sqQ (subQ (av a) (av c.1))),rcan (sqQ (subQ (av b) (av a))),rcan (sqQ (subQ (av b) (av c.2.1))),c.2.2.2.2.2.1,c.2.2.2.2.2.2)
end Go.Num
namespace Go.Abs
open Go.Num
variable {P:Program} {Γ:Nat->Spec}
theorem Xbk{h h' : Nat->HB}{z:Nat}{b:Bool}{es:List (List C)}{l:List R}(e:es=l.map rC):okB h h' (some ⟨es,z,b⟩) (some ⟨l.map rC,z,b⟩):=by
 subst e;exact⟨⟨rfl,rfl⟩,.inl ⟨rfl,of_eq_true (wI l)⟩⟩
def UF(l:List AV)(K:AV->Prop):Prop:=
 match l with
 | [c]=>onCp (λc=>cl c<=100000000/\K (.one (.lit (.int .i64 (cchk c:Nat))))) c
 | _=>False
theorem WaO(c:AV)(K:AV->Prop):UF [c] K=(onCp (λc=>cl c<=100000000/\K (.one (.lit (.int .i64 (cchk c:Nat))))) c):=propext Iff.rfl
@[congr] theorem JbY {K:AV->Prop} {l l' : List AV} (h:l=l'):UF l K=UF l' K:=by subst h;rfl
attribute [go_sem,go_sem ↓] WaO
theorem qa9:Good UF:=Wa λas=>by
 unfold UF;split
 .exact(Ym λ_=>(.and λ_=>(.ret _)))
 .exact .of λK hk=>hk.elim
def vaM(l:List AV)(K:AV->Prop):Prop:=
 match l with
 | [c,a,b]=>onCp (λc=>onA (λa=>onA (λb=>cl c<=10000/\al a<=10000/\al b<=10000/\K (.tup [cpA (clsC c a b),.one (.lit (.bool (decide (cchk (clsC c a b)=0))))])) b) a) c
 | _=>False
theorem waQ(c a b:AV)(K:AV->Prop):vaM [c,a,b] K=(onCp (λc=>onA (λa=>onA (λb=>cl c<=10000/\al a<=10000/\al b<=10000/\K (.tup [cpA (clsC c a b),.one (.lit (.bool (decide (cchk (clsC c a b)=0))))])) b) a) c):=propext Iff.rfl
@[congr] theorem UbY {K:AV->Prop} {l l' : List AV} (h:l=l'):vaM l K=vaM l' K:=by subst h;rfl
attribute [go_sem,go_sem ↓] waQ
def Jh(f0 f1 f2 f3:Nat):AC:=(.seq (.ops false [.u 1 (.box 27 (.t 0)),.m 2 (.i 0)])
 (.fg [1] (.seq (.ops false [.u 8 (.fa 12 (.t 1)),.u 9 (.ld none 3 true (.t 8)),.u 10 (.fa 15 (.t 1)),.u 11 (.ld none 3 true (.t 10)),.u 12 (.fa 18 (.t 1)),.u 13 (.ld none 3 true (.t 12)),.u 14 (.row 3 [[.x 3 (.t 9)],[.x 3 (.t 11)],[.x 3 (.t 13)]]),.m 3 (.t 14)])
 (.fg [1,3] (.seq (.seq (.ops false [.u 15 (.fa 21 (.t 1)),.u 16 (.ld none 3 true (.t 15)),.u 17 (.fa 24 (.t 1)),.u 18 (.ld none 3 true (.t 17)),.u 19 (.row 3 [[.x 3 (.t 16)],[.x 3 (.t 18)]]),.m 20 (.t 3),.u 21 (.app 3 (.t 19) (.t 20)),.u 22 (.len (.t 21)),.m 23 (.i 0)])
 (.fg [1,3,21,22,23] (.block 0 (.loop (.seq (.ops false [.u 24 (.bin .lss (.t 23) (.t 22))])
 (.fg [1,3,21,22,23,24] (.seq (.cond (.t 24) .skip (.exit 0))
 (.fg [1,3,21,22,23] (.seq (.block 1 (.seq (.ops false [.u 25 (.idx 3 (.t 21) (.t 23)),.u 26 (.ld none 3 true (.t 25)),.u 5 (.alloc [(.lit (.bool false)),.emp,.emp]),.n (.st none 3 (.t 5) (.t 26))])
 (.fg [1,3,5,21,22,23] (.seq (.ops false [.u 27 (.ld none 3 true (.t 5)),.u 28 (.call f0 [(.t 27)]),.u 29 (.un .not (.t 28))])
 (.fg [1,3,21,22,23,29] (.cond (.t 29) (.seq (.ops false [.m 2 (.i 2)])
 .ret) .skip))))))
 (.fg [1,3,21,22,23] (.ops false [.u 30 (.bin .add (.t 23) (.i 1)),.m 23 (.t 30)])))))))))))
 (.fg [1,3] (.seq (.seq (.ops false [.u 31 (.fa 0 (.t 1)),.u 32 (.ld none 6 true (.t 31)),.u 33 (.call f1 [(.t 32)]),.u 34 (.un .not (.t 33)),.m 35 (.t 34),.w 36 35 false (.fa 6 (.t 1)),.w 37 35 false (.ld none 6 true (.t 36)),.w 38 35 false (.call f1 [(.t 37)]),.w 39 35 false (.un .not (.t 38)),.u 40 (.pick (.t 35) .tr (.t 39))])
 (.fg [1,3,40] (.cond (.t 40) (.seq (.ops false [.m 2 (.i 2)])
 .ret) .skip)))
 (.fg [1,3] (.seq (.seq (.ops false [.m 41 (.t 3),.u 42 (.len (.t 41)),.m 43 (.i 0)])
 (.fg [1,41,42,43] (.block 2 (.loop (.seq (.ops false [.u 44 (.bin .lss (.t 43) (.t 42))])
 (.fg [1,41,42,43,44] (.seq (.cond (.t 44) .skip (.exit 2))
 (.fg [1,41,42,43] (.seq (.block 3 (.seq (.ops false [.u 45 (.idx 3 (.t 41) (.t 43)),.u 46 (.ld none 3 true (.t 45)),.u 7 (.alloc [(.lit (.bool false)),.emp,.emp]),.n (.st none 3 (.t 7) (.t 46))])
 (.fg [1,7,41,42,43] (.seq (.ops false [.u 47 (.ld none 3 true (.t 7)),.u 48 (.call f2 [(.t 47)]),.u 49 (.bin .leq (.t 48) (.i 0))])
 (.fg [1,41,42,43,49] (.cond (.t 49) (.seq (.ops false [.m 2 (.i 3)])
 .ret) .skip))))))
 (.fg [1,41,42,43] (.ops false [.u 50 (.bin .add (.t 43) (.i 1)),.m 43 (.t 50)])))))))))))
 (.fg [1] (.seq (.seq (.ops false [.u 51 (.fa 0 (.t 1)),.u 52 (.ld none 6 true (.t 51)),.u 53 (.fa 6 (.t 1)),.u 54 (.ld none 6 true (.t 53)),.u 55 (.call f3 [(.t 52),(.t 54)])])
 (.fg [55] (.cond (.t 55) (.seq (.ops false [.m 2 (.i 8)])
 .ret) .skip)))
 (.fg [] (.seq (.ops false [.m 2 (.i 0)])
 .ret)))))))))))))
set_option maxHeartbeats 2000000 in
theorem XaI(hΓ:Holds P Γ){f fr fv fg fs:Nat}(hr:Γ fr=.dat true je)(hv:Γ fv=.dat true vm)(hg:Γ fg=.dat true xk)(hs:Γ fs=.dat true qA)(hc:check P f=some (56,(Jh fr fv fg fs).strip,[.tmp 2])):Sound P f (.dat true UF):=by
 refine ka hc qa9 hΓ (λargs K hcl hfi hG=>?_);match args,hG with
 | [a],hG=>
  obtain⟨c,rfl,hw,hl,hK⟩:=hG;refine⟨by simp,?_⟩
  obtain⟨wo,wq,w1,w2,w3,w4,w5⟩:=id hw;have hl0:=hl;unfold cl at hl0;simp only [Nat.max_le]at hl0;obtain⟨l1,l2,l3,l4,l5,l6,l7⟩:=hl0;have h5:∀x∈cpsA c,WLR x/\rl x<=100000000:=λx hx=>by
   simp only [cpsA,List.mem_cons,List.not_mem_nil,or_false]at hx;rcases hx with rfl|rfl|rfl|rfl|rfl
   .exact⟨w4,l6⟩
   .exact⟨w5,l7⟩
   .exact⟨w1,l3⟩
   .exact⟨w2,l4⟩
   .exact⟨w3,l5⟩
  have h3:∀x∈cps3 c,WLR x/\rl x<=100000000:=λx hx=>h5 x (by
   simp only [cps3,cpsA,List.mem_cons,List.not_mem_nil,or_false]at hx ⊢;rcases hx with rfl|rfl|rfl <;> simp)
  have n5:(cpsA c).length=5:=rfl;have n3:(cps3 c).length=3:=rfl;have int2:((2:Nat):Int)=2:=rfl;have int3:((3:Nat):Int)=3:=rfl;have int8:((8:Nat):Int)=8:=rfl;have hk2:(cpsA c).all vldR=false->cchk c=2:=λh=>by
   unfold cchk;rw [ubm]at h;split
   .rfl
   .rfl
  simp only [go_sem,Jh,cpA,cpC];refine⟨λe he=>?_,λe he=>?_,?_⟩
  .simp only [List.mem_cons,List.not_mem_nil,or_false]at he;rcases he with rfl|rfl|rfl <;> rfl
  .simp only [List.mem_cons,List.not_mem_nil,or_false]at he;rcases he with rfl|rfl <;> rfl
  refine Ya (λk:Nat=>⟨mkV [(1,.one (.ptr 1 1 0 0)),(3,.one (.full ((cps3 c).map rC))),(21,.one (.own 21 1 3 0 5)),(22,.one (.lit (.int .i64 5))),(23,.one (.lit (.int .i64 k)))],mkH [(1,⟨1,some ⟨[cpC c],27,true⟩⟩),(21,⟨1,some ⟨(cpsA c).map rC,3,true⟩⟩)]⟩) (λk=>k<=5/\((cpsA c).take k).all vldR=true) (λk=>5-k) 0 ?_ ?_ ?_
  .exact Qa (by simp [okS,okV,okC,okL,okH,okB,okE,Za,Va,za,Ja,wsA,ws,rC,cps3]) ⟨zI rfl,Xbk rfl,trivial⟩
  .exact⟨Nat.zero_le _,rfl⟩
  .rintro k ⟨hk,hall⟩;by_cases hlt:k<5
   .obtain⟨x,hx⟩:∃x,(cpsA c).getD k (rcan 0)=x:=⟨_,rfl⟩;have hx0:(cpsA c)[k]?=some x:=by
     rw [<-hx,List.getD_eq_getElem?_getD,List.getElem?_eq_getElem (by omega)];rfl
    obtain⟨g1,g2⟩:=h5 x (List.mem_of_getElem? hx0);have hlt' : ((k:Nat):Int)<5:=by omega
    cases hz:vldR x with
    | true=>
     simp only [go_sem,hlt',hlt,hr,Xw,n5,hx,rC,hz];repeat first|refine ja (by omega) ?_|refine ja (by assumption) ?_|refine ja rfl ?_|refine ja ⟨rfl,by omega⟩ ?_|refine ja ⟨rfl,by omega,by omega⟩ ?_|intro _
     exact⟨k+1,Qa (by simp [okS,okV,okC,okL,okH,okB,okE,Za,Va,za,Ja,wsA,ws,rC,cps3]) ⟨zI rfl,Xbk rfl,trivial⟩,⟨by omega,allS hx0 hall hz⟩,by omega⟩
    | false=>
     have hf:(cpsA c).all vldR=false:=by
      rw [List.all_eq_false];exact⟨x,List.mem_of_getElem? hx0,by simp [hz]⟩
     rw [hk2 hf]at hK;simp only [go_sem,hlt',hlt,hr,Xw,n5,hx,rC,hz];repeat first|refine ja (by omega) ?_|refine ja (by assumption) ?_|refine ja rfl ?_|refine ja ⟨rfl,by omega⟩ ?_|refine ja ⟨rfl,by omega,by omega⟩ ?_|intro _
     exact hK
   .have hv5:(cps5 c).all vldR=true:=by rw [List.take_of_length_le (by omega)]at hall;rw [<-ubm];exact hall
    have hlt' : ¬((k:Nat):Int)<5:=by omega
    cases ha:avld c.1 with
    | false=>
     have e:cchk c=2:=if_pos (.inl ha);rw [e]at hK;simp only [go_sem,hlt',hv,cpC,vd,ha];repeat first|refine ja (by omega) ?_|refine ja (by assumption) ?_|refine ja rfl ?_|refine ja ⟨rfl,by omega⟩ ?_|refine ja ⟨rfl,by omega,by omega⟩ ?_|intro _
     exact hK
    | true=>
    cases hb:avld c.2.1 with
    | false=>
     have e:cchk c=2:=if_pos (.inr hb);rw [e]at hK;simp only [go_sem,hlt',hv,cpC,vd,ha,hb];repeat first|refine ja (by omega) ?_|refine ja (by assumption) ?_|refine ja rfl ?_|refine ja ⟨rfl,by omega⟩ ?_|refine ja ⟨rfl,by omega,by omega⟩ ?_|intro _
     exact hK
    | true=>
     have hab:¬(avld c.1=false∨avld c.2.1=false):=by simp [ha,hb]
     have hch:cchk c=if (cps3 c).all gt0R=false then 3 else if av c.1=av c.2.1 then 8 else 0:=by
      unfold cchk;rw [if_neg hab,if_neg (by simp [hv5])]
     rw [hch]at hK;simp only [go_sem,hlt',hv,cpC,vd,ha,hb];repeat first|refine ja (by omega) ?_|refine ja (by assumption) ?_|refine ja rfl ?_|refine ja ⟨rfl,by omega⟩ ?_|refine ja ⟨rfl,by omega,by omega⟩ ?_|intro _
     refine Ya (λk:Nat=>⟨mkV [(1,.one (.ptr 1 1 0 0)),(41,.one (.full ((cps3 c).map rC))),(42,.one (.lit (.int .i64 3))),(43,.one (.lit (.int .i64 k)))],mkH [(1,⟨1,some ⟨[cpC c],27,true⟩⟩)]⟩) (λk=>k<=3/\((cps3 c).take k).all gt0R=true) (λk=>3-k) 0 ?_ ?_ ?_
     .exact Qa (by simp [okS,okV,okC,okL,okH,okB,okE,Za,Va,za,Ja,wsA,ws,rC,cps3]) ⟨zI rfl,trivial⟩
     .exact⟨Nat.zero_le _,rfl⟩
     .rintro k ⟨hk,hall⟩;by_cases hlt:k<3
      .obtain⟨x,hx⟩:∃x,(cps3 c).getD k (rcan 0)=x:=⟨_,rfl⟩;have hx0:(cps3 c)[k]?=some x:=by
        rw [<-hx,List.getD_eq_getElem?_getD,List.getElem?_eq_getElem (by omega)];rfl
       obtain⟨g1,g2⟩:=h3 x (List.mem_of_getElem? hx0);have hlt' : ((k:Nat):Int)<3:=by omega
       cases hz:gt0R x with
       | true=>
        have hp:(ordQ (rv x) 0<=0)=False:=by rw [yI];simpa [gt0R] using hz
        simp only [go_sem,hlt',hlt,hg,Xw,n3,hx,rC,hp];repeat first|refine ja (by omega) ?_|refine ja (by assumption) ?_|refine ja rfl ?_|refine ja ⟨rfl,by omega⟩ ?_|refine ja ⟨rfl,by omega,by omega⟩ ?_|intro _
        exact⟨k+1,Qa (by simp [okS,okV,okC,okL,okH,okB,okE,Za,Va,za,Ja,wsA,ws,rC,cps3]) ⟨zI rfl,trivial⟩,⟨by omega,allS hx0 hall hz⟩,by omega⟩
       | false=>
        have hp:(ordQ (rv x) 0<=0)=True:=by rw [yI];simpa [gt0R] using hz
        have hf:(cps3 c).all gt0R=false:=by
         rw [List.all_eq_false];exact⟨x,List.mem_of_getElem? hx0,by simp [hz]⟩
        rw [if_pos hf]at hK;simp only [go_sem,hlt',hlt,hg,Xw,n3,hx,rC,hp];repeat first|refine ja (by omega) ?_|refine ja (by assumption) ?_|refine ja rfl ?_|refine ja ⟨rfl,by omega⟩ ?_|refine ja ⟨rfl,by omega,by omega⟩ ?_|intro _
        exact hK
      .have hv3:(cps3 c).all gt0R=true:=by rw [List.take_of_length_le (by omega)]at hall;exact hall
       rw [if_neg (by simp [hv3])]at hK
       have hlt' : ¬((k:Nat):Int)<3:=by omega
       by_cases q1:av c.1=av c.2.1
       .rw [if_pos q1]at hK;simp only [go_sem,hlt',cpC,hs,vd,decide_eq_true q1];repeat first|refine ja (by omega) ?_|refine ja (by assumption) ?_|refine ja rfl ?_|refine ja ⟨rfl,by omega⟩ ?_|refine ja ⟨rfl,by omega,by omega⟩ ?_|intro _
        exact hK
       .rw [if_neg q1]at hK;simp only [go_sem,hlt',cpC,hs,vd,decide_eq_false q1];repeat first|refine ja (by omega) ?_|refine ja (by assumption) ?_|refine ja rfl ?_|refine ja ⟨rfl,by omega⟩ ?_|refine ja ⟨rfl,by omega,by omega⟩ ?_|intro _
        exact hK
end Go.Abs
end
