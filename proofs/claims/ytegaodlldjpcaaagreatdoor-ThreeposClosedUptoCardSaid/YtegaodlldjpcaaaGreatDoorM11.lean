/-
  Parts of the proof, merged: CoupA, CoupB, CoupC, CoupD, IntC, IntD, IntE, IntF, IntG, IntH, IntK.
-/
import Derived.Test.YtegaodlldjpcaaaGreatDoorM10
import Derived.Lib.BitFns
set_option linter.unusedVariables false
set_option linter.unusedSimpArgs false
set_option maxRecDepth 100000
section
namespace Go.Num
open Go.Abs
theorem xbl{p q:BQ}(h:mcs p=mcs q):p=q:=by rw [<-xB p,h,xB]
theorem zH{p:BQ}{N:Nat}(h:sz p<=N):∀t∈mcs p,rl t.2.2<=N:=λt ht=>by
 obtain⟨u,hu,rfl⟩:=List.mem_map.1 ht;have h1:=ja5 hu;have h2:rl (mcan u).2.2=rz u.2.2:=rfl;omega
theorem UR{p q:BQ}(hp:Canon p)(hq:Canon q):chk2 (mcs p) (mcs q)=0:=by unfold chk2;rw [QD hp,if_neg (by decide),QD hq]
theorem Ua3{p q:BQ}(hp:Canon p)(hq:Canon q)(hd:degB p+degB q<=24):mulC (mcs p) (mcs q)=0:=by
 unfold mulC;rw [UR hp hq,if_neg (by decide),kt,kt,if_neg (by omega)]
theorem UaU{p:BQ}(hp:Canon p){d:Nat}(hd:Deg d p):degB p<=d:=by
 unfold degB;cases hl:p.getLast? with
 | none=>simp only;omega
 | some u=>exact hd u (List.mem_of_getLast? hl)
theorem PB.dd{d s e t:Nat}{p q:BQ}(hp:PB d s p)(hq:PB e t q)(h:d+e<=24):degB p+degB q<=24:=by
 have h1:=UaU hp.canon hp.deg;have h2:=UaU hq.canon hq.deg;omega
theorem kL{p q:BQ}(hp:Canon p)(hq:Canon q):Canon (addB p q):=Ql (Vi.2 ⟨hp.ins,hq.ins⟩)
theorem UZ{p q:BQ}(hp:Canon p)(hq:Canon q):Canon (subB p q):=Ql (Vi.2 ⟨hp.ins,UF hq.ins⟩)
theorem Qa0{p:BQ}(c:Rat)(hp:Canon p):Canon (sclB c p):=Ql (UF hp.ins)
theorem WaF{p q:BQ}(hp:Canon p)(hq:Canon q)(hd:degB p+degB q<=24):Canon (mulB p q):=by
 refine Ql λt ht=>?_;obtain⟨a,ha,hb⟩:=List.mem_flatMap.1 ht;obtain⟨b,hb',rfl⟩:=List.mem_map.1 hb;obtain⟨x1,x2,x3⟩:=hp.ins a ha;obtain⟨y1,y2,y3⟩:=hq.ins b hb';have h1:=yL hp a ha;have h2:=yL hq b hb';unfold inQ mulT;simp only;omega
theorem zba(b:Bool)(c:Rat):mkC [((if b then 0 else 1:Int),(if b then 1 else 0:Int),rcan 1),(0,0,rcan c)]=0:=by
 have v1:vldR (rcan 1)=true:=Qf _;have v2:vldR (rcan c)=true:=Qf _;unfold mkC;rw [if_neg (by simp)]
 cases b <;> simp [mkG,mkT,inM,v1,v2]
theorem Ya9(b:Bool)(c:Rat):nf (([((if b then 0 else 1:Int),(if b then 1 else 0:Int),rcan 1),(0,0,rcan (-c))]:List Mo).map mv)=linB b c:=by
 unfold linB;simp only [List.map_cons,List.map_nil,mv,Wb]
theorem Qbs(x:R):nf (([(0,0,x)]:List Mo).map mv)=conB (rv x):=rfl
theorem Ybr{x:R}(h:vldR x=true):mkC [(0,0,x)]=0:=by
 unfold mkC;rw [if_neg (by simp)]
 simp [mkG,mkT,inM,h]
end Go.Num
namespace Go.Abs
open Go.Num
variable {P:Program} {Γ:Nat->Spec}
def bC(p:BQ):C:=.slice ((mcs p).map mC)
def onB(k:BQ->Prop)(a:AV):Prop:=∃p,a=.one (bC p)/\Canon p/\k p
@[congr] theorem xbN {k:BQ->Prop} {a a' : AV} (h:a=a'):onB k a=onB k a':=by subst h;rfl
theorem kaN{p q:BQ}(h:bC p=bC q):p=q:=by
 simp only [bC,C.slice.injEq]at h;exact xbl (um h)
theorem Xbn(k:BQ->Prop)(p:BQ):onB k (.one (bC p))=(Canon p/\k p):=by
 refine propext ⟨λ⟨x,h,h1,h2⟩=>?_,λh=>⟨p,rfl,h⟩⟩;simp only [AV.one.injEq]at h;have:=kaN h;subst this;exact⟨h1,h2⟩
theorem yaV(k:BQ->Prop)(p:BQ):onB k (.one (.slice ((mcs p).map mC)))=(Canon p/\k p):=Xbn k p
theorem Y9{β:Type}{T:BQ->(β->Prop)->Prop}(h:∀p,GoodT (T p)){a:AV}:GoodT λK=>onB (λp=>T p K) a:=
 .of λK hx=>by
  obtain⟨p,rfl,hc,hk⟩:=hx;have:(λK=>onB (λp=>T p K) (.one (bC p)))=λK=>Canon p/\T p K:=funext λK=>Xbn _ p;rw [this];exact .and λ_=>h p
def onV(k:BQ×BQ->Prop)(a:AV):Prop:=∃p q,a=.agg [bC p,bC q]/\(Canon p/\Canon q)/\k (p,q)
@[congr] theorem ybO {k:BQ×BQ->Prop} {a a' : AV} (h:a=a'):onV k a=onV k a':=by subst h;rfl
theorem Ubq(k:BQ×BQ->Prop)(p q:BQ):onV k (.agg [bC p,bC q])=((Canon p/\Canon q)/\k (p,q)):=by
 refine propext ⟨λ⟨x,y,h,h1,h2⟩=>?_,λh=>⟨p,q,rfl,h⟩⟩;simp only [AV.agg.injEq,List.cons.injEq,and_true]at h;obtain⟨e1,e2⟩:=h;have:=kaN e1;have:=kaN e2
 subst_vars;exact⟨h1,h2⟩
theorem jbz(k:BQ×BQ->Prop)(p q:BQ):onV k (.agg [.slice ((mcs p).map mC),.slice ((mcs q).map mC)])=((Canon p/\Canon q)/\k (p,q)):=Ubq k p q
theorem uby{β:Type}{T:BQ×BQ->(β->Prop)->Prop}(h:∀p,GoodT (T p)){a:AV}:GoodT λK=>onV (λp=>T p K) a:=
 .of λK hx=>by
  obtain⟨p,q,rfl,hc,hk⟩:=hx;have:(λK=>onV (λp=>T p K) (.agg [bC p,bC q]))=λK=>(Canon p/\Canon q)/\T (p,q) K:=funext λK=>Ubq _ p q;rw [this];exact .and λ_=>h (p,q)
theorem jbA(p:BQ):bC p=.slice ((mcs p).map mC):=eq_of_heq (HEq.refl _)
attribute [go_sem,go_sem ↓] yaV jbz jbA
def Uk(l:List AV)(K:AV->Prop):Prop:=
 match l with
 | [p,e]=>e=.one (.lit .nilIface)/\onB (λp=>K (.one (bC p))) p
 | _=>False
theorem vav(p e:AV)(K:AV->Prop):Uk [p,e] K=(e=.one (.lit .nilIface)/\onB (λp=>K (.one (bC p))) p):=propext Iff.rfl
@[congr] theorem qbD {K:AV->Prop} {l l' : List AV} (h:l=l'):Uk l K=Uk l' K:=by subst h;rfl
attribute [go_sem,go_sem ↓] vav
theorem UaD:Good Uk:=Va λas=>by
 unfold Uk;split
 .exact(.and λ_=>(Y9 λ_=>(.ret _)))
 .exact .of λK hk=>hk.elim
def uy(l:List AV)(K:AV->Prop):Prop:=
 match l with
 | [a,b]=>onB (λp=>onB (λq=>sz p+sz q<=1000000000/\K (.one (bC (addB p q)))) b) a
 | _=>False
theorem waM(a b:AV)(K:AV->Prop):uy [a,b] K=(onB (λp=>onB (λq=>sz p+sz q<=1000000000/\K (.one (bC (addB p q)))) b) a):=propext Iff.rfl
@[congr] theorem ZbM {K:AV->Prop} {l l' : List AV} (h:l=l'):uy l K=uy l' K:=by subst h;rfl
attribute [go_sem,go_sem ↓] waM
theorem qaH:Good uy:=Va λas=>by
 unfold uy;split
 .exact(Y9 λ_=>(Y9 λ_=>(.and λ_=>(.ret _))))
 .exact .of λK hk=>hk.elim
def Jz(l:List AV)(K:AV->Prop):Prop:=
 match l with
 | [a,b]=>onB (λp=>onB (λq=>sz p+sz q<=1000000000/\K (.one (bC (subB p q)))) b) a
 | _=>False
theorem ZaT(a b:AV)(K:AV->Prop):Jz [a,b] K=(onB (λp=>onB (λq=>sz p+sz q<=1000000000/\K (.one (bC (subB p q)))) b) a):=propext Iff.rfl
@[congr] theorem YbG {K:AV->Prop} {l l' : List AV} (h:l=l'):Jz l K=Jz l' K:=by subst h;rfl
attribute [go_sem,go_sem ↓] ZaT
theorem xaX:Good Jz:=Va λas=>by
 unfold Jz;split
 .exact(Y9 λ_=>(Y9 λ_=>(.and λ_=>(.ret _))))
 .exact .of λK hk=>hk.elim
def yy(l:List AV)(K:AV->Prop):Prop:=
 match l with
 | [a,b]=>onB (λp=>onB (λq=>sz p+sz q<=3000000/\degB p+degB q<=24/\K (.one (bC (mulB p q)))) b) a
 | _=>False
theorem jaU(a b:AV)(K:AV->Prop):yy [a,b] K=(onB (λp=>onB (λq=>sz p+sz q<=3000000/\degB p+degB q<=24/\K (.one (bC (mulB p q)))) b) a):=propext Iff.rfl
@[congr] theorem jbG {K:AV->Prop} {l l' : List AV} (h:l=l'):yy l K=yy l' K:=by subst h;rfl
attribute [go_sem,go_sem ↓] jaU
theorem xaY:Good yy:=Va λas=>by
 unfold yy;split
 .exact(Y9 λ_=>(Y9 λ_=>(.and λ_=>(.and λ_=>(.ret _)))))
 .exact .of λK hk=>hk.elim
def wn(l:List AV)(K:AV->Prop):Prop:=
 match l with
 | [a,x]=>onB (λp=>onR (λx=>rl x<=1000000/\sz p<=100000000/\K (.one (bC (sclB (rv x) p)))) x) a
 | _=>False
theorem QW(a x:AV)(K:AV->Prop):wn [a,x] K=(onB (λp=>onR (λx=>rl x<=1000000/\sz p<=100000000/\K (.one (bC (sclB (rv x) p)))) x) a):=propext Iff.rfl
@[congr] theorem zbt {K:AV->Prop} {l l' : List AV} (h:l=l'):wn l K=wn l' K:=by subst h;rfl
attribute [go_sem,go_sem ↓] QW
theorem Zad:Good wn:=Va λas=>by
 unfold wn;split
 .exact(Y9 λ_=>(Ji λ_=>(.and λ_=>(.and λ_=>(.ret _)))))
 .exact .of λK hk=>hk.elim
def WE(l:List AV)(K:AV->Prop):Prop:=
 match l with
 | [b,x]=>asBool (λb=>onR (λx=>rl x<=1000000/\K (.one (bC (linB b (rv x))))) x) b
 | _=>False
theorem ZaG(b x:AV)(K:AV->Prop):WE [b,x] K=(asBool (λb=>onR (λx=>rl x<=1000000/\K (.one (bC (linB b (rv x))))) x) b):=propext Iff.rfl
@[congr] theorem QbL {K:AV->Prop} {l l' : List AV} (h:l=l'):WE l K=WE l' K:=by subst h;rfl
attribute [go_sem,go_sem ↓] ZaG
theorem kaS:Good WE:=Va λas=>by
 unfold WE;split
 .exact(ZI (λ_=>(Ji λ_=>(.and λ_=>(.ret _)))) _)
 .exact .of λK hk=>hk.elim
def ZF(l:List AV)(K:AV->Prop):Prop:=
 match l with
 | [x]=>onR (λx=>rl x<=1000000/\vldR x=true/\K (.one (bC (conB (rv x))))) x
 | _=>False
theorem VaI(x:AV)(K:AV->Prop):ZF [x] K=(onR (λx=>rl x<=1000000/\vldR x=true/\K (.one (bC (conB (rv x))))) x):=propext Iff.rfl
@[congr] theorem XbJ {K:AV->Prop} {l l' : List AV} (h:l=l'):ZF l K=ZF l' K:=by subst h;rfl
attribute [go_sem,go_sem ↓] VaI
theorem XaL:Good ZF:=Va λas=>by
 unfold ZF;split
 .exact(Ji λ_=>(.and λ_=>(.and λ_=>(.ret _))))
 .exact .of λK hk=>hk.elim
def qf:AC:=(.seq (.ops false [.m 6 (.c (.one .emp))])
 (.fg [0,1,2] (.seq (.seq (.ops false [.m 7 (.t 0),.u 8 (.nilck (.t 7)),.u 9 (.fa 0 (.t 8)),.u 10 (.ld none 1 false (.t 9)),.u 11 (.binn .eql (.t 10) (.c (.one (.lit .nilIface))))])
 (.fg [0,1,2,11] (.cond (.t 11) (.ops false [.m 12 (.t 0),.m 13 (.t 2),.u 14 (.nilck (.t 12)),.u 15 (.fa 0 (.t 14)),.n (.st none 1 (.t 15) (.t 13))]) .skip)))
 (.fg [1] (.seq (.ops false [.m 16 (.t 1),.m 6 (.t 16)])
 .ret)))))
def Zf(f0 f1:Nat):AC:=(.seq (.ops false [.m 6 (.c (.one .emp))])
 (.fg [0,1,2] (.seq (.ops false [.m 7 (.t 0),.m 8 (.t 1),.m 9 (.t 2),.u 10 (.call f0 [(.t 8),(.t 9)]),.u 11 (.ext 0 (.t 10)),.u 12 (.ext 1 (.t 10)),.u 13 (.callr f1 [(.t 7),(.t 11),(.t 12)]),.m 6 (.t 13)])
 .ret)))
def kf(f0 f1:Nat):AC:=(.seq (.ops false [.m 6 (.c (.one .emp))])
 (.fg [0,1,2] (.seq (.ops false [.m 7 (.t 0),.m 8 (.t 1),.m 9 (.t 2),.u 10 (.call f0 [(.t 8),(.t 9)]),.u 11 (.ext 0 (.t 10)),.u 12 (.ext 1 (.t 10)),.u 13 (.callr f1 [(.t 7),(.t 11),(.t 12)]),.m 6 (.t 13)])
 .ret)))
def jf(f0 f1:Nat):AC:=(.seq (.ops false [.m 6 (.c (.one .emp))])
 (.fg [0,1,2] (.seq (.ops false [.m 7 (.t 0),.m 8 (.t 1),.m 9 (.t 2),.u 10 (.call f0 [(.t 8),(.t 9)]),.u 11 (.ext 0 (.t 10)),.u 12 (.ext 1 (.t 10)),.u 13 (.callr f1 [(.t 7),(.t 11),(.t 12)]),.m 6 (.t 13)])
 .ret)))
def we(f0 f1:Nat):AC:=(.seq (.ops false [.u 5 (.box 3 (.t 2)),.m 6 (.c (.one .emp))])
 (.fg [0,1,5] (.seq (.ops false [.m 7 (.t 0),.m 8 (.t 1),.u 9 (.ld none 3 true (.t 5)),.u 10 (.call f0 [(.t 8),(.t 9)]),.u 11 (.ext 0 (.t 10)),.u 12 (.ext 1 (.t 10)),.u 13 (.callr f1 [(.t 7),(.t 11),(.t 12)]),.m 6 (.t 13)])
 .ret)))
def uc(f0 f1 f2 f3:Nat):AC:=(.seq (.ops false [.u 5 (.box 3 (.t 2)),.m 6 (.c (.one .emp))])
 (.fg [0,1,5] (.seq (.ops false [.u 8 (.call f0 [(.i 1)]),.u 9 (.build [.x 1 (.i 1),.z [(.lit (.int .i64 0))],.x 3 (.t 8)]),.u 7 (.alloc [(.lit (.int .i64 0)),(.lit (.int .i64 0)),(.lit (.bool false)),.emp,.emp]),.n (.st none 5 (.t 7) (.t 9))])
 (.fg [0,1,5,7] (.seq (.seq (.ops false [.m 10 (.t 1)])
 (.fg [0,5,7,10] (.cond (.t 10) (.ops false [.u 11 (.fa 0 (.t 7)),.n (.st none 1 (.t 11) (.i 0)),.u 12 (.fa 1 (.t 7)),.n (.st none 1 (.t 12) (.i 1))]) .skip)))
 (.fg [0,5,7] (.seq (.ops true [.m 13 (.t 0),.u 14 (.ld none 5 true (.t 7)),.u 15 (.ld none 3 true (.t 5)),.u 16 (.call f1 [(.t 15)]),.u 17 (.build [.z [(.lit (.int .i64 0)),(.lit (.int .i64 0))],.x 3 (.t 16)]),.u 18 (.row 5 [[.x 5 (.t 14)],[.x 5 (.t 17)]]),.u 19 (.call f2 [(.t 18)]),.u 20 (.ext 0 (.t 19)),.u 21 (.ext 1 (.t 19)),.u 22 (.callr f3 [(.t 13),(.t 20),(.t 21)]),.m 6 (.t 22)])
 .ret)))))))
def Yd(f0 f1:Nat):AC:=(.seq (.ops false [.u 3 (.box 3 (.t 1)),.m 4 (.c (.one .emp))])
 (.fg [0,3] (.seq (.ops false [.m 5 (.t 0),.u 6 (.ld none 3 true (.t 3)),.u 7 (.build [.z [(.lit (.int .i64 0)),(.lit (.int .i64 0))],.x 3 (.t 6)]),.u 8 (.row 5 [[.x 5 (.t 7)]]),.u 9 (.call f0 [(.t 8)]),.u 10 (.ext 0 (.t 9)),.u 11 (.ext 1 (.t 9)),.u 12 (.callr f1 [(.t 5),(.t 10),(.t 11)]),.m 4 (.t 12)])
 .ret)))
theorem Wy{h:Nat->HB}{r ver:Nat}(hr:h r=⟨ver,some mk0⟩):upd h r ⟨ver,some ⟨[[.lit .nilIface]],1,true⟩⟩=h:=va5 hr
theorem wag(hΓ:Holds P Γ){f:Nat}(hc:check P f=some (17,qf.strip,[.tmp 6])):Sound P f (.red Uk):=by
 refine wj hc UaD hΓ (λrest h r ver K hr hcl hfi hG=>?_);match rest,hG with
 | [a,b],hG=>
  obtain⟨rfl,p,rfl,hp,hK⟩:=hG;refine⟨by simp,?_⟩
  simp only [go_sem,qf,hr];rw [Wy hr];exact hK
theorem Yaz(hΓ:Holds P Γ){f fa ft tE:Nat}(ha:Γ fa=.dat false (kD tE))(ht:Γ ft=.red Uk)(hc:check P f=some (14,(Zf fa ft).strip,[.tmp 6])):Sound P f (.red uy):=by
 refine wj hc qaH hΓ (λrest h r ver K hr hcl hfi hG=>?_);match rest,hG with
 | [a,b],hG=>
  obtain⟨p,rfl,hp,q,rfl,hq,hsz,hK⟩:=hG;refine⟨by simp,?_⟩
  have hc0:=UR hp hq;have hrp:=zH (p:=p) (N:=4294967296) (by omega)
  have hrq:=zH (p:=q) (N:=4294967296) (by omega)
  simp only [go_sem,Zf,hr,ha,ht,hc0,xB,wt,Ua];refine⟨Yy hp.ins,Yy hq.ins,hrp,hrq,hsz,kL hp hq,?_⟩;rw [Wy hr];exact hK
theorem zaB(hΓ:Holds P Γ){f fa ft tE:Nat}(ha:Γ fa=.dat false (JE tE))(ht:Γ ft=.red Uk)(hc:check P f=some (14,(kf fa ft).strip,[.tmp 6])):Sound P f (.red Jz):=by
 refine wj hc xaX hΓ (λrest h r ver K hr hcl hfi hG=>?_);match rest,hG with
 | [a,b],hG=>
  obtain⟨p,rfl,hp,q,rfl,hq,hsz,hK⟩:=hG;refine⟨by simp,?_⟩
  have hc0:=UR hp hq;have hrp:=zH (p:=p) (N:=1000000000) (by omega)
  have hrq:=zH (p:=q) (N:=1000000000) (by omega)
  simp only [go_sem,kf,hr,ha,ht,hc0,xB,wt,Ua];refine⟨Yy hp.ins,Yy hq.ins,hrp,hrq,hsz,UZ hp hq,?_⟩;rw [Wy hr];exact hK
theorem vaA(hΓ:Holds P Γ){f fa ft tE:Nat}(ha:Γ fa=.dat false (uD tE))(ht:Γ ft=.red Uk)(hc:check P f=some (14,(jf fa ft).strip,[.tmp 6])):Sound P f (.red yy):=by
 refine wj hc xaY hΓ (λrest h r ver K hr hcl hfi hG=>?_);match rest,hG with
 | [a,b],hG=>
  obtain⟨p,rfl,hp,q,rfl,hq,hsz,hd,hK⟩:=hG;refine⟨by simp,?_⟩
  have hc0:=Ua3 hp hq hd;have hrp:=zH (p:=p) (N:=1000000000) (by omega)
  have hrq:=zH (p:=q) (N:=1000000000) (by omega)
  simp only [go_sem,jf,hr,ha,ht,hc0,xB,wt,Ua];refine⟨Yy hp.ins,Yy hq.ins,hrp,hrq,hsz,WaF hp hq hd,?_⟩;rw [Wy hr];exact hK
theorem WX(hΓ:Holds P Γ){f fa ft tE:Nat}(ha:Γ fa=.dat false (Qp tE))(ht:Γ ft=.red Uk)(hc:check P f=some (14,(we fa ft).strip,[.tmp 6])):Sound P f (.red wn):=by
 refine wj hc Zad hΓ (λrest h r ver K hr hcl hfi hG=>?_);match rest,hG with
 | [a,b],hG=>
  obtain⟨p,rfl,hp,x,rfl,hwx,hx,hsz,hK⟩:=hG;refine⟨by simp,?_⟩
  have hc0:=QD hp;have hrp:=zH (p:=p) (N:=1000000000) (by omega)
  simp only [go_sem,we,hr,ha,ht,hc0,xB,wt,Ua,rA];refine⟨Yy hp.ins,hwx,hrp,hx,hsz,Qa0 _ hp,?_⟩;rw [Wy hr];exact hK
theorem way(hΓ:Holds P Γ){f fo fn fm ft tE:Nat}(ho:Γ fo=.dat false ux)(hn:Γ fn=.dat false vy)(hm:Γ fm=.dat false (jv tE))(ht:Γ ft=.red Uk)(hc:check P f=some (23,(uc fo fn fm ft).strip,[.tmp 6])):Sound P f (.red WE):=by
 refine wj hc kaS hΓ (λrest h r ver K hr hcl hfi hG=>?_);match rest,hG with
 | [a,b],hG=>
  obtain⟨y,rfl,x,rfl,hwx,hx,hK⟩:=Zw hG;refine⟨by simp,?_⟩
  have hz:=Wd hwx;have hz2:=vB (rv x);have z1:=rz_1;have hcl0:=(PB.lin y (rv x)).canon;cases y with
  | false=>
   simp only [go_sem,uc,hr,ho,hn,hm,ht,rA,rone1];refine⟨by decide,by decide,hwx,by omega,?_⟩
   change onMs _ (.one (.slice (List.map mC [((if false then 0 else 1:Int),(if false then 1 else 0:Int),rcan 1),(0,0,rcan (-rv x))])))
   rw [XG,zba false (-rv x),Ua,wt,Ya9 false (rv x),yaV,Wy hr];refine⟨λt ht=>?_,λt ht=>?_,?_,rfl,rfl,hcl0,hK⟩
   .simp only [List.mem_cons,List.not_mem_nil,or_false]at ht;rcases ht with rfl | rfl
    .exact⟨by simp [i64r],by simp [i64r],Xb _⟩
    .exact⟨by simp [i64r],by simp [i64r],Xb _⟩
   .simp only [List.mem_cons,List.not_mem_nil,or_false]at ht;rcases ht with rfl | rfl
    .have e:rl (rcan 1)=rz 1:=rfl;simp only;omega
    .have e:rl (rcan (-rv x))=rz (-rv x):=rfl;simp only;omega
   .simp only [List.map_cons,List.map_nil,mv,Wb,sz];omega
  | true=>
   simp only [go_sem,uc,hr,ho,hn,hm,ht,rA,rone1];refine⟨by decide,by decide,hwx,by omega,?_⟩
   change onMs _ (.one (.slice (List.map mC [((if true then 0 else 1:Int),(if true then 1 else 0:Int),rcan 1),(0,0,rcan (-rv x))])))
   rw [XG,zba true (-rv x),Ua,wt,Ya9 true (rv x),yaV,Wy hr];refine⟨λt ht=>?_,λt ht=>?_,?_,rfl,rfl,hcl0,hK⟩
   .simp only [List.mem_cons,List.not_mem_nil,or_false]at ht;rcases ht with rfl | rfl
    .exact⟨by simp [i64r],by simp [i64r],Xb _⟩
    .exact⟨by simp [i64r],by simp [i64r],Xb _⟩
   .simp only [List.mem_cons,List.not_mem_nil,or_false]at ht;rcases ht with rfl | rfl
    .have e:rl (rcan 1)=rz 1:=rfl;simp only;omega
    .have e:rl (rcan (-rv x))=rz (-rv x):=rfl;simp only;omega
   .simp only [List.map_cons,List.map_nil,mv,Wb,sz];omega
theorem jay(hΓ:Holds P Γ){f fm ft tE:Nat}(hm:Γ fm=.dat false (jv tE))(ht:Γ ft=.red Uk)(hc:check P f=some (13,(Yd fm ft).strip,[.tmp 4])):Sound P f (.red ZF):=by
 refine wj hc XaL hΓ (λrest h r ver K hr hcl hfi hG=>?_);match rest,hG with
 | [a],hG=>
  obtain⟨x,rfl,hwx,hx,hv,hK⟩:=hG;refine⟨by simp,?_⟩
  have hz:=Wd hwx;have hmk:=Ybr hv;simp only [go_sem,Yd,hr,hm,ht,rA];have hcl0:=(PB.con (rv x)).canon;change onMs _ (.one (.slice (List.map mC [(0,0,x)])));rw [XG,hmk,Ua,wt,Qbs,yaV,Wy hr];refine⟨λt ht=>?_,λt ht=>?_,?_,rfl,rfl,hcl0,hK⟩
  .rw [List.mem_singleton.1 ht];exact⟨by simp [i64r],by simp [i64r],hwx⟩
  .rw [List.mem_singleton.1 ht];simp only;omega
  .simp only [List.map_cons,List.map_nil,mv,sz];omega
end Go.Abs
end
section
namespace Go.Num
open Go.Abs
def cps3(c:Cp):List R:=[c.2.2.1,c.2.2.2.1,c.2.2.2.2.1]
def cps5(c:Cp):List R:=[c.2.2.1,c.2.2.2.1,c.2.2.2.2.1,c.2.2.2.2.2.1,c.2.2.2.2.2.2]
def gt0R(x:R):Bool:=decide (0<rv x)
def cchk(c:Cp):Nat:=if avld c.1=false∨avld c.2.1=false then 2 else if (cps5 c).all vldR=false then 2 else if (cps3 c).all gt0R=false then 3 else if av c.1=av c.2.1 then 8 else 0
def cpv(c:Cp):CpR:=(av c.1,av c.2.1,rv c.2.2.1,rv c.2.2.2.1,rv c.2.2.2.2.1,rv c.2.2.2.2.2.1,rv c.2.2.2.2.2.2)
def cchk2(c:Cp)(l:List Arc):Nat:=if cchk c≠0 then cchk c else if l.all avld=false then 2 else 0
theorem kaP{c:Cp}(hw:WLC c)(hl:cl c<=4000):CB (cpv c):=by
 obtain⟨wo,wq,w1,w2,w3,w4,w5⟩:=hw;unfold cl at hl;simp only [Nat.max_le]at hl;obtain⟨l1,l2,l3,l4,l5,l6,l7⟩:=hl;have o:=Vq wo;have q:=Vq wq;have o1:rz (av c.1).1<=zq (av c.1):=Nat.le_max_left _ _;have o2:rz (av c.1).2<=zq (av c.1):=Nat.le_max_right _ _;have q1:rz (av c.2.1).1<=zq (av c.2.1):=Nat.le_max_left _ _;have q2:rz (av c.2.1).2<=zq (av c.2.1):=Nat.le_max_right _ _;exact⟨by show rz (av c.1).1<=4000;omega,by show rz (av c.1).2<=4000;omega,by show rz (av c.2.1).1<=4000;omega,by show rz (av c.2.1).2<=4000;omega,
  Nat.le_trans (Wd w1) l3,Nat.le_trans (Wd w2) l4,Nat.le_trans (Wd w3) l5,Nat.le_trans (Wd w4) l6,Nat.le_trans (Wd w5) l7⟩
theorem Uam(x:Rat):(ordQ x 0<=0)=(¬0<x):=by
 unfold ordQ;refine propext ⟨λh h1=>?_,λh=>?_⟩
 .rw [if_neg (by grind),if_pos h1]at h
  exact absurd h (by decide)
 .by_cases h1:x<0
  .rw [if_pos h1];decide
  .rw [if_neg h1,if_neg h];decide
end Go.Num
namespace Go.Abs
open Go.Num
variable {P:Program} {Γ:Nat->Spec}
theorem clean27(c:Cp):CleanR [cpC c]:=λe he x hx=>by
 rw [List.mem_singleton]at he;subst he;simp only [cpC,List.mem_cons,List.not_mem_nil,or_false]at hx;rcases hx with rfl | rfl | rfl | rfl | rfl | rfl | rfl | rfl | rfl | rfl | rfl | rfl | rfl | rfl | rfl | rfl | rfl | rfl | rfl | rfl | rfl | rfl | rfl | rfl | rfl | rfl | rfl
 all_goals first | exact of_eq_true (Uh _) | exact of_eq_true (ji _) | exact of_eq_true (vi _)
theorem kap{h h' : Nat->HB}{z:Nat}{b:Bool}{e:List C}{c:Cp}(he:e=cpC c):okB h h' (some ⟨[e],z,b⟩) (some ⟨[cpC c],z,b⟩):=by
 subst he;exact xbF (clean27 c)
def JB(l:List AV)(K:AV->Prop):Prop:=
 match l with
 | [a,b]=>onR (λx=>onR (λy=>rl x<=100000000/\rl y<=100000000/\K (rQ (sqQ (rv x,rv y)))) b) a
 | _=>False
theorem qaS(a b:AV)(K:AV->Prop):JB [a,b] K=(onR (λx=>onR (λy=>rl x<=100000000/\rl y<=100000000/\K (rQ (sqQ (rv x,rv y)))) b) a):=propext Iff.rfl
@[congr] theorem ZbL {K:AV->Prop} {l l' : List AV} (h:l=l'):JB l K=JB l' K:=by subst h;rfl
attribute [go_sem,go_sem ↓] qaS
theorem UaY:Good JB:=Va λas=>by
 unfold JB;split
 .exact(Ji λ_=>(Ji λ_=>(.and λ_=>(.and λ_=>(.ret _)))))
 .exact .of λK hk=>hk.elim
def vV(l:List AV)(K:AV->Prop):Prop:=
 match l with
 | [a,b,c]=>onA (λp=>onR (λu=>onR (λv=>al p<=100000000/\rl u<=100000000/\rl v<=100000000/\K (pQ (timQ (av p) (rv u) (rv v)))) c) b) a
 | _=>False
theorem Qbd(a b c:AV)(K:AV->Prop):vV [a,b,c] K=(onA (λp=>onR (λu=>onR (λv=>al p<=100000000/\rl u<=100000000/\rl v<=100000000/\K (pQ (timQ (av p) (rv u) (rv v)))) c) b) a):=propext Iff.rfl
@[congr] theorem kbO {K:AV->Prop} {l l' : List AV} (h:l=l'):vV l K=vV l' K:=by subst h;rfl
attribute [go_sem,go_sem ↓] Qbd
theorem ja1:Good vV:=Va λas=>by
 unfold vV;split
 .exact(Jl λ_=>(Ji λ_=>(Ji λ_=>(.and λ_=>(.and λ_=>(.and λ_=>(.ret _)))))))
 .exact .of λK hk=>hk.elim
def zD(l:List AV)(K:AV->Prop):Prop:=
 match l with
 | [a,b]=>onA (λp=>onA (λq=>al p<=10000000/\al q<=10000000/\K (rQ (sqQ (subQ (av p) (av q))))) b) a
 | _=>False
theorem JaY(a b:AV)(K:AV->Prop):zD [a,b] K=(onA (λp=>onA (λq=>al p<=10000000/\al q<=10000000/\K (rQ (sqQ (subQ (av p) (av q))))) b) a):=propext Iff.rfl
@[congr] theorem jbL {K:AV->Prop} {l l' : List AV} (h:l=l'):zD l K=zD l' K:=by subst h;rfl
attribute [go_sem,go_sem ↓] JaY
theorem xaZ:Good zD:=Va λas=>by
 unfold zD;split
 .exact(Jl λ_=>(Jl λ_=>(.and λ_=>(.and λ_=>(.ret _)))))
 .exact .of λK hk=>hk.elim
def uA(tE:Nat)(l:List AV)(K:AV->Prop):Prop:=
 match l with
 | [a]=>onCp (λc=>cl c<=100000000/\K (errV tE (cchk c))) a
 | _=>False
theorem yaX(tE:Nat)(a:AV)(K:AV->Prop):uA tE [a] K=(onCp (λc=>cl c<=100000000/\K (errV tE (cchk c))) a):=propext Iff.rfl
@[congr] theorem ybL (tE:Nat) {K:AV->Prop} {l l' : List AV} (h:l=l'):uA tE l K=uA tE l' K:=by subst h;rfl
attribute [go_sem,go_sem ↓] yaX
theorem vaO(tE:Nat):Good (uA tE):=Va λas=>by
 unfold uA;split
 .exact(QE λ_=>(.and λ_=>(.ret _)))
 .exact .of λK hk=>hk.elim
def qs(tE:Nat)(l:List AV)(K:AV->Prop):Prop:=
 match l with
 | [a,b]=>onCp (λc=>onAs (λl=>cl c<=100000000/\okAs 100000000 l/\K (errV tE (cchk2 c l))) b) a
 | _=>False
theorem qak(tE:Nat)(a b:AV)(K:AV->Prop):qs tE [a,b] K=(onCp (λc=>onAs (λl=>cl c<=100000000/\okAs 100000000 l/\K (errV tE (cchk2 c l))) b) a):=propext Iff.rfl
@[congr] theorem WbB (tE:Nat) {K:AV->Prop} {l l' : List AV} (h:l=l'):qs tE l K=qs tE l' K:=by subst h;rfl
attribute [go_sem,go_sem ↓] qak
theorem qaC(tE:Nat):Good (qs tE):=Va λas=>by
 unfold qs;split
 .exact(QE λ_=>(Qak λ_=>(.and λ_=>(.and λ_=>(.ret _)))))
 .exact .of λK hk=>hk.elim
def uf(f0:Nat):AC:=(.seq (.ops false [.u 1 (.box 6 (.t 0)),.m 2 .fa])
 (.fg [1] (.seq (.ops false [.u 3 (.fa 0 (.t 1)),.u 4 (.ld none 3 true (.t 3)),.u 5 (.call f0 [(.t 4)]),.m 6 (.t 5),.w 7 6 true (.fa 3 (.t 1)),.w 8 6 true (.ld none 3 true (.t 7)),.w 9 6 true (.call f0 [(.t 8)]),.u 10 (.pick (.t 6) (.t 9) .fa),.m 2 (.t 10)])
 .ret)))
def ku(f0:Nat):AC:=(.seq (.ops false [.u 2 (.box 6 (.t 0)),.u 3 (.box 6 (.t 1)),.u 4 (.alloc [(.lit (.bool false)),.emp,.emp,(.lit (.bool false)),.emp,.emp])])
 (.fg [2,3,4] (.seq (.ops true [.u 5 (.fa 0 (.t 2)),.u 6 (.ld none 3 true (.t 5)),.u 7 (.fa 0 (.t 3)),.u 8 (.ld none 3 true (.t 7)),.u 9 (.call f0 [(.t 6),(.t 8)]),.u 10 (.fa 3 (.t 2)),.u 11 (.ld none 3 true (.t 10)),.u 12 (.fa 3 (.t 3)),.u 13 (.ld none 3 true (.t 12)),.u 14 (.call f0 [(.t 11),(.t 13)]),.u 15 (.build [.x 3 (.t 9),.x 3 (.t 14)]),.n (.st none 6 (.t 4) (.t 15))])
 .ret)))
def Vu(f0:Nat):AC:=(.seq (.ops false [.u 2 (.box 6 (.t 0)),.u 3 (.box 6 (.t 1)),.u 4 (.alloc [(.lit (.bool false)),.emp,.emp,(.lit (.bool false)),.emp,.emp])])
 (.fg [2,3,4] (.seq (.ops true [.u 5 (.fa 0 (.t 2)),.u 6 (.ld none 3 true (.t 5)),.u 7 (.fa 0 (.t 3)),.u 8 (.ld none 3 true (.t 7)),.u 9 (.call f0 [(.t 6),(.t 8)]),.u 10 (.fa 3 (.t 2)),.u 11 (.ld none 3 true (.t 10)),.u 12 (.fa 3 (.t 3)),.u 13 (.ld none 3 true (.t 12)),.u 14 (.call f0 [(.t 11),(.t 13)]),.u 15 (.build [.x 3 (.t 9),.x 3 (.t 14)]),.n (.st none 6 (.t 4) (.t 15))])
 .ret)))
def Wo(f0 f1 f2:Nat):AC:=(.seq (.ops false [.u 3 (.box 6 (.t 0)),.u 4 (.box 3 (.t 1)),.u 5 (.box 3 (.t 2)),.u 6 (.alloc [(.lit (.bool false)),.emp,.emp,(.lit (.bool false)),.emp,.emp])])
 (.fg [3,4,5,6] (.seq (.ops true [.u 7 (.fa 0 (.t 3)),.u 8 (.ld none 3 true (.t 7)),.u 9 (.ld none 3 true (.t 4)),.u 10 (.call f0 [(.t 8),(.t 9)]),.u 11 (.fa 3 (.t 3)),.u 12 (.ld none 3 true (.t 11)),.u 13 (.ld none 3 true (.t 5)),.u 14 (.call f0 [(.t 12),(.t 13)]),.u 15 (.call f1 [(.t 10),(.t 14)]),.u 16 (.fa 3 (.t 3)),.u 17 (.ld none 3 true (.t 16)),.u 18 (.ld none 3 true (.t 4)),.u 19 (.call f0 [(.t 17),(.t 18)]),.u 20 (.fa 0 (.t 3)),.u 21 (.ld none 3 true (.t 20)),.u 22 (.ld none 3 true (.t 5)),.u 23 (.call f0 [(.t 21),(.t 22)]),.u 24 (.call f2 [(.t 19),(.t 23)]),.u 25 (.build [.x 3 (.t 15),.x 3 (.t 24)]),.n (.st none 6 (.t 6) (.t 25))])
 .ret)))
def Xm(f0 f1:Nat):AC:=(.seq (.ops false [.u 2 (.box 3 (.t 0)),.u 3 (.box 3 (.t 1)),.u 4 (.alloc [(.lit (.bool false)),.emp,.emp])])
 (.fg [2,3,4] (.seq (.ops true [.u 5 (.ld none 3 true (.t 2)),.u 6 (.ld none 3 true (.t 2)),.u 7 (.call f0 [(.t 5),(.t 6)]),.u 8 (.ld none 3 true (.t 3)),.u 9 (.ld none 3 true (.t 3)),.u 10 (.call f0 [(.t 8),(.t 9)]),.u 11 (.call f1 [(.t 7),(.t 10)]),.n (.st none 3 (.t 4) (.t 11))])
 .ret)))
def Vk(f0 f1:Nat):AC:=(.seq (.ops false [.u 2 (.box 6 (.t 0)),.u 3 (.box 6 (.t 1)),.u 4 (.alloc [(.lit (.bool false)),.emp,.emp])])
 (.fg [2,3,4] (.seq (.ops false [.u 6 (.ld none 6 true (.t 2)),.u 7 (.ld none 6 true (.t 3)),.u 8 (.call f0 [(.t 6),(.t 7)]),.u 5 (.alloc [(.lit (.bool false)),.emp,.emp,(.lit (.bool false)),.emp,.emp]),.n (.st none 6 (.t 5) (.t 8))])
 (.fg [4,5] (.seq (.ops false [.u 9 (.fa 0 (.t 5)),.u 10 (.ld none 3 true (.t 9)),.u 11 (.fa 3 (.t 5)),.u 12 (.ld none 3 true (.t 11)),.u 13 (.call f1 [(.t 10),(.t 12)]),.n (.st none 3 (.t 4) (.t 13))])
 .ret)))))
def zg(f0 f1 f2 f3 tE:Nat):AC:=(.seq (.ops false [.u 1 (.box 27 (.t 0)),.m 2 (.c (.one (.lit .nilIface)))])
 (.fg [1] (.seq (.seq (.ops false [.u 7 (.fa 0 (.t 1)),.u 8 (.ld none 6 true (.t 7)),.u 9 (.call f0 [(.t 8)]),.u 10 (.un .not (.t 9)),.m 11 (.t 10),.w 12 11 false (.fa 6 (.t 1)),.w 13 11 false (.ld none 6 true (.t 12)),.w 14 11 false (.call f0 [(.t 13)]),.w 15 11 false (.un .not (.t 14)),.u 16 (.pick (.t 11) .tr (.t 15))])
 (.fg [1,16] (.cond (.t 16) (.seq (.ops false [.u 17 (.iface tE (.i 2)),.m 2 (.t 17)])
 .ret) .skip)))
 (.fg [1] (.seq (.seq (.ops false [.u 18 (.fa 12 (.t 1)),.u 19 (.ld none 3 true (.t 18)),.u 20 (.fa 15 (.t 1)),.u 21 (.ld none 3 true (.t 20)),.u 22 (.fa 18 (.t 1)),.u 23 (.ld none 3 true (.t 22)),.u 24 (.fa 21 (.t 1)),.u 25 (.ld none 3 true (.t 24)),.u 26 (.fa 24 (.t 1)),.u 27 (.ld none 3 true (.t 26)),.u 28 (.row 3 [[.x 3 (.t 19)],[.x 3 (.t 21)],[.x 3 (.t 23)],[.x 3 (.t 25)],[.x 3 (.t 27)]]),.u 29 (.len (.t 28)),.m 30 (.i 0)])
 (.fg [1,28,29,30] (.block 0 (.loop (.seq (.ops false [.u 31 (.bin .lss (.t 30) (.t 29))])
 (.fg [1,28,29,30,31] (.seq (.cond (.t 31) .skip (.exit 0))
 (.fg [1,28,29,30] (.seq (.block 1 (.seq (.ops false [.u 32 (.idx 3 (.t 28) (.t 30)),.u 33 (.ld none 3 true (.t 32)),.u 4 (.alloc [(.lit (.bool false)),.emp,.emp]),.n (.st none 3 (.t 4) (.t 33))])
 (.fg [1,4,28,29,30] (.seq (.ops false [.u 34 (.ld none 3 true (.t 4)),.u 35 (.call f1 [(.t 34)]),.u 36 (.un .not (.t 35))])
 (.fg [1,28,29,30,36] (.cond (.t 36) (.seq (.ops false [.u 37 (.iface tE (.i 2)),.m 2 (.t 37)])
 .ret) .skip))))))
 (.fg [1,28,29,30] (.ops false [.u 38 (.bin .add (.t 30) (.i 1)),.m 30 (.t 38)])))))))))))
 (.fg [1] (.seq (.seq (.ops false [.u 39 (.fa 12 (.t 1)),.u 40 (.ld none 3 true (.t 39)),.u 41 (.fa 15 (.t 1)),.u 42 (.ld none 3 true (.t 41)),.u 43 (.fa 18 (.t 1)),.u 44 (.ld none 3 true (.t 43)),.u 45 (.row 3 [[.x 3 (.t 40)],[.x 3 (.t 42)],[.x 3 (.t 44)]]),.u 46 (.len (.t 45)),.m 47 (.i 0)])
 (.fg [1,45,46,47] (.block 2 (.loop (.seq (.ops false [.u 48 (.bin .lss (.t 47) (.t 46))])
 (.fg [1,45,46,47,48] (.seq (.cond (.t 48) .skip (.exit 2))
 (.fg [1,45,46,47] (.seq (.block 3 (.seq (.ops false [.u 49 (.idx 3 (.t 45) (.t 47)),.u 50 (.ld none 3 true (.t 49)),.u 6 (.alloc [(.lit (.bool false)),.emp,.emp]),.n (.st none 3 (.t 6) (.t 50))])
 (.fg [1,6,45,46,47] (.seq (.ops false [.u 51 (.ld none 3 true (.t 6)),.u 52 (.call f2 [(.t 51)]),.u 53 (.bin .leq (.t 52) (.i 0))])
 (.fg [1,45,46,47,53] (.cond (.t 53) (.seq (.ops false [.u 54 (.iface tE (.i 3)),.m 2 (.t 54)])
 .ret) .skip))))))
 (.fg [1,45,46,47] (.ops false [.u 55 (.bin .add (.t 47) (.i 1)),.m 47 (.t 55)])))))))))))
 (.fg [1] (.seq (.seq (.ops false [.u 56 (.fa 0 (.t 1)),.u 57 (.fa 0 (.t 56)),.u 58 (.ld none 3 true (.t 57)),.u 59 (.fa 6 (.t 1)),.u 60 (.fa 0 (.t 59)),.u 61 (.ld none 3 true (.t 60)),.u 62 (.call f3 [(.t 58),(.t 61)]),.u 63 (.bin .eql (.t 62) (.i 0)),.m 64 (.t 63),.w 65 64 true (.fa 0 (.t 1)),.w 66 64 true (.fa 3 (.t 65)),.w 67 64 true (.ld none 3 true (.t 66)),.w 68 64 true (.fa 6 (.t 1)),.w 69 64 true (.fa 3 (.t 68)),.w 70 64 true (.ld none 3 true (.t 69)),.w 71 64 true (.call f3 [(.t 67),(.t 70)]),.w 72 64 true (.bin .eql (.t 71) (.i 0)),.u 73 (.pick (.t 64) (.t 72) .fa)])
 (.fg [73] (.cond (.t 73) (.seq (.ops false [.u 74 (.iface tE (.i 8)),.m 2 (.t 74)])
 .ret) .skip)))
 (.fg [] (.seq (.ops false [.m 2 (.c (.one (.lit .nilIface)))])
 .ret)))))))))))
def uj(f0 f1 tE:Nat):AC:=(.seq (.ops false [.u 2 (.box 27 (.t 0)),.m 4 (.c (.one (.lit .nilIface)))])
 (.fg [1,2] (.seq (.seq (.ops false [.u 8 (.ld none 27 true (.t 2)),.u 9 (.call f0 [(.t 8)]),.m 5 (.t 9)])
 (.fg [1,5] (.seq (.ops false [.m 10 (.t 5),.u 11 (.binn .neq (.t 10) (.c (.one (.lit .nilIface))))])
 (.fg [1,5,11] (.cond (.t 11) (.seq (.ops false [.m 12 (.t 5),.m 4 (.t 12)])
 .ret) .skip)))))
 (.fg [1] (.seq (.seq (.ops false [.m 13 (.t 1),.u 14 (.len (.t 13)),.m 15 (.i 0)])
 (.fg [13,14,15] (.block 0 (.loop (.seq (.ops false [.u 16 (.bin .lss (.t 15) (.t 14))])
 (.fg [13,14,15,16] (.seq (.cond (.t 16) .skip (.exit 0))
 (.fg [13,14,15] (.seq (.block 1 (.seq (.ops false [.u 17 (.idx 6 (.t 13) (.t 15)),.u 18 (.ld none 6 true (.t 17)),.u 7 (.alloc [(.lit (.bool false)),.emp,.emp,(.lit (.bool false)),.emp,.emp]),.n (.st none 6 (.t 7) (.t 18))])
 (.fg [7,13,14,15] (.seq (.ops false [.u 19 (.ld none 6 true (.t 7)),.u 20 (.call f1 [(.t 19)]),.u 21 (.un .not (.t 20))])
 (.fg [13,14,15,21] (.cond (.t 21) (.seq (.ops false [.u 22 (.iface tE (.i 2)),.m 4 (.t 22)])
 .ret) .skip))))))
 (.fg [13,14,15] (.ops false [.u 23 (.bin .add (.t 15) (.i 1)),.m 15 (.t 23)])))))))))))
 (.fg [] (.seq (.ops false [.m 4 (.c (.one (.lit .nilIface)))])
 .ret)))))))
theorem wG(hΓ:Holds P Γ){f fv:Nat}(hv:Γ fv=.dat true xe)(hc:check P f=some (11,(uf fv).strip,[.tmp 2])):Sound P f (.dat true yd):=by
 refine va hc UJ hΓ (λargs K hcl hfi hG=>?_);match args,hG with
 | [a],hG=>
  obtain⟨⟨x,y⟩,rfl,⟨wx,wy⟩,hl,hK⟩:=hG;refine⟨by simp,?_⟩
  have hl':=Nat.max_le.1 hl;simp only at wx wy hl';unfold avld at hK;simp only at hK;cases hx:vldR x with
  | true=>
   rw [hx,Bool.true_and]at hK;simp only [go_sem,uf,hv,Zd,hx];repeat (first | (refine And.intro (by omega) ?_) | (refine And.intro (by assumption) ?_) | (refine And.intro rfl ?_) | (refine And.intro ⟨rfl,by omega⟩ ?_) | (refine And.intro ⟨rfl,by omega,by omega⟩ ?_) | (intro _))
   exact hK
  | false=>
   rw [hx,Bool.false_and]at hK;simp only [go_sem,uf,hv,Zd,hx];repeat (first | (refine And.intro (by omega) ?_) | (refine And.intro (by assumption) ?_) | (refine And.intro rfl ?_) | (refine And.intro ⟨rfl,by omega⟩ ?_) | (refine And.intro ⟨rfl,by omega,by omega⟩ ?_) | (intro _))
   exact hK
theorem zac(hΓ:Holds P Γ){f fs:Nat}(hs:Γ fs=.dat false qo)(hc:check P f=some (16,(ku fs).strip,[.cell 4 6 true])):Sound P f (.dat false Wg):=by
 refine va hc QQ hΓ (λargs K hcl hfi hG=>?_);match args,hG with
 | [a,b],hG=>
  obtain⟨⟨x,y⟩,rfl,⟨wx,wy⟩,⟨u,v⟩,rfl,⟨wu,wv⟩,hl,hl2,hK⟩:=hG;refine⟨by simp,?_⟩
  have hl':=Nat.max_le.1 hl;have hl2':=Nat.max_le.1 hl2;simp only at wx wy wu wv hl' hl2';simp only [go_sem,ku,hs,Zd];repeat (first | (refine And.intro (by omega) ?_) | (refine And.intro (by assumption) ?_) | (refine And.intro rfl ?_) | (refine And.intro ⟨rfl,by omega⟩ ?_) | (refine And.intro ⟨rfl,by omega,by omega⟩ ?_) | (intro _))
  exact hK
theorem uag(hΓ:Holds P Γ){f fs:Nat}(hs:Γ fs=.dat false Wk)(hc:check P f=some (16,(Vu fs).strip,[.cell 4 6 true])):Sound P f (.dat false Qn):=by
 refine va hc uN hΓ (λargs K hcl hfi hG=>?_);match args,hG with
 | [a,b],hG=>
  obtain⟨⟨x,y⟩,rfl,⟨wx,wy⟩,⟨u,v⟩,rfl,⟨wu,wv⟩,hl,hl2,hK⟩:=hG;refine⟨by simp,?_⟩
  have hl':=Nat.max_le.1 hl;have hl2':=Nat.max_le.1 hl2;simp only at wx wy wu wv hl' hl2';simp only [go_sem,Vu,hs,Zd];repeat (first | (refine And.intro (by omega) ?_) | (refine And.intro (by assumption) ?_) | (refine And.intro rfl ?_) | (refine And.intro ⟨rfl,by omega⟩ ?_) | (refine And.intro ⟨rfl,by omega,by omega⟩ ?_) | (intro _))
  exact hK
theorem QaI(hΓ:Holds P Γ){f fm fs fa:Nat}(hm:Γ fm=.dat false yi)(hs:Γ fs=.dat false qo)(ha:Γ fa=.dat false Wk)(hc:check P f=some (26,(Wo fm fs fa).strip,[.cell 6 6 true])):Sound P f (.dat false vV):=by
 refine va hc ja1 hΓ (λargs K hcl hfi hG=>?_);match args,hG with
 | [a,b,c],hG=>
  obtain⟨⟨x,y⟩,rfl,⟨wx,wy⟩,u,rfl,wu,v,rfl,wv,hl,hu,hv,hK⟩:=hG;refine⟨by simp,?_⟩
  have hl':=Nat.max_le.1 hl;simp only at wx wy hl';have z1:=Wd wx;have z2:=Wd wy;have z3:=Wd wu;have z4:=Wd wv;have m1:=Zb (rv x) (rv u);have m2:=Zb (rv y) (rv v);have m3:=Zb (rv y) (rv u);have m4:=Zb (rv x) (rv v);simp only [go_sem,Wo,hm,hs,ha,Zd,rA,Wb];repeat (first | (refine And.intro (by omega) ?_) | (refine And.intro (by assumption) ?_) | (refine And.intro rfl ?_) | (refine And.intro ⟨rfl,by omega⟩ ?_) | (refine And.intro ⟨rfl,by omega,by omega⟩ ?_) | (intro _))
  exact hK
theorem jaA(hΓ:Holds P Γ){f fm fa:Nat}(hm:Γ fm=.dat false yi)(ha:Γ fa=.dat false Wk)(hc:check P f=some (12,(Xm fm fa).strip,[.cell 4 3 true])):Sound P f (.dat false JB):=by
 refine va hc UaY hΓ (λargs K hcl hfi hG=>?_);match args,hG with
 | [a,b],hG=>
  obtain⟨x,rfl,wx,y,rfl,wy,hx,hy,hK⟩:=hG;refine⟨by simp,?_⟩
  have z1:=Wd wx;have z2:=Wd wy;have m1:=Zb (rv x) (rv x);have m2:=Zb (rv y) (rv y);simp only [go_sem,Xm,hm,ha,rA,Wb];repeat (first | (refine And.intro (by omega) ?_) | (refine And.intro (by assumption) ?_) | (refine And.intro rfl ?_) | (refine And.intro ⟨rfl,by omega⟩ ?_) | (refine And.intro ⟨rfl,by omega,by omega⟩ ?_) | (intro _))
  exact hK
theorem UaC(hΓ:Holds P Γ){f fs fq:Nat}(hs:Γ fs=.dat false Wg)(hq' : Γ fq=.dat false JB)(hc:check P f=some (14,(Vk fs fq).strip,[.cell 4 3 true])):Sound P f (.dat false zD):=by
 refine va hc xaZ hΓ (λargs K hcl hfi hG=>?_);match args,hG with
 | [a,b],hG=>
  obtain⟨p,rfl,wp,q,rfl,wq,hl,hl2,hK⟩:=hG;refine⟨by simp,?_⟩
  have z1:=Qs (av p) (av q);have z2:=Vq wp;have z3:=Vq wq;have z4:rz (subQ (av p) (av q)).1<=zq (subQ (av p) (av q)):=Nat.le_max_left _ _;have z5:rz (subQ (av p) (av q)).2<=zq (subQ (av p) (av q)):=Nat.le_max_right _ _;simp only [go_sem,Vk,hs,hq',Zd,vb,Wb];repeat (first | (refine And.intro (by omega) ?_) | (refine And.intro (by assumption) ?_) | (refine And.intro rfl ?_) | (refine And.intro ⟨rfl,by omega⟩ ?_) | (refine And.intro ⟨rfl,by omega,by omega⟩ ?_) | (intro _))
  exact hK
theorem vaC(hΓ:Holds P Γ){f fv fr fg fq tE:Nat}(hv:Γ fv=.dat true yd)(hr:Γ fr=.dat true xe)(hg:Γ fg=.dat true Zm)(hq' : Γ fq=.dat true Zk)(hc:check P f=some (75,(zg fv fr fg fq tE).strip,[.tmp 2])):Sound P f (.dat false (uA tE)):=by
 refine va hc (vaO tE) hΓ (λargs K hcl hfi hG=>?_);match args,hG with
 | [a],hG=>
  obtain⟨c,rfl,hw,hl,hK⟩:=hG;refine⟨by simp,?_⟩
  obtain⟨wo,wq,w1,w2,w3,w4,w5⟩:=id hw;have hl0:=hl;unfold cl at hl0;simp only [Nat.max_le]at hl0;obtain⟨l1,l2,l3,l4,l5,l6,l7⟩:=hl0;have wo1:=wo.1;have wo2:=wo.2;have wq1:=wq.1;have wq2:=wq.2;have lo1:=(Nat.max_le.1 l1).1;have lo2:=(Nat.max_le.1 l1).2;have lq1:=(Nat.max_le.1 l2).1;have lq2:=(Nat.max_le.1 l2).2;have h5:∀x∈cps5 c,WLR x/\rl x<=100000000:=λx hx=>by
   simp only [cps5,List.mem_cons,List.not_mem_nil,or_false]at hx;rcases hx with rfl | rfl | rfl | rfl | rfl
   .exact⟨w1,l3⟩
   .exact⟨w2,l4⟩
   .exact⟨w3,l5⟩
   .exact⟨w4,l6⟩
   .exact⟨w5,l7⟩
  have h3:∀x∈cps3 c,WLR x/\rl x<=100000000:=λx hx=>h5 x (by
   simp only [cps3,cps5,List.mem_cons,List.not_mem_nil,or_false]at hx ⊢;rcases hx with rfl | rfl | rfl <;> simp)
  have n5:(cps5 c).length=5:=rfl;have n3:(cps3 c).length=3:=rfl;have e2:=wb tE (by decide:2≠0)
  cases ha:avld c.1 with
  | false=>
   have e:cchk c=2:=if_pos (.inl ha);rw [e,e2]at hK;simp only [go_sem,zg,hv,cpA,cpC,vb,ha];repeat (first | (refine And.intro (by omega) ?_) | (refine And.intro (by assumption) ?_) | (refine And.intro rfl ?_) | (refine And.intro ⟨rfl,by omega⟩ ?_) | (refine And.intro ⟨rfl,by omega,by omega⟩ ?_) | (intro _))
   exact hK
  | true=>
  cases hb:avld c.2.1 with
  | false=>
   have e:cchk c=2:=if_pos (.inr hb);rw [e,e2]at hK;simp only [go_sem,zg,hv,cpA,cpC,vb,ha,hb];repeat (first | (refine And.intro (by omega) ?_) | (refine And.intro (by assumption) ?_) | (refine And.intro rfl ?_) | (refine And.intro ⟨rfl,by omega⟩ ?_) | (refine And.intro ⟨rfl,by omega,by omega⟩ ?_) | (intro _))
   exact hK
  | true=>
   have hab:¬(avld c.1=false∨avld c.2.1=false):=by simp [ha,hb]
   have hch:cchk c=if (cps5 c).all vldR=false then 2 else if (cps3 c).all gt0R=false then 3 else if av c.1=av c.2.1 then 8 else 0:=if_neg hab
   rw [hch]at hK;simp only [go_sem,zg,hv,cpA,cpC,vb,ha,hb];repeat (first | (refine And.intro (by omega) ?_) | (refine And.intro (by assumption) ?_) | (refine And.intro rfl ?_) | (refine And.intro ⟨rfl,by omega⟩ ?_) | (refine And.intro ⟨rfl,by omega,by omega⟩ ?_) | (intro _))
   refine wa (λk:Nat=>⟨mkV [(1,.one (.ptr 1 1 0 0)),(28,.one (.full ((cps5 c).map rC))),(29,.one (.lit (.int .i64 5))),(30,.one (.lit (.int .i64 k)))],mkH [(1,⟨1,some ⟨[cpC c],27,true⟩⟩)]⟩) (λk=>k<=5/\((cps5 c).take k).all vldR=true) (λk=>5-k) 0 ?_ ?_ ?_
   .exact Qa (by simp [okS,okV,okC,okL,okH,okB,okE,Za,ja,za,Ja,wsA,ws,rC,cps5]) ⟨kap rfl,trivial⟩
   .exact⟨Nat.zero_le _,rfl⟩
   .rintro k ⟨hk,hall⟩;by_cases hlt:k<5
    .obtain⟨x,hx⟩:∃x,(cps5 c).getD k (rcan 0)=x:=⟨_,rfl⟩;have hx0:(cps5 c)[k]?=some x:=by
      rw [<-hx,List.getD_eq_getElem?_getD,List.getElem?_eq_getElem (by omega)];rfl
     obtain⟨g1,g2⟩:=h5 x (List.mem_of_getElem? hx0);have hlt' : ((k:Nat):Int)<5:=by omega
     cases hz:vldR x with
     | true=>
      simp only [go_sem,hlt',hlt,hr,qG,n5,hx,rC,hz];repeat (first | (refine And.intro (by omega) ?_) | (refine And.intro (by assumption) ?_) | (refine And.intro rfl ?_) | (refine And.intro ⟨rfl,by omega⟩ ?_) | (refine And.intro ⟨rfl,by omega,by omega⟩ ?_) | (intro _))
      exact⟨k+1,Qa (by simp [okS,okV,okC,okL,okH,okB,okE,Za,ja,za,Ja,wsA,ws,rC,cps5]) ⟨kap rfl,trivial⟩,⟨by omega,allS hx0 hall hz⟩,by omega⟩
     | false=>
      have hf:(cps5 c).all vldR=false:=by
       rw [List.all_eq_false];exact⟨x,List.mem_of_getElem? hx0,by simp [hz]⟩
      rw [if_pos hf,e2]at hK;simp only [go_sem,hlt',hlt,hr,qG,n5,hx,rC,hz];repeat (first | (refine And.intro (by omega) ?_) | (refine And.intro (by assumption) ?_) | (refine And.intro rfl ?_) | (refine And.intro ⟨rfl,by omega⟩ ?_) | (refine And.intro ⟨rfl,by omega,by omega⟩ ?_) | (intro _))
      exact hK
    .have hv5:(cps5 c).all vldR=true:=by rw [List.take_of_length_le (by omega)]at hall;exact hall
     rw [if_neg (by simp [hv5])]at hK
     have hlt' : ¬((k:Nat):Int)<5:=by omega
     simp only [go_sem,hlt',cpC];repeat (first | (refine And.intro (by omega) ?_) | (refine And.intro (by assumption) ?_) | (refine And.intro rfl ?_) | (refine And.intro ⟨rfl,by omega⟩ ?_) | (refine And.intro ⟨rfl,by omega,by omega⟩ ?_) | (intro _))
     refine wa (λk:Nat=>⟨mkV [(1,.one (.ptr 1 1 0 0)),(45,.one (.full ((cps3 c).map rC))),(46,.one (.lit (.int .i64 3))),(47,.one (.lit (.int .i64 k)))],mkH [(1,⟨1,some ⟨[cpC c],27,true⟩⟩)]⟩) (λk=>k<=3/\((cps3 c).take k).all gt0R=true) (λk=>3-k) 0 ?_ ?_ ?_
     .exact Qa (by simp [okS,okV,okC,okL,okH,okB,okE,Za,ja,za,Ja,wsA,ws,rC,cps3]) ⟨kap rfl,trivial⟩
     .exact⟨Nat.zero_le _,rfl⟩
     .rintro k ⟨hk,hall⟩;by_cases hlt:k<3
      .obtain⟨x,hx⟩:∃x,(cps3 c).getD k (rcan 0)=x:=⟨_,rfl⟩;have hx0:(cps3 c)[k]?=some x:=by
        rw [<-hx,List.getD_eq_getElem?_getD,List.getElem?_eq_getElem (by omega)];rfl
       obtain⟨g1,g2⟩:=h3 x (List.mem_of_getElem? hx0);have hlt' : ((k:Nat):Int)<3:=by omega
       cases hz:gt0R x with
       | true=>
        have hp:(ordQ (rv x) 0<=0)=False:=by rw [Uam];simpa [gt0R] using hz
        simp only [go_sem,hlt',hlt,hg,qG,n3,hx,rC,hp];repeat (first | (refine And.intro (by omega) ?_) | (refine And.intro (by assumption) ?_) | (refine And.intro rfl ?_) | (refine And.intro ⟨rfl,by omega⟩ ?_) | (refine And.intro ⟨rfl,by omega,by omega⟩ ?_) | (intro _))
        exact⟨k+1,Qa (by simp [okS,okV,okC,okL,okH,okB,okE,Za,ja,za,Ja,wsA,ws,rC,cps3]) ⟨kap rfl,trivial⟩,⟨by omega,allS hx0 hall hz⟩,by omega⟩
       | false=>
        have hp:(ordQ (rv x) 0<=0)=True:=by rw [Uam];simpa [gt0R] using hz
        have hf:(cps3 c).all gt0R=false:=by
         rw [List.all_eq_false];exact⟨x,List.mem_of_getElem? hx0,by simp [hz]⟩
        rw [if_pos hf,wb tE (by decide)]at hK
        simp only [go_sem,hlt',hlt,hg,qG,n3,hx,rC,hp];repeat (first | (refine And.intro (by omega) ?_) | (refine And.intro (by assumption) ?_) | (refine And.intro rfl ?_) | (refine And.intro ⟨rfl,by omega⟩ ?_) | (refine And.intro ⟨rfl,by omega,by omega⟩ ?_) | (intro _))
        exact hK
      .have hv3:(cps3 c).all gt0R=true:=by rw [List.take_of_length_le (by omega)]at hall;exact hall
       rw [if_neg (by simp [hv3])]at hK
       have hlt' : ¬((k:Nat):Int)<3:=by omega
       have eav:(av c.1=av c.2.1)=(rv c.1.1=rv c.2.1.1/\rv c.1.2=rv c.2.1.2):=by
        unfold av;rw [Prod.mk.injEq]
       by_cases q1:rv c.1.1=rv c.2.1.1
       .by_cases q2:rv c.1.2=rv c.2.1.2
        .rw [if_pos (by rw [eav];exact⟨q1,q2⟩),wb tE (by decide)]at hK
         have o1:ordQ (rv c.1.1) (rv c.2.1.1)=0:=xd.2 q1;have o2:ordQ (rv c.1.2) (rv c.2.1.2)=0:=xd.2 q2;simp only [go_sem,hlt',cpC,hq',o1,o2];repeat (first | (refine And.intro (by omega) ?_) | (refine And.intro (by assumption) ?_) | (refine And.intro rfl ?_) | (refine And.intro ⟨rfl,by omega⟩ ?_) | (refine And.intro ⟨rfl,by omega,by omega⟩ ?_) | (intro _))
         exact hK
        .rw [if_neg (by rw [eav];exact λh=>q2 h.2),Ua]at hK
         have o1:ordQ (rv c.1.1) (rv c.2.1.1)=0:=xd.2 q1;have o2:¬ordQ (rv c.1.2) (rv c.2.1.2)=0:=λh=>q2 (xd.1 h);simp only [go_sem,hlt',cpC,hq',o1,o2];repeat (first | (refine And.intro (by omega) ?_) | (refine And.intro (by assumption) ?_) | (refine And.intro rfl ?_) | (refine And.intro ⟨rfl,by omega⟩ ?_) | (refine And.intro ⟨rfl,by omega,by omega⟩ ?_) | (intro _))
         exact hK
       .rw [if_neg (by rw [eav];exact λh=>q1 h.1),Ua]at hK
        have o1:¬ordQ (rv c.1.1) (rv c.2.1.1)=0:=λh=>q1 (xd.1 h);simp only [go_sem,hlt',cpC,hq',o1];repeat (first | (refine And.intro (by omega) ?_) | (refine And.intro (by assumption) ?_) | (refine And.intro rfl ?_) | (refine And.intro ⟨rfl,by omega⟩ ?_) | (refine And.intro ⟨rfl,by omega,by omega⟩ ?_) | (intro _))
        exact hK
theorem vad(hΓ:Holds P Γ){f fk fv tE:Nat}(hk:Γ fk=.dat false (uA tE))(hv:Γ fv=.dat true yd)(hc:check P f=some (24,(uj fk fv tE).strip,[.tmp 4])):Sound P f (.dat false (qs tE)):=by
 refine va hc (qaC tE) hΓ (λargs K hcl hfi hG=>?_);match args,hG with
 | [a,b],hG=>
  obtain⟨c,rfl,hw,l,rfl,hwl,hl,hok,hK⟩:=hG;refine⟨by simp,?_⟩
  by_cases h0:cchk c=0
  .have e0:=Ua tE;rw [<-h0]at e0;have e1:cchk2 c l=if l.all avld=false then 2 else 0:=if_neg (by simp [h0])
   rw [e1]at hK;simp only [go_sem,uj,hk,cpA,cpC,vb,e0];refine⟨hw,hl,λ_=>?_⟩;refine wa (λk:Nat=>⟨mkV [(13,.one (.slice (l.map aC))),(14,.one (.lit (.int .i64 l.length))),(15,.one (.lit (.int .i64 k)))],mkH []⟩) (λk=>k<=l.length/\(l.take k).all avld=true) (λk=>l.length-k) 0 ?_ ?_ ?_
   .exact Qa (by simp [okS,okV,okC,okL,okH,okB,okE,Za,ja,za,Ja,wsA,ws]) trivial
   .exact⟨Nat.zero_le _,rfl⟩
   .rintro k ⟨hk2,hall⟩;by_cases hlt:k<l.length
    .obtain⟨x,hx⟩:∃x,l.getD k a0=x:=⟨_,rfl⟩;have hx0:=xf hlt hx;obtain⟨g1,g2⟩:=hok x (List.mem_of_getElem? hx0);cases hz:avld x with
     | true=>
      simp only [go_sem,hlt,hv,hx,Zd,vb,hz];repeat (first | (refine And.intro (by omega) ?_) | (refine And.intro (by assumption) ?_) | (refine And.intro rfl ?_) | (refine And.intro ⟨rfl,by omega⟩ ?_) | (refine And.intro ⟨rfl,by omega,by omega⟩ ?_) | (intro _))
      exact⟨k+1,Qa (by simp [okS,okV,okC,okL,okH,okB,okE,Za,ja,za,Ja,wsA,ws]) trivial,⟨by omega,allS hx0 hall hz⟩,by omega⟩
     | false=>
      have hf:l.all avld=false:=by
       rw [List.all_eq_false];exact⟨x,List.mem_of_getElem? hx0,by simp [hz]⟩
      rw [if_pos hf,wb tE (by decide)]at hK
      simp only [go_sem,hlt,hv,hx,Zd,vb,hz];repeat (first | (refine And.intro (by omega) ?_) | (refine And.intro (by assumption) ?_) | (refine And.intro rfl ?_) | (refine And.intro ⟨rfl,by omega⟩ ?_) | (refine And.intro ⟨rfl,by omega,by omega⟩ ?_) | (intro _))
      exact hK
    .rw [List.take_of_length_le (by omega)]at hall
     rw [if_neg (by simp [hall]),Ua]at hK
     simp only [go_sem,hlt];exact hK
  .have e0:=wb tE h0;have e1:cchk2 c l=cchk c:=if_pos h0;rw [e1,e0]at hK;simp only [go_sem,uj,hk,cpA,cpC,vb,e0];exact⟨hw,hl,hK⟩
end Go.Abs
end
section
namespace Go.Num
open Go.Abs
def tOk(v:BQ×BQ)(u w:Rat):Prop:=PB 1 4006 v.1/\PB 1 4006 v.2/\rz u<=4004/\rz w<=4004
def nOk(v:BQ×BQ):Prop:=∃d s,PB d s v.1/\PB d s v.2/\d+d<=24/\s<=1000000
theorem PB.mulok{d s e t:Nat}{p q:BQ}(hp:PB d s p)(hq:PB e t q)(h:d+e<=24)(h2:s+t<=3000000):sz p+sz q<=3000000/\degB p+degB q<=24:=
 ⟨by have:=hp.size;have:=hq.size;omega,hp.dd hq h⟩
end Go.Num
namespace Go.Abs
open Go.Num
variable {P:Program} {Γ:Nat->Spec}
def YD(l:List AV)(K:AV->Prop):Prop:=
 match l with
 | [v,u,w]=>onV (λv=>onR (λu=>onR (λw=>tOk v (rv u) (rv w)/\rl u<=1000000/\rl w<=1000000/\K (.agg [bC (timB v (rv u) (rv w)).1,bC (timB v (rv u) (rv w)).2])) w) u) v
 | _=>False
theorem qaZ(v u w:AV)(K:AV->Prop):YD [v,u,w] K=(onV (λv=>onR (λu=>onR (λw=>tOk v (rv u) (rv w)/\rl u<=1000000/\rl w<=1000000/\K (.agg [bC (timB v (rv u) (rv w)).1,bC (timB v (rv u) (rv w)).2])) w) u) v):=propext Iff.rfl
@[congr] theorem QbH {K:AV->Prop} {l l' : List AV} (h:l=l'):YD l K=YD l' K:=by subst h;rfl
attribute [go_sem,go_sem ↓] qaZ
theorem XaT:Good YD:=Va λas=>by
 unfold YD;split
 .exact(uby λ_=>(Ji λ_=>(Ji λ_=>(.and λ_=>(.and λ_=>(.and λ_=>(.ret _)))))))
 .exact .of λK hk=>hk.elim
def VB(l:List AV)(K:AV->Prop):Prop:=
 match l with
 | [v]=>onV (λv=>nOk v/\K (.one (bC (nrmB v)))) v
 | _=>False
theorem za1(v:AV)(K:AV->Prop):VB [v] K=(onV (λv=>nOk v/\K (.one (bC (nrmB v)))) v):=propext Iff.rfl
@[congr] theorem kbH {K:AV->Prop} {l l' : List AV} (h:l=l'):VB l K=VB l' K:=by subst h;rfl
attribute [go_sem,go_sem ↓] za1
theorem qaQ:Good VB:=Va λas=>by
 unfold VB;split
 .exact(uby λ_=>(.and λ_=>(.ret _)))
 .exact .of λK hk=>hk.elim
def yC(l:List AV)(K:AV->Prop):Prop:=
 match l with
 | [c]=>onCp (λc=>cl c<=4000/\K (.agg [bC (cAl (cpv c)).1,bC (cAl (cpv c)).2,bC (cBe (cpv c)).1,bC (cBe (cpv c)).2,bC (cE (cpv c)),bC (cF (cpv c)),bC (cM (cpv c))])) c
 | _=>False
theorem VaV(c:AV)(K:AV->Prop):yC [c] K=(onCp (λc=>cl c<=4000/\K (.agg [bC (cAl (cpv c)).1,bC (cAl (cpv c)).2,bC (cBe (cpv c)).1,bC (cBe (cpv c)).2,bC (cE (cpv c)),bC (cF (cpv c)),bC (cM (cpv c))])) c):=propext Iff.rfl
@[congr] theorem zbN {K:AV->Prop} {l l' : List AV} (h:l=l'):yC l K=yC l' K:=by subst h;rfl
attribute [go_sem,go_sem ↓] VaV
theorem UaM:Good yC:=Va λas=>by
 unfold yC;split
 .exact(QE λ_=>(.and λ_=>(.ret _)))
 .exact .of λK hk=>hk.elim
def ke(f0 f1 f2:Nat):AC:=(.seq (.ops false [.u 5 (.box 2 (.t 1)),.u 6 (.box 3 (.t 2)),.u 7 (.box 3 (.t 3)),.u 8 (.alloc [.emp,.emp])])
 (.fg [0,5,6,7,8] (.seq (.ops true [.m 9 (.t 0),.m 10 (.t 0),.u 11 (.fa 0 (.t 5)),.u 12 (.ld none 1 false (.t 11)),.u 13 (.ld none 3 true (.t 6)),.u 14 (.callr f0 [(.t 10),(.t 12),(.t 13)]),.m 15 (.t 0),.u 16 (.fa 1 (.t 5)),.u 17 (.ld none 1 false (.t 16)),.u 18 (.ld none 3 true (.t 7)),.u 19 (.callr f0 [(.t 15),(.t 17),(.t 18)]),.u 20 (.callr f1 [(.t 9),(.t 14),(.t 19)]),.m 21 (.t 0),.m 22 (.t 0),.u 23 (.fa 1 (.t 5)),.u 24 (.ld none 1 false (.t 23)),.u 25 (.ld none 3 true (.t 6)),.u 26 (.callr f0 [(.t 22),(.t 24),(.t 25)]),.m 27 (.t 0),.u 28 (.fa 0 (.t 5)),.u 29 (.ld none 1 false (.t 28)),.u 30 (.ld none 3 true (.t 7)),.u 31 (.callr f0 [(.t 27),(.t 29),(.t 30)]),.u 32 (.callr f2 [(.t 21),(.t 26),(.t 31)]),.u 33 (.build [.x 1 (.t 20),.x 1 (.t 32)]),.n (.st none 2 (.t 8) (.t 33))])
 .ret)))
def Ue(f0 f1:Nat):AC:=(.seq (.ops false [.u 3 (.box 2 (.t 1)),.m 4 (.c (.one .emp))])
 (.fg [0,3] (.seq (.ops true [.m 5 (.t 0),.m 6 (.t 0),.u 7 (.fa 0 (.t 3)),.u 8 (.ld none 1 false (.t 7)),.u 9 (.fa 0 (.t 3)),.u 10 (.ld none 1 false (.t 9)),.u 11 (.callr f0 [(.t 6),(.t 8),(.t 10)]),.m 12 (.t 0),.u 13 (.fa 1 (.t 3)),.u 14 (.ld none 1 false (.t 13)),.u 15 (.fa 1 (.t 3)),.u 16 (.ld none 1 false (.t 15)),.u 17 (.callr f0 [(.t 12),(.t 14),(.t 16)]),.u 18 (.callr f1 [(.t 5),(.t 11),(.t 17)]),.m 4 (.t 18)])
 .ret)))
def Ye(f0 f1 f2 f3 f4 f5 f6 f7 f8 f9 f10 f11:Nat):AC:=(.seq (.ops false [.u 3 (.box 27 (.t 1)),.u 4 (.alloc [.emp,.emp,.emp,.emp,.emp,.emp,.emp])])
 (.fg [0,3,4] (.seq (.ops true [.m 11 (.t 0),.u 12 (.fa 0 (.t 3)),.u 13 (.fa 0 (.t 12)),.u 14 (.ld none 3 true (.t 13)),.u 15 (.callr f0 [(.t 11),.fa,(.t 14)]),.m 16 (.t 0),.u 17 (.fa 0 (.t 3)),.u 18 (.fa 3 (.t 17)),.u 19 (.ld none 3 true (.t 18)),.u 20 (.callr f0 [(.t 16),.tr,(.t 19)]),.u 21 (.build [.x 1 (.t 15),.x 1 (.t 20)]),.u 5 (.alloc [.emp,.emp]),.n (.st none 2 (.t 5) (.t 21))])
 (.fg [0,3,4,5] (.seq (.ops true [.m 22 (.t 0),.u 23 (.fa 6 (.t 3)),.u 24 (.fa 0 (.t 23)),.u 25 (.ld none 3 true (.t 24)),.u 26 (.callr f0 [(.t 22),.fa,(.t 25)]),.m 27 (.t 0),.u 28 (.fa 6 (.t 3)),.u 29 (.fa 3 (.t 28)),.u 30 (.ld none 3 true (.t 29)),.u 31 (.callr f0 [(.t 27),.tr,(.t 30)]),.u 32 (.build [.x 1 (.t 26),.x 1 (.t 31)]),.u 6 (.alloc [.emp,.emp]),.n (.st none 2 (.t 6) (.t 32))])
 (.fg [0,3,4,5,6] (.seq (.ops true [.u 33 (.call f1 [(.i 1)]),.u 34 (.fa 21 (.t 3)),.u 35 (.ld none 3 true (.t 34)),.u 36 (.call f2 [(.t 33),(.t 35)]),.u 7 (.alloc [(.lit (.bool false)),.emp,.emp]),.n (.st none 3 (.t 7) (.t 36))])
 (.fg [0,3,4,5,6,7] (.seq (.ops true [.m 37 (.t 0),.u 38 (.ld none 2 true (.t 5)),.u 39 (.fa 21 (.t 3)),.u 40 (.ld none 3 true (.t 39)),.u 41 (.fa 24 (.t 3)),.u 42 (.ld none 3 true (.t 41)),.u 43 (.call f3 [(.t 42)]),.u 44 (.callr f4 [(.t 37),(.t 38),(.t 40),(.t 43)]),.m 45 (.t 0),.u 46 (.ld none 2 true (.t 6)),.u 47 (.ld none 3 true (.t 7)),.u 48 (.fa 24 (.t 3)),.u 49 (.ld none 3 true (.t 48)),.u 50 (.callr f4 [(.t 45),(.t 46),(.t 47),(.t 49)]),.u 51 (.build [.x 2 (.t 44),.x 2 (.t 50),.z [.emp,.emp,.emp]]),.u 8 (.alloc [.emp,.emp,.emp,.emp,.emp,.emp,.emp]),.n (.st none 7 (.t 8) (.t 51))])
 (.fg [0,3,4,5,6,7,8] (.seq (.ops true [.u 52 (.fa 21 (.t 3)),.u 53 (.ld none 3 true (.t 52)),.u 54 (.fa 24 (.t 3)),.u 55 (.ld none 3 true (.t 54)),.u 56 (.call f5 [(.t 53),(.t 55)]),.u 57 (.fa 15 (.t 3)),.u 58 (.ld none 3 true (.t 57)),.u 59 (.call f6 [(.t 56),(.t 58)]),.u 60 (.fa 12 (.t 3)),.u 61 (.ld none 3 true (.t 60)),.u 62 (.call f2 [(.t 59),(.t 61)]),.u 9 (.alloc [(.lit (.bool false)),.emp,.emp]),.n (.st none 3 (.t 9) (.t 62))])
 (.fg [0,3,4,5,6,7,8,9] (.seq (.ops true [.u 63 (.fa 18 (.t 3)),.u 64 (.ld none 3 true (.t 63)),.u 65 (.ld none 3 true (.t 7)),.u 66 (.fa 24 (.t 3)),.u 67 (.ld none 3 true (.t 66)),.u 68 (.call f5 [(.t 65),(.t 67)]),.u 69 (.fa 15 (.t 3)),.u 70 (.ld none 3 true (.t 69)),.u 71 (.call f6 [(.t 68),(.t 70)]),.u 72 (.call f2 [(.t 64),(.t 71)]),.u 10 (.alloc [(.lit (.bool false)),.emp,.emp]),.n (.st none 3 (.t 10) (.t 72))])
 (.fg [0,4,5,6,8,9,10] (.seq (.ops true [.m 73 (.t 0),.m 74 (.t 0),.u 75 (.ld none 2 true (.t 5)),.u 76 (.callr f7 [(.t 74),(.t 75)]),.m 77 (.t 0),.u 78 (.ld none 3 true (.t 9)),.u 79 (.callr f8 [(.t 77),(.t 78)]),.u 80 (.callr f9 [(.t 73),(.t 76),(.t 79)]),.u 81 (.fa 4 (.t 8)),.n (.st none 1 (.t 81) (.t 80))])
 (.fg [0,4,6,8,10] (.seq (.ops true [.m 82 (.t 0),.m 83 (.t 0),.u 84 (.ld none 3 true (.t 10)),.u 85 (.callr f8 [(.t 83),(.t 84)]),.m 86 (.t 0),.u 87 (.ld none 2 true (.t 6)),.u 88 (.callr f7 [(.t 86),(.t 87)]),.u 89 (.callr f10 [(.t 82),(.t 85),(.t 88)]),.u 90 (.fa 5 (.t 8)),.n (.st none 1 (.t 90) (.t 89))])
 (.fg [0,4,8] (.seq (.ops true [.m 91 (.t 0),.m 92 (.t 0),.u 93 (.fa 0 (.t 8)),.u 94 (.fa 0 (.t 93)),.u 95 (.ld none 1 false (.t 94)),.u 96 (.fa 2 (.t 8)),.u 97 (.fa 1 (.t 96)),.u 98 (.ld none 1 false (.t 97)),.u 99 (.callr f11 [(.t 92),(.t 95),(.t 98)]),.m 100 (.t 0),.u 101 (.fa 0 (.t 8)),.u 102 (.fa 1 (.t 101)),.u 103 (.ld none 1 false (.t 102)),.u 104 (.fa 2 (.t 8)),.u 105 (.fa 0 (.t 104)),.u 106 (.ld none 1 false (.t 105)),.u 107 (.callr f11 [(.t 100),(.t 103),(.t 106)]),.u 108 (.callr f10 [(.t 91),(.t 99),(.t 107)]),.u 109 (.fa 6 (.t 8)),.n (.st none 1 (.t 109) (.t 108))])
 (.fg [4,8] (.seq (.ops false [.u 110 (.ld none 7 true (.t 8)),.n (.st none 7 (.t 4) (.t 110))])
 .ret)))))))))))))))))))))
theorem qay(hΓ:Holds P Γ){f fl fs fa:Nat}(hl:Γ fl=.red wn)(hs:Γ fs=.red Jz)(ha:Γ fa=.red uy)(hc:check P f=some (34,(ke fl fs fa).strip,[.cell 8 2 true])):Sound P f (.red YD):=by
 refine wj hc XaT hΓ (λrest h r ver K hr hcl hfi hG=>?_);match rest,hG with
 | [a,b,c],hG=>
  obtain⟨p,q,rfl,⟨hp,hq⟩,u,rfl,wu,w,rfl,ww,⟨p1,p2,r1,r2⟩,h1,h2,hK⟩:=hG;refine⟨by simp,?_⟩
  simp only [timB]at p1 p2 hK;have e:tri (1+1)=3:=rfl;have a1:=p1.scl r1;have a2:=p1.scl r2;have a3:=p2.scl r1;have a4:=p2.scl r2;rw [e]at a1 a2 a3 a4;have c1:=a1.canon;have c2:=a2.canon;have c3:=a3.canon;have c4:=a4.canon;have s1:=a1.size;have s2:=a2.size;have s3:=a3.size;have s4:=a4.size;have s5:=p1.size;have s6:=p2.size;have c5:=UZ c1 c4;have c6:=kL c3 c2;simp only [go_sem,ke,hr,hl,hs,ha,rA];repeat (first | (refine And.intro (by omega) ?_) | (refine And.intro (by assumption) ?_) | (refine And.intro rfl ?_) | (refine And.intro ⟨rfl,by omega⟩ ?_) | (refine And.intro ⟨rfl,by omega,by omega⟩ ?_) | (intro _))
  rw [Wy hr];exact hK
theorem uaA(hΓ:Holds P Γ){f fm fa:Nat}(hm:Γ fm=.red yy)(ha:Γ fa=.red uy)(hc:check P f=some (19,(Ue fm fa).strip,[.tmp 4])):Sound P f (.red VB):=by
 refine wj hc qaQ hΓ (λrest h r ver K hr hcl hfi hG=>?_);match rest,hG with
 | [a],hG=>
  obtain⟨p,q,rfl,⟨hp,hq⟩,⟨d,s,p1,p2,hd,hs⟩,hK⟩:=hG;refine⟨by simp,?_⟩
  simp only at p1 p2 hK;obtain⟨m1,m2⟩:=p1.mulok p1 hd (by omega)
  obtain⟨m3,m4⟩:=p2.mulok p2 hd (by omega)
  have q1:=p1.mul p1 hd;have q2:=p2.mul p2 hd;have t1:tri (d+1)<=91:=Yaj (show d+1<=13 by omega)
  have t2:tri (d+1)*s<=91*1000000:=Nat.mul_le_mul t1 hs;have s1:=q1.size;have s2:=q2.size;have c1:=q1.canon;have c2:=q2.canon;have c3:=kL c1 c2;simp only [go_sem,Ue,hr,hm,ha];repeat (first | (refine And.intro (by omega) ?_) | (refine And.intro (by assumption) ?_) | (refine And.intro rfl ?_) | (refine And.intro ⟨rfl,by omega⟩ ?_) | (refine And.intro ⟨rfl,by omega,by omega⟩ ?_) | (intro _))
  rw [Wy hr];exact hK
set_option maxHeartbeats 1000000 in
theorem QaE(hΓ:Holds P Γ){f fl fo fs fn ft fq fm fk fc fa fb fu:Nat}(hl:Γ fl=.red WE)(ho:Γ fo=.dat false ux)(hs:Γ fs=.dat false qo)(hn:Γ fn=.dat false vy)(ht:Γ ft=.red YD)(hq' : Γ fq=.dat false JB)(hm:Γ fm=.dat false yi)(hk:Γ fk=.red VB)(hcn:Γ fc=.red ZF)(ha:Γ fa=.red uy)(hb:Γ fb=.red Jz)(hu:Γ fu=.red yy)(hc:check P f=some (111,(Ye fl fo fs fn ft fq fm fk fc fa fb fu).strip,[.cell 4 7 true])):Sound P f (.red yC):=by
 refine wj hc UaM hΓ (λrest h r ver K hr hcl hfi hG=>?_);match rest,hG with
 | [a],hG=>
  obtain⟨c,rfl,hw,hl1,hK⟩:=hG;refine⟨by simp,?_⟩
  have hB:=kaP hw hl1;obtain⟨wo,wq,w1,w2,w3,w4,w5⟩:=id hw;have hl0:=hl1;unfold cl at hl0;simp only [Nat.max_le]at hl0;obtain⟨l1,l2,l3,l4,l5,l6,l7⟩:=hl0;have wo1:=wo.1;have wo2:=wo.2;have wq1:=wq.1;have wq2:=wq.2;have lo1:=(Nat.max_le.1 l1).1;have lo2:=(Nat.max_le.1 l1).2;have lq1:=(Nat.max_le.1 l2).1;have lq2:=(Nat.max_le.1 l2).2;have z1:=rz_1;have x1:PB 1 4006 (linB false (rv c.1.1)):=PB.lx hB.o1;have x2:PB 1 4006 (linB true (rv c.1.2)):=PB.lx hB.o2;have x3:PB 1 4006 (linB false (rv c.2.1.1)):=PB.lx hB.q1;have x4:PB 1 4006 (linB true (rv c.2.1.2)):=PB.lx hB.q2;have y1:=x1.canon;have y2:=x2.canon;have y3:=x3.canon;have y4:=x4.canon;have ru:rz (rv c.2.2.2.2.2.1)<=4000:=hB.u;have rw' : rz (rv c.2.2.2.2.2.2)<=4000:=hB.v;have rb:rz (rv c.2.2.2.1)<=4000:=hB.b2;have ra:rz (rv c.2.2.1)<=4000:=hB.a2;have rc:rz (rv c.2.2.2.2.1)<=4000:=hB.c2;have rr:rz (1-rv c.2.2.2.2.2.1)<=4004:=Vbe hB;have rn:rz (-rv c.2.2.2.2.2.2)<=4000:=by rw [vB];exact rw'
  have t1:tOk (linB false (rv c.1.1),linB true (rv c.1.2)) (rv c.2.2.2.2.2.1) (-rv c.2.2.2.2.2.2):=⟨x1,x2,by omega,by omega⟩
  have t2:tOk (linB false (rv c.2.1.1),linB true (rv c.2.1.2)) (1-rv c.2.2.2.2.2.1) (rv c.2.2.2.2.2.2):=⟨x3,x4,by omega,by omega⟩
  have n1:nOk (linB false (rv c.1.1),linB true (rv c.1.2)):=⟨1,4006,x1,x2,by decide,by decide⟩
  have n2:nOk (linB false (rv c.2.1.1),linB true (rv c.2.1.2)):=⟨1,4006,x3,x4,by decide,by decide⟩
  have k1:=vA (rv c.2.2.2.2.2.1,rv c.2.2.2.2.2.2);have k2:zq (rv c.2.2.2.2.2.1,rv c.2.2.2.2.2.2)<=4000:=Nat.max_le.2 ⟨ru,rw'⟩;have k3:=Zb (sqQ (rv c.2.2.2.2.2.1,rv c.2.2.2.2.2.2)) (rv c.2.2.2.1);have k4:=Wl (sqQ (rv c.2.2.2.2.2.1,rv c.2.2.2.2.2.2)*rv c.2.2.2.1) (rv c.2.2.1);have k5:=vA (1-rv c.2.2.2.2.2.1,rv c.2.2.2.2.2.2);have k6:zq (1-rv c.2.2.2.2.2.1,rv c.2.2.2.2.2.2)<=4004:=Nat.max_le.2 ⟨rr,Nat.le_trans rw' (by decide)⟩
  have k7:=Zb (sqQ (1-rv c.2.2.2.2.2.1,rv c.2.2.2.2.2.2)) (rv c.2.2.2.1);have k8:=Wl (rv c.2.2.2.2.1) (sqQ (1-rv c.2.2.2.2.2.1,rv c.2.2.2.2.2.2)*rv c.2.2.2.1);have y12:=And.intro y1 y2;have y34:=And.intro y3 y4;have e1:PB 2 48072 (nrmB (linB false (rv c.1.1),linB true (rv c.1.2))):=ZaE (o:=(rv c.1.1,rv c.1.2)) hB.o1 hB.o2;have e2:PB 2 48072 (nrmB (linB false (rv c.2.1.1),linB true (rv c.2.1.2))):=ZaE (o:=(rv c.2.1.1,rv c.2.1.2)) hB.q1 hB.q2;have e1c:=e1.canon;have e1s:=e1.size;have e2c:=e2.canon;have e2s:=e2.size;have b1:=PB.con (sqQ (rv c.2.2.2.2.2.1,rv c.2.2.2.2.2.2)*rv c.2.2.2.1-rv c.2.2.1);have b2:=PB.con (rv c.2.2.2.2.1-sqQ (1-rv c.2.2.2.2.2.1,rv c.2.2.2.2.2.2)*rv c.2.2.2.1);have b1c:=b1.canon;have b1s:=b1.size;have b2c:=b2.canon;have b2s:=b2.size;have A1:PB 1 32100 (timB (linB false (rv c.1.1),linB true (rv c.1.2)) (rv c.2.2.2.2.2.1) (-rv c.2.2.2.2.2.2)).1:=(uK hB).1;have A2:PB 1 32100 (timB (linB false (rv c.1.1),linB true (rv c.1.2)) (rv c.2.2.2.2.2.1) (-rv c.2.2.2.2.2.2)).2:=(uK hB).2;have B1:PB 1 32200 (timB (linB false (rv c.2.1.1),linB true (rv c.2.1.2)) (1-rv c.2.2.2.2.2.1) (rv c.2.2.2.2.2.2)).1:=(UK hB).1;have B2:PB 1 32200 (timB (linB false (rv c.2.1.1),linB true (rv c.2.1.2)) (1-rv c.2.2.2.2.2.1) (rv c.2.2.2.2.2.2)).2:=(UK hB).2;obtain⟨m1,m2⟩:=A1.mulok B2 (by decide) (by decide)
  obtain⟨m3,m4⟩:=A2.mulok B1 (by decide) (by decide)
  have M1:=A1.mul B2 (by decide)
  have M2:=A2.mul B1 (by decide)
  have tt:tri (1+1)=3:=rfl;rw [tt]at M1 M2;have A1c:=A1.canon;have A2c:=A2.canon;have B1c:=B1.canon;have B2c:=B2.canon;have M1c:=M1.canon;have M1s:=M1.size;have M2c:=M2.canon;have M2s:=M2.size;have q1:rl c.1.1<=1000000:=Nat.le_trans lo1 (by decide)
  have q2:rl c.1.2<=1000000:=Nat.le_trans lo2 (by decide)
  have q3:rl c.2.1.1<=1000000:=Nat.le_trans lq1 (by decide)
  have q4:rl c.2.1.2<=1000000:=Nat.le_trans lq2 (by decide)
  have q5:rz 1<=4294967296:=Nat.le_trans z1 (by decide)
  have q6:rl c.2.2.2.2.2.1<=4294967296:=Nat.le_trans l6 (by decide)
  have q7:rl c.2.2.2.2.2.2<=4294967296:=Nat.le_trans l7 (by decide)
  have q8:rl c.2.2.2.2.2.1<=1000000:=Nat.le_trans l6 (by decide)
  have q9:rl c.2.2.2.2.2.2<=1000000:=Nat.le_trans l7 (by decide)
  have q10:rl c.2.2.2.2.2.1<=100000000:=Nat.le_trans l6 (by decide)
  have q11:rl c.2.2.2.2.2.2<=100000000:=Nat.le_trans l7 (by decide)
  have q12:rz (-rv c.2.2.2.2.2.2)<=1000000:=Nat.le_trans rn (by decide)
  have q13:rz (1-rv c.2.2.2.2.2.1)<=1000000:=Nat.le_trans rr (by decide)
  have q14:rz (1-rv c.2.2.2.2.2.1)<=100000000:=Nat.le_trans rr (by decide)
  have q15:rl c.2.2.2.1<=4294967296:=Nat.le_trans l4 (by decide)
  have q16:rl c.2.2.1<=4294967296:=Nat.le_trans l3 (by decide)
  have q17:rl c.2.2.2.2.1<=4294967296:=Nat.le_trans l5 (by decide)
  have q18:rz (sqQ (rv c.2.2.2.2.2.1,rv c.2.2.2.2.2.2))<=4294967296:=by omega
  have q19:rz (sqQ (rv c.2.2.2.2.2.1,rv c.2.2.2.2.2.2)*rv c.2.2.2.1)<=4294967296:=by omega
  have q20:rz (sqQ (1-rv c.2.2.2.2.2.1,rv c.2.2.2.2.2.2))<=4294967296:=by omega
  have q21:rz (sqQ (1-rv c.2.2.2.2.2.1,rv c.2.2.2.2.2.2)*rv c.2.2.2.1)<=4294967296:=by omega
  have q22a:=vbp hB;have q23a:=Ubx hB;have q22:rz (sqQ (rv c.2.2.2.2.2.1,rv c.2.2.2.2.2.2)*rv c.2.2.2.1-rv c.2.2.1)<=1000000:=Nat.le_trans q22a (by decide)
  have q23:rz (rv c.2.2.2.2.1-sqQ (1-rv c.2.2.2.2.2.1,rv c.2.2.2.2.2.2)*rv c.2.2.2.1)<=1000000:=Nat.le_trans q23a (by decide)
  have q24:=Nat.le_trans (Nat.add_le_add e1s (Nat.le_trans b1s (Nat.add_le_add_right q22a 2))) (by decide:48072+(40000+2)<=1000000000)
  have q25:=Nat.le_trans (Nat.add_le_add (Nat.le_trans b2s (Nat.add_le_add_right q23a 2)) e2s) (by decide:(40000+2)+48072<=1000000000)
  have q26:=Nat.le_trans (Nat.add_le_add M1s M2s) (by decide:_<=1000000000)
  simp only [go_sem,Ye,hr,hl,ho,hs,hn,ht,hq',hm,hk,hcn,ha,hb,hu,cpA,cpC,vb,Wb,rone1,Qf];repeat (first | (refine And.intro (by with_reducible assumption) ?_) | (refine And.intro (Nat.le_trans (by with_reducible assumption) (by decide)) ?_) | (refine And.intro (by decide) ?_))
  rw [Wy hr];exact hK
end Go.Abs
end
section
namespace Go.Num
open Go.Abs
theorem Ubt{d s:Nat}{x y:BQ}(h1:PB d s x)(h2:PB d s y)(hd:d+d<=24)(hs:s<=1000000):nOk (x,y):=⟨d,s,h1,h2,hd,hs⟩
theorem Ja4(a:V2):av (rcan a.1,rcan a.2)=a:=XaN a
theorem Xbh{c:Cp}{l:List Arc}(h:cchk2 c l=0):cchk c=0/\l.all avld=true:=by
 unfold cchk2 at h;split at h
 .rename_i h1;exact absurd h h1
 .rename_i h1;split at h
  .contradiction
  .rename_i h2;exact⟨by omega,by simpa using h2⟩
theorem ubg(x:Rat):decide (ordQ x 0=0)=decide (x=0):=by rw [decide_eq_decide];exact xd
theorem waQ(x y:Rat):(ordQ x y=0)=(x=y):=propext xd
instance decH(c:CpR)(a b:V2):Decidable (hldQ c a b):=inferInstanceAs (Decidable (_/\_/\_))
theorem zq_d(a b:V2):rz (sqQ (subQ a b))<=4*zq a+4*zq b+14:=by
 have h1:=Qs a b;have h2:=vA (subQ a b);omega
theorem zbp(a:V2)(u w:Rat):zq (timQ a u w)<=2*zq a+rz u+rz w+6:=by
 have a1:rz a.1<=zq a:=Nat.le_max_left _ _;have a2:rz a.2<=zq a:=Nat.le_max_right _ _;have m1:=Zb a.1 u;have m2:=Zb a.2 w;have m3:=Zb a.2 u;have m4:=Zb a.1 w;have s1:=Wl (a.1*u) (a.2*w);have s2:=Wi (a.2*u) (a.1*w);exact Nat.max_le.2 ⟨by show rz (a.1*u-a.2*w)<=_;omega,by show rz (a.2*u+a.1*w)<=_;omega⟩
end Go.Num
namespace Go.Abs
open Go.Num
variable {P:Program} {Γ:Nat->Spec}
def YC(tE:Nat)(l:List AV)(K:AV->Prop):Prop:=
 match l with
 | [c]=>onCp (λc=>cl c<=4000/\K (.tup [.one (.slice ((bres (cchk c) (cCur (cpv c))).map mC)),errV tE (cchk c)])) c
 | _=>False
theorem XaO(tE:Nat)(c:AV)(K:AV->Prop):YC tE [c] K=(onCp (λc=>cl c<=4000/\K (.tup [.one (.slice ((bres (cchk c) (cCur (cpv c))).map mC)),errV tE (cchk c)])) c):=propext Iff.rfl
@[congr] theorem vbH (tE:Nat) {K:AV->Prop} {l l' : List AV} (h:l=l'):YC tE l K=YC tE l' K:=by subst h;rfl
attribute [go_sem,go_sem ↓] XaO
theorem WaY(tE:Nat):Good (YC tE):=Va λas=>by
 unfold YC;split
 .exact(QE λ_=>(.and λ_=>(.ret _)))
 .exact .of λK hk=>hk.elim
def waZ(tE:Nat)(l:List AV)(K:AV->Prop):Prop:=
 match l with
 | [c]=>onCp (λc=>cl c<=4000/\K (.tup [.one (.slice ((bres (cchk c) (cM (cpv c))).map mC)),errV tE (cchk c)])) c
 | _=>False
theorem yaS(tE:Nat)(c:AV)(K:AV->Prop):waZ tE [c] K=(onCp (λc=>cl c<=4000/\K (.tup [.one (.slice ((bres (cchk c) (cM (cpv c))).map mC)),errV tE (cchk c)])) c):=propext Iff.rfl
@[congr] theorem QbM (tE:Nat) {K:AV->Prop} {l l' : List AV} (h:l=l'):waZ tE l K=waZ tE l' K:=by subst h;rfl
attribute [go_sem,go_sem ↓] yaS
def UE(tE:Nat)(l:List AV)(K:AV->Prop):Prop:=
 match l with
 | [c,p]=>onCp (λc=>onA (λp=>cl c<=4000/\al p<=10000/\K (.tup [.one (.lit (.bool (decide (cchk2 c [p]=0) && decide (wV (cpv c) (av p)=0)))),errV tE (cchk2 c [p])])) p) c
 | _=>False
theorem waP(tE:Nat)(c p:AV)(K:AV->Prop):UE tE [c,p] K=(onCp (λc=>onA (λp=>cl c<=4000/\al p<=10000/\K (.tup [.one (.lit (.bool (decide (cchk2 c [p]=0) && decide (wV (cpv c) (av p)=0)))),errV tE (cchk2 c [p])])) p) c):=propext Iff.rfl
@[congr] theorem ubJ (tE:Nat) {K:AV->Prop} {l l' : List AV} (h:l=l'):UE tE l K=UE tE l' K:=by subst h;rfl
attribute [go_sem,go_sem ↓] waP
theorem Xa0(tE:Nat):Good (UE tE):=Va λas=>by
 unfold UE;split
 .exact(QE λ_=>(Jl λ_=>(.and λ_=>(.and λ_=>(.ret _)))))
 .exact .of λK hk=>hk.elim
def XD(tE:Nat)(l:List AV)(K:AV->Prop):Prop:=
 match l with
 | [c,a,b]=>onCp (λc=>onA (λa=>onA (λb=>cl c<=10000/\al a<=10000/\al b<=10000/\K (.tup [pQ (if cchk2 c [a,b]=0 then ptQ (cpv c) (av a) (av b) else (0,0)),errV tE (cchk2 c [a,b])])) b) a) c
 | _=>False
theorem vaI(tE:Nat)(c a b:AV)(K:AV->Prop):XD tE [c,a,b] K=(onCp (λc=>onA (λa=>onA (λb=>cl c<=10000/\al a<=10000/\al b<=10000/\K (.tup [pQ (if cchk2 c [a,b]=0 then ptQ (cpv c) (av a) (av b) else (0,0)),errV tE (cchk2 c [a,b])])) b) a) c):=propext Iff.rfl
@[congr] theorem wbK (tE:Nat) {K:AV->Prop} {l l' : List AV} (h:l=l'):XD tE l K=XD tE l' K:=by subst h;rfl
attribute [go_sem,go_sem ↓] vaI
theorem xaW(tE:Nat):Good (XD tE):=Va λas=>by
 unfold XD;split
 .exact(QE λ_=>(Jl λ_=>(Jl λ_=>(.and λ_=>(.and λ_=>(.and λ_=>(.ret _)))))))
 .exact .of λK hk=>hk.elim
def yD(tE:Nat)(l:List AV)(K:AV->Prop):Prop:=
 match l with
 | [c,a,b]=>onCp (λc=>onA (λa=>onA (λb=>cl c<=10000/\al a<=10000/\al b<=10000/\K (.tup [.one (.lit (.bool (decide (cchk2 c [a,b]=0) && decide (hldQ (cpv c) (av a) (av b))))),errV tE (cchk2 c [a,b])])) b) a) c
 | _=>False
theorem xaF(tE:Nat)(c a b:AV)(K:AV->Prop):yD tE [c,a,b] K=(onCp (λc=>onA (λa=>onA (λb=>cl c<=10000/\al a<=10000/\al b<=10000/\K (.tup [.one (.lit (.bool (decide (cchk2 c [a,b]=0) && decide (hldQ (cpv c) (av a) (av b))))),errV tE (cchk2 c [a,b])])) b) a) c):=propext Iff.rfl
@[congr] theorem ubF (tE:Nat) {K:AV->Prop} {l l' : List AV} (h:l=l'):yD tE l K=yD tE l' K:=by subst h;rfl
attribute [go_sem,go_sem ↓] xaF
theorem VaK(tE:Nat):Good (yD tE):=Va λas=>by
 unfold yD;split
 .exact(QE λ_=>(Jl λ_=>(Jl λ_=>(.and λ_=>(.and λ_=>(.and λ_=>(.ret _)))))))
 .exact .of λK hk=>hk.elim
def zk(f0 f1 f2 f3 f4 f5 f6 f7:Nat):AC:=(.seq (.ops false [.u 1 (.box 27 (.t 0)),.m 2 (.c (.one .emp)),.m 3 (.c (.one (.lit .nilIface)))])
 (.fg [1] (.seq (.seq (.ops false [.u 11 (.ld none 27 true (.t 1)),.u 12 (.call f0 [(.t 11)]),.m 4 (.t 12)])
 (.fg [1,4] (.seq (.ops false [.m 13 (.t 4),.u 14 (.binn .neq (.t 13) (.c (.one (.lit .nilIface))))])
 (.fg [1,4,14] (.cond (.t 14) (.seq (.ops false [.m 15 (.t 4),.m 2 (.c (.one .emp)),.m 3 (.t 15)])
 .ret) .skip)))))
 (.fg [1] (.seq (.ops false [.u 16 (.build [.z [(.lit .nilIface)]]),.u 17 (.box 1 (.t 16)),.m 5 (.t 17)])
 (.fg [1,5] (.seq (.ops false [.m 18 (.t 5),.u 19 (.ld none 27 true (.t 1)),.u 20 (.callr f1 [(.t 18),(.t 19)]),.u 6 (.alloc [.emp,.emp,.emp,.emp,.emp,.emp,.emp]),.n (.st none 7 (.t 6) (.t 20))])
 (.fg [1,5,6] (.seq (.ops true [.m 21 (.t 5),.m 22 (.t 5),.u 23 (.fa 4 (.t 6)),.u 24 (.ld none 1 false (.t 23)),.u 25 (.fa 2 (.t 6)),.u 26 (.fa 1 (.t 25)),.u 27 (.ld none 1 false (.t 26)),.u 28 (.callr f2 [(.t 22),(.t 24),(.t 27)]),.m 29 (.t 5),.u 30 (.fa 5 (.t 6)),.u 31 (.ld none 1 false (.t 30)),.u 32 (.fa 0 (.t 6)),.u 33 (.fa 1 (.t 32)),.u 34 (.ld none 1 false (.t 33)),.u 35 (.callr f2 [(.t 29),(.t 31),(.t 34)]),.u 36 (.callr f3 [(.t 21),(.t 28),(.t 35)]),.m 7 (.t 36)])
 (.fg [1,5,6,7] (.seq (.ops true [.m 37 (.t 5),.m 38 (.t 5),.u 39 (.fa 5 (.t 6)),.u 40 (.ld none 1 false (.t 39)),.u 41 (.fa 0 (.t 6)),.u 42 (.fa 0 (.t 41)),.u 43 (.ld none 1 false (.t 42)),.u 44 (.callr f2 [(.t 38),(.t 40),(.t 43)]),.m 45 (.t 5),.u 46 (.fa 4 (.t 6)),.u 47 (.ld none 1 false (.t 46)),.u 48 (.fa 2 (.t 6)),.u 49 (.fa 0 (.t 48)),.u 50 (.ld none 1 false (.t 49)),.u 51 (.callr f2 [(.t 45),(.t 47),(.t 50)]),.u 52 (.callr f3 [(.t 37),(.t 44),(.t 51)]),.m 8 (.t 52)])
 (.fg [1,5,6,7,8] (.seq (.ops true [.m 53 (.t 5),.m 54 (.t 5),.u 55 (.fa 6 (.t 6)),.u 56 (.ld none 1 false (.t 55)),.u 57 (.fa 6 (.t 6)),.u 58 (.ld none 1 false (.t 57)),.u 59 (.callr f2 [(.t 54),(.t 56),(.t 58)]),.u 60 (.call f4 [(.i 4)]),.u 61 (.fa 15 (.t 1)),.u 62 (.ld none 3 true (.t 61)),.u 63 (.call f5 [(.t 60),(.t 62)]),.u 64 (.callr f6 [(.t 53),(.t 59),(.t 63)]),.m 9 (.t 64)])
 (.fg [5,7,8,9] (.seq (.ops false [.m 65 (.t 5),.m 66 (.t 5),.m 67 (.t 7),.m 68 (.t 8),.u 69 (.build [.x 1 (.t 67),.x 1 (.t 68)]),.u 70 (.callr f7 [(.t 66),(.t 69)]),.m 71 (.t 9),.u 72 (.callr f3 [(.t 65),(.t 70),(.t 71)]),.m 10 (.t 72)])
 (.fg [5,10] (.seq (.ops true [.m 73 (.t 10),.m 74 (.t 5),.u 75 (.nilck (.t 74)),.u 76 (.fa 0 (.t 75)),.u 77 (.ld none 1 false (.t 76)),.m 2 (.t 73),.m 3 (.t 77)])
 .ret)))))))))))))))))
def Jp(f0 f1 f2 f3:Nat):AC:=(.seq (.ops false [.u 2 (.box 27 (.t 0)),.u 3 (.box 6 (.t 1)),.m 4 .fa,.m 5 (.c (.one (.lit .nilIface)))])
 (.fg [2,3] (.seq (.seq (.ops false [.u 10 (.ld none 27 true (.t 2)),.u 11 (.ld none 6 true (.t 3)),.u 12 (.row 6 [[.x 6 (.t 11)]]),.u 13 (.call f0 [(.t 10),(.t 12)]),.m 6 (.t 13)])
 (.fg [2,3,6] (.seq (.ops false [.m 14 (.t 6),.u 15 (.binn .neq (.t 14) (.c (.one (.lit .nilIface))))])
 (.fg [2,3,6,15] (.cond (.t 15) (.seq (.ops false [.m 16 (.t 6),.m 4 .fa,.m 5 (.t 16)])
 .ret) .skip)))))
 (.fg [2,3] (.seq (.ops false [.u 18 (.ld none 27 true (.t 2)),.u 19 (.call f1 [(.t 18)]),.m 17 (.t 19),.u 20 (.ext 0 (.t 17)),.u 21 (.ext 1 (.t 17)),.m 7 (.t 20),.m 8 (.t 21)])
 (.fg [3,7,8] (.seq (.seq (.ops false [.m 22 (.t 8),.u 23 (.binn .neq (.t 22) (.c (.one (.lit .nilIface))))])
 (.fg [3,7,8,23] (.cond (.t 23) (.seq (.ops false [.m 24 (.t 8),.m 4 .fa,.m 5 (.t 24)])
 .ret) .skip)))
 (.fg [3,7] (.seq (.ops false [.m 26 (.t 7),.u 27 (.fa 0 (.t 3)),.u 28 (.ld none 3 true (.t 27)),.u 29 (.fa 3 (.t 3)),.u 30 (.ld none 3 true (.t 29)),.u 31 (.call f2 [(.t 26),(.t 28),(.t 30)]),.m 25 (.t 31),.u 32 (.ext 0 (.t 25)),.u 33 (.ext 1 (.t 25)),.u 9 (.alloc [(.lit (.bool false)),.emp,.emp]),.n (.st none 3 (.t 9) (.t 32)),.m 8 (.t 33)])
 (.fg [8,9] (.seq (.ops false [.m 34 (.t 8),.u 35 (.binn .eql (.t 34) (.c (.one (.lit .nilIface)))),.m 36 (.t 35),.w 37 36 true (.ld none 3 true (.t 9)),.w 38 36 true (.call f3 [(.t 37)]),.w 39 36 true (.bin .eql (.t 38) (.i 0)),.u 40 (.pick (.t 36) (.t 39) .fa),.m 41 (.t 8),.m 4 (.t 40),.m 5 (.t 41)])
 .ret)))))))))))
def Uj(f0 f1 f2 f3:Nat):AC:=(.seq (.ops false [.u 3 (.box 27 (.t 0)),.u 4 (.box 6 (.t 1)),.u 5 (.box 6 (.t 2)),.u 6 (.alloc [(.lit (.bool false)),.emp,.emp,(.lit (.bool false)),.emp,.emp]),.m 7 (.c (.one (.lit .nilIface)))])
 (.fg [3,4,5,6] (.seq (.seq (.ops false [.u 9 (.ld none 27 true (.t 3)),.u 10 (.ld none 6 true (.t 4)),.u 11 (.ld none 6 true (.t 5)),.u 12 (.row 6 [[.x 6 (.t 10)],[.x 6 (.t 11)]]),.u 13 (.call f0 [(.t 9),(.t 12)]),.m 8 (.t 13)])
 (.fg [3,4,5,6,8] (.seq (.ops false [.m 14 (.t 8),.u 15 (.binn .neq (.t 14) (.c (.one (.lit .nilIface))))])
 (.fg [3,4,5,6,8,15] (.cond (.t 15) (.seq (.ops false [.u 16 (.build [.z [(.lit (.bool false)),.emp,.emp,(.lit (.bool false)),.emp,.emp]]),.m 17 (.t 8),.n (.st none 6 (.t 6) (.t 16)),.m 7 (.t 17)])
 .ret) .skip)))))
 (.fg [3,4,5,6] (.seq (.ops true [.u 18 (.ld none 6 true (.t 4)),.u 19 (.ld none 6 true (.t 5)),.u 20 (.ld none 6 true (.t 4)),.u 21 (.call f1 [(.t 19),(.t 20)]),.u 22 (.fa 21 (.t 3)),.u 23 (.ld none 3 true (.t 22)),.u 24 (.fa 24 (.t 3)),.u 25 (.ld none 3 true (.t 24)),.u 26 (.call f2 [(.t 21),(.t 23),(.t 25)]),.u 27 (.call f3 [(.t 18),(.t 26)]),.n (.st none 6 (.t 6) (.t 27)),.m 7 (.c (.one (.lit .nilIface)))])
 .ret)))))
def Ze(f0 f1 f2:Nat):AC:=(.seq (.ops false [.u 3 (.box 27 (.t 0)),.u 4 (.box 6 (.t 1)),.u 5 (.box 6 (.t 2)),.m 6 .fa,.m 7 (.c (.one (.lit .nilIface)))])
 (.fg [3,4,5] (.seq (.seq (.ops false [.u 9 (.ld none 27 true (.t 3)),.u 10 (.ld none 6 true (.t 4)),.u 11 (.ld none 6 true (.t 5)),.u 12 (.row 6 [[.x 6 (.t 10)],[.x 6 (.t 11)]]),.u 13 (.call f0 [(.t 9),(.t 12)]),.m 8 (.t 13)])
 (.fg [3,4,5,8] (.seq (.ops false [.m 14 (.t 8),.u 15 (.binn .neq (.t 14) (.c (.one (.lit .nilIface))))])
 (.fg [3,4,5,8,15] (.cond (.t 15) (.seq (.ops false [.m 16 (.t 8),.m 6 .fa,.m 7 (.t 16)])
 .ret) .skip)))))
 (.fg [3,4,5] (.seq (.ops true [.u 17 (.ld none 6 true (.t 4)),.u 18 (.fa 0 (.t 3)),.u 19 (.ld none 6 true (.t 18)),.u 20 (.call f1 [(.t 17),(.t 19)]),.u 21 (.fa 12 (.t 3)),.u 22 (.ld none 3 true (.t 21)),.u 23 (.call f2 [(.t 20),(.t 22)]),.u 24 (.bin .eql (.t 23) (.i 0)),.m 25 (.t 24),.w 26 25 true (.ld none 6 true (.t 5)),.w 27 25 true (.fa 6 (.t 3)),.w 28 25 true (.ld none 6 true (.t 27)),.w 29 25 true (.call f1 [(.t 26),(.t 28)]),.w 30 25 true (.fa 18 (.t 3)),.w 31 25 true (.ld none 3 true (.t 30)),.w 32 25 true (.call f2 [(.t 29),(.t 31)]),.w 33 25 true (.bin .eql (.t 32) (.i 0)),.u 34 (.pick (.t 25) (.t 33) .fa),.m 35 (.t 34),.w 36 35 true (.ld none 6 true (.t 4)),.w 37 35 true (.ld none 6 true (.t 5)),.w 38 35 true (.call f1 [(.t 36),(.t 37)]),.w 39 35 true (.fa 15 (.t 3)),.w 40 35 true (.ld none 3 true (.t 39)),.w 41 35 true (.call f2 [(.t 38),(.t 40)]),.w 42 35 true (.bin .eql (.t 41) (.i 0)),.u 43 (.pick (.t 35) (.t 42) .fa),.m 6 (.t 43),.m 7 (.c (.one (.lit .nilIface)))])
 .ret)))))
set_option maxHeartbeats 2000000 in
theorem xaz(hΓ:Holds P Γ){f fk fb fm fs fo ft fl fn tE:Nat}(hk:Γ fk=.dat false (uA tE))(hb:Γ fb=.red yC)(hm:Γ fm=.red yy)(hs:Γ fs=.red Jz)(ho:Γ fo=.dat false ux)(ht:Γ ft=.dat false yi)(hl' : Γ fl=.red wn)(hn:Γ fn=.red VB)(hc:check P f=some (78,(zk fk fb fm fs fo ft fl fn).strip,[.tmp 2,.tmp 3])):Sound P f (.dat false (YC tE)):=by
 refine va hc (WaY tE) hΓ (λargs K hcl hfi hG=>?_);match args,hG with
 | [a],hG=>
  obtain⟨c,rfl,hw,hl,hK⟩:=hG;refine⟨by simp,?_⟩
  have hl2:cl c<=100000000:=Nat.le_trans hl (by decide)
  by_cases h0:cchk c=0
  .have e0:=Ua tE;rw [<-h0]at e0;rw [h0,wt,Ua]at hK;have hB:=kaP hw hl;have i4:((4:Int):Rat)=4:=rfl;have w4:=hw.2.2.2.1;have l4:rl c.2.2.2.1<=4294967296:=by unfold cl at hl;omega
   have z4:rz 4<=4294967296:=Nat.le_trans rz_4 (by decide)
   have z4c:=qbq hB;have eb:(cpv c).2.2.2.1=rv c.2.2.2.1:=rfl;rw [eb]at z4c;have z4b:=Nat.le_trans z4c (by decide:_<=1000000)
   have pe:=pb_e hB;have pf:=pb_f hB;obtain⟨a1,a2⟩:=uK hB;obtain⟨b1,b2⟩:=UK hB;have pm:=pb_m hB;have c1:=pe.canon;have c2:=pf.canon;have c3:=a1.canon;have c4:=a2.canon;have c5:=b1.canon;have c6:=b2.canon;have c7:=pm.canon;obtain⟨m1,m2⟩:=pe.mulok b2 (by decide) (by decide)
   obtain⟨m3,m4⟩:=pf.mulok a2 (by decide) (by decide)
   obtain⟨m5,m6⟩:=pf.mulok a1 (by decide) (by decide)
   obtain⟨m7,m8⟩:=pe.mulok b1 (by decide) (by decide)
   obtain⟨m9,m10⟩:=pm.mulok pm (by decide) (by decide)
   have t1:tri (1+1)=3:=rfl;have t2:tri (2+1)=6:=rfl;have M1:=pe.mul b2 (by decide)
   have M2:=pf.mul a2 (by decide)
   have M3:=pf.mul a1 (by decide)
   have M4:=pe.mul b1 (by decide)
   rw [t1,t2]at M1 M2 M3 M4;have s1:=Nat.le_trans (Nat.add_le_add M1.size M2.size) (by decide:_<=1000000000)
   have s2:=Nat.le_trans (Nat.add_le_add M3.size M4.size) (by decide:_<=1000000000)
   have k1:=M1.canon;have k2:=M2.canon;have k3:=M3.canon;have k4:=M4.canon;have pmm:PB 4 4704000 (mulB (cM (cpv c)) (cM (cpv c))):=Zbf hB;have k5:=pmm.canon;have s3:=Nat.le_trans pmm.size (by decide:_<=100000000)
   have px:PB 3 960000 (subB (mulB (cE (cpv c)) (cBe (cpv c)).2) (mulB (cF (cpv c)) (cAl (cpv c)).2)):=pb_x hB;have py:PB 3 960000 (subB (mulB (cF (cpv c)) (cAl (cpv c)).1) (mulB (cE (cpv c)) (cBe (cpv c)).1)):=pb_y hB;have k6:=And.intro px.canon py.canon;have n1:nOk (subB (mulB (cE (cpv c)) (cBe (cpv c)).2) (mulB (cF (cpv c)) (cAl (cpv c)).2),subB (mulB (cF (cpv c)) (cAl (cpv c)).1) (mulB (cE (cpv c)) (cBe (cpv c)).1)):=Ubt px py (by decide) (by decide)
   have pnn:PB 6 38400000 (nrmB (subB (mulB (cE (cpv c)) (cBe (cpv c)).2) (mulB (cF (cpv c)) (cAl (cpv c)).2),subB (mulB (cF (cpv c)) (cAl (cpv c)).1) (mulB (cE (cpv c)) (cBe (cpv c)).1))):=Xbm hB;have pla:=xbm hB;unfold cLa cMM at pla;rw [eb]at pla;have k7:=pnn.canon;have k8:=pla.canon;have s4:=Nat.le_trans (Nat.add_le_add pnn.size pla.size) (by decide:_<=1000000000)
   simp only [go_sem,zk,hk,hb,hm,hs,ho,ht,hl',hn,cpA,cpC,vb,Wb,i4,e0];repeat (first | (refine And.intro (by with_reducible assumption) ?_) | (refine And.intro (Nat.le_trans (by with_reducible assumption) (by decide)) ?_) | (refine And.intro (by decide) ?_))
   exact hK
  .have e0:=wb tE h0;rw [WF h0,e0]at hK;simp only [go_sem,zk,hk,cpA,cpC,vb,e0];repeat (first | (refine And.intro (by with_reducible assumption) ?_) | (refine And.intro (Nat.le_trans (by with_reducible assumption) (by decide)) ?_) | (refine And.intro (by decide) ?_))
   exact hK
theorem UaB(hΓ:Holds P Γ){f fk fv fe fg tE:Nat}(hk:Γ fk=.dat false (qs tE))(hv:Γ fv=.dat false (YC tE))(he:Γ fe=.dat false (uw tE))(hg:Γ fg=.dat true Zm)(hc:check P f=some (42,(Jp fk fv fe fg).strip,[.tmp 4,.tmp 5])):Sound P f (.dat false (UE tE)):=by
 refine va hc (Xa0 tE) hΓ (λargs K hcl hfi hG=>?_);match args,hG with
 | [a,b],hG=>
  obtain⟨c,rfl,hw,⟨x,y⟩,rfl,hwp,hl,hlp,hK⟩:=hG;refine⟨by simp,?_⟩
  have hl2:cl c<=100000000:=Nat.le_trans hl (by decide)
  have hl1:=Nat.max_le.1 hlp;have lx:=hl1.1;have ly:=hl1.2;have wx:=hwp.1;have wy:=hwp.2;simp only at lx ly wx wy;have hwl:∀q∈[(x,y)],WLA q:=λq hq=>by rw [List.mem_singleton.1 hq];exact hwp
  have hok:okAs 100000000 [(x,y)]:=λq hq=>by rw [List.mem_singleton.1 hq];exact⟨hwp,Nat.le_trans hlp (by decide)⟩
  by_cases h0:cchk2 c [(x,y)]=0
  .have e0:=Ua tE;obtain⟨h1,h2⟩:=Xbh h0;rw [h0,Ua]at hK;have hB:=kaP hw hl;have pc:=Wbv hB;have cc:=QD pc.canon;have ev0:=Zbt hB (av (x,y));have i0:=Yy pc.canon.ins;have i1:=zH (p:=cCur (cpv c)) (N:=1000000000) (Nat.le_trans pc.size (by decide))
   have i2:=Nat.le_trans pc.size (by decide:_<=100000000)
   have i3:ev (cCur (cpv c)) (rv x) (rv y)=wV (cpv c) (av (x,y)):=ev0;have z:=kbz pc.canon.ins (rv x) (rv y);have z1:=UX pc.canon;have z2:=Wd wx;have z3:=Wd wy;have z4:rz (wV (cpv c) (av (x,y)))<=4294967296:=by
    rw [i3]at z;have z5:=pc.size;have z6:(cCur (cpv c)).length*(24*(rz (rv x)+2)+24*(rz (rv y)+2)+8)<=325*(24*(10000+2)+24*(10000+2)+8):=Nat.mul_le_mul z1 (by omega)
    omega
   have g0:decide (0=0)=true:=rfl;rw [g0,Bool.true_and]at hK;simp only [go_sem,Jp,hk,hv,he,hg,cpA,cpC,vb,Zd,h0,h1,e0,wt,xB,cc,i3,Wb,ubg];repeat (first | (refine And.intro (by with_reducible assumption) ?_) | (refine And.intro (Nat.le_trans (by with_reducible assumption) (by decide)) ?_) | (refine And.intro (by decide) ?_))
   exact hK
  .have e0:=wb tE h0;rw [e0,decide_eq_false h0,Bool.false_and]at hK;simp only [go_sem,Jp,hk,hv,he,hg,cpA,cpC,vb,Zd,e0];repeat (first | (refine And.intro (by with_reducible assumption) ?_) | (refine And.intro (Nat.le_trans (by with_reducible assumption) (by decide)) ?_) | (refine And.intro (by decide) ?_))
   exact hK
theorem uax(hΓ:Holds P Γ){f fk fs ft fa tE:Nat}(hk:Γ fk=.dat false (qs tE))(hs:Γ fs=.dat false Wg)(ht:Γ ft=.dat false vV)(ha:Γ fa=.dat false Qn)(hc:check P f=some (28,(Uj fk fs ft fa).strip,[.cell 6 6 true,.tmp 7])):Sound P f (.dat false (XD tE)):=by
 refine va hc (xaW tE) hΓ (λargs K hcl hfi hG=>?_);match args,hG with
 | [a,b,d],hG=>
  obtain⟨c,rfl,hw,p,rfl,wp,q,rfl,wq,hl,hlp,hlq,hK⟩:=hG;refine⟨by simp,?_⟩
  have hl2:cl c<=100000000:=Nat.le_trans hl (by decide)
  have hlp2:al p<=100000000:=Nat.le_trans hlp (by decide)
  have hlq2:al q<=100000000:=Nat.le_trans hlq (by decide)
  have wu:=hw.2.2.2.2.2.1;have wv:=hw.2.2.2.2.2.2;have lu:rl c.2.2.2.2.2.1<=100000000:=by unfold cl at hl;omega
  have lv:rl c.2.2.2.2.2.2<=100000000:=by unfold cl at hl;omega
  have hwl:∀z∈[p,q],WLA z:=λz hz=>by
   simp only [List.mem_cons,List.not_mem_nil,or_false]at hz;rcases hz with rfl | rfl <;> assumption
  have hok:okAs 100000000 [p,q]:=λz hz=>by
   simp only [List.mem_cons,List.not_mem_nil,or_false]at hz;rcases hz with rfl | rfl
   .exact⟨wp,hlp2⟩
   .exact⟨wq,hlq2⟩
  by_cases h0:cchk2 c [p,q]=0
  .have e0:=Ua tE;rw [if_pos h0,h0,Ua]at hK;have z1:=Vq wp;have z2:=Vq wq;have z3:=Qs (av q) (av p);have z4:=Wd wu;have z5:=Wd wv;have z6:al (rcan (subQ (av q) (av p)).1,rcan (subQ (av q) (av p)).2)<=100000000:=by rw [W8];change zq _<=_;omega
   have z7:=zbp (subQ (av q) (av p)) (rv c.2.2.2.2.2.1) (rv c.2.2.2.2.2.2);have z8:al (rcan (timQ (subQ (av q) (av p)) (rv c.2.2.2.2.2.1) (rv c.2.2.2.2.2.2)).1,rcan (timQ (subQ (av q) (av p)) (rv c.2.2.2.2.2.1) (rv c.2.2.2.2.2.2)).2)<=100000000:=by rw [W8];change zq _<=_;unfold cl at hl;omega
   simp only [go_sem,Uj,hk,hs,ht,ha,cpA,cpC,vb,Zd,h0,e0,Ja4];repeat (first | (refine And.intro (by with_reducible assumption) ?_) | (refine And.intro (Nat.le_trans (by with_reducible assumption) (by decide)) ?_) | (refine And.intro (by decide) ?_))
   exact hK
  .have e0:=wb tE h0;rw [if_neg h0,e0,xaf,Yb]at hK;simp only [go_sem,Uj,hk,hs,ht,ha,cpA,cpC,vb,Zd,e0];repeat (first | (refine And.intro (by with_reducible assumption) ?_) | (refine And.intro (Nat.le_trans (by with_reducible assumption) (by decide)) ?_) | (refine And.intro (by decide) ?_))
   exact hK
theorem VaE(hΓ:Holds P Γ){f fk fd fq tE:Nat}(hk:Γ fk=.dat false (qs tE))(hd:Γ fd=.dat false zD)(hq' : Γ fq=.dat true Zk)(hc:check P f=some (44,(Ze fk fd fq).strip,[.tmp 6,.tmp 7])):Sound P f (.dat false (yD tE)):=by
 refine va hc (VaK tE) hΓ (λargs K hcl hfi hG=>?_);match args,hG with
 | [a,b,d],hG=>
  obtain⟨c,rfl,hw,p,rfl,wp,q,rfl,wq,hl,hlp,hlq,hK⟩:=hG;refine⟨by simp,?_⟩
  have hl2:cl c<=100000000:=Nat.le_trans hl (by decide)
  have hlp2:al p<=100000000:=Nat.le_trans hlp (by decide)
  have hlq2:al q<=100000000:=Nat.le_trans hlq (by decide)
  have hlp3:al p<=10000000:=Nat.le_trans hlp (by decide)
  have hlq3:al q<=10000000:=Nat.le_trans hlq (by decide)
  obtain⟨wo,wQ,w1,w2,w3,w4,w5⟩:=id hw;have lo:al c.1<=10000000:=by unfold cl at hl;omega
  have lq:al c.2.1<=10000000:=by unfold cl at hl;omega
  have l1:rl c.2.2.1<=1073741824:=by unfold cl at hl;omega
  have l2:rl c.2.2.2.1<=1073741824:=by unfold cl at hl;omega
  have l3:rl c.2.2.2.2.1<=1073741824:=by unfold cl at hl;omega
  have hwl:∀z∈[p,q],WLA z:=λz hz=>by
   simp only [List.mem_cons,List.not_mem_nil,or_false]at hz;rcases hz with rfl | rfl <;> assumption
  have hok:okAs 100000000 [p,q]:=λz hz=>by
   simp only [List.mem_cons,List.not_mem_nil,or_false]at hz;rcases hz with rfl | rfl
   .exact⟨wp,hlp2⟩
   .exact⟨wq,hlq2⟩
  by_cases h0:cchk2 c [p,q]=0
  .have e0:=Ua tE;have g0:decide (0=0)=true:=rfl;rw [h0,Ua,g0,Bool.true_and]at hK;have d1:=zq_d (av p) (av c.1);have d2:=zq_d (av q) (av c.2.1);have d3:=zq_d (av p) (av q);have a1:=Vq wp;have a2:=Vq wq;have a3:=Vq wo;have a4:=Vq wQ;have r1:rz (sqQ (subQ (av p) (av c.1)))<=1073741824:=by omega
   have r2:rz (sqQ (subQ (av q) (av c.2.1)))<=1073741824:=by omega
   have r3:rz (sqQ (subQ (av p) (av q)))<=1073741824:=by omega
   have r4:rz (rv c.2.2.1)<=1073741824:=Nat.le_trans (Wd w1) l1;have r5:rz (rv c.2.2.2.2.1)<=1073741824:=Nat.le_trans (Wd w3) l3;have hh:hldQ (cpv c) (av p) (av q)=(sqQ (subQ (av p) (av c.1))=rv c.2.2.1/\sqQ (subQ (av q) (av c.2.1))=rv c.2.2.2.2.1/\sqQ (subQ (av p) (av q))=rv c.2.2.2.1):=rfl;simp only [hh,Bool.decide_and]at hK;by_cases k1:sqQ (subQ (av p) (av c.1))=rv c.2.2.1
   .by_cases k2:sqQ (subQ (av q) (av c.2.1))=rv c.2.2.2.2.1
    .rw [decide_eq_true k1,decide_eq_true k2,Bool.true_and,Bool.true_and]at hK;simp only [go_sem,Ze,hk,hd,hq',cpA,cpC,vb,Zd,h0,e0,Wb,waQ,k1,k2];repeat (first | (refine And.intro (by with_reducible assumption) ?_) | (refine And.intro (Nat.le_trans (by with_reducible assumption) (by decide)) ?_) | (refine And.intro (by decide) ?_))
     exact hK
    .rw [decide_eq_true k1,decide_eq_false k2,Bool.true_and,Bool.false_and]at hK;simp only [go_sem,Ze,hk,hd,hq',cpA,cpC,vb,Zd,h0,e0,Wb,waQ,k1,k2];repeat (first | (refine And.intro (by with_reducible assumption) ?_) | (refine And.intro (Nat.le_trans (by with_reducible assumption) (by decide)) ?_) | (refine And.intro (by decide) ?_))
     exact hK
   .rw [decide_eq_false k1,Bool.false_and]at hK;simp only [go_sem,Ze,hk,hd,hq',cpA,cpC,vb,Zd,h0,e0,Wb,waQ,k1];repeat (first | (refine And.intro (by with_reducible assumption) ?_) | (refine And.intro (Nat.le_trans (by with_reducible assumption) (by decide)) ?_) | (refine And.intro (by decide) ?_))
    exact hK
  .have e0:=wb tE h0;rw [e0,decide_eq_false h0,Bool.false_and]at hK;simp only [go_sem,Ze,hk,hd,hq',cpA,cpC,vb,Zd,e0];repeat (first | (refine And.intro (by with_reducible assumption) ?_) | (refine And.intro (Nat.le_trans (by with_reducible assumption) (by decide)) ?_) | (refine And.intro (by decide) ?_))
   exact hK
end Go.Abs
end
section
namespace Go.Abs
open Go.Num
variable {P:Program} {Γ:Nat->Spec}
def Zs:AC:=(.seq (.ops false [.m 2 (.c (.one .emp))])
 (.fg [0] (.seq (.ops false [.m 4 (.t 0),.u 5 (.len (.t 4)),.m 3 (.t 5)])
 (.fg [0,3] (.seq (.block 0 (.loop (.seq (.seq (.ops false [.m 6 (.t 3),.u 7 (.bin .gtr (.t 6) (.i 0)),.m 8 (.t 7),.w 9 8 true (.mv (.t 0)),.w 10 8 true (.mv (.t 3)),.w 11 8 true (.bin .sub (.t 10) (.i 1)),.w 12 8 true (.idx 1 (.t 9) (.t 11)),.w 13 8 true (.ld none 1 false (.t 12)),.w 14 8 true (.bin .eql (.t 13) (.c (.one (.lit (.int .u32 0))))),.u 15 (.pick (.t 8) (.t 14) .fa)])
 (.fg [0,3,15] (.cond (.t 15) .skip (.exit 0))))
 (.fg [0,3] (.block 1 (.ops false [.m 16 (.t 3),.u 17 (.bin .sub (.t 16) (.i 1)),.m 3 (.t 17)]))))))
 (.fg [0,3] (.seq (.seq (.ops false [.m 18 (.t 3),.u 19 (.bin .eql (.t 18) (.i 0))])
 (.fg [0,3,19] (.cond (.t 19) (.seq (.ops false [.m 2 (.c (.one .emp))])
 .ret) .skip)))
 (.fg [0,3] (.seq (.ops false [.m 20 (.c (.one .emp)),.m 21 (.t 0),.m 22 (.t 3),.u 23 (.sl 1 (.t 21) none (some (.t 22))),.u 24 (.app0 1 (.t 20) (.t 23)),.m 2 (.t 24)])
 .ret)))))))))
def xl:AC:=(.seq (.ops false [.m 4 (.c (.one (.lit (.int .u64 0))))])
 (.fg [0,1] (.seq (.seq (.ops false [.m 5 (.t 1),.m 6 (.t 0),.u 7 (.len (.t 6)),.u 8 (.bin .lss (.t 5) (.t 7))])
 (.fg [0,1,8] (.cond (.t 8) (.seq (.ops false [.m 9 (.t 0),.m 10 (.t 1),.u 11 (.idx 1 (.t 9) (.t 10)),.u 12 (.ld none 1 false (.t 11)),.u 13 (.conv .u64 (.t 12)),.m 4 (.t 13)])
 .ret) .skip)))
 (.fg [] (.seq (.ops false [.m 4 (.c (.one (.lit (.int .u64 0))))])
 .ret)))))
def xr(f0 f1:Nat):AC:=(.seq (.ops false [.m 4 (.c (.one .emp))])
 (.fg [0,1] (.seq (.ops false [.m 8 (.t 0),.u 9 (.len (.t 8)),.m 10 (.t 1),.u 11 (.len (.t 10)),.u 12 (.max [(.t 9),(.t 11)]),.u 13 (.bin .add (.t 12) (.i 1)),.u 14 (.mk 1 [(.lit (.int .u32 0))] (.t 13) (.t 13)),.m 5 (.t 14)])
 (.fg [0,1,5] (.seq (.ops false [.m 6 (.c (.one (.lit (.int .u64 0))))])
 (.fg [0,1,5,6] (.seq (.seq (.ops false [.m 15 (.t 5),.u 16 (.len (.t 15)),.m 17 (.i 0)])
 (.fg [0,1,5,6,16,17] (.block 0 (.loop (.seq (.ops false [.u 18 (.bin .lss (.t 17) (.t 16))])
 (.fg [0,1,5,6,16,17,18] (.seq (.cond (.t 18) .skip (.exit 0))
 (.fg [0,1,5,6,16,17] (.seq (.block 1 (.seq (.ops false [.m 19 (.t 17),.m 7 (.t 19)])
 (.fg [0,1,5,6,7,16,17] (.seq (.ops false [.m 20 (.t 6),.m 21 (.t 0),.m 22 (.t 7),.u 23 (.call f0 [(.t 21),(.t 22)]),.m 24 (.t 1),.m 25 (.t 7),.u 26 (.call f0 [(.t 24),(.t 25)]),.u 27 (.bin .add (.t 23) (.t 26)),.u 28 (.bin .add (.t 20) (.t 27)),.m 6 (.t 28)])
 (.fg [0,1,5,6,7,16,17] (.seq (.ops false [.m 29 (.t 5),.m 30 (.t 7),.m 31 (.t 6),.u 32 (.conv .u32 (.t 31)),.u 33 (.idx 1 (.t 29) (.t 30)),.n (.st none 1 (.t 33) (.t 32))])
 (.fg [0,1,5,6,16,17] (.ops false [.m 34 (.t 6),.u 35 (.bin .shr (.t 34) (.c (.one (.lit (.int .u64 32))))),.m 6 (.t 35)]))))))))
 (.fg [0,1,5,6,16,17] (.ops false [.u 36 (.bin .add (.t 17) (.i 1)),.m 17 (.t 36)])))))))))))
 (.fg [5] (.seq (.ops false [.m 37 (.t 5),.u 38 (.call f1 [(.t 37)]),.m 4 (.t 38)])
 .ret)))))))))
theorem Xaz(hΓ:Holds P Γ){f:Nat}(hc:check P f=some (25,Zs.strip,[.tmp 2])):Sound P f (.dat false vr):=by
 refine va hc XaK hΓ (λargs K hcl hfi hG=>?_);match args,hG with
 | [a],hG=>
  obtain⟨l,rfl,hl,hlen,hK⟩:=hG;refine⟨by simp,?_⟩
  simp only [go_sem,Zs];intro hmax;refine wa (λn:Nat=>⟨mkV [(0,wsA l),(3,.one (.lit (.int .i64 n)))],mkH []⟩) (λn=>n<=l.length/\val (l.take n)=val l) id l.length ?_ ?_ ?_
  .exact Qa (by simp [okS,okV,okC,okL,okH,okB,okE,Za,ja,za,Ja,wsA,ws]) trivial
  .simp
  .rintro n ⟨hn,ht⟩;simp only [go_sem];refine⟨λh=>⟨by omega,by omega,by omega,λh0=>⟨by omega,n-1,Qa (by simp [okS,okV,okC,okL,okH,okB,okE,Za,ja,za,Ja,wsA,ws];omega) trivial,⟨by omega,?_⟩,?_⟩,λh0=>⟨λh1=>by omega,λ_=>⟨by omega,by simp;omega,?_⟩⟩⟩,λh=>⟨λh1=>?_,λh1=>by omega⟩⟩
   .rw [show((n:Int)-1).toNat=n-1 by omega]at h0
    have:=Ub l (n-1);rw [show n-1+1=n by omega,h0,Nat.mul_zero,Nat.add_zero]at this
    rw [<-this];exact ht
   .simp only [id];omega
   .rw [show((n:Int)-1).toNat=n-1 by omega]at h0
    have:=xg (Ww hl n) (YK h hn h0);rw [<-this,ht];exact hK
   .subst h1;have:val l=0:=by rw [<-ht];simp [val]
    rw [this,yb]at hK;exact hK
theorem kQ(hΓ:Holds P Γ){f:Nat}(hc:check P f=some (14,xl.strip,[.tmp 4])):Sound P f (.dat true Yk):=by
 refine va hc uaF hΓ (λargs K hcl hfi hG=>?_);match args,hG with
 | [a,b],hG=>
  obtain⟨l,rfl,hl,hG⟩:=hG;obtain⟨k,i,rfl,rfl,hi,hK⟩:=Vb hG;refine⟨by simp,?_⟩
  simp only [go_sem,xl];intro hmax;refine⟨λh=>⟨hi,by omega,?_⟩,λh=>?_⟩
  .have:=ub hl i.toNat;rw [Nat.mod_eq_of_lt (by omega)];exact hK
  .rw [List.getD_eq_getElem?_getD,List.getElem?_eq_none (by omega)]at hK;exact hK
theorem yaD(hΓ:Holds P Γ){f fw ft:Nat}(hw:Γ fw=.dat true Yk)(ht:Γ ft=.dat false vr)(hc:check P f=some (39,(xr fw ft).strip,[.tmp 4])):Sound P f (.dat false qt):=by
 refine va hc wW hΓ (λargs K hcl hfi hG=>?_);match args,hG with
 | [a,b],hG=>
  obtain⟨x,rfl,hx,y,rfl,hy,hxl,hyl,hK⟩:=hG;refine⟨by simp,?_⟩
  simp only [go_sem,xr,hw,ht];intro h1 h2;refine⟨by omega,by omega,λhN=>?_⟩
  generalize hNN:max x.length y.length+1=N at hN;refine wa (λp:List Nat×Nat=>⟨mkV [(0,wsA x),(1,wsA y),(5,.one (.own 14 1 1 0 N)),(6,.one (.lit (.int .u64 p.2))),(16,.one (.lit (.int .i64 N))),(17,.one (.lit (.int .i64 p.1.length)))],mkH [(14,⟨1,some ⟨(p.1++List.replicate (N-p.1.length) 0).map wc,1,true⟩⟩)]⟩)
   (λp=>p.1.length<=N/\WL p.1/\p.2<=1/\val p.1+4294967296 ^ p.1.length*p.2=val (x.take p.1.length)+val (y.take p.1.length)) (λp=>N-p.1.length) ([],0) ?_ ?_ ?_
  .exact Qa (by simp [okS,okV,okC,okL,okH,okB,okE,Za,ja,za,Ja,wsA,ws]) (xh (by simp))
  .simp [vc,val]
  .rintro⟨o,c⟩ ⟨hoN,ho,hc1,hval⟩;simp only at hoN ho hc1 hval;have hlen:(o++List.replicate (N-o.length) 0).length=N:=by simp;omega
   simp only [go_sem,hw,ht,hlen];refine⟨λhlt=>⟨hx,hy,hlt,hlt,by omega,by omega,?_⟩,λhge=>?_⟩
   .have g1:=ub hx o.length;have g2:=ub hy o.length;rw [Nat.mod_eq_of_lt (show x.getD o.length 0+y.getD o.length 0<18446744073709551616 by omega),Nat.mod_eq_of_lt (show c+(x.getD o.length 0+y.getD o.length 0)<18446744073709551616 by omega)]
    generalize hs:c+(x.getD o.length 0+y.getD o.length 0)=s;refine⟨(o++[s % 4294967296],s / 4294967296),Qa (by simp [okS,okV,okC,okL,okH,okB,okE,Za,ja,za,Ja,wsA,ws]) (xh ?_),⟨by simp;omega,Ve.2 ⟨ho,Jc.2 ⟨Nat.mod_lt _ (by omega),vc⟩⟩,by simp only;omega,?_⟩,by simp;omega⟩
    .rw [show N-o.length=N-(o.length+1)+1 by omega,Xad];simp
    .simp only [List.length_append,List.length_cons,List.length_nil,Nat.zero_add,Ub,jc,qi,Wm,Nat.mul_zero,Nat.add_zero,Nat.pow_succ];rw [Nat.mul_assoc,Nat.add_assoc,<-Nat.mul_add,Nat.mod_add_div,<-hs,Nat.mul_add,<-Nat.add_assoc,hval,Nat.mul_add];omega
   .have e:o.length=N:=by omega
    simp only [e,Nat.sub_self,List.replicate_zero,List.append_nil,Nat.le_refl,if_true,kG];have hv:val o=val x+val y:=by
     rw [e,yj (by omega),yj (by omega)]at hval
     exact kao hx hy (by omega) (by omega) (by omega) hval
    refine⟨ho,by omega,?_⟩
    rw [hv];exact hK
end Go.Abs
end
section
namespace Go.Abs
open Go.Num
variable {P:Program} {Γ:Nat->Spec}
def Wr(f0 f1:Nat):AC:=(.seq (.ops false [.m 4 (.c (.one .emp))])
 (.fg [0,1] (.seq (.ops false [.m 9 (.t 0),.u 10 (.len (.t 9)),.u 11 (.mk 1 [(.lit (.int .u32 0))] (.t 10) (.t 10)),.m 5 (.t 11)])
 (.fg [0,1,5] (.seq (.ops false [.m 6 (.c (.one (.lit (.int .u64 0))))])
 (.fg [0,1,5,6] (.seq (.seq (.ops false [.m 12 (.t 5),.u 13 (.len (.t 12)),.m 14 (.i 0)])
 (.fg [0,1,5,6,13,14] (.block 0 (.loop (.seq (.ops false [.u 15 (.bin .lss (.t 14) (.t 13))])
 (.fg [0,1,5,6,13,14,15] (.seq (.cond (.t 15) .skip (.exit 0))
 (.fg [0,1,5,6,13,14] (.seq (.block 1 (.seq (.ops false [.m 16 (.t 14),.m 7 (.t 16)])
 (.fg [0,1,5,6,7,13,14] (.seq (.ops true [.m 17 (.t 0),.m 18 (.t 7),.u 19 (.idx 1 (.t 17) (.t 18)),.u 20 (.ld none 1 false (.t 19)),.u 21 (.conv .u64 (.t 20)),.m 22 (.t 1),.m 23 (.t 7),.u 24 (.call f0 [(.t 22),(.t 23)]),.u 25 (.bin .sub (.t 21) (.t 24)),.m 26 (.t 6),.u 27 (.bin .sub (.t 25) (.t 26)),.m 8 (.t 27)])
 (.fg [0,1,5,7,8,13,14] (.seq (.ops false [.m 28 (.t 5),.m 29 (.t 7),.m 30 (.t 8),.u 31 (.conv .u32 (.t 30)),.u 32 (.idx 1 (.t 28) (.t 29)),.n (.st none 1 (.t 32) (.t 31))])
 (.fg [0,1,5,8,13,14] (.ops false [.m 33 (.t 8),.u 34 (.bin .shr (.t 33) (.c (.one (.lit (.int .u64 63))))),.m 6 (.t 34)]))))))))
 (.fg [0,1,5,6,13,14] (.ops false [.u 35 (.bin .add (.t 14) (.i 1)),.m 14 (.t 35)])))))))))))
 (.fg [5] (.seq (.ops false [.m 36 (.t 5),.u 37 (.call f1 [(.t 36)]),.m 4 (.t 37)])
 .ret)))))))))
def jm:AC:=(.seq (.ops false [.m 4 (.i 0)])
 (.fg [0,1] (.seq (.seq (.ops false [.m 6 (.t 0),.u 7 (.len (.t 6)),.m 8 (.t 1),.u 9 (.len (.t 8)),.u 10 (.bin .neq (.t 7) (.t 9))])
 (.fg [0,1,10] (.cond (.t 10) (.seq (.seq (.ops false [.m 11 (.t 0),.u 12 (.len (.t 11)),.m 13 (.t 1),.u 14 (.len (.t 13)),.u 15 (.bin .lss (.t 12) (.t 14))])
 (.fg [15] (.cond (.t 15) (.seq (.ops false [.m 4 (.i (-1))])
 .ret) .skip)))
 (.fg [] (.seq (.ops false [.m 4 (.i 1)])
 .ret))) .skip)))
 (.fg [0,1] (.seq (.seq (.ops false [.m 16 (.t 0),.u 17 (.len (.t 16)),.u 18 (.bin .sub (.t 17) (.i 1)),.m 5 (.t 18)])
 (.fg [0,1,5] (.block 0 (.loop (.seq (.seq (.ops false [.m 19 (.t 5),.u 20 (.bin .geq (.t 19) (.i 0))])
 (.fg [0,1,5,20] (.cond (.t 20) .skip (.exit 0))))
 (.fg [0,1,5] (.seq (.block 1 (.seq (.ops true [.m 23 (.t 0),.m 24 (.t 5),.u 25 (.idx 1 (.t 23) (.t 24)),.u 26 (.ld none 1 false (.t 25)),.m 27 (.t 1),.m 28 (.t 5),.u 29 (.idx 1 (.t 27) (.t 28)),.u 30 (.ld none 1 false (.t 29)),.u 31 (.bin .neq (.t 26) (.t 30))])
 (.fg [0,1,5,31] (.cond (.t 31) (.seq (.seq (.ops true [.m 32 (.t 0),.m 33 (.t 5),.u 34 (.idx 1 (.t 32) (.t 33)),.u 35 (.ld none 1 false (.t 34)),.m 36 (.t 1),.m 37 (.t 5),.u 38 (.idx 1 (.t 36) (.t 37)),.u 39 (.ld none 1 false (.t 38)),.u 40 (.bin .lss (.t 35) (.t 39))])
 (.fg [40] (.cond (.t 40) (.seq (.ops false [.m 4 (.i (-1))])
 .ret) .skip)))
 (.fg [] (.seq (.ops false [.m 4 (.i 1)])
 .ret))) .skip))))
 (.fg [0,1,5] (.ops false [.m 21 (.t 5),.u 22 (.bin .sub (.t 21) (.i 1)),.m 5 (.t 22)])))))))))
 (.fg [] (.seq (.ops false [.m 4 (.i 0)])
 .ret)))))))
def Uo(f0:Nat):AC:=(.seq (.ops false [.m 4 (.c (.one .emp)),.m 5 (.c (.one (.lit (.int .u32 0))))])
 (.fg [0,1] (.seq (.ops false [.m 9 (.t 0),.u 10 (.len (.t 9)),.u 11 (.mk 1 [(.lit (.int .u32 0))] (.t 10) (.t 10)),.m 6 (.t 11)])
 (.fg [0,1,6] (.seq (.ops false [.m 7 (.c (.one (.lit (.int .u64 0))))])
 (.fg [0,1,6,7] (.seq (.seq (.ops false [.m 12 (.t 0),.u 13 (.len (.t 12)),.u 14 (.bin .sub (.t 13) (.i 1)),.m 8 (.t 14)])
 (.fg [0,1,6,7,8] (.block 0 (.loop (.seq (.seq (.ops false [.m 15 (.t 8),.u 16 (.bin .geq (.t 15) (.i 0))])
 (.fg [0,1,6,7,8,16] (.cond (.t 16) .skip (.exit 0))))
 (.fg [0,1,6,7,8] (.seq (.block 1 (.seq (.ops false [.m 19 (.t 7),.u 20 (.bin .shl (.t 19) (.c (.one (.lit (.int .u64 32))))),.m 21 (.t 0),.m 22 (.t 8),.u 23 (.idx 1 (.t 21) (.t 22)),.u 24 (.ld none 1 false (.t 23)),.u 25 (.conv .u64 (.t 24)),.u 26 (.bin .or (.t 20) (.t 25)),.m 7 (.t 26)])
 (.fg [0,1,6,7,8] (.seq (.ops false [.m 27 (.t 6),.m 28 (.t 8),.m 29 (.t 7),.m 30 (.t 1),.u 31 (.conv .u64 (.t 30)),.u 32 (.bin .quo (.t 29) (.t 31)),.u 33 (.conv .u32 (.t 32)),.u 34 (.idx 1 (.t 27) (.t 28)),.n (.st none 1 (.t 34) (.t 33))])
 (.fg [0,1,6,7,8] (.ops false [.m 35 (.t 7),.m 36 (.t 1),.u 37 (.conv .u64 (.t 36)),.u 38 (.bin .rem (.t 35) (.t 37)),.m 7 (.t 38)]))))))
 (.fg [0,1,6,7,8] (.ops false [.m 17 (.t 8),.u 18 (.bin .sub (.t 17) (.i 1)),.m 8 (.t 18)])))))))))
 (.fg [6,7] (.seq (.ops false [.m 39 (.t 6),.u 40 (.call f0 [(.t 39)]),.m 41 (.t 7),.u 42 (.conv .u32 (.t 41)),.m 4 (.t 40),.m 5 (.t 42)])
 .ret)))))))))
theorem YaB(hΓ:Holds P Γ){f fw ft:Nat}(hw:Γ fw=.dat true Yk)(ht:Γ ft=.dat false vr)(hc:check P f=some (38,(Wr fw ft).strip,[.tmp 4])):Sound P f (.dat false Yt):=by
 refine va hc Z8 hΓ (λargs K hcl hfi hG=>?_);match args,hG with
 | [a,b],hG=>
  obtain⟨x,rfl,hx,y,rfl,hy,hxl,hle,hK⟩:=hG;refine⟨by simp,?_⟩
  simp only [go_sem,Wr,hw,ht];intro h1;refine⟨by omega,λ_=>?_⟩
  generalize hN:x.length=N at h1 hxl;refine wa (λp:List Nat×Nat=>⟨mkV [(0,wsA x),(1,wsA y),(5,.one (.own 11 1 1 0 N)),(6,.one (.lit (.int .u64 p.2))),(13,.one (.lit (.int .i64 N))),(14,.one (.lit (.int .i64 p.1.length)))],mkH [(11,⟨1,some ⟨(p.1++List.replicate (N-p.1.length) 0).map wc,1,true⟩⟩)]⟩)
   (λp=>p.1.length<=N/\WL p.1/\p.2<=1/\val p.1+val (y.take p.1.length)=val (x.take p.1.length)+4294967296 ^ p.1.length*p.2) (λp=>N-p.1.length) ([],0) ?_ ?_ ?_
  .exact Qa (by simp [okS,okV,okC,okL,okH,okB,okE,Za,ja,za,Ja,wsA,ws]) (xh (by simp))
  .simp [vc,val]
  .rintro⟨o,c⟩ ⟨hoN,ho,hc1,hval⟩;simp only at hoN ho hc1 hval;have hlen:(o++List.replicate (N-o.length) 0).length=N:=by simp;omega
   simp only [go_sem,hw,ht,hlen];refine⟨λhlt=>⟨by omega,hy,hlt,hlt,by omega,by omega,?_⟩,λhge=>?_⟩
   .have g1:=ub hx o.length;have g2:=ub hy o.length;rw [Nat.mod_eq_of_lt (show x.getD o.length 0<18446744073709551616 by omega)]
    obtain⟨s1,s2⟩:=yan g1 g2 hc1;generalize sub64 (sub64 (x.getD o.length 0) (y.getD o.length 0)) c=s at s1 s2;refine⟨(o++[s % 4294967296],s / 9223372036854775808),Qa (by simp [okS,okV,okC,okL,okH,okB,okE,Za,ja,za,Ja,wsA,ws]) (xh ?_),⟨by simp;omega,Ve.2 ⟨ho,Jc.2 ⟨Nat.mod_lt _ (by omega),vc⟩⟩,s2,?_⟩,by simp;omega⟩
    .rw [show N-o.length=N-(o.length+1)+1 by omega,Xad];simp
    .simp only [List.length_append,List.length_cons,List.length_nil,Nat.zero_add,Ub,jc,qi,Wm,Nat.mul_zero,Nat.add_zero,Nat.pow_succ];exact qI hval s1
   .have e:o.length=N:=by omega
    have hv:=jH ho hx (by omega) hle hval
    simp only [e,Nat.sub_self,List.replicate_zero,List.append_nil];refine⟨ho,by omega,?_⟩
    rw [hv];exact hK
theorem uS(hΓ:Holds P Γ){f:Nat}(hc:check P f=some (41,jm.strip,[.tmp 4])):Sound P f (.dat false Ug):=by
 refine va hc Q1 hΓ (λargs K hcl hfi hG=>?_);match args,hG with
 | [a,b],hG=>
  obtain⟨x,rfl,hx,y,rfl,hy,hzx,hzy,hK⟩:=hG;refine⟨by simp,?_⟩
  simp only [go_sem,jm];intro h1 h2;refine⟨λhl _=>⟨by omega,?_⟩,λhne _ _=>⟨λhlt=>?_,λhge=>?_⟩⟩
  rotate_left
  .rw [XR (wI hx hzy hlt)]at hK;exact hK
  .rw [Zag (wI hy hzx (by omega))]at hK;exact hK
  refine wa (λn:Nat=>⟨mkV [(0,wsA x),(1,wsA y),(5,.one (.lit (.int .i64 ((n:Int)-1))))],mkH []⟩) (λn=>n<=x.length/\x.drop n=y.drop n) id x.length ?_ ?_ ?_
  .exact Qa (by simp [okS,okV,okC,okL,okH,okB,okE,Za,ja,za,Ja,wsA,ws]) trivial
  .simp [hl]
  .rintro n ⟨hn,hd⟩;simp only [go_sem];refine⟨λh=>⟨by omega,by omega,by omega,by omega,λhe=>⟨by omega,n-1,Qa (by simp [okS,okV,okC,okL,okH,okB,okE,Za,ja,za,Ja,wsA,ws];omega) trivial,⟨by omega,?_⟩,by simp only [id];omega⟩,λhne=>?_⟩,λh=>?_⟩
   .rw [show((n:Int)-1).toNat=n-1 by omega]at he
    rw [List.getD_eq_getElem?_getD,List.getD_eq_getElem?_getD,List.getElem?_eq_getElem (by omega),List.getElem?_eq_getElem (by omega)]at he
    have e1:=List.getElem_cons_drop (as:=x) (i:=n-1) (by omega)
    have e2:=List.getElem_cons_drop (as:=y) (i:=n-1) (by omega)
    rw [show n-1+1=n by omega]at e1 e2
    rw [<-e1,<-e2,hd];simp only [Option.getD_some]at he;rw [he]
   .rw [show((n:Int)-1).toNat=n-1 by omega]at hne ⊢
    refine⟨by omega,by omega,by omega,by omega,λhlt=>?_,λhge=>?_⟩
    .rw [XR (wba (i:=n-1) hx hl (by omega) (by rw [show n-1+1=n by omega];exact hd) hlt)]at hK;exact hK
    .rw [Zag (wba (i:=n-1) hy hl.symm (by omega) (by rw [show n-1+1=n by omega];exact hd.symm) (by omega))]at hK;exact hK
   .have:n=0:=by omega
    subst this;simp only [List.drop_zero]at hd;rw [hd,XaQ]at hK;exact hK
theorem vac(hΓ:Holds P Γ){f ft:Nat}(ht:Γ ft=.dat false vr)(hc:check P f=some (43,(Uo ft).strip,[.tmp 4,.tmp 5])):Sound P f (.dat false Ut):=by
 refine va hc YaA hΓ (λargs K hcl hfi hG=>?_);match args,hG with
 | [a,b],hG=>
  obtain⟨x,rfl,hx,hG⟩:=hG;obtain⟨k,m,rfl,rfl,hm,hmB,hxl,hK⟩:=Vb hG;obtain⟨m,rfl⟩:∃n:Nat,m=n:=⟨m.toNat,by omega⟩
  simp only [Int.toNat_natCast]at hK;refine⟨by simp,?_⟩
  simp only [go_sem,Uo,ht];intro h1;refine⟨hxl,λ_=>⟨by omega,?_⟩⟩
  refine wa (λp:List Nat×Nat=>⟨mkV [(0,wsA x),(1,.one (.lit (.int .u32 m))),(6,.one (.own 11 1 1 0 x.length)),(7,.one (.lit (.int .u64 p.2))),(8,.one (.lit (.int .i64 ((x.length:Int)-p.1.length-1))))],mkH [(11,⟨1,some ⟨(List.replicate (x.length-p.1.length) 0++p.1).map wc,1,true⟩⟩)]⟩)
   (λp=>p.1.length<=x.length/\WL p.1/\p.2<m/\val p.1*m+p.2=val (x.drop (x.length-p.1.length))) (λp=>x.length-p.1.length) ([],0) ?_ ?_ ?_
  .exact Qa (by simp [okS,okV,okC,okL,okH,okB,okE,Za,ja,za,Ja,wsA,ws]) (xh (by simp))
  .simp [vc,val];omega
  .rintro⟨q,r⟩ ⟨hq,hqw,hr,hval⟩;simp only at hq hqw hr hval;have hlen:(List.replicate (x.length-q.length) 0++q).length=x.length:=by simp;omega
   simp only [go_sem,ht,hlen];refine⟨λh=>?_,λh=>?_⟩
   .obtain⟨n,hn⟩:∃n,n=x.length-q.length:=⟨_,rfl⟩;have hn0:0<n:=by omega
    have hi:((x.length:Int)-q.length-1).toNat=n-1:=by omega
    have g1:=ub hx (n-1);have hd:=QK x hn0 (by omega)
    obtain⟨s1,s2⟩:=Va3 (by omega) hr g1
    have s3:=uaK (B:=4294967296) (a:=x.getD (n-1) 0) (by omega) (hn▸hval)
    have e1:r*4294967296 % 18446744073709551616=r*4294967296:=by omega
    have e2:x.getD (n-1) 0 % 18446744073709551616=x.getD (n-1) 0:=by omega
    have e3:m % 18446744073709551616=m:=by omega
    rw [hi,<-hn,e1,e2,e3,or32 _ _ g1];generalize hs:r*4294967296+x.getD (n-1) 0=s at s1 s2 s3;rw [Nat.mod_eq_of_lt (show s / m<18446744073709551616 by omega),Nat.mod_eq_of_lt s1]
    have hm0:s % m<m:=Nat.mod_lt _ (by omega)
    refine⟨⟨rfl,by omega⟩,by omega,by omega,⟨rfl,by omega,by omega⟩,by omega,⟨by omega,by omega⟩,by omega,by omega,by omega,(s / m::q,s % m),Qa (by simp [okS,okV,okC,okL,okH,okB,okE,Za,ja,za,Ja,wsA,ws];omega) (xh ?_),⟨by simp;omega,Jc.2 ⟨s1,hqw⟩,hm0,?_⟩,by simp;omega⟩
    .simp only [List.length_cons];rw [Uq q _ hn0,show x.length-(q.length+1)=n-1 by omega]
    .rw [qi,List.length_cons,show x.length-(q.length+1)=n-1 by omega,hd];exact s3
   .have e:x.length-q.length=0:=by omega
    simp only [e,List.replicate_zero,List.nil_append,List.drop_zero]at hval ⊢;have h1:=Nat.div_mod_unique (show 0<m by omega) (a:=val x) (c:=r) (d:=val q)
    obtain⟨h2,h3⟩:=h1.2 ⟨by rw [<-hval,Nat.mul_comm m,Nat.add_comm],hr⟩
    rw [h2,h3]at hK;refine⟨hqw,by omega,?_⟩
    rw [Nat.mod_eq_of_lt (by omega)];exact hK
end Go.Abs
end
section
namespace Go.Abs
open Go.Num
variable {P:Program} {Γ:Nat->Spec}
def yx:AC:=(.seq (.ops false [.m 4 (.c (.one .emp))])
 (.fg [0,1] (.seq (.ops false [.m 9 (.t 0),.u 10 (.len (.t 9)),.u 11 (.bin .add (.t 10) (.i 1)),.u 12 (.mk 1 [(.lit (.int .u32 0))] (.t 11) (.t 11)),.m 5 (.t 12)])
 (.fg [0,1,5] (.seq (.seq (.ops false [.m 13 (.t 0),.u 14 (.len (.t 13)),.m 15 (.i 0)])
 (.fg [1,5,13,14,15] (.block 0 (.loop (.seq (.ops false [.u 16 (.bin .lss (.t 15) (.t 14))])
 (.fg [1,5,13,14,15,16] (.seq (.cond (.t 16) .skip (.exit 0))
 (.fg [1,5,13,14,15] (.seq (.block 1 (.seq (.ops false [.m 17 (.t 15),.u 18 (.idx 1 (.t 13) (.t 15)),.u 19 (.ld none 1 false (.t 18)),.m 6 (.t 17),.m 7 (.t 19)])
 (.fg [1,5,6,7,13,14,15] (.seq (.ops false [.m 20 (.t 7),.u 21 (.conv .u64 (.t 20)),.m 22 (.t 1),.u 23 (.bin .shl (.t 21) (.t 22)),.m 8 (.t 23)])
 (.fg [1,5,6,8,13,14,15] (.seq (.ops false [.m 24 (.t 5),.m 25 (.t 6),.u 26 (.idx 1 (.t 24) (.t 25)),.u 27 (.ld none 1 false (.t 26)),.m 28 (.t 8),.u 29 (.conv .u32 (.t 28)),.u 30 (.bin .or (.t 27) (.t 29)),.u 31 (.idx 1 (.t 24) (.t 25)),.n (.st none 1 (.t 31) (.t 30))])
 (.fg [1,5,6,8,13,14,15] (.ops false [.m 32 (.t 5),.m 33 (.t 6),.u 34 (.bin .add (.t 33) (.i 1)),.m 35 (.t 8),.u 36 (.bin .shr (.t 35) (.c (.one (.lit (.int .u64 32))))),.u 37 (.conv .u32 (.t 36)),.u 38 (.idx 1 (.t 32) (.t 34)),.n (.st none 1 (.t 38) (.t 37))]))))))))
 (.fg [1,5,13,14,15] (.ops false [.u 39 (.bin .add (.t 15) (.i 1)),.m 15 (.t 39)])))))))))))
 (.fg [5] (.seq (.ops false [.m 40 (.t 5),.m 4 (.t 40)])
 .ret)))))))
def Vr(f0 f1:Nat):AC:=(.seq (.ops false [.m 4 (.c (.one .emp))])
 (.fg [0,1] (.seq (.ops false [.m 7 (.t 0),.u 8 (.len (.t 7)),.u 9 (.mk 1 [(.lit (.int .u32 0))] (.t 8) (.t 8)),.m 5 (.t 9)])
 (.fg [0,1,5] (.seq (.seq (.ops false [.m 10 (.t 0),.u 11 (.len (.t 10)),.m 12 (.i 0)])
 (.fg [0,1,5,11,12] (.block 0 (.loop (.seq (.ops false [.u 13 (.bin .lss (.t 12) (.t 11))])
 (.fg [0,1,5,11,12,13] (.seq (.cond (.t 13) .skip (.exit 0))
 (.fg [0,1,5,11,12] (.seq (.block 1 (.seq (.ops false [.m 14 (.t 12),.m 6 (.t 14)])
 (.fg [0,1,5,6,11,12] (.ops true [.m 15 (.t 5),.m 16 (.t 6),.m 17 (.t 0),.m 18 (.t 6),.u 19 (.idx 1 (.t 17) (.t 18)),.u 20 (.ld none 1 false (.t 19)),.u 21 (.conv .u64 (.t 20)),.m 22 (.t 0),.m 23 (.t 6),.u 24 (.bin .add (.t 23) (.i 1)),.u 25 (.call f0 [(.t 22),(.t 24)]),.u 26 (.bin .shl (.t 25) (.c (.one (.lit (.int .u64 32))))),.u 27 (.bin .or (.t 21) (.t 26)),.m 28 (.t 1),.u 29 (.bin .shr (.t 27) (.t 28)),.u 30 (.conv .u32 (.t 29)),.u 31 (.idx 1 (.t 15) (.t 16)),.n (.st none 1 (.t 31) (.t 30))]))))
 (.fg [0,1,5,11,12] (.ops false [.u 32 (.bin .add (.t 12) (.i 1)),.m 12 (.t 32)])))))))))))
 (.fg [5] (.seq (.ops false [.m 33 (.t 5),.u 34 (.call f1 [(.t 33)]),.m 4 (.t 34)])
 .ret)))))))
def Yo(f0:Nat):AC:=(.seq (.ops false [.m 4 (.c (.one .emp))])
 (.fg [0,1] (.seq (.ops false [.m 11 (.t 0),.u 12 (.len (.t 11)),.m 13 (.t 1),.u 14 (.len (.t 13)),.u 15 (.bin .add (.t 12) (.t 14)),.u 16 (.mk 1 [(.lit (.int .u32 0))] (.t 15) (.t 15)),.m 5 (.t 16)])
 (.fg [0,1,5] (.seq (.seq (.ops false [.m 17 (.t 0),.u 18 (.len (.t 17)),.m 19 (.i 0)])
 (.fg [1,5,17,18,19] (.block 0 (.loop (.seq (.ops false [.u 20 (.bin .lss (.t 19) (.t 18))])
 (.fg [1,5,17,18,19,20] (.seq (.cond (.t 20) .skip (.exit 0))
 (.fg [1,5,17,18,19] (.seq (.block 1 (.seq (.ops false [.m 21 (.t 19),.u 22 (.idx 1 (.t 17) (.t 19)),.u 23 (.ld none 1 false (.t 22)),.m 6 (.t 21),.m 7 (.t 23)])
 (.fg [1,5,6,7,17,18,19] (.seq (.ops false [.m 8 (.c (.one (.lit (.int .u64 0))))])
 (.fg [1,5,6,7,8,17,18,19] (.seq (.seq (.ops false [.m 24 (.t 1),.u 25 (.len (.t 24)),.m 26 (.i 0)])
 (.fg [1,5,6,7,8,17,18,19,24,25,26] (.block 2 (.loop (.seq (.ops false [.u 27 (.bin .lss (.t 26) (.t 25))])
 (.fg [1,5,6,7,8,17,18,19,24,25,26,27] (.seq (.cond (.t 27) .skip (.exit 2))
 (.fg [1,5,6,7,8,17,18,19,24,25,26] (.seq (.block 3 (.seq (.ops false [.m 28 (.t 26),.u 29 (.idx 1 (.t 24) (.t 26)),.u 30 (.ld none 1 false (.t 29)),.m 9 (.t 28),.m 10 (.t 30)])
 (.fg [1,5,6,7,8,9,10,17,18,19,24,25,26] (.seq (.ops false [.m 31 (.t 8),.m 32 (.t 7),.u 33 (.conv .u64 (.t 32)),.m 34 (.t 10),.u 35 (.conv .u64 (.t 34)),.u 36 (.bin .mul (.t 33) (.t 35)),.m 37 (.t 5),.m 38 (.t 6),.m 39 (.t 9),.u 40 (.bin .add (.t 38) (.t 39)),.u 41 (.idx 1 (.t 37) (.t 40)),.u 42 (.ld none 1 false (.t 41)),.u 43 (.conv .u64 (.t 42)),.u 44 (.bin .add (.t 36) (.t 43)),.u 45 (.bin .add (.t 31) (.t 44)),.m 8 (.t 45)])
 (.fg [1,5,6,7,8,9,17,18,19,24,25,26] (.seq (.ops false [.m 46 (.t 5),.m 47 (.t 6),.m 48 (.t 9),.u 49 (.bin .add (.t 47) (.t 48)),.m 50 (.t 8),.u 51 (.conv .u32 (.t 50)),.u 52 (.idx 1 (.t 46) (.t 49)),.n (.st none 1 (.t 52) (.t 51))])
 (.fg [1,5,6,7,8,17,18,19,24,25,26] (.ops false [.m 53 (.t 8),.u 54 (.bin .shr (.t 53) (.c (.one (.lit (.int .u64 32))))),.m 8 (.t 54)]))))))))
 (.fg [1,5,6,7,8,17,18,19,24,25,26] (.ops false [.u 55 (.bin .add (.t 26) (.i 1)),.m 26 (.t 55)])))))))))))
 (.fg [1,5,6,8,17,18,19] (.ops false [.m 56 (.t 5),.m 57 (.t 6),.m 58 (.t 1),.u 59 (.len (.t 58)),.u 60 (.bin .add (.t 57) (.t 59)),.m 61 (.t 8),.u 62 (.conv .u32 (.t 61)),.u 63 (.idx 1 (.t 56) (.t 60)),.n (.st none 1 (.t 63) (.t 62))]))))))))
 (.fg [1,5,17,18,19] (.ops false [.u 64 (.bin .add (.t 19) (.i 1)),.m 19 (.t 64)])))))))))))
 (.fg [5] (.seq (.ops false [.m 65 (.t 5),.u 66 (.call f0 [(.t 65)]),.m 4 (.t 66)])
 .ret)))))))
theorem za5(hΓ:Holds P Γ){f:Nat}(hc:check P f=some (41,yx.strip,[.tmp 4])):Sound P f (.fresh 1 up_G):=by
 refine xq hc Vbj hΓ (λargs K hcl hfi hG=>?_);match args,hG with
 | [a,b],hG=>
  obtain⟨x,rfl,hx,hG⟩:=hG;obtain⟨k,m,rfl,rfl,hm,hmB,hxl,hK⟩:=Vb hG;obtain⟨m,rfl⟩:∃n:Nat,m=n:=⟨m.toNat,by omega⟩
  simp only [Int.toNat_natCast]at hK;refine⟨by simp,?_⟩
  simp only [go_sem,yx];intro h1;refine⟨by omega,by omega,λ_=>?_⟩
  refine wa (λp:List Nat×Nat=>⟨mkV [(1,.one (.lit (.int .i64 m))),(5,.one (.own 12 1 1 0 (x.length+1))),(13,wsA x),(14,.one (.lit (.int .i64 x.length))),(15,.one (.lit (.int .i64 p.1.length)))],mkH [(12,⟨1,some ⟨(p.1++p.2::List.replicate (x.length-p.1.length) 0).map wc,1,true⟩⟩)]⟩)
   (λp=>p.1.length<=x.length/\WL p.1/\p.2<2 ^ m/\val p.1+4294967296 ^ p.1.length*p.2=val (x.take p.1.length)*2 ^ m) (λp=>x.length-p.1.length) ([],0) ?_ ?_ ?_
  .exact Qa (by simp [okS,okV,okC,okL,okH,okB,okE,Za,ja,za,Ja,wsA,ws]) (xh (by simp [List.replicate_succ]))
  .simp [vc,val];exact Nat.pow_pos (by omega)
  .rintro⟨o,c⟩ ⟨hoN,ho,hc1,hval⟩;simp only at hoN ho hc1 hval;have hlen:(o++c::List.replicate (x.length-o.length) 0).length=x.length+1:=by simp;omega
   simp only [go_sem,hlen,List.length_set];refine⟨λhlt=>?_,λhge=>?_⟩
   .have g1:=ub hx o.length;obtain⟨s1,s2,s3,s4⟩:=Ybj (by omega) hc1 g1
    have e1:x.getD o.length 0 % 18446744073709551616=x.getD o.length 0:=by omega
    have hp:=JS (show m<32 by omega)
    rw [Yby,e1,Nat.mod_eq_of_lt s1,s2,Jbu];generalize hy:x.getD o.length 0*2 ^ m=y at s1 s2 s3 s4;rw [Nat.mod_eq_of_lt (show y / 4294967296<4294967296 by omega)]
    refine⟨hlt,⟨rfl,by omega⟩,by omega,by omega,⟨rfl,by omega,by omega⟩,by omega,by omega,by omega,by omega,by omega,by omega,by omega,(o++[y % 4294967296+c],y / 4294967296),Qa (by simp [okS,okV,okC,okL,okH,okB,okE,Za,ja,za,Ja,wsA,ws]) (xh ?_),⟨by simp;omega,Ve.2 ⟨ho,Jc.2 ⟨s3,vc⟩⟩,s4,?_⟩,by simp;omega⟩
    .rw [show x.length-o.length=(x.length-(o.length+1))+1 by omega,List.replicate_succ,Ubk];simp
    .simp only [List.length_append,List.length_cons,List.length_nil,Nat.zero_add,Ub,jc,qi,Wm,Nat.mul_zero,Nat.add_zero,Nat.pow_succ];rw [Wby (B:=4294967296) (x:=y) hval rfl,Nat.add_mul,<-hy,Nat.mul_assoc]
   .have e:o.length=x.length:=by omega
    have hcB:c<4294967296:=by have:=JS (show m<32 by omega);omega
    rw [e,yj (Nat.le_refl _)]at hval;simp only [e,Nat.sub_self,List.replicate_zero];have hw:WL (o++[c]):=Ve.2 ⟨ho,Jc.2 ⟨hcB,vc⟩⟩;have hv:val (o++[c])=val x*2 ^ m:=by rw [jc,e];simpa [val] using hval
    have:=kB hw;rw [hv,List.length_append,List.length_singleton,e]at this;rw [<-this];exact hK
theorem XaA(hΓ:Holds P Γ){f fw ft:Nat}(hw:Γ fw=.dat true Yk)(ht:Γ ft=.dat false vr)(hc:check P f=some (35,(Vr fw ft).strip,[.tmp 4])):Sound P f (.dat false jD):=by
 refine va hc uaJ hΓ (λargs K hcl hfi hG=>?_);match args,hG with
 | [a,b],hG=>
  obtain⟨x,rfl,hx,hG⟩:=hG;obtain⟨k,m,rfl,rfl,hm,hmB,hxl,hK⟩:=Vb hG;obtain⟨m,rfl⟩:∃n:Nat,m=n:=⟨m.toNat,by omega⟩
  simp only [Int.toNat_natCast]at hK;refine⟨by simp,?_⟩
  simp only [go_sem,Vr,hw,ht];intro h1;refine⟨by omega,λ_=>?_⟩
  refine wa (λo:List Nat=>⟨mkV [(0,wsA x),(1,.one (.lit (.int .i64 m))),(5,.one (.own 9 1 1 0 x.length)),(11,.one (.lit (.int .i64 x.length))),(12,.one (.lit (.int .i64 o.length)))],mkH [(9,⟨1,some ⟨(o++List.replicate (x.length-o.length) 0).map wc,1,true⟩⟩)]⟩)
   (λo=>o.length<=x.length/\WL o/\val o=val x / 2 ^ m % 4294967296 ^ o.length) (λo=>x.length-o.length) [] ?_ ?_ ?_
  .exact Qa (by simp [okS,okV,okC,okL,okH,okB,okE,Za,ja,za,Ja,wsA,ws]) (xh (by simp))
  .simp [vc,val,Nat.mod_one]
  .rintro o ⟨hoN,ho,hval⟩;have hlen:(o++List.replicate (x.length-o.length) 0).length=x.length:=by simp;omega
   simp only [go_sem,hw,ht,hlen];refine⟨λhlt=>⟨hlt,by omega,hx,⟨rfl,by omega⟩,⟨rfl,by omega,by omega⟩,by omega,hlt,hlt,by omega,?_⟩,λhge=>?_⟩
   .have g1:=ub hx o.length;have g2:=ub hx (o.length+1);have e1:x.getD o.length 0 % 18446744073709551616=x.getD o.length 0:=by omega
    have e2:x.getD (o.length+1) 0*4294967296 % 18446744073709551616=x.getD (o.length+1) 0*4294967296:=by omega
    rw [e1,e2,or32' _ _ g1,show x.getD (o.length+1) 0*4294967296+x.getD o.length 0=x.getD o.length 0+4294967296*x.getD (o.length+1) 0 by omega,uY hx (by omega)]
    generalize hv:val x / 2 ^ m / 4294967296 ^ o.length % 4294967296=v;have hvB:v<4294967296:=by rw [<-hv];exact Nat.mod_lt _ (by omega)
    refine⟨o++[v],Qa (by simp [okS,okV,okC,okL,okH,okB,okE,Za,ja,za,Ja,wsA,ws]) (xh ?_),⟨by simp;omega,Ve.2 ⟨ho,Jc.2 ⟨hvB,vc⟩⟩,?_⟩,by simp;omega⟩
    .rw [show x.length-o.length=x.length-(o.length+1)+1 by omega,Xad];simp
    .rw [jc,List.length_append,List.length_singleton,WG,hv,<-hval];simp [val]
   .have e:o.length=x.length:=by omega
    have hlt:val x / 2 ^ m<4294967296 ^ x.length:=Nat.lt_of_le_of_lt (Nat.div_le_self _ _) (uk hx);rw [e,Nat.mod_eq_of_lt hlt]at hval;simp only [e,Nat.sub_self,List.replicate_zero,List.append_nil];refine⟨ho,by omega,?_⟩
    rw [hval];exact hK
theorem wac(hΓ:Holds P Γ){f ft:Nat}(ht:Γ ft=.dat false vr)(hc:check P f=some (67,(Yo ft).strip,[.tmp 4])):Sound P f (.dat false Wx):=by
 refine va hc JaA hΓ (λargs K hcl hfi hG=>?_);match args,hG with
 | [a,b],hG=>
  obtain⟨x,rfl,hx,y,rfl,hy,hxl,hyl,hK⟩:=hG;refine⟨by simp,?_⟩
  simp only [go_sem,Yo,ht];intro h1 h2;refine⟨by omega,by omega,λ_=>?_⟩
  generalize hN:x.length+y.length=N;refine wa (λp:Nat×List Nat=>⟨mkV [(1,wsA y),(5,.one (.own 16 1 1 0 N)),(17,wsA x),(18,.one (.lit (.int .i64 x.length))),(19,.one (.lit (.int .i64 p.1)))],mkH [(16,⟨1,some ⟨p.2.map wc,1,true⟩⟩)]⟩)
   (λp=>p.1<=x.length/\WL p.2/\p.2.length=N/\val p.2=val (x.take p.1)*val y/\∀j,p.1+y.length<=j->p.2.getD j 0=0) (λp=>x.length-p.1) (0,List.replicate N 0) ?_ ?_ ?_
  .exact Qa (by simp [okS,okV,okC,okL,okH,okB,okE,Za,ja,za,Ja,wsA,ws]) (xh (by simp))
  .simp [Za7,val,Xag];intro j _;rw [List.getElem?_replicate];split <;> rfl
  .rintro⟨i,o⟩ ⟨hi,ho,hoN,hval,hz⟩;simp only at hi ho hoN hval hz;simp only [go_sem,ht,hoN];refine⟨λhlt=>⟨hlt,λ_=>?_⟩,λhge=>?_⟩
   .have g1:=ub hx i;refine wa (λp:Nat×Nat×List Nat=>⟨mkV [(1,wsA y),(5,.one (.own 16 1 1 0 N)),(6,.one (.lit (.int .i64 i))),(7,.one (.lit (.int .u32 (x.getD i 0:Nat)))),(8,.one (.lit (.int .u64 p.2.1))),(17,wsA x),(18,.one (.lit (.int .i64 x.length))),(19,.one (.lit (.int .i64 i))),(24,wsA y),(25,.one (.lit (.int .i64 y.length))),(26,.one (.lit (.int .i64 p.1)))],mkH [(16,⟨1,some ⟨p.2.2.map wc,1,true⟩⟩)]⟩)
     (λp=>p.1<=y.length/\p.2.1<4294967296/\WL p.2.2/\p.2.2.length=N/\val p.2.2+4294967296 ^ i*4294967296 ^ p.1*p.2.1=val (x.take i)*val y+4294967296 ^ i*x.getD i 0*val (y.take p.1)/\∀j,i+y.length<=j->p.2.2.getD j 0=0) (λp=>y.length-p.1) (0,0,o) ?_ ?_ ?_
    .exact Qa (by simp [okS,okV,okC,okL,okH,okB,okE,Za,ja,za,Ja,wsA,ws]) (xh rfl)
    .exact⟨Nat.zero_le _,by simp,ho,hoN,by simp [val,hval],hz⟩
    .rintro⟨k,c,o⟩ ⟨hk,hc,ho,hoN,hval,hz⟩;simp only at hk hc ho hoN hval hz;simp only [go_sem,ht,hoN];refine⟨λhlt2=>?_,λhge2=>?_⟩
     .have g2:=ub hy k;have g3:=ub ho (i+k);have s1:=zao g1 g2 hc g3;have e1:x.getD i 0 % 18446744073709551616=x.getD i 0:=by omega
      have e2:y.getD k 0 % 18446744073709551616=y.getD k 0:=by omega
      have e3:o.getD (i+k) 0 % 18446744073709551616=o.getD (i+k) 0:=by omega
      have hstep:=Zay hval (by omega) rfl
      rw [e1,e2,e3,Nat.mod_eq_of_lt (show x.getD i 0*y.getD k 0<18446744073709551616 by omega),Nat.mod_eq_of_lt (show x.getD i 0*y.getD k 0+o.getD (i+k) 0<18446744073709551616 by omega),Nat.mod_eq_of_lt s1]
      generalize hs:c+(x.getD i 0*y.getD k 0+o.getD (i+k) 0)=s at s1 hstep;refine⟨hlt2,by omega,by omega,by omega,by omega,by omega,by omega,by omega,by omega,(k+1,s / 4294967296,o.set (i+k) (s % 4294967296)),Qa (by simp [okS,okV,okC,okL,okH,okB,okE,Za,ja,za,Ja,wsA,ws]) (xh rfl),⟨by simp only;omega,by simp only;omega,zaV ho _ (Nat.mod_lt _ (by omega)),by simp [hoN],hstep,?_⟩,by simp only;omega⟩
      intro j hj;simp only;rw [Num.getD_set_ne (by omega)];exact hz j hj
     .have e:k=y.length:=by omega
      subst e;have hend:=ZaP hval (by omega) (hz _ (Nat.le_refl _))
      rw [Nat.mod_eq_of_lt hc];refine λ_=>⟨by omega,by omega,by omega,by omega,(i+1,o.set (i+y.length) c),Qa (by simp [okS,okV,okC,okL,okH,okB,okE,Za,ja,za,Ja,wsA,ws]) (xh rfl),⟨by simp only;omega,zaV ho _ hc,by simp [hoN],hend,?_⟩,by simp only;omega⟩
      intro j hj;simp only at hj ⊢;rw [Num.getD_set_ne (by omega)];exact hz j (by omega)
   .have e:i=x.length:=by omega
    subst e;rw [yj (Nat.le_refl _)]at hval;refine⟨ho,by omega,?_⟩
    rw [hval];exact hK
end Go.Abs
end
section
namespace Go.Abs
open Go.Num
variable {P:Program} {Γ:Nat->Spec}
def Jn(f0:Nat):AC:=(.seq (.ops false [.m 6 .fa])
 (.fg [0,1,2] (.seq (.ops false [.m 7 (.c (.one (.lit (.int .u64 0)))),.m 8 (.c (.one (.lit (.int .u64 0))))])
 (.fg [0,1,2,7,8] (.seq (.seq (.ops false [.m 11 (.t 0),.u 12 (.len (.t 11)),.m 13 (.i 0)])
 (.fg [0,1,2,7,8,12,13] (.block 0 (.loop (.seq (.ops false [.u 14 (.bin .lss (.t 13) (.t 12))])
 (.fg [0,1,2,7,8,12,13,14] (.seq (.cond (.t 14) .skip (.exit 0))
 (.fg [0,1,2,7,8,12,13] (.seq (.block 1 (.seq (.ops false [.m 15 (.t 13),.m 9 (.t 15)])
 (.fg [0,1,2,7,8,9,12,13] (.seq (.ops false [.m 16 (.t 7),.m 17 (.t 2),.m 18 (.t 1),.m 19 (.t 9),.u 20 (.call f0 [(.t 18),(.t 19)]),.u 21 (.bin .mul (.t 17) (.t 20)),.u 22 (.bin .add (.t 16) (.t 21)),.m 7 (.t 22)])
 (.fg [0,1,2,7,8,9,12,13] (.seq (.ops false [.m 23 (.t 0),.m 24 (.t 9),.u 25 (.idx 1 (.t 23) (.t 24)),.u 26 (.ld none 1 false (.t 25)),.u 27 (.conv .u64 (.t 26)),.m 28 (.t 7),.u 29 (.conv .u32 (.t 28)),.u 30 (.conv .u64 (.t 29)),.u 31 (.bin .sub (.t 27) (.t 30)),.m 32 (.t 8),.u 33 (.bin .sub (.t 31) (.t 32)),.m 10 (.t 33)])
 (.fg [0,1,2,7,9,10,12,13] (.seq (.ops false [.m 34 (.t 0),.m 35 (.t 9),.m 36 (.t 10),.u 37 (.conv .u32 (.t 36)),.u 38 (.idx 1 (.t 34) (.t 35)),.n (.st none 1 (.t 38) (.t 37))])
 (.fg [0,1,2,7,10,12,13] (.seq (.ops false [.m 39 (.t 10),.u 40 (.bin .shr (.t 39) (.c (.one (.lit (.int .u64 63))))),.m 8 (.t 40)])
 (.fg [0,1,2,7,8,12,13] (.ops false [.m 41 (.t 7),.u 42 (.bin .shr (.t 41) (.c (.one (.lit (.int .u64 32))))),.m 7 (.t 42)]))))))))))))
 (.fg [0,1,2,7,8,12,13] (.ops false [.u 43 (.bin .add (.t 13) (.i 1)),.m 13 (.t 43)])))))))))))
 (.fg [8] (.seq (.ops false [.m 44 (.t 8),.u 45 (.bin .eql (.t 44) (.c (.one (.lit (.int .u64 1))))),.m 6 (.t 45)])
 .ret)))))))
def Jr(f0:Nat):AC:=(.seq (.ops false [.m 4 (.c (.one (.lit (.int .u64 0))))])
 (.fg [0,1,4] (.seq (.ops false [.m 6 (.t 0),.u 7 (.len (.t 6)),.m 8 (.i 0)])
 (.fg [0,1,4,7,8] (.block 0 (.loop (.seq (.ops false [.u 9 (.bin .lss (.t 8) (.t 7))])
 (.fg [0,1,4,7,8,9] (.seq (.cond (.t 9) .skip (.exit 0))
 (.fg [0,1,4,7,8] (.seq (.block 1 (.seq (.ops false [.m 10 (.t 8),.m 5 (.t 10)])
 (.fg [0,1,4,5,7,8] (.seq (.ops true [.m 11 (.t 4),.m 12 (.t 0),.m 13 (.t 5),.u 14 (.idx 1 (.t 12) (.t 13)),.u 15 (.ld none 1 false (.t 14)),.u 16 (.conv .u64 (.t 15)),.m 17 (.t 1),.m 18 (.t 5),.u 19 (.call f0 [(.t 17),(.t 18)]),.u 20 (.bin .add (.t 16) (.t 19)),.u 21 (.bin .add (.t 11) (.t 20)),.m 4 (.t 21)])
 (.fg [0,1,4,5,7,8] (.seq (.ops false [.m 22 (.t 0),.m 23 (.t 5),.m 24 (.t 4),.u 25 (.conv .u32 (.t 24)),.u 26 (.idx 1 (.t 22) (.t 23)),.n (.st none 1 (.t 26) (.t 25))])
 (.fg [0,1,4,7,8] (.ops false [.m 27 (.t 4),.u 28 (.bin .shr (.t 27) (.c (.one (.lit (.int .u64 32))))),.m 4 (.t 28)]))))))))
 (.fg [0,1,4,7,8] (.ops false [.u 29 (.bin .add (.t 8) (.i 1)),.m 8 (.t 29)])))))))))))))
theorem QX(hΓ:Holds P Γ){f fw:Nat}(hw:Γ fw=.dat true Yk)(hc:check P f=some (46,(Jn fw).strip,[.tmp 6])):Sound P f (.own Zp):=by
 refine Xf hc hΓ (λd args h K hG=>?_);unfold Zp at hG;split at hG
 case h_2=>exact hG.elim
 rename_i r ver off len b n;obtain⟨v,rfl,hv,pre,seg,post,m,rfl,rfl,rfl,hr,hseg,hm,hvl,hlt,hsl,hK⟩:=hG;refine⟨[r],[⟨(pre++seg++post).map wc,1,true⟩],[.one (.own 1048576 ver 1 pre.length seg.length),wsA v,.one (.lit (.int .u64 m))],by simp,rfl,?_,?_,?_,λhfi=>⟨by simp,?_⟩⟩
 .intro i r' b h1 h2;cases i with
  | zero=>simp only [List.getElem?_cons_zero,Option.some.injEq]at h1 h2;subst h1 h2;exact⟨by rw [hr],rfl,of_eq_true (Ud _)⟩
  | succ i=>simp at h1
 .simp [exA,exC,exB,nameOf,pinA,wsA,ws]
 .intro a ha;simp only [List.mem_cons,List.not_mem_nil,or_false]at ha;rcases ha with rfl | rfl | rfl
  .simp [pasA,pasC,pasB,nameOf,pinA]
  .exact .slice _ (of_eq_true (Ud _))
  .exact .lit _
 simp only [go_sem,Jn,hw,hr];intro h1;refine wa (λp:List Nat×Nat×Nat×Nat=>⟨mkV [(0,.one (.own 1048576 ver 1 pre.length seg.length)),(1,wsA v),(2,.one (.lit (.int .u64 m))),(7,.one (.lit (.int .u64 p.2.1))),(8,.one (.lit (.int .u64 p.2.2.1))),(12,.one (.lit (.int .i64 seg.length))),(13,.one (.lit (.int .i64 p.1.length)))],
   mkH [(1048576,⟨ver,some ⟨(pre++(p.1++seg.drop p.1.length)++post).map wc,1,true⟩⟩)]⟩)
  (λp=>p.1.length<=seg.length/\WL p.1/\(p.2.1=0∨p.2.1<m)/\p.2.2.1<=1/\p.2.2.2+4294967296 ^ p.1.length*p.2.1=m*val (v.take p.1.length)/\val p.1+p.2.2.2=val (seg.take p.1.length)+4294967296 ^ p.1.length*p.2.2.1) (λp=>seg.length-p.1.length) ([],0,0,0) ?_ ?_ ?_
 .exact Qa (by simp [okS,okV,okC,okL,okH,okB,okE,Za,ja,za,Ja,wsA,ws]) (xh (by simp))
 .simp [vc,val]
 .rintro⟨o,c,bw,p⟩ ⟨hoN,ho,hc1,hb1,hp1,hp2⟩;simp only at hoN ho hc1 hb1 hp1 hp2;have hlen:(pre++(o++seg.drop o.length)++post).length=pre.length+seg.length+post.length:=by simp;omega
  simp only [go_sem,hw,hr,hlen];refine⟨λhlt2=>?_,λhge=>?_⟩
  .have g1:=ub hseg o.length;have g2:=ub hv o.length;obtain⟨s1,s2⟩:=UaJ hm g2 hc1;have a1:=ua2 (B:=4294967296) (v:=v.getD o.length 0) hp1;have e1:m*v.getD o.length 0 % 18446744073709551616=m*v.getD o.length 0:=Nat.mod_eq_of_lt (by omega)
   have e2:seg.getD o.length 0 % 18446744073709551616=seg.getD o.length 0:=by omega
   rw [vaF _ _ _ _ hlt2,e1,e2,Nat.mod_eq_of_lt s1,xad _ _ _ _ _ hlt2];generalize hs:c+m*v.getD o.length 0=s at s1 s2 a1;have e3:s % 4294967296 % 18446744073709551616=s % 4294967296:=by omega
   rw [e3];obtain⟨t1,t2⟩:=yan (b:=s % 4294967296) g1 (by omega) hb1
   generalize sub64 (sub64 (seg.getD o.length 0) (s % 4294967296)) bw=d at t1 t2;have a2:=qa2 hp2 t1;refine⟨hv,hlt2,by omega,hlt2,by omega,by omega,by omega,by omega,(o++[d % 4294967296],s / 4294967296,d / 9223372036854775808,p+4294967296 ^ o.length*(s % 4294967296)),Qa (by simp [okS,okV,okC,okL,okH,okB,okE,Za,ja,za,Ja,wsA,ws]) (xh rfl),⟨by simp;omega,Ve.2 ⟨ho,Jc.2 ⟨Nat.mod_lt _ (by omega),vc⟩⟩,s2,t2,?_,?_⟩,by simp;omega⟩
   .simp only [List.length_append,List.length_cons,List.length_nil,Nat.zero_add,Ub,Nat.pow_succ];exact a1
   .simp only [List.length_append,List.length_cons,List.length_nil,Nat.zero_add,Ub,jc,qi,Wm,Nat.mul_zero,Nat.add_zero,Nat.pow_succ];exact a2
  .have e:o.length=seg.length:=by omega
   rw [e]at hp1 hp2;rw [yj hvl]at hp1;rw [yj (Nat.le_refl _)]at hp2;obtain⟨t1,t2⟩:=Zbk ho e hp1 hlt hp2 hb1;rw [List.drop_of_length_le (by omega),List.append_nil]
   rw [<-t1]at hK;have:(decide ((bw:Int)=1))=decide (val seg<m*val v):=by
    rw [decide_eq_decide,<-t2];omega
   rw [this];exact hK
theorem Qay(hΓ:Holds P Γ){f fw:Nat}(hw:Γ fw=.dat true Yk)(hc:check P f=some (30,(Jr fw).strip,[])):Sound P f (.own UD):=by
 refine Xf hc hΓ (λd args h K hG=>?_);unfold UD at hG;split at hG
 case h_2=>exact hG.elim
 rename_i r ver off len b;obtain⟨v,rfl,hv,pre,seg,post,rfl,rfl,hr,hseg,hvl,hsl,hK⟩:=hG;refine⟨[r],[⟨(pre++seg++post).map wc,1,true⟩],[.one (.own 1048576 ver 1 pre.length seg.length),wsA v],by simp,rfl,?_,?_,?_,λhfi=>⟨by simp,?_⟩⟩
 .intro i r' b h1 h2;cases i with
  | zero=>simp only [List.getElem?_cons_zero,Option.some.injEq]at h1 h2;subst h1 h2;exact⟨by rw [hr],rfl,of_eq_true (Ud _)⟩
  | succ i=>simp at h1
 .simp [exA,exC,exB,nameOf,pinA,wsA,ws]
 .intro a ha;simp only [List.mem_cons,List.not_mem_nil,or_false]at ha;rcases ha with rfl | rfl
  .simp [pasA,pasC,pasB,nameOf,pinA]
  .exact .slice _ (of_eq_true (Ud _))
 simp only [go_sem,Jr,hw,hr];intro h1;refine wa (λp:List Nat×Nat=>⟨mkV [(0,.one (.own 1048576 ver 1 pre.length seg.length)),(1,wsA v),(4,.one (.lit (.int .u64 p.2))),(7,.one (.lit (.int .i64 seg.length))),(8,.one (.lit (.int .i64 p.1.length)))],
   mkH [(1048576,⟨ver,some ⟨(pre++(p.1++seg.drop p.1.length)++post).map wc,1,true⟩⟩)]⟩)
  (λp=>p.1.length<=seg.length/\WL p.1/\p.2<=1/\val p.1+4294967296 ^ p.1.length*p.2=val (seg.take p.1.length)+val (v.take p.1.length)) (λp=>seg.length-p.1.length) ([],0) ?_ ?_ ?_
 .exact Qa (by simp [okS,okV,okC,okL,okH,okB,okE,Za,ja,za,Ja,wsA,ws]) (xh (by simp))
 .simp [vc,val]
 .rintro⟨o,c⟩ ⟨hoN,ho,hc1,hp1⟩;simp only at hoN ho hc1 hp1;have hlen:(pre++(o++seg.drop o.length)++post).length=pre.length+seg.length+post.length:=by simp;omega
  simp only [go_sem,hw,hr,hlen];refine⟨λhlt2=>?_,λhge=>?_⟩
  .have g1:=ub hseg o.length;have g2:=ub hv o.length;have e2:seg.getD o.length 0 % 18446744073709551616=seg.getD o.length 0:=by omega
   rw [vaF _ _ _ _ hlt2,e2,Nat.mod_eq_of_lt (show seg.getD o.length 0+v.getD o.length 0<18446744073709551616 by omega),Nat.mod_eq_of_lt (show c+(seg.getD o.length 0+v.getD o.length 0)<18446744073709551616 by omega),xad _ _ _ _ _ hlt2]
   have a1:=ya5 (B:=4294967296) (a:=seg.getD o.length 0) (b:=v.getD o.length 0) hp1 rfl;generalize hs:c+(seg.getD o.length 0+v.getD o.length 0)=s at a1;refine⟨hlt2,by omega,hv,hlt2,by omega,by omega,by omega,(o++[s % 4294967296],s / 4294967296),Qa (by simp [okS,okV,okC,okL,okH,okB,okE,Za,ja,za,Ja,wsA,ws]) (xh rfl),⟨by simp;omega,Ve.2 ⟨ho,Jc.2 ⟨Nat.mod_lt _ (by omega),vc⟩⟩,by simp only;omega,?_⟩,by simp;omega⟩
   simp only [List.length_append,List.length_cons,List.length_nil,Nat.zero_add,Ub,jc,qi,Wm,Nat.mul_zero,Nat.add_zero,Nat.pow_succ];exact a1
  .have e:o.length=seg.length:=by omega
   rw [e,yj hvl,yj (Nat.le_refl _)]at hp1;have t1:=xa3 ho e hp1;rw [List.drop_of_length_le (by omega),List.append_nil]
   rw [<-t1]at hK;exact hK
end Go.Abs
end
section
namespace Go.Num
theorem JA:∀(a b X:Nat),dig (a+b) X=dig a X++dig b (X / 4294967296 ^ a)
 | 0,b,X=>by simp [dig]
 | a+1,b,X=>by
  rw [show a+1+b=(a+b)+1 by omega,dig,dig,JA a b,Nat.div_div_eq_div_mul,Nat.pow_succ,Nat.mul_comm 4294967296];simp
theorem Ual:∀k,dig k 0=List.replicate k 0
 | 0=>rfl
 | k+1=>by rw [dig,Nat.zero_mod,Nat.zero_div,Ual k,List.replicate_succ]
theorem XS:∀(k i X:Nat),i<k->(dig k X).getD i 0=X / 4294967296 ^ i % 4294967296
 | k+1,0,X,_=>by simp [dig]
 | k+1,i+1,X,h=>by
  rw [dig,List.getD_cons_succ,XS k i _ (by omega),Nat.div_div_eq_div_mul,Nat.pow_succ,Nat.mul_comm 4294967296]
theorem ZU:∀(k X:Nat),dig k (X % 4294967296 ^ k)=dig k X:=by
 intro k X;refine Zai (yl _ _) (yl _ _) (by rw [Ya,Ya]) ?_
 rw [kk,kk,Nat.mod_mod]
theorem wbf{j X Y:Nat}:dig j (X % 4294967296 ^ j+4294967296 ^ j*Y)=dig j X:=by
 rw [<-ZU,Nat.add_mul_mod_self_left,Nat.mod_mod,ZU]
theorem WJ{L j n X:Nat}(h:j+(n+1)<=L)(hX:X / 4294967296 ^ j<4294967296 ^ (n+1)) :
  dig L X=dig j X++dig (n+1) (X / 4294967296 ^ j)++List.replicate (L-(j+(n+1))) 0:=by
 conv=>lhs;rw [show L=j+(n+1)+(L-(j+(n+1))) by omega]
 rw [JA,JA,Nat.pow_add,<-Nat.div_div_eq_div_mul,Nat.div_eq_of_lt hX,Ual]
theorem zak{L j n X R:Nat}(h:j+(n+1)<=L)(hR:R<4294967296 ^ (n+1)) :
  dig j X++dig (n+1) R++List.replicate (L-(j+(n+1))) 0=dig L (X % 4294967296 ^ j+4294967296 ^ j*R):=by
 have e:(X % 4294967296 ^ j+4294967296 ^ j*R) / 4294967296 ^ j=R:=by
  rw [Nat.add_mul_div_left _ _ (pow_pos j),Nat.div_eq_of_lt (Nat.mod_lt _ (pow_pos j)),Nat.zero_add]
 rw [WJ h (by rw [e];exact hR),e,wbf]
structure Step (B n V P top next head u2:Nat):Prop where
 hB:2<=B
 hn:2<=n
 vlow:∃l,V=(top*B+next)*B ^ (n-2)+l/\l<B ^ (n-2)
 plow:∃l,P=(head*B+u2)*B ^ (n-2)+l/\l<B ^ (n-2)
 nextB:next<B
 topB:top<B
 half:B<=2*top
 u2B:u2<B
 lt:P<V*B
namespace Step
variable {B n V P top next head u2:Nat}
theorem vpos(s:Step B n V P top next head u2):0<V:=by
 obtain⟨l,h,_⟩:=s.vlow;have:0<B ^ (n-2):=Nat.pow_pos (by have:=s.hB;omega)
 have h2:0<top*B+next:=by
  have:=Nat.mul_pos (show 0<top by have:=s.half;have:=s.hB;omega) (show 0<B by have:=s.hB;omega)
  omega
 have:=Nat.mul_pos h2 this;omega
theorem down(s:Step B n V P top next head u2){g r:Nat}(hg:g*top+r=head)(h:B<=g∨r*B+u2<g*next):P / V<g:=by
 rw [Nat.div_lt_iff_lt_mul s.vpos];rcases h with h | h
 .have h1:=Nat.mul_le_mul_right V h;have:=s.lt;rw [Nat.mul_comm V]at this;omega
 .obtain⟨lv,hv,hlv⟩:=s.vlow;obtain⟨lp,hp,hlp⟩:=s.plow;generalize B ^ (n-2)=p at hv hlv hp hlp;have h1:head*B+u2+1<=g*(top*B+next):=by
   rw [<-hg];have:(g*top+r)*B=g*(top*B)+r*B:=by rw [Nat.add_mul,Nat.mul_assoc]
   rw [this,Nat.mul_add];omega
  have h2:=Nat.mul_le_mul_right p h1;rw [Nat.add_mul,Nat.one_mul]at h2;have h3:g*(top*B+next)*p<=g*V:=by
   rw [Nat.mul_assoc];exact Nat.mul_le_mul_left _ (by omega)
  omega
theorem stop(s:Step B n V P top next head u2){g r:Nat}(hg:g*top+r=head)(hgB:g<=B)(h:B<=r∨(g<B/\g*next<=r*B+u2)):g*V<=P+V:=by
 obtain⟨lv,hv,hlv⟩:=s.vlow;obtain⟨lp,hp,hlp⟩:=s.plow;have hB:=s.hB;have hn:=s.hn;have hpp:0<B ^ (n-2):=Nat.pow_pos (by omega)
 have h1:g*(top*B+next)<=head*B+u2:=by
  rw [<-hg,Nat.add_mul,Nat.mul_add,Nat.mul_assoc];rcases h with h | h
  .have h3:g*next<=B*B:=Nat.mul_le_mul hgB (Nat.le_of_lt s.nextB)
   have h4:B*B<=r*B:=Nat.mul_le_mul_right _ h;omega
  .omega
 have hVtop:B*B ^ (n-2)<=V:=by
  have:B<=top*B:=Nat.le_mul_of_pos_left _ (by have:=s.half;omega)
  have:=Nat.mul_le_mul_right (B ^ (n-2)) (show B<=top*B+next by omega)
  omega
 generalize B ^ (n-2)=p at hv hlv hp hlp hpp hVtop;have h2:=Nat.mul_le_mul_right p h1;have h5:g*V<=g*((top*B+next)*p)+g*p:=by
  rw [hv,Nat.mul_add];exact Nat.add_le_add_left (Nat.mul_le_mul_left _ (Nat.le_of_lt hlv)) _
 have h6:g*p<=B*p:=Nat.mul_le_mul_right _ hgB;rw [<-Nat.mul_assoc]at h5;omega
theorem first(s:Step B n V P top next head u2):head / top<=B+1/\P / V<=head / top:=by
 have hB:=s.hB;have ht:0<top:=by have:=s.half;omega
 obtain⟨lv,hv,hlv⟩:=s.vlow;obtain⟨lp,hp,hlp⟩:=s.plow;have hlt:=s.lt;have hnext:=s.nextB;have hu2:=s.u2B;constructor
 .have h1:head<=top*B+next:=by
   rcases Nat.lt_or_ge (top*B+next) head with h | h
   .exfalso;have h2:=Nat.mul_le_mul_right (B ^ (n-2)) (Nat.mul_le_mul_right B h);have h3:(top*B+next+1)*B*B ^ (n-2)=((top*B+next)*B ^ (n-2)+B ^ (n-2))*B:=by
     generalize B ^ (n-2)=p;grind
    rw [Nat.succ_eq_add_one,h3]at h2;have h4:V*B<=((top*B+next)*B ^ (n-2)+B ^ (n-2))*B:=Nat.mul_le_mul_right _ (by omega)
    have h5:head*B*B ^ (n-2)<=P:=by
     rw [hp,Nat.add_mul];omega
    omega
   .exact h
  have h2:head<(B+2)*top:=by
   have:=s.half;have:(B+2)*top=top*B+2*top:=by rw [Nat.add_mul,Nat.mul_comm B]
   omega
  have:=(Nat.div_lt_iff_lt_mul ht).2 h2;omega
 .have:P / V<head / top+1:=by
   rw [Nat.div_lt_iff_lt_mul s.vpos];have h1:head<(head / top+1)*top:=by
    have:=Nat.div_add_mod head top;have:=Nat.mod_lt head ht;rw [Nat.add_mul,Nat.one_mul,Nat.mul_comm (head / top)];omega
   have h2:head+1<=(head / top+1)*top:=h1;have h3:=Nat.mul_le_mul_right (B ^ (n-2)) (Nat.mul_le_mul_right B h2);have h4:(head / top+1)*top*B*B ^ (n-2)<=(head / top+1)*V:=by
    rw [Nat.mul_assoc,Nat.mul_assoc];refine Nat.mul_le_mul_left _ ?_;rw [hv,Nat.add_mul,<-Nat.mul_assoc];omega
   have h5:P<(head+1)*B*B ^ (n-2):=by
    rw [hp];have:(head*B+u2+1)*B ^ (n-2)<=(head+1)*B*B ^ (n-2):=Nat.mul_le_mul_right _ (by rw [Nat.add_mul,Nat.one_mul];omega)
    rw [Nat.add_mul,Nat.one_mul]at this;omega
   omega
  omega
theorem left(s:Step B n V P top next head u2){g:Nat}(h1:P / V<=g)(h2:g*V<=P+V) :
  (P<g*V->g=P / V+1)/\(¬P<g*V->g=P / V):=by
 have hv:=s.vpos;have e:=Nat.div_add_mod P V;have m:=Nat.mod_lt P hv;constructor
 .intro h;have h3:g<=P / V+1:=by
   rcases Nat.lt_or_ge (P / V+1) g with h4 | h4
   .exfalso;have:=Nat.mul_le_mul_right V (show P / V+2<=g from h4);rw [Nat.add_mul,Nat.mul_comm (P / V)]at this;omega
   .exact h4
  have h5:P / V<g:=by rw [Nat.div_lt_iff_lt_mul hv];exact h
  omega
 .intro h;have:g<=P / V:=by rw [Nat.le_div_iff_mul_le hv];omega
  omega
theorem quot(s:Step B n V P top next head u2):P / V<B:=by
 rw [Nat.div_lt_iff_lt_mul s.vpos,Nat.mul_comm];exact s.lt
end Step
theorem ua5(n k X:Nat):(dig (n+k) X).take n=dig n X:=by
 rw [JA,List.take_append_of_le_length (by rw [Ya];exact Nat.le_refl _),List.take_of_length_le (by rw [Ya];exact Nat.le_refl _)]
theorem vaE{t:Nat}(h0:0<t)(h:t<4294967296):Lib.bitLen t=Nat.log2 t+1:=by
 have h1:2 ^ Nat.log2 t<=t:=Nat.log2_self_le (by omega)
 have h2:t<2 ^ (Nat.log2 t+1):=Nat.lt_log2_self;rw [Lib.bitLen_shift _ _ h1 (by omega)]
 have:t / 2 ^ Nat.log2 t=1:=by
  rw [Nat.pow_succ]at h2;have hp:0<2 ^ Nat.log2 t:=Nat.pow_pos (by omega)
  generalize 2 ^ Nat.log2 t=p at h1 h2 hp;have a:t / p<2:=(Nat.div_lt_iff_lt_mul hp).2 (by omega)
  have b:1<=t / p:=(Nat.le_div_iff_mul_le hp).2 (by omega)
  omega
 rw [this];rfl
theorem Wbj{t:Nat}(h0:0<t)(h:t<4294967296):∃s:Nat,s<32/\(32-(Lib.bitLen t:Int))=s/\2147483648<=t*2 ^ s/\(t+1)*2 ^ s<=4294967296:=by
 have h1:2 ^ Nat.log2 t<=t:=Nat.log2_self_le (by omega)
 have h2:t<2 ^ (Nat.log2 t+1):=Nat.lt_log2_self;have hl:Nat.log2 t<32:=by rw [Nat.log2_lt (by omega)];exact h
 rw [vaE h0 h];refine⟨31-Nat.log2 t,by omega,by omega,?_,?_⟩
 .have:=Nat.mul_le_mul_right (2 ^ (31-Nat.log2 t)) h1;rw [<-Nat.pow_add,show Nat.log2 t+(31-Nat.log2 t)=31 by omega]at this
  exact this
 .have:=Nat.mul_le_mul_right (2 ^ (31-Nat.log2 t)) (show t+1<=_ from h2);rw [<-Nat.pow_add,show Nat.log2 t+1+(31-Nat.log2 t)=32 by omega]at this
  exact this
theorem shifted{y:List Nat}{s:Nat}(hy:WL y)(hn:0<y.length)(h1:2147483648<=y.getD (y.length-1) 0*2 ^ s)(h2:(y.getD (y.length-1) 0+1)*2 ^ s<=4294967296) :
  val y*2 ^ s<4294967296 ^ y.length/\4294967296 ^ y.length<=2*(val y*2 ^ s):=by
 have e:=xJ y (y.length-1) (by omega)
 rw [List.drop_of_length_le (by omega),Wm,Nat.mul_zero,Nat.add_zero]at e
 have hl:=uk (Ww hy (y.length-1));rw [List.length_take,Nat.min_eq_left (by omega)]at hl
 rw [e,xH hn];generalize y.getD (y.length-1) 0=t at *
 generalize 4294967296 ^ (y.length-1)=p at *
 generalize val (y.take (y.length-1))=v at *
 have hs:0<2 ^ s:=Nat.pow_pos (by omega)
 generalize 2 ^ s=q at *
 have a1:=Nat.mul_le_mul_left p h1;have a2:=Nat.mul_le_mul_left p h2;have a3:=(Nat.mul_lt_mul_right hs).2 hl;rw [Nat.add_mul,Nat.one_mul,Nat.mul_add]at a2;rw [Nat.add_mul,Nat.mul_assoc p t q];constructor
 .omega
 .have:2*(p*2147483648)=p*(2*2147483648):=Nat.mul_left_comm _ _ _;rw [show 2*2147483648=4294967296 from rfl]at this;rw [<-this];exact Nat.mul_le_mul_left 2 (Nat.le_trans a1 (Nat.le_add_left _ _))
theorem Wa3{x y:List Nat}{s:Nat}(hx:WL x)(hs:s<32)(hV:4294967296 ^ y.length<=2*(val y*2 ^ s))(hl:y.length<=x.length+1) :
  val x*2 ^ s<val y*2 ^ s*4294967296 ^ (x.length+1-y.length):=by
 have h1:=uk hx;have h2:=JS hs;have h3:4294967296 ^ x.length*4294967296=4294967296 ^ y.length*4294967296 ^ (x.length+1-y.length):=by
  rw [<-Nat.pow_succ,<-Nat.pow_add];congr 1;omega
 have h4:=Nat.mul_le_mul_right (4294967296 ^ (x.length+1-y.length)) hV;rw [<-h3,Nat.mul_assoc]at h4;have h5:val x*2 ^ s<4294967296 ^ x.length*2147483648:=
  Nat.lt_of_lt_of_le ((Nat.mul_lt_mul_right (Nat.pow_pos (by omega))).2 h1) (Nat.mul_le_mul_left _ h2)
 omega
theorem ybi{n V P:Nat}(hn:2<=n)(hV1:V<4294967296 ^ n)(hV2:4294967296 ^ n<=2*V)(hP:P<V*4294967296) :
  Step 4294967296 n V P (V / 4294967296 ^ (n-1) % 4294967296) (V / 4294967296 ^ (n-2) % 4294967296) (P / 4294967296 ^ n % 4294967296*4294967296+P / 4294967296 ^ (n-1) % 4294967296) (P / 4294967296 ^ (n-2) % 4294967296):=by
 have e1:4294967296 ^ n=4294967296 ^ (n-1)*4294967296:=xH (by omega)
 have e2:4294967296 ^ (n-1)=4294967296 ^ (n-2)*4294967296:=by rw [xH (show 0<n-1 by omega),show n-1-1=n-2 by omega]
 have hp:=pow_pos (n-2);have ht:V / 4294967296 ^ (n-1)<4294967296:=by
  rw [Nat.div_lt_iff_lt_mul (pow_pos _),Nat.mul_comm,<-e1];exact hV1
 have hh:P / 4294967296 ^ n<4294967296:=by
  rw [Nat.div_lt_iff_lt_mul (pow_pos _)];have:=(Nat.mul_lt_mul_right (show 0<4294967296 by omega)).2 hV1
  rw [Nat.mul_comm (4294967296 ^ n)]at this;omega
 have q1:V / 4294967296 ^ (n-1)=V / 4294967296 ^ (n-2) / 4294967296:=by rw [e2,Nat.div_div_eq_div_mul]
 have q2:P / 4294967296 ^ (n-1)=P / 4294967296 ^ (n-2) / 4294967296:=by rw [e2,Nat.div_div_eq_div_mul]
 have q3:P / 4294967296 ^ n=P / 4294967296 ^ (n-1) / 4294967296:=by rw [e1,Nat.div_div_eq_div_mul]
 refine⟨by omega,hn,⟨V % 4294967296 ^ (n-2),?_,Nat.mod_lt _ hp⟩,⟨P % 4294967296 ^ (n-2),?_,Nat.mod_lt _ hp⟩,Nat.mod_lt _ (by omega),Nat.mod_lt _ (by omega),?_,Nat.mod_lt _ (by omega),hP⟩
 .rw [Nat.mod_eq_of_lt ht,q1];rw [Nat.div_add_mod' (V / 4294967296 ^ (n-2)),Nat.mul_comm];exact(Nat.div_add_mod _ _).symm
 .rw [Nat.mod_eq_of_lt hh,q3,q2];rw [Nat.div_add_mod' (P / 4294967296 ^ (n-2) / 4294967296),Nat.div_add_mod' (P / 4294967296 ^ (n-2)),Nat.mul_comm];exact(Nat.div_add_mod _ _).symm
 .rw [Nat.mod_eq_of_lt ht];have:2147483648<=V / 4294967296 ^ (n-1):=by
   rw [Nat.le_div_iff_mul_le (pow_pos _)];rw [e1]at hV2;generalize 4294967296 ^ (n-1)=p at hV2 ⊢;omega
  omega
theorem za4{a b:Nat}(h:¬a<b):(ordN a b<0)=False:=by
 unfold ordN;rw [if_neg h];split <;> simp
theorem Vav{j X V A q Q:Nat}(hV:0<V)(hA:A=X+V*4294967296 ^ (j+1)*Q)(hq:q=X / 4294967296 ^ j / V) :
  A=(X % 4294967296 ^ j+4294967296 ^ j*(X / 4294967296 ^ j % V))+V*4294967296 ^ j*(q+4294967296*Q)/\X % 4294967296 ^ j+4294967296 ^ j*(X / 4294967296 ^ j % V)<V*4294967296 ^ j:=by
 have hp:=pow_pos j;rw [Nat.pow_succ]at hA;generalize 4294967296 ^ j=p at *
 have e1:=Nat.div_add_mod X p;have e2:=Nat.div_add_mod (X / p) V;have m1:=Nat.mod_lt X hp;have m2:=Nat.mod_lt (X / p) hV;rw [<-hq]at e2;generalize X % p=r at *
 generalize hS:X / p % V=S at *
 generalize X / p=Z at *
 generalize 4294967296=B at hA ⊢;subst hA e2 e1;constructor
 .grind
 .have:p*(S+1)<=p*V:=Nat.mul_le_mul_left _ m2;rw [Nat.mul_add,Nat.mul_one]at this;rw [Nat.mul_comm V];omega
theorem vQ(k X:Nat):dig k (X+4294967296 ^ k)=dig k X:=by
 rw [<-ZU,Nat.add_mod_right,ZU]
theorem yba{k P V g:Nat}(hg:g=P / V):dig k (P+4294967296 ^ k-g*V)=dig k (P % V):=by
 have e:g*V+P % V=P:=by rw [hg,Nat.mul_comm];exact Nat.div_add_mod P V
 clear hg;generalize P % V=r at *
 generalize hp:4294967296 ^ k=p;rw [show P+p-g*V=r+p by omega,<-hp,vQ]
theorem vba{k P V g:Nat}(hg:g=P / V+1)(hb:P<g*V)(hk:g*V<4294967296 ^ k):dig k (val (dig k (P+4294967296 ^ k-g*V))+V)=dig k (P % V):=by
 have e:P / V*V+P % V=P:=by rw [Nat.mul_comm];exact Nat.div_add_mod P V
 have:g*V=P / V*V+V:=by rw [hg,Nat.add_mul,Nat.one_mul]
 rw [kk,Nat.mod_eq_of_lt (by omega)]
 clear hg;generalize P / V*V=q at *
 generalize P % V=r at *
 generalize g*V=gv at *
 generalize hp:4294967296 ^ k=p at *
 rw [show P+p-gv+V=r+p by omega,<-hp,vQ]
theorem qaL{a b:Nat}(ha:a<4294967296)(hb:b<4294967296):a*b<18446744073709551616:=by
 have h:=zao ha hb (c:=0) (d:=0) (by decide) (by decide)
 rwa [Nat.zero_add,Nat.add_zero]at h
theorem JP{q:Nat}(h:q<4294967296):sub64 (q+1) 1=q:=by rw [jA (by omega) (by omega)];omega
theorem jbh{r:Nat}(h:r<4294967296):r*4294967296 % 18446744073709551616=r*4294967296:=by omega
end Go.Num
end
section
namespace Go.Abs
open Go.Num
variable {P:Program} {Γ:Nat->Spec}
def Qi(f0 f1 f2 f3 f4 f5 f6 f7:Nat):AC:=(.seq (.ops false [.m 4 (.c (.one .emp)),.m 5 (.c (.one .emp))])
 (.fg [0,1] (.seq (.seq (.ops false [.m 19 (.t 0),.m 20 (.t 1),.u 21 (.call f0 [(.t 19),(.t 20)]),.u 22 (.bin .lss (.t 21) (.i 0))])
 (.fg [0,1,22] (.cond (.t 22) (.seq (.ops false [.m 23 (.t 0),.u 24 (.call f1 [(.t 23)]),.m 4 (.c (.one .emp)),.m 5 (.t 24)])
 .ret) .skip)))
 (.fg [0,1] (.seq (.seq (.ops false [.m 25 (.t 1),.u 26 (.len (.t 25)),.u 27 (.bin .eql (.t 26) (.i 1))])
 (.fg [0,1,27] (.cond (.t 27) (.seq (.ops false [.m 29 (.t 0),.m 30 (.t 1),.u 31 (.idx 1 (.t 30) (.i 0)),.u 32 (.ld none 1 false (.t 31)),.u 33 (.call f2 [(.t 29),(.t 32)]),.m 28 (.t 33),.u 34 (.ext 0 (.t 28)),.u 35 (.ext 1 (.t 28)),.m 6 (.t 34),.m 7 (.t 35)])
 (.fg [6,7] (.seq (.ops false [.m 36 (.t 6),.m 37 (.t 7),.u 38 (.row 1 [[.x 1 (.t 37)]]),.u 39 (.call f1 [(.t 38)]),.m 4 (.t 36),.m 5 (.t 39)])
 .ret))) .skip)))
 (.fg [0,1] (.seq (.ops false [.m 40 (.t 1),.m 41 (.t 1),.u 42 (.len (.t 41)),.u 43 (.bin .sub (.t 42) (.i 1)),.u 44 (.idx 1 (.t 40) (.t 43)),.u 45 (.ld none 1 false (.t 44)),.u 46 (.call f3 [(.t 45)]),.m 8 (.t 46)])
 (.fg [0,1,8] (.seq (.ops true [.m 47 (.t 1),.m 48 (.t 8),.u 49 (.callf f4 [(.t 47),(.t 48)]),.m 50 (.t 1),.u 51 (.len (.t 50)),.u 52 (.sl 1 (.t 49) none (some (.t 51))),.m 53 (.t 0),.m 54 (.t 8),.u 55 (.callf f4 [(.t 53),(.t 54)]),.m 9 (.t 52),.m 10 (.t 55)])
 (.fg [8,9,10] (.fz [9] (.seq (.ops false [.m 56 (.t 10),.u 57 (.len (.t 56)),.m 58 (.t 9),.u 59 (.len (.t 58)),.u 60 (.bin .sub (.t 57) (.t 59)),.u 61 (.mk 1 [(.lit (.int .u32 0))] (.t 60) (.t 60)),.m 11 (.t 61)])
 (.fg [8,9,10,11] (.seq (.ops true [.m 62 (.t 9),.m 63 (.t 9),.u 64 (.len (.t 63)),.u 65 (.bin .sub (.t 64) (.i 1)),.u 66 (.idx 1 (.t 62) (.t 65)),.u 67 (.ld none 1 false (.t 66)),.u 68 (.conv .u64 (.t 67)),.m 69 (.t 9),.m 70 (.t 9),.u 71 (.len (.t 70)),.u 72 (.bin .sub (.t 71) (.i 2)),.u 73 (.idx 1 (.t 69) (.t 72)),.u 74 (.ld none 1 false (.t 73)),.u 75 (.conv .u64 (.t 74)),.m 12 (.t 68),.m 13 (.t 75)])
 (.fg [8,9,10,11,12,13] (.seq (.seq (.ops false [.m 76 (.t 11),.u 77 (.len (.t 76)),.u 78 (.bin .sub (.t 77) (.i 1)),.m 14 (.t 78)])
 (.fg [8,9,10,11,12,13,14] (.block 0 (.loop (.seq (.seq (.ops false [.m 79 (.t 14),.u 80 (.bin .geq (.t 79) (.i 0))])
 (.fg [8,9,10,11,12,13,14,80] (.cond (.t 80) .skip (.exit 0))))
 (.fg [8,9,10,11,12,13,14] (.seq (.block 1 (.seq (.ops false [.m 83 (.t 10),.m 84 (.t 14),.m 85 (.t 14),.m 86 (.t 9),.u 87 (.len (.t 86)),.u 88 (.bin .add (.t 85) (.t 87)),.u 89 (.bin .add (.t 88) (.i 1)),.u 90 (.sl 1 (.t 83) (some (.t 84)) (some (.t 89))),.m 15 (.t 90)])
 (.fg [8,9,10,11,12,13,14,15] (.seq (.ops true [.m 91 (.t 15),.m 92 (.t 9),.u 93 (.len (.t 92)),.u 94 (.idx 1 (.t 91) (.t 93)),.u 95 (.ld none 1 false (.t 94)),.u 96 (.conv .u64 (.t 95)),.u 97 (.bin .shl (.t 96) (.c (.one (.lit (.int .u64 32))))),.m 98 (.t 15),.m 99 (.t 9),.u 100 (.len (.t 99)),.u 101 (.bin .sub (.t 100) (.i 1)),.u 102 (.idx 1 (.t 98) (.t 101)),.u 103 (.ld none 1 false (.t 102)),.u 104 (.conv .u64 (.t 103)),.u 105 (.bin .or (.t 97) (.t 104)),.m 16 (.t 105)])
 (.fg [8,9,10,11,12,13,14,15,16] (.seq (.ops true [.m 106 (.t 16),.m 107 (.t 12),.u 108 (.bin .quo (.t 106) (.t 107)),.m 109 (.t 16),.m 110 (.t 12),.u 111 (.bin .rem (.t 109) (.t 110)),.m 17 (.t 108),.m 18 (.t 111)])
 (.fg [8,9,10,11,12,13,14,15,17,18] (.seq (.block 2 (.loop (.seq (.seq (.ops false [.m 112 (.t 18),.u 113 (.bin .lss (.t 112) (.c (.one (.lit (.int .u64 4294967296))))),.m 114 (.t 113),.w 115 114 true (.mv (.t 17)),.w 116 114 true (.bin .geq (.t 115) (.c (.one (.lit (.int .u64 4294967296))))),.w 117 114 true (.mv (.t 116)),.w 118 117 false (.mv (.t 17)),.w 119 117 false (.mv (.t 13)),.w 120 117 false (.bin .mul (.t 118) (.t 119)),.w 121 117 false (.mv (.t 18)),.w 122 117 false (.bin .shl (.t 121) (.c (.one (.lit (.int .u64 32))))),.w 123 117 false (.mv (.t 15)),.w 124 117 false (.mv (.t 9)),.w 125 117 false (.len (.t 124)),.w 126 117 false (.bin .sub (.t 125) (.i 2)),.w 127 117 false (.idx 1 (.t 123) (.t 126)),.w 128 117 false (.ld none 1 false (.t 127)),.w 129 117 false (.conv .u64 (.t 128)),.w 130 117 false (.bin .or (.t 122) (.t 129)),.w 131 117 false (.bin .gtr (.t 120) (.t 130)),.w 132 114 true (.pick (.t 117) .tr (.t 131)),.u 133 (.pick (.t 114) (.t 132) .fa)])
 (.fg [8,9,10,11,12,13,14,15,17,18,133] (.cond (.t 133) .skip (.exit 2))))
 (.fg [8,9,10,11,12,13,14,15,17,18] (.block 3 (.seq (.ops false [.m 134 (.t 17),.u 135 (.bin .sub (.t 134) (.c (.one (.lit (.int .u64 1))))),.m 17 (.t 135)])
 (.fg [8,9,10,11,12,13,14,15,17,18] (.ops false [.m 136 (.t 18),.m 137 (.t 12),.u 138 (.bin .add (.t 136) (.t 137)),.m 18 (.t 138)]))))))))
 (.fg [8,9,10,11,12,13,14,15,17] (.seq (.seq (.ops false [.m 139 (.t 15),.m 140 (.t 9),.m 141 (.t 17),.u 142 (.call f5 [(.t 139),(.t 140),(.t 141)])])
 (.fg [8,9,10,11,12,13,14,15,17,142] (.cond (.t 142) (.seq (.ops false [.m 143 (.t 17),.u 144 (.bin .sub (.t 143) (.c (.one (.lit (.int .u64 1))))),.m 17 (.t 144)])
 (.fg [8,9,10,11,12,13,14,15,17] (.ops false [.m 145 (.t 15),.m 146 (.t 9),.u 147 (.call f6 [(.t 145),(.t 146)])]))) .skip)))
 (.fg [8,9,10,11,12,13,14,17] (.ops false [.m 148 (.t 11),.m 149 (.t 14),.m 150 (.t 17),.u 151 (.conv .u32 (.t 150)),.u 152 (.idx 1 (.t 148) (.t 149)),.n (.st none 1 (.t 152) (.t 151))]))))))))))))
 (.fg [8,9,10,11,12,13,14] (.ops false [.m 81 (.t 14),.u 82 (.bin .sub (.t 81) (.i 1)),.m 14 (.t 82)])))))))))
 (.fg [8,10,11] (.seq (.ops false [.m 153 (.t 11),.u 154 (.call f1 [(.t 153)]),.m 155 (.t 10),.m 156 (.t 8),.u 157 (.call f7 [(.t 155),(.t 156)]),.m 4 (.t 154),.m 5 (.t 157)])
 .ret))))))))))))))))))
set_option maxHeartbeats 4000000 in
theorem Zab(hΓ:Holds P Γ){f fcmp ftrim fshort flz fup frem fback fdown:Nat}(h1:Γ fcmp=.dat false Ug)(h2:Γ ftrim=.dat false vr)(h3:Γ fshort=.dat false Ut)(h4:Γ flz=.dat true lz_G)
  (h5:Γ fup=.fresh 1 up_G) (h6:Γ frem=.own Zp) (h7:Γ fback=.own UD) (h8:Γ fdown=.dat false jD)
  (hc:check P f=some (158,(Qi fcmp ftrim fshort flz fup frem fback fdown).strip,[.tmp 4,.tmp 5])):Sound P f (.dat false Xg):=by
 refine va hc VK hΓ (λargs K hcl hfi hG=>?_);match args,hG with
 | [a,b],hG=>
  obtain⟨x,rfl,hx,y,rfl,hy,hzx,hzy,hy0,hxl,hyl,hK⟩:=hG;refine⟨by simp,?_⟩
  have hn:0<y.length:=by cases y with | nil=>exact(hy0 rfl).elim | cons=>simp
  have ht0:y.getD (y.length-1) 0≠0:=by
   intro e;refine hzy ?_;rw [List.getLast?_eq_getElem?];rw [List.getD_eq_getElem?_getD,List.getElem?_eq_getElem (by omega)]at e
   rw [List.getElem?_eq_getElem (by omega)]
   simpa using e
  have htB:=ub hy (y.length-1);obtain⟨s,hs32,hs,hs1,hs2⟩:=Wbj (Nat.pos_of_ne_zero ht0) htB;have hlast:((y.length:Int)-1).toNat=y.length-1:=by omega
  have hle:(y.length<=y.length+1)=True:=eq_true (by omega)
  obtain⟨hV1,hV2⟩:=shifted hy hn hs1 hs2;by_cases hlt:val x<val y
  .simp only [go_sem,Qi,h1,h2,h3,h4,h5,h8,XR hlt];refine⟨hx,hy,hzx,hzy,λ_=>⟨hx,by omega,?_⟩,λh=>absurd (show(-1:Int)<0 by omega) h⟩
   rw [Nat.div_eq_of_lt hlt,Nat.mod_eq_of_lt hlt,yb]at hK;exact hK
  have hlen:y.length<=x.length:=by
   rcases Nat.lt_or_ge x.length y.length with h | h
   .exact absurd (wI hx hzy h) hlt
   .exact h
  obtain⟨M,hM⟩:∃M,M=x.length+1-y.length:=⟨_,rfl⟩;have hM2:((x.length+1:Nat):Int)-(y.length:Int)=(M:Int):=by omega
  simp only [go_sem,Qi,h1,h2,h3,h4,h5,h8,hlast,hs,Ya,ua5,hle,za4 hlt,hM2];refine⟨hx,hy,hzx,hzy,λ_=>⟨λhone=>?_,λhone=>?_⟩⟩
  .have hone:y.length=1:=by omega
   match y,hone with
   | [t],_=>
    simp only [List.length_singleton,Nat.sub_self,List.getD_cons_zero]at ht0 htB ⊢;refine⟨by omega,by omega,hx,by omega,by omega,by omega,Jc.2 ⟨Nat.lt_trans (Nat.mod_lt _ (by omega)) htB,vc⟩,?_⟩
    simpa [val] using hK
  have hone:2<=y.length:=by omega
  generalize hV:val y*2 ^ s=V at hV1 hV2;generalize hA:val x*2 ^ s=A;generalize hnn:y.length=n at *
  generalize hLL:x.length+1=L at *
  have hV0:0<V:=by have:=pow_pos n;omega
  have htop:(dig n V).getD (n-1) 0=V / 4294967296 ^ (n-1) % 4294967296:=XS _ _ _ (by omega)
  have hnext:(dig n V).getD ((n:Int)-2).toNat 0=V / 4294967296 ^ (n-2) % 4294967296:=by
   rw [show((n:Int)-2).toNat=n-2 by omega];exact XS _ _ _ (by omega)
  have hvv:val (dig n V)=V:=by rw [kk,Nat.mod_eq_of_lt hV1]
  repeat (first | (refine And.intro (by omega) ?_) | (refine And.intro (by assumption) ?_) | (refine And.intro rfl ?_) | (refine And.intro ⟨rfl,by omega⟩ ?_) | (refine And.intro ⟨rfl,by omega,by omega⟩ ?_) | (intro _))
  obtain⟨top,htd⟩:∃t,t=V / 4294967296 ^ (n-1) % 4294967296:=⟨_,rfl⟩;obtain⟨next,hnd⟩:∃t,t=V / 4294967296 ^ (n-2) % 4294967296:=⟨_,rfl⟩
  have htB:top<4294967296:=by rw [htd];exact Nat.mod_lt _ (by omega)
  have hnB:next<4294967296:=by rw [hnd];exact Nat.mod_lt _ (by omega)
  rw [htop,hnext,<-htd,<-hnd,Nat.mod_eq_of_lt (show top<18446744073709551616 by omega),Nat.mod_eq_of_lt (show next<18446744073709551616 by omega)]
  have hstart:=Wa3 hx hs32 (y:=y) (by rw [hnn,hV];exact hV2) (by omega)
  rw [hV,hA,hLL,hnn,<-hM]at hstart;refine wa (λp:Nat×Nat×List Nat=>⟨mkV [(8,.one (.lit (.int .i64 s))),(9,wsA (dig n V)),(10,.one (.own 55 1 1 0 L)),(11,.one (.own 61 1 1 0 M)),(12,.one (.lit (.int .u64 top))),(13,.one (.lit (.int .u64 next))),(14,.one (.lit (.int .i64 ((p.1:Int)-1))))],
    mkH [(55,⟨1,some ⟨(dig L p.2.1).map wc,1,true⟩⟩),(61,⟨1,some ⟨(List.replicate p.1 0++p.2.2).map wc,1,true⟩⟩)]⟩)
   (λp=>p.1<=M/\p.2.1<V*4294967296 ^ p.1/\A=p.2.1+V*4294967296 ^ p.1*val p.2.2/\WL p.2.2/\p.2.2.length=M-p.1) (λp=>p.1) (M,A,[]) ?_ ?_ ?_
  .exact Qa (by simp [okS,okV,okC,okL,okH,okB,okE,Za,ja,za,Ja,wsA,ws]) ⟨Jb rfl,Jb (by simp),trivial⟩
  .exact⟨Nat.le_refl _,hstart,by simp [val],vc,by simp⟩
  .rintro⟨j1,X,qd⟩ ⟨hj,hX,hAX,hqd,hqdl⟩;simp only at hj hX hAX hqd hqdl;have hql:(List.replicate j1 0++qd).length=M:=by simp;omega
   rcases Nat.eq_zero_or_pos j1 with hj0 | hj0
   .subst hj0;simp only [Nat.pow_zero,Nat.mul_one]at hX hAX;have h0f:((0:Int)<=((0:Nat):Int)-1)=False:=eq_false (by omega)
    simp only [go_sem,h1,h2,h3,h4,h5,h8,Ya,hql,h0f];refine⟨hqd,by omega,yl _ _,by omega,by omega,?_⟩
    have hXL:X<4294967296 ^ L:=Nat.lt_trans hX (Nat.lt_of_lt_of_le hV1 (Nat.pow_le_pow_right (by omega) (by omega)))
    rw [kk,Nat.mod_eq_of_lt hXL];have hs0:0<2 ^ s:=Nat.pow_pos (by omega)
    have hA2:=(Nat.div_mod_unique hV0 (a:=A) (c:=X) (d:=val qd)).2 ⟨hAX.symm,hX⟩;have e1:val x / val y=val qd:=by rw [<-hA2.1,<-hA,<-hV,Nat.mul_div_mul_right _ _ hs0]
    have e2:val x % val y=X / 2 ^ s:=by
     rw [<-hA2.2,<-hA,<-hV,Nat.mul_mod_mul_right,Nat.mul_div_cancel _ hs0]
    rw [e1,e2]at hK;exact hK
   .obtain⟨j,rfl⟩:∃j,j1=j+1:=⟨j1-1,by omega⟩
    have hj1:(((j+1:Nat):Int)-1)=(j:Int):=by omega
    simp only [hj1];generalize hPP:X / 4294967296 ^ j=P';have hPV:P' < V*4294967296:=by
     rw [<-hPP,Nat.div_lt_iff_lt_mul (pow_pos _),Nat.mul_assoc,Nat.mul_comm 4294967296,<-Nat.pow_succ];exact hX
    have hPL:P' < 4294967296 ^ (n+1):=by
     have:=(Nat.mul_lt_mul_right (show 0<4294967296 by omega)).2 hV1
     rw [Nat.pow_succ];exact Nat.lt_trans hPV this
    have st:=ybi hone hV1 hV2 hPV;rw [<-htd,<-hnd]at st;have hread:∀k,k<=n->(dig L X).getD (j+k) 0=P' / 4294967296 ^ k % 4294967296:=by
     intro k hk;rw [XS _ _ _ (by omega),Nat.pow_add,<-Nat.div_div_eq_div_mul,hPP]
    have hr0:=hread n (Nat.le_refl _);have hr1:=hread (n-1) (by omega)
    have hr2:=hread (n-2) (by omega)
    obtain⟨a,ha⟩:∃a,a=P' / 4294967296 ^ n % 4294967296:=⟨_,rfl⟩;obtain⟨b,hb⟩:∃b,b=P' / 4294967296 ^ (n-1) % 4294967296:=⟨_,rfl⟩;obtain⟨u2,hu⟩:∃u2,u2=P' / 4294967296 ^ (n-2) % 4294967296:=⟨_,rfl⟩;rw [<-ha]at hr0 st;rw [<-hb]at hr1 st;rw [<-hu]at hr2 st;have haB:a<4294967296:=by rw [ha];exact Nat.mod_lt _ (by omega)
    have hbB:b<4294967296:=by rw [hb];exact Nat.mod_lt _ (by omega)
    have huB:u2<4294967296:=by rw [hu];exact Nat.mod_lt _ (by omega)
    have htop0:0<top:=by have:=st.half;omega
    have hsub:j+n+1-j=n+1:=by omega
    have hsub1:((n:Int)-1).toNat=n-1:=by omega
    have hsub2:((n:Int)-2).toNat=n-2:=by omega
    have ea1:a % 18446744073709551616=a:=by omega
    have ea2:a*4294967296 % 18446744073709551616=a*4294967296:=by omega
    have eb1:b % 18446744073709551616=b:=by omega
    have eu1:u2 % 18446744073709551616=u2:=by omega
    have eor:=or32 a b hbB;simp only [go_sem,h1,h2,h3,h4,h5,h8,Ya,hql,hsub,hsub1,hsub2,hr0,hr1,hr2,ea1,ea2,eb1,eor];repeat (first | (refine And.intro (by omega) ?_) | (refine And.intro (by assumption) ?_) | (refine And.intro rfl ?_) | (refine And.intro ⟨rfl,by omega⟩ ?_) | (refine And.intro ⟨rfl,by omega,by omega⟩ ?_) | (intro _))
    obtain⟨q1,q2⟩:=st.first
    generalize hhead:a*4294967296+b=head at *
    have hqB:=st.quot;rw [Nat.mod_eq_of_lt (show head / top<18446744073709551616 by omega)]
    refine wa (λp:Nat×Nat=>⟨mkV [(8,.one (.lit (.int .i64 s))),(9,wsA (dig n V)),(10,.one (.own 55 1 1 0 L)),(11,.one (.own 61 1 1 0 M)),(12,.one (.lit (.int .u64 top))),(13,.one (.lit (.int .u64 next))),(14,.one (.lit (.int .i64 j))),(15,.one (.own 55 1 1 j (n+1))),(17,.one (.lit (.int .u64 p.1))),(18,.one (.lit (.int .u64 p.2)))],
      mkH [(55,⟨1,some ⟨(dig L X).map wc,1,true⟩⟩),(61,⟨1,some ⟨(List.replicate (j+1) 0++qd).map wc,1,true⟩⟩)]⟩)
     (λp=>p.1*top+p.2=head/\P' / V<=p.1/\p.1<=4294967297/\p.2<8589934592/\(4294967296<p.1->p.2<4294967296)) (λp=>p.1) (head / top,head % top) ?_ ?_ ?_
    .exact Qa (by simp [okS,okV,okC,okL,okH,okB,okE,Za,ja,za,Ja,wsA,ws]) ⟨Jb rfl,Jb rfl,trivial⟩
    .have m1:=Nat.mod_lt head htop0;exact⟨Nat.div_add_mod' head top,q2,q1,by simp only;omega,λ_=>by simp only;omega⟩
    .rintro⟨g,r⟩ ⟨hg,hqg,hgB,hrB,hgr⟩;simp only at hg hqg hgB hrB hgr;rcases Nat.lt_or_ge r 4294967296 with hr | hr
     .have hr' : ((r:Int)<4294967296)=True:=eq_true (by omega)
      rcases Nat.lt_or_ge g 4294967296 with hgl | hgl
      .have hg' : ((4294967296:Int)<=(g:Int))=False:=eq_false (by omega)
       have hm:g*next<18446744073709551616:=qaL hgl hnB
       have em:g*next % 18446744073709551616=g*next:=by rw [Nat.mod_eq_of_lt hm]
       have er:=jbh hr;have eo:=or32 r u2 huB;by_cases hcmp:r*4294967296+u2<g*next
       .simp only [go_sem,h1,h2,h3,h4,h5,h6,h7,h8,Ya,hql,hsub,hsub1,hsub2,hr0,hr1,hr2,eu1,hr',hg',em,er,eo,hcmp];repeat (first | (refine And.intro (by omega) ?_) | (refine And.intro (by assumption) ?_) | (refine And.intro rfl ?_) | (refine And.intro ⟨rfl,by omega⟩ ?_) | (refine And.intro ⟨rfl,by omega,by omega⟩ ?_) | (intro _))
        have hdown:4294967296<=g∨r*4294967296+u2<g*next:=.inr hcmp
        have hdn:=st.down hg hdown;have hg0:1<=g:=Nat.lt_of_le_of_lt (Nat.zero_le _) hdn;have hqg1:P' / V<=g-1:=Nat.le_sub_one_of_lt hdn;have hg1:sub64 g 1=g-1:=jA hg0 (by omega)
        refine⟨(g-1,r+top),Qa (by simp [okS,okV,okC,okL,okH,okB,okE,Za,ja,za,Ja,wsA,ws,hg1];omega) ⟨Jb rfl,Jb rfl,trivial⟩,⟨?_,hqg1,by simp only;omega,by simp only;omega,λ_=>by simp only at *;omega⟩,by simp only;omega⟩
        simp only;obtain⟨g',rfl⟩:∃g',g=g' + 1:=⟨g-1,by omega⟩
        rw [Nat.add_sub_cancel,<-hg,Nat.add_mul];omega
       .simp only [go_sem,h1,h2,h3,h4,h5,h6,h7,h8,Ya,hql,hsub,hsub1,hsub2,hr0,hr1,hr2,eu1,hr',hg',em,er,eo,hcmp];repeat (first | (refine And.intro (by omega) ?_) | (refine And.intro (by assumption) ?_) | (refine And.intro rfl ?_) | (refine And.intro ⟨rfl,by omega⟩ ?_) | (refine And.intro ⟨rfl,by omega,by omega⟩ ?_) | (intro _))
        have hstop:4294967296<=r∨(g<4294967296/\g*next<=r*4294967296+u2):=.inr ⟨hgl,by omega⟩
        have hgB2:g<=4294967296:=by omega
        have hle:=st.stop hg hgB2 hstop;obtain⟨l1,l2⟩:=st.left hqg hle;have hgV:g*V<4294967296 ^ (n+1):=by
         have a1:=Nat.mul_le_mul_right V hgB2;have a2:=(Nat.mul_lt_mul_left (show 0<4294967296 by omega)).2 hV1
         rw [Nat.pow_succ,Nat.mul_comm (4294967296 ^ n)];exact Nat.lt_of_le_of_lt a1 a2
        have hsplit:=WJ (L:=L) (j:=j) (n:=n) (X:=X) (by omega) (by rw [hPP];exact hPL)
        rw [hPP]at hsplit;have hvp:val (dig (n+1) P')=P':=by rw [kk,Nat.mod_eq_of_lt hPL]
        have hrl:P' % V<4294967296 ^ (n+1):=Nat.lt_of_le_of_lt (Nat.mod_le _ _) hPL;have hjoin:=zak (L:=L) (j:=j) (n:=n) (X:=X) (by omega) hrl
        have hdiv:=Vav (j:=j) (q:=P' / V) hV0 hAX (by rw [hPP])
        rw [hPP]at hdiv;simp only [Zp,kG];refine⟨yl _ _,dig j X,dig (n+1) P',List.replicate (L-(j+(n+1))) 0,g,(Ya _ _).symm,(Ya _ _).symm,rfl,by simp only [za,↓reduceIte,Nat.reduceEqDiff];rw [hsplit],yl _ _,hgB2,by rw [Ya,Ya];omega,by rw [hvv,Ya];exact hgV,by rw [Ya];omega,?_⟩
        rw [hvp,hvv,Ya];by_cases hb:P' < g*V
        .have hgq:=l1 hb;simp only [go_sem,h1,h2,h3,h4,h5,h7,h8,hb,hql];simp only [UD,kG];refine⟨yl _ _,dig j X,dig (n+1) (P' + 4294967296 ^ (n+1)-g*V),List.replicate (L-(j+(n+1))) 0,(Ya _ _).symm,(Ya _ _).symm,by simp only [za,↓reduceIte,Nat.reduceEqDiff],yl _ _,by rw [Ya,Ya];omega,by rw [Ya];omega,?_⟩
         rw [Ya,hvv,vba hgq hb hgV,hjoin];have hg1:sub64 g 1=P' / V:=by rw [hgq];exact JP hqB
         simp only [go_sem,h1,h2,h3,h4,h5,h7,h8,hql,hg1];rw [Nat.mod_eq_of_lt hqB];have hset:=Uq (n:=j+1) qd (P' / V) (by omega)
         rw [Nat.add_sub_cancel]at hset;rw [hset];repeat (first | (refine And.intro (by omega) ?_) | (refine And.intro (by assumption) ?_) | (refine And.intro rfl ?_) | (refine And.intro ⟨rfl,by omega⟩ ?_) | (refine And.intro ⟨rfl,by omega,by omega⟩ ?_) | (intro _))
         exact⟨(j,X % 4294967296 ^ j+4294967296 ^ j*(P' % V),P' / V::qd),Qa (by simp [okS,okV,okC,okL,okH,okB,okE,Za,ja,za,Ja,wsA,ws]) ⟨Jb rfl,Jb rfl,trivial⟩,⟨by simp only;omega,hdiv.2,hdiv.1,Jc.2 ⟨hqB,hqd⟩,by simp only [List.length_cons];omega⟩,by simp only;omega⟩
        .have hgq:=l2 hb;rw [yba hgq,hjoin];simp only [go_sem,h1,h2,h3,h4,h5,h7,h8,hb,hql];rw [hgq,Nat.mod_eq_of_lt hqB];have hset:=Uq (n:=j+1) qd (P' / V) (by omega)
         rw [Nat.add_sub_cancel]at hset;rw [hset];repeat (first | (refine And.intro (by omega) ?_) | (refine And.intro (by assumption) ?_) | (refine And.intro rfl ?_) | (refine And.intro ⟨rfl,by omega⟩ ?_) | (refine And.intro ⟨rfl,by omega,by omega⟩ ?_) | (intro _))
         exact⟨(j,X % 4294967296 ^ j+4294967296 ^ j*(P' % V),P' / V::qd),Qa (by simp [okS,okV,okC,okL,okH,okB,okE,Za,ja,za,Ja,wsA,ws]) ⟨Jb rfl,Jb rfl,trivial⟩,⟨by simp only;omega,hdiv.2,hdiv.1,Jc.2 ⟨hqB,hqd⟩,by simp only [List.length_cons];omega⟩,by simp only;omega⟩
      .have hg' : ((4294967296:Int)<=(g:Int))=True:=eq_true (by omega)
       simp only [go_sem,h1,h2,h3,h4,h5,h6,h7,h8,Ya,hql,hsub,hsub1,hsub2,hr0,hr1,hr2,eu1,hr',hg'];repeat (first | (refine And.intro (by omega) ?_) | (refine And.intro (by assumption) ?_) | (refine And.intro rfl ?_) | (refine And.intro ⟨rfl,by omega⟩ ?_) | (refine And.intro ⟨rfl,by omega,by omega⟩ ?_) | (intro _))
       have hdown:4294967296<=g∨r*4294967296+u2<g*next:=.inl hgl
       have hdn:=st.down hg hdown;have hg0:1<=g:=Nat.lt_of_le_of_lt (Nat.zero_le _) hdn;have hqg1:P' / V<=g-1:=Nat.le_sub_one_of_lt hdn;have hg1:sub64 g 1=g-1:=jA hg0 (by omega)
       refine⟨(g-1,r+top),Qa (by simp [okS,okV,okC,okL,okH,okB,okE,Za,ja,za,Ja,wsA,ws,hg1];omega) ⟨Jb rfl,Jb rfl,trivial⟩,⟨?_,hqg1,by simp only;omega,by simp only;omega,λ_=>by simp only at *;omega⟩,by simp only;omega⟩
       simp only;obtain⟨g',rfl⟩:∃g',g=g' + 1:=⟨g-1,by omega⟩
       rw [Nat.add_sub_cancel,<-hg,Nat.add_mul];omega
     .have hr' : ((r:Int)<4294967296)=False:=eq_false (by omega)
      simp only [go_sem,h1,h2,h3,h4,h5,h6,h7,h8,Ya,hql,hsub,hsub1,hsub2,hr0,hr1,hr2,eu1,hr'];repeat (first | (refine And.intro (by omega) ?_) | (refine And.intro (by assumption) ?_) | (refine And.intro rfl ?_) | (refine And.intro ⟨rfl,by omega⟩ ?_) | (refine And.intro ⟨rfl,by omega,by omega⟩ ?_) | (intro _))
      have hstop:4294967296<=r∨(g<4294967296/\g*next<=r*4294967296+u2):=.inl hr
      have hgB2:g<=4294967296:=by omega
      have hle:=st.stop hg hgB2 hstop;obtain⟨l1,l2⟩:=st.left hqg hle;have hgV:g*V<4294967296 ^ (n+1):=by
       have a1:=Nat.mul_le_mul_right V hgB2;have a2:=(Nat.mul_lt_mul_left (show 0<4294967296 by omega)).2 hV1
       rw [Nat.pow_succ,Nat.mul_comm (4294967296 ^ n)];exact Nat.lt_of_le_of_lt a1 a2
      have hsplit:=WJ (L:=L) (j:=j) (n:=n) (X:=X) (by omega) (by rw [hPP];exact hPL)
      rw [hPP]at hsplit;have hvp:val (dig (n+1) P')=P':=by rw [kk,Nat.mod_eq_of_lt hPL]
      have hrl:P' % V<4294967296 ^ (n+1):=Nat.lt_of_le_of_lt (Nat.mod_le _ _) hPL;have hjoin:=zak (L:=L) (j:=j) (n:=n) (X:=X) (by omega) hrl
      have hdiv:=Vav (j:=j) (q:=P' / V) hV0 hAX (by rw [hPP])
      rw [hPP]at hdiv;simp only [Zp,kG];refine⟨yl _ _,dig j X,dig (n+1) P',List.replicate (L-(j+(n+1))) 0,g,(Ya _ _).symm,(Ya _ _).symm,rfl,by simp only [za,↓reduceIte,Nat.reduceEqDiff];rw [hsplit],yl _ _,hgB2,by rw [Ya,Ya];omega,by rw [hvv,Ya];exact hgV,by rw [Ya];omega,?_⟩
      rw [hvp,hvv,Ya];by_cases hb:P' < g*V
      .have hgq:=l1 hb;simp only [go_sem,h1,h2,h3,h4,h5,h7,h8,hb,hql];simp only [UD,kG];refine⟨yl _ _,dig j X,dig (n+1) (P' + 4294967296 ^ (n+1)-g*V),List.replicate (L-(j+(n+1))) 0,(Ya _ _).symm,(Ya _ _).symm,by simp only [za,↓reduceIte,Nat.reduceEqDiff],yl _ _,by rw [Ya,Ya];omega,by rw [Ya];omega,?_⟩
       rw [Ya,hvv,vba hgq hb hgV,hjoin];have hg1:sub64 g 1=P' / V:=by rw [hgq];exact JP hqB
       simp only [go_sem,h1,h2,h3,h4,h5,h7,h8,hql,hg1];rw [Nat.mod_eq_of_lt hqB];have hset:=Uq (n:=j+1) qd (P' / V) (by omega)
       rw [Nat.add_sub_cancel]at hset;rw [hset];repeat (first | (refine And.intro (by omega) ?_) | (refine And.intro (by assumption) ?_) | (refine And.intro rfl ?_) | (refine And.intro ⟨rfl,by omega⟩ ?_) | (refine And.intro ⟨rfl,by omega,by omega⟩ ?_) | (intro _))
       exact⟨(j,X % 4294967296 ^ j+4294967296 ^ j*(P' % V),P' / V::qd),Qa (by simp [okS,okV,okC,okL,okH,okB,okE,Za,ja,za,Ja,wsA,ws]) ⟨Jb rfl,Jb rfl,trivial⟩,⟨by simp only;omega,hdiv.2,hdiv.1,Jc.2 ⟨hqB,hqd⟩,by simp only [List.length_cons];omega⟩,by simp only;omega⟩
      .have hgq:=l2 hb;rw [yba hgq,hjoin];simp only [go_sem,h1,h2,h3,h4,h5,h7,h8,hb,hql];rw [hgq,Nat.mod_eq_of_lt hqB];have hset:=Uq (n:=j+1) qd (P' / V) (by omega)
       rw [Nat.add_sub_cancel]at hset;rw [hset];repeat (first | (refine And.intro (by omega) ?_) | (refine And.intro (by assumption) ?_) | (refine And.intro rfl ?_) | (refine And.intro ⟨rfl,by omega⟩ ?_) | (refine And.intro ⟨rfl,by omega,by omega⟩ ?_) | (intro _))
       exact⟨(j,X % 4294967296 ^ j+4294967296 ^ j*(P' % V),P' / V::qd),Qa (by simp [okS,okV,okC,okL,okH,okB,okE,Za,ja,za,Ja,wsA,ws]) ⟨Jb rfl,Jb rfl,trivial⟩,⟨by simp only;omega,hdiv.2,hdiv.1,Jc.2 ⟨hqB,hqd⟩,by simp only [List.length_cons];omega⟩,by simp only;omega⟩
end Go.Abs
end
section
namespace Go.Abs
open Go.Num
variable {P:Program} {Γ:Nat->Spec}
def Wj:AC:=(.seq (.ops false [.u 1 (.box 2 (.t 0)),.m 2 .fa])
 (.fg [1] (.seq (.seq (.ops false [.u 3 (.fa 1 (.t 1)),.u 4 (.ld none 1 false (.t 3)),.u 5 (.len (.t 4)),.u 6 (.bin .eql (.t 5) (.i 0))])
 (.fg [1,6] (.cond (.t 6) (.seq (.ops false [.u 7 (.fa 0 (.t 1)),.u 8 (.ld none 1 false (.t 7)),.u 9 (.un .not (.t 8)),.m 2 (.t 9)])
 .ret) .skip)))
 (.fg [1] (.seq (.ops false [.u 10 (.fa 1 (.t 1)),.u 11 (.ld none 1 false (.t 10)),.u 12 (.fa 1 (.t 1)),.u 13 (.ld none 1 false (.t 12)),.u 14 (.len (.t 13)),.u 15 (.bin .sub (.t 14) (.i 1)),.u 16 (.idx 1 (.t 11) (.t 15)),.u 17 (.ld none 1 false (.t 16)),.u 18 (.bin .neq (.t 17) (.c (.one (.lit (.int .u32 0))))),.m 2 (.t 18)])
 .ret)))))
def kn(f0:Nat):AC:=(.seq (.ops false [.u 1 (.box 2 (.t 0)),.m 2 (.c (.one .emp))])
 (.fg [1] (.seq (.seq (.ops false [.u 3 (.ld none 2 true (.t 1)),.u 4 (.call f0 [(.t 3)]),.u 5 (.un .not (.t 4))])
 (.fg [1,5] (.cond (.t 5) (.seq (.ops false [.m 2 (.c (.one .emp))])
 .ret) .skip)))
 (.fg [1] (.seq (.ops false [.u 6 (.fa 1 (.t 1)),.u 7 (.ld none 1 false (.t 6)),.m 2 (.t 7)])
 .ret)))))
def Un(f0:Nat):AC:=(.seq (.ops false [.u 1 (.box 2 (.t 0)),.m 2 .fa])
 (.fg [1] (.seq (.ops false [.u 3 (.ld none 2 true (.t 1)),.u 4 (.call f0 [(.t 3)]),.m 5 (.t 4),.w 6 5 true (.fa 0 (.t 1)),.w 7 5 true (.ld none 1 false (.t 6)),.u 8 (.pick (.t 5) (.t 7) .fa),.m 2 (.t 8)])
 .ret)))
def xo(f0:Nat):AC:=(.seq (.ops false [.u 4 (.alloc [(.lit (.bool false)),.emp])])
 (.fg [0,1,4] (.seq (.ops false [.m 5 (.t 1),.u 6 (.call f0 [(.t 5)]),.m 1 (.t 6)])
 (.fg [0,1,4] (.seq (.ops false [.m 7 (.t 0),.m 8 (.t 7),.w 9 8 true (.mv (.t 1)),.w 10 8 true (.len (.t 9)),.w 11 8 true (.bin .gtr (.t 10) (.i 0)),.u 12 (.pick (.t 8) (.t 11) .fa),.m 13 (.t 1),.u 14 (.build [.x 1 (.t 12),.x 1 (.t 13)]),.n (.st none 2 (.t 4) (.t 14))])
 .ret)))))
def qq(f0:Nat):AC:=(.seq (.ops false [.u 2 (.alloc [(.lit (.bool false)),.emp])])
 (.fg [0,2] (.seq (.ops false [.m 4 (.t 0),.u 5 (.conv .u64 (.t 4)),.m 3 (.t 5)])
 (.fg [0,2,3] (.seq (.seq (.ops false [.m 6 (.t 0),.u 7 (.bin .lss (.t 6) (.i 0))])
 (.fg [0,2,3,7] (.cond (.t 7) (.ops false [.m 8 (.t 3),.u 9 (.un .neg (.t 8)),.m 3 (.t 9)]) .skip)))
 (.fg [0,2,3] (.seq (.ops false [.m 10 (.t 0),.u 11 (.bin .lss (.t 10) (.i 0)),.m 12 (.t 3),.u 13 (.conv .u32 (.t 12)),.m 14 (.t 3),.u 15 (.bin .shr (.t 14) (.c (.one (.lit (.int .u64 32))))),.u 16 (.conv .u32 (.t 15)),.u 17 (.row 1 [[.x 1 (.t 13)],[.x 1 (.t 16)]]),.u 18 (.call f0 [(.t 11),(.t 17)]),.n (.st none 2 (.t 2) (.t 18))])
 .ret)))))))
def Xs(f0:Nat):AC:=(.seq (.ops false [.u 1 (.box 2 (.t 0)),.m 2 (.i 0)])
 (.fg [1] (.seq (.block 0 (.seq (.ops false [.u 4 (.ld none 2 true (.t 1)),.u 5 (.call f0 [(.t 4)]),.u 6 (.len (.t 5)),.u 7 (.bin .eql (.t 6) (.i 0)),.m 3 (.t 7)])
 (.fg [1,3] (.cond (.t 3) (.seq (.ops false [.m 2 (.i 0)])
 .ret) (.seq (.ops false [.u 9 (.fa 0 (.t 1)),.u 10 (.ld none 1 false (.t 9)),.m 8 (.t 10)])
 (.fg [8] (.cond (.t 8) (.seq (.ops false [.m 2 (.i (-1))])
 .ret) .skip)))))))
 (.fg [] (.seq (.ops false [.m 2 (.i 1)])
 .ret)))))
def yu(f0 f1 f2 f3:Nat):AC:=(.seq (.ops false [.u 2 (.box 2 (.t 0)),.u 3 (.box 2 (.t 1)),.m 4 (.i 0)])
 (.fg [2,3] (.seq (.seq (.ops true [.u 8 (.ld none 2 true (.t 2)),.u 9 (.call f0 [(.t 8)]),.u 10 (.ld none 2 true (.t 3)),.u 11 (.call f0 [(.t 10)]),.m 5 (.t 9),.m 6 (.t 11)])
 (.fg [2,3,5,6] (.seq (.ops false [.m 12 (.t 5),.m 13 (.t 6),.u 14 (.bin .neq (.t 12) (.t 13))])
 (.fg [2,3,5,6,14] (.cond (.t 14) (.seq (.seq (.ops false [.m 15 (.t 5),.m 16 (.t 6),.u 17 (.bin .lss (.t 15) (.t 16))])
 (.fg [17] (.cond (.t 17) (.seq (.ops false [.m 4 (.i (-1))])
 .ret) .skip)))
 (.fg [] (.seq (.ops false [.m 4 (.i 1)])
 .ret))) .skip)))))
 (.fg [2,3] (.seq (.ops true [.u 18 (.ld none 2 true (.t 2)),.u 19 (.call f1 [(.t 18)]),.u 20 (.ld none 2 true (.t 3)),.u 21 (.call f1 [(.t 20)]),.u 22 (.call f2 [(.t 19),(.t 21)]),.m 7 (.t 22)])
 (.fg [2,7] (.seq (.seq (.ops false [.u 23 (.ld none 2 true (.t 2)),.u 24 (.call f3 [(.t 23)])])
 (.fg [7,24] (.cond (.t 24) (.seq (.ops false [.m 25 (.t 7),.u 26 (.un .neg (.t 25)),.m 4 (.t 26)])
 .ret) .skip)))
 (.fg [7] (.seq (.ops false [.m 27 (.t 7),.m 4 (.t 27)])
 .ret)))))))))
def Xn(f0 f1 f2:Nat):AC:=(.seq (.ops false [.u 1 (.box 2 (.t 0)),.u 2 (.alloc [(.lit (.bool false)),.emp])])
 (.fg [1,2] (.seq (.ops true [.u 3 (.ld none 2 true (.t 1)),.u 4 (.call f0 [(.t 3)]),.u 5 (.un .not (.t 4)),.u 6 (.ld none 2 true (.t 1)),.u 7 (.call f1 [(.t 6)]),.u 8 (.call f2 [(.t 5),(.t 7)]),.n (.st none 2 (.t 2) (.t 8))])
 .ret)))
def Qv(f0 f1 f2 f3 f4 f5:Nat):AC:=(.seq (.ops false [.u 2 (.box 2 (.t 0)),.u 3 (.box 2 (.t 1)),.u 4 (.alloc [(.lit (.bool false)),.emp])])
 (.fg [2,3,4] (.seq (.ops true [.u 7 (.ld none 2 true (.t 2)),.u 8 (.call f0 [(.t 7)]),.u 9 (.ld none 2 true (.t 3)),.u 10 (.call f0 [(.t 9)]),.m 5 (.t 8),.m 6 (.t 10)])
 (.fg [2,3,4,5,6] (.seq (.block 0 (.seq (.ops true [.u 12 (.ld none 2 true (.t 2)),.u 13 (.call f1 [(.t 12)]),.u 14 (.ld none 2 true (.t 3)),.u 15 (.call f1 [(.t 14)]),.u 16 (.binb .eql (.t 13) (.t 15)),.m 11 (.t 16)])
 (.fg [2,3,4,5,6,11] (.cond (.t 11) (.seq (.ops false [.u 17 (.ld none 2 true (.t 2)),.u 18 (.call f1 [(.t 17)]),.m 19 (.t 5),.m 20 (.t 6),.u 21 (.call f2 [(.t 19),(.t 20)]),.u 22 (.call f3 [(.t 18),(.t 21)]),.n (.st none 2 (.t 4) (.t 22))])
 .ret) (.seq (.ops false [.m 24 (.t 5),.m 25 (.t 6),.u 26 (.call f4 [(.t 24),(.t 25)]),.u 27 (.bin .geq (.t 26) (.i 0)),.m 23 (.t 27)])
 (.fg [2,3,4,5,6,23] (.cond (.t 23) (.seq (.ops false [.u 28 (.ld none 2 true (.t 2)),.u 29 (.call f1 [(.t 28)]),.m 30 (.t 5),.m 31 (.t 6),.u 32 (.call f5 [(.t 30),(.t 31)]),.u 33 (.call f3 [(.t 29),(.t 32)]),.n (.st none 2 (.t 4) (.t 33))])
 .ret) .skip)))))))
 (.fg [3,4,5,6] (.seq (.ops false [.u 34 (.ld none 2 true (.t 3)),.u 35 (.call f1 [(.t 34)]),.m 36 (.t 6),.m 37 (.t 5),.u 38 (.call f5 [(.t 36),(.t 37)]),.u 39 (.call f3 [(.t 35),(.t 38)]),.n (.st none 2 (.t 4) (.t 39))])
 .ret)))))))
def vu(f0 f1 f2 f3:Nat):AC:=(.seq (.ops false [.u 2 (.box 2 (.t 0)),.u 3 (.box 2 (.t 1)),.u 4 (.alloc [(.lit (.bool false)),.emp])])
 (.fg [2,3,4] (.seq (.ops true [.u 5 (.ld none 2 true (.t 2)),.u 6 (.call f0 [(.t 5)]),.u 7 (.ld none 2 true (.t 3)),.u 8 (.call f0 [(.t 7)]),.u 9 (.binb .neq (.t 6) (.t 8)),.u 10 (.ld none 2 true (.t 2)),.u 11 (.call f1 [(.t 10)]),.u 12 (.ld none 2 true (.t 3)),.u 13 (.call f1 [(.t 12)]),.u 14 (.call f2 [(.t 11),(.t 13)]),.u 15 (.call f3 [(.t 9),(.t 14)]),.n (.st none 2 (.t 4) (.t 15))])
 .ret)))
def Xt(f0 f1 f2:Nat):AC:=(.seq (.ops false [.u 2 (.box 2 (.t 0)),.u 3 (.box 2 (.t 1)),.u 4 (.alloc [(.lit (.bool false)),.emp])])
 (.fg [2,3,4] (.seq (.ops true [.u 9 (.ld none 2 true (.t 2)),.u 10 (.call f0 [(.t 9)]),.u 11 (.ld none 2 true (.t 3)),.u 12 (.call f0 [(.t 11)]),.m 5 (.t 10),.m 6 (.t 12)])
 (.fg [4,5,6] (.seq (.block 0 (.loop (.seq (.seq (.ops false [.m 13 (.t 6),.u 14 (.len (.t 13)),.u 15 (.bin .gtr (.t 14) (.i 0))])
 (.fg [4,5,6,15] (.cond (.t 15) .skip (.exit 0))))
 (.fg [4,5,6] (.block 1 (.seq (.ops false [.m 17 (.t 5),.m 18 (.t 6),.u 19 (.call f1 [(.t 17),(.t 18)]),.m 16 (.t 19),.u 20 (.ext 0 (.t 16)),.u 21 (.ext 1 (.t 16)),.m 7 (.t 20),.m 8 (.t 21)])
 (.fg [4,6,8] (.ops false [.m 22 (.t 6),.m 23 (.t 8),.m 5 (.t 22),.m 6 (.t 23)]))))))))
 (.fg [4,5] (.seq (.ops false [.m 24 (.t 5),.u 25 (.call f2 [.fa,(.t 24)]),.n (.st none 2 (.t 4) (.t 25))])
 .ret)))))))
def ju(f0 f1 f2 f3 f4 f5 tE:Nat):AC:=(.seq (.ops false [.u 2 (.box 2 (.t 0)),.u 3 (.box 2 (.t 1)),.u 4 (.alloc [(.lit (.bool false)),.emp]),.u 5 (.alloc [(.lit (.bool false)),.emp]),.m 6 (.c (.one (.lit .nilIface)))])
 (.fg [2,3,4,5] (.seq (.ops false [.u 10 (.ld none 2 true (.t 3)),.u 11 (.call f0 [(.t 10)]),.m 7 (.t 11)])
 (.fg [2,3,4,5,7] (.seq (.seq (.ops false [.m 12 (.t 7),.u 13 (.len (.t 12)),.u 14 (.bin .eql (.t 13) (.i 0))])
 (.fg [2,3,4,5,7,14] (.cond (.t 14) (.seq (.ops false [.u 15 (.build [.z [(.lit (.bool false)),.emp]]),.u 16 (.build [.z [(.lit (.bool false)),.emp]]),.u 17 (.iface tE (.i 8)),.n (.st none 2 (.t 4) (.t 15)),.n (.st none 2 (.t 5) (.t 16)),.m 6 (.t 17)])
 .ret) .skip)))
 (.fg [2,3,4,5,7] (.seq (.ops false [.u 19 (.ld none 2 true (.t 2)),.u 20 (.call f0 [(.t 19)]),.m 21 (.t 7),.u 22 (.call f1 [(.t 20),(.t 21)]),.m 18 (.t 22),.u 23 (.ext 0 (.t 18)),.u 24 (.ext 1 (.t 18)),.m 8 (.t 23),.m 9 (.t 24)])
 (.fg [2,3,4,5,7,8,9] (.seq (.seq (.ops false [.u 25 (.ld none 2 true (.t 2)),.u 26 (.call f2 [(.t 25)]),.m 27 (.t 26),.w 28 27 true (.mv (.t 9)),.w 29 27 true (.len (.t 28)),.w 30 27 true (.bin .gtr (.t 29) (.i 0)),.u 31 (.pick (.t 27) (.t 30) .fa)])
 (.fg [2,3,4,5,7,8,9,31] (.cond (.t 31) (.ops false [.m 32 (.t 8),.u 33 (.row 1 [[.x 1 (.c (.one (.lit (.int .u32 1))))]]),.u 34 (.call f3 [(.t 32),(.t 33)]),.m 35 (.t 7),.m 36 (.t 9),.u 37 (.call f4 [(.t 35),(.t 36)]),.m 8 (.t 34),.m 9 (.t 37)]) .skip)))
 (.fg [2,3,4,5,8,9] (.seq (.ops true [.u 38 (.ld none 2 true (.t 2)),.u 39 (.call f2 [(.t 38)]),.u 40 (.ld none 2 true (.t 3)),.u 41 (.call f2 [(.t 40)]),.u 42 (.binb .neq (.t 39) (.t 41)),.m 43 (.t 8),.u 44 (.call f5 [(.t 42),(.t 43)]),.m 45 (.t 9),.u 46 (.call f5 [.fa,(.t 45)]),.n (.st none 2 (.t 4) (.t 44)),.n (.st none 2 (.t 5) (.t 46)),.m 6 (.c (.one (.lit .nilIface)))])
 .ret)))))))))))
theorem xG(hΓ:Holds P Γ){f:Nat}(hc:check P f=some (19,Wj.strip,[.tmp 2])):Sound P f (.dat true uh):=by
 refine va hc Jag hΓ (λargs K hcl hfi hG=>?_);match args,hG with
 | [a],hG=>
  obtain⟨w,rfl,hw,hK⟩:=hG;refine⟨by simp,?_⟩
  simp only [go_sem,Wj,ubf,ZaB];unfold vldW at hK;intro hlen;refine⟨λh=>?_,λh _=>?_⟩
  .rw [if_pos (List.length_eq_zero_iff.1 h)]at hK;exact hK
  .have hn:w.2≠[]:=λe=>h (by rw [e];rfl)
   rw [if_neg hn]at hK;refine⟨⟨by omega,by omega⟩,by omega,by omega,?_⟩
   have e1:((w.2.length:Int)-1).toNat=w.2.length-1:=by omega
   rw [e1];have e2:(!decide (w.2.getD (w.2.length-1) 0=0))=decide (NZ w.2):=by
    rw [<-decide_not,decide_eq_decide];unfold NZ;rw [List.getLast?_eq_getElem?,List.getElem?_eq_getElem (by omega),List.getD_eq_getElem?_getD,List.getElem?_eq_getElem (by omega)]
    simp
   rw [e2];exact hK
theorem qQ(hΓ:Holds P Γ){f fv:Nat}(hv:Γ fv=.dat true uh)(hc:check P f=some (8,(kn fv).strip,[.tmp 2])):Sound P f (.dat false Zj):=by
 refine va hc qaJ hΓ (λargs K hcl hfi hG=>?_);match args,hG with
 | [a],hG=>
  obtain⟨w,rfl,hw,hK⟩:=hG;refine⟨by simp,?_⟩
  simp only [go_sem,kn,hv,hw];rw [<-qbA hw]at hK;refine⟨λh=>?_,λh=>?_⟩
  .rw [if_pos h]at hK;exact hK
  .rw [if_neg (by rw [h];simp)]at hK;exact hK
theorem zK(hΓ:Holds P Γ){f fv:Nat}(hv:Γ fv=.dat true uh)(hc:check P f=some (9,(Un fv).strip,[.tmp 2])):Sound P f (.dat true Jg):=by
 refine va hc VaB hΓ (λargs K hcl hfi hG=>?_);match args,hG with
 | [a],hG=>
  obtain⟨w,rfl,hw,hK⟩:=hG;refine⟨by simp,?_⟩
  simp only [go_sem,Un,hv,hw];rw [<-uaH hw]at hK;refine⟨λh=>?_,λh=>?_⟩
  .rw [h,Bool.true_and]at hK;exact hK
  .rw [h,Bool.false_and]at hK;exact hK
theorem Xae(hΓ:Holds P Γ){f ft:Nat}(ht:Γ ft=.dat false vr)(hc:check P f=some (15,(xo ft).strip,[.cell 4 2 true])):Sound P f (.dat false vf):=by
 refine va hc xP hΓ (λargs K hcl hfi hG=>?_);match args,hG with
 | [a,m],hG=>
  obtain⟨b,rfl,hG⟩:=Zw hG;obtain⟨l,rfl,hl,hlen,hK⟩:=hG;refine⟨by simp,?_⟩
  simp only [go_sem,xo,ht];rw [<-Yan]at hK;refine⟨hl,hlen,λh _=>?_,λh=>?_⟩
  .rw [h,Bool.true_and]at hK;exact hK
  .rw [h,Bool.false_and]at hK;exact hK
theorem kY(hΓ:Holds P Γ){f fw:Nat}(hw:Γ fw=.dat false vf)(hc:check P f=some (19,(qq fw).strip,[.cell 2 2 true])):Sound P f (.dat false QH):=by
 refine va hc qa6 hΓ (λargs K hcl hfi hG=>?_);match args,hG with
 | [a],hG=>
  obtain⟨k,n,rfl,rfl,hn1,hn2,hK⟩:=Vb hG;refine⟨by simp,?_⟩
  simp only [go_sem,qq,hw];have e0:(18446744073709551616:Int)=((18446744073709551616:Nat):Int):=rfl;have key:∀(x:Nat) (b:Bool),x<18446744073709551616->sg b x=n->
    onWs (λl=>l.length<=68719476736/\K (AV.agg [zb (zcan (sg b (val l))),zm (zcan (sg b (val l)))]))
     (AV.one (C.slice [[C.lit (Value.int IntKind.u32 ((x:Int) % 4294967296))],[C.lit (Value.int IntKind.u32 ((x:Int) / 2 ^ 32 % 4294967296))]])):=by
   intro x b hx hs;have e1:((x:Int) % 4294967296)=((x % 4294967296:Nat):Int):=by omega
   have e2:((x:Int) / 2 ^ 32 % 4294967296)=((x / 4294967296:Nat):Int):=by omega
   rw [e1,e2,YaX];refine⟨?_,by simp,?_⟩
   .rw [Jc,Jc];exact⟨by omega,by omega,vc⟩
   .have:val [x % 4294967296,x / 4294967296]=x:=by
     simp only [qi,Wm];omega
    rw [this,hs];exact hK
  refine⟨λh=>⟨⟨by omega,by omega,by decide⟩,?_⟩,λh=>⟨⟨by omega,by omega,by decide⟩,?_⟩⟩
  .have e:(-(n % 18446744073709551616) % 18446744073709551616:Int)=((-n).toNat:Int):=by omega
   rw [e];refine key _ _ (by omega) ?_
   rw [decide_eq_true h];unfold sg;rw [if_pos rfl];omega
  .have e:(n % 18446744073709551616:Int)=(n.toNat:Int):=by omega
   rw [e];refine key _ _ (by omega) ?_
   rw [decide_eq_false h];unfold sg;rw [if_neg (by simp)];omega
theorem Uag(hΓ:Holds P Γ){f fm:Nat}(hm:Γ fm=.dat false Zj)(hc:check P f=some (11,(Xs fm).strip,[.tmp 2])):Sound P f (.dat true qh):=by
 refine va hc uQ hΓ (λargs K hcl hfi hG=>?_);match args,hG with
 | [a],hG=>
  obtain⟨w,rfl,hw,hK⟩:=hG;refine⟨by simp,?_⟩
  simp only [go_sem,Xs,hm,hw,ubf,ZaB];intro _;show((digs (zv w).natAbs).length=0->_)/\(¬(digs (zv w).natAbs).length=0->_);have h0:(digs (zv w).natAbs).length=0↔zv w=0:=Vv;rw [h0];refine⟨λh=>?_,λh=>⟨λhb=>?_,λhb=>?_⟩⟩
  .rw [h]at hK;exact hK
  .have:zv w<0:=by
    have:=uaH hw;rw [hb,Bool.and_true]at this;have hv:vldW w=true:=by
     cases hv:vldW w with
     | true=>rfl
     | false=>exact absurd (uah hv) h
    rw [hv]at this;simpa using this.symm
   rw [Int.sign_eq_neg_one_of_neg this]at hK;exact hK
  .have:¬zv w<0:=by
    have:=uaH hw;rw [hb,Bool.and_false]at this;simpa using this.symm
   rw [Int.sign_eq_one_of_pos (by omega)]at hK;exact hK
theorem YaD(hΓ:Holds P Γ){f fs fm fc fn:Nat}(hs:Γ fs=.dat true qh)(hm:Γ fm=.dat false Zj)(hc' : Γ fc=.dat false Ug)(hn:Γ fn=.dat true Jg)
  (hc:check P f=some (28,(yu fs fm fc fn).strip,[.tmp 4])):Sound P f (.dat true jz):=by
 refine va hc vaG hΓ (λargs K hcl hfi hG=>?_);match args,hG with
 | [a,b],hG=>
  obtain⟨v,rfl,hv,w,rfl,hw,hK⟩:=hG;refine⟨by simp,?_⟩
  simp only [go_sem,yu,hs,hm,hc',hn,hv,hw];simp only [qb];have hs:∀n:Int,Int.sign n=if n<0 then -1 else if n=0 then 0 else 1:=by
   intro n;split
   .exact Int.sign_eq_neg_one_of_neg ‹_›
   .split
    .rename_i h;rw [h];rfl
    .exact Int.sign_eq_one_of_pos (by omega)
  rw [hs,hs];generalize zv v=x at hK ⊢;generalize zv w=y at hK ⊢;refine⟨λh=>⟨ua _,ua _,Jo _,Jo _,λhx=>⟨?_,?_⟩,λhx=>?_⟩,λh=>⟨λh'=>?_,λh'=>?_⟩⟩
  .unfold ordN;split <;> (try split) <;> omega
  .have e:-ordN x.natAbs y.natAbs=ordI x y:=by
    unfold ordN ordI;rw [if_pos hx]at h;have hy:y<0:=by
     split at h
     .assumption
     .split at h <;> omega
    split <;> (try split) <;> (try split) <;> (try split) <;> omega
   rw [e];exact hK
  .have e:ordN x.natAbs y.natAbs=ordI x y:=by
    unfold ordN ordI;rw [if_neg hx]at h;have hy:¬y<0:=by
     intro hy;rw [if_pos hy]at h;split at h <;> omega
    split <;> (try split) <;> (try split) <;> (try split) <;> omega
   rw [e];exact hK
  .have e:ordI x y = -1:=xbk (by
    split at h' <;> split at h' <;> (try split at h') <;> (try split at h') <;> omega)
   rw [e]at hK;exact hK
  .have e:ordI x y=1:=wbi (by
    split at h' <;> split at h' <;> (try split at h') <;> (try split at h') <;> (try split at h) <;> (try split at h) <;> (try split at h) <;> (try split at h) <;> omega)
   rw [e]at hK;exact hK
theorem UQ(hΓ:Holds P Γ){f fn fm fw:Nat}(hn:Γ fn=.dat true Jg)(hm:Γ fm=.dat false Zj)(hw' : Γ fw=.dat false vf)(hc:check P f=some (9,(Xn fn fm fw).strip,[.cell 2 2 true])):Sound P f (.dat false Vw):=by
 refine va hc UaG hΓ (λargs K hcl hfi hG=>?_);match args,hG with
 | [a],hG=>
  obtain⟨w,rfl,hw,hz,hK⟩:=hG;refine⟨by simp,?_⟩
  simp only [go_sem,Xn,hn,hm,hw',hw];rw [qb];refine⟨ua _,hz,?_⟩;have e:sg (!decide (zv w<0)) (zv w).natAbs = -zv w:=by
   unfold sg;by_cases h:zv w<0 <;> simp [h] <;> omega
  rw [e];exact hK
theorem Qaz(hΓ:Holds P Γ){f fn fm ft fw:Nat}(hn:Γ fn=.dat true Jg)(hm:Γ fm=.dat false Zj)(ht:Γ ft=.dat false Wx)(hw' : Γ fw=.dat false vf)(hc:check P f=some (16,(vu fn fm ft fw).strip,[.cell 4 2 true])):Sound P f (.dat false Jy):=by
 refine va hc QaJ hΓ (λargs K hcl hfi hG=>?_);match args,hG with
 | [a,b],hG=>
  obtain⟨v,rfl,hv,w,rfl,hw,hz,hz',hK⟩:=hG;refine⟨by simp,?_⟩
  simp only [go_sem,vu,hn,hm,ht,hw',hw,hv];simp only [qb];have e:sg (!(decide (zv v<0) == decide (zv w<0))) ((zv v).natAbs*(zv w).natAbs)=zv v*zv w:=xbt _ _;rw [e];refine⟨ua _,ua _,hz,hz',ua _,?_,hK⟩;have:=Jm (zv v) (zv w);unfold zs at *
  rw [<-Int.natAbs_mul];omega
theorem ZaD(hΓ:Holds P Γ){f fn fm fp fw fc fl:Nat}(hn:Γ fn=.dat true Jg)(hm:Γ fm=.dat false Zj)(hp:Γ fp=.dat false qt)(hw' : Γ fw=.dat false vf)(hc' : Γ fc=.dat false Ug)(hl:Γ fl=.dat false Yt)(hc:check P f=some (40,(Qv fm fn fp fw fc fl).strip,[.cell 4 2 true])):Sound P f (.dat false xE):=by
 refine va hc WaR hΓ (λargs K hcl hfi hG=>?_);match args,hG with
 | [a,b],hG=>
  obtain⟨v,rfl,hv,w,rfl,hw,hz,hz',hK⟩:=hG;refine⟨by simp,?_⟩
  simp only [go_sem,Qv,hn,hm,hp,hw',hc',hl,hw,hv];simp only [qb];have hsz:=qH (zv v) (zv w);refine⟨λh=>⟨ua _,ua _,hz,hz',ua _,?_,?_⟩,λh=>⟨ua _,ua _,Jo _,Jo _,λho=>⟨ua _,ua _,by unfold zs at hz;omega,?_,ua _,?_,?_⟩,λho=>⟨ua _,ua _,by unfold zs at hz';omega,?_,ua _,?_,?_⟩⟩⟩
  .have e:=QL (yw h);rw [show(zv v).natAbs+(zv w).natAbs=(zv v+zv w).natAbs by have:=yw h;omega]
   unfold zs at *;omega
  .rw [QL (yw h)];exact hK
  .exact(JG.1 ho)
  .have:=Xa (Nat.sub_le (zv v).natAbs (zv w).natAbs);unfold zs at *;omega
  .have h1:=JG.1 ho;rw [Ya6 (yF h) h1];exact hK
  .have:=mt JG.2 ho;omega
  .have:=Xa (Nat.sub_le (zv w).natAbs (zv v).natAbs);unfold zs at *;omega
  .have h1:=mt JG.2 ho;rw [Ya6 (λe=>yF h e.symm) (by omega),Int.add_comm];exact hK
theorem Vaz(hΓ:Holds P Γ){f fn fm fp fw fd fl tE:Nat}(hn:Γ fn=.dat true Jg)(hm:Γ fm=.dat false Zj)(hp:Γ fp=.dat false qt)(hw' : Γ fw=.dat false vf)(hd:Γ fd=.dat false Xg)(hl:Γ fl=.dat false Yt)(hc:check P f=some (47,(ju fm fd fn fp fl fw tE).strip,[.cell 4 2 true,.cell 5 2 true,.tmp 6])):Sound P f (.dat false YF):=by
 refine va hc jaT hΓ (λargs K hcl hfi hG=>?_);match args,hG with
 | [a,b],hG=>
  obtain⟨v,rfl,hv,w,rfl,hw,hz,hz',h0,hK⟩:=hG;refine⟨by simp,?_⟩
  simp only [go_sem,ju,hn,hm,hp,hw',hd,hl,hw,hv];simp only [qb];have hne:¬(digs (zv w).natAbs).length=0:=λe=>h0 (Vv.1 e);intro _;refine⟨λe=>absurd e hne,λ_=>⟨ua _,ua _,Jo _,Jo _,λe=>hne (by rw [e];rfl),hz,hz',?_⟩⟩
  have hq:(digs ((zv v).natAbs / (zv w).natAbs)).length<=17179869184:=Nat.le_trans (Xa (Nat.div_le_self _ _)) hz;have hr:(digs ((zv v).natAbs % (zv w).natAbs)).length<=17179869184:=Nat.le_trans (Xa (Nat.mod_le _ _)) hz;have hz'' : (digs (zv w).natAbs).length<=17179869184:=hz';have hlt:=Nat.mod_lt (zv v).natAbs (show 0<(zv w).natAbs by omega)
  have hfin:(0<=zv v∨(zv v).natAbs % (zv w).natAbs=0)->K (AV.tup
    [AV.agg [zb (zcan (sg (!(decide (zv v<0) == decide (zv w<0))) ((zv v).natAbs / (zv w).natAbs))),zm (zcan (sg (!(decide (zv v<0) == decide (zv w<0))) ((zv v).natAbs / (zv w).natAbs)))],
     AV.agg [zb (zcan (sg false ((zv v).natAbs % (zv w).natAbs))),zm (zcan (sg false ((zv v).natAbs % (zv w).natAbs)))],AV.one (C.lit Value.nilIface)]):=by
   intro h;obtain⟨e1,e2⟩:=Jat h0 h;have e1' : sg (!(decide (zv v<0) == decide (zv w<0))) ((zv v).natAbs / (zv w).natAbs)=zv v / zv w:=e1;have e2' : sg false ((zv v).natAbs % (zv w).natAbs)=zv v % zv w:=e2;rw [e1',e2'];exact hK
  refine⟨λhneg _=>⟨λhp=>⟨ua _,(Waq _ 1).mpr ⟨Jc.2 ⟨by decide,vc⟩,hq,by decide,ua _,ua _,by omega,by omega,ua _,?_,ua _,?_,?_⟩⟩,λhp=>⟨ua _,by omega,ua _,by omega,hfin (.inr ?_)⟩⟩,λhneg=>⟨ua _,by omega,ua _,by omega,hfin (.inl (by omega))⟩⟩
  .have hv1:val [1]=1:=rfl;rw [hv1];have h1:zs 1<=2:=uR (by decide)
   have:=qH (((zv v).natAbs / (zv w).natAbs:Nat):Int) 1;have e:(((zv v).natAbs / (zv w).natAbs:Nat):Int)+1=(((zv v).natAbs / (zv w).natAbs+1:Nat):Int):=by omega
   rw [e]at this;have h3:zs (((zv v).natAbs / (zv w).natAbs:Nat):Int)=(digs ((zv v).natAbs / (zv w).natAbs)).length:=rfl;have h4:zs (((zv v).natAbs / (zv w).natAbs+1:Nat):Int)=(digs ((zv v).natAbs / (zv w).natAbs+1)).length:=rfl;rw [h3,h4]at this;omega
  .have:=Xa (Nat.sub_le (zv w).natAbs ((zv v).natAbs % (zv w).natAbs));omega
  .have hv1:val [1]=1:=rfl;rw [hv1];have hne' : (zv v).natAbs % (zv w).natAbs≠0:=by
    intro e;rw [e,yb]at hp;simp at hp
   obtain⟨e1,e2⟩:=kas h0 hneg hne';have e1' : sg (!(decide (zv v<0) == decide (zv w<0))) ((zv v).natAbs / (zv w).natAbs+1)=zv v / zv w:=e1;have e2' : sg false ((zv w).natAbs-(zv v).natAbs % (zv w).natAbs)=zv v % zv w:=e2;rw [e1',e2'];exact hK
  .have:digs ((zv v).natAbs % (zv w).natAbs)=[]:=List.eq_nil_of_length_eq_zero (by omega)
   exact yf.1 this
theorem Zaz(hΓ:Holds P Γ){f fm fd fw:Nat}(hm:Γ fm=.dat false Zj)(hw' : Γ fw=.dat false vf)(hd:Γ fd=.dat false Xg)(hc:check P f=some (26,(Xt fm fd fw).strip,[.cell 4 2 true])):Sound P f (.dat false yt):=by
 refine va hc U6 hΓ (λargs K hcl hfi hG=>?_);match args,hG with
 | [a,b],hG=>
  obtain⟨v,rfl,hv,w,rfl,hw,hz,hz',hK⟩:=hG;refine⟨by simp,?_⟩
  simp only [go_sem,Xt,hm,hw',hd,hw,hv];refine wa (λp:Nat×Nat=>⟨mkV [(4,.one (.ptr 4 1 0 0)),(5,.one (ws (digs p.1))),(6,.one (ws (digs p.2)))],mkH [(4,⟨1,some ⟨[[.lit (.bool false),.emp]],2,true⟩⟩)]⟩)
   (λp=>(digs p.1).length<=17179869184/\(digs p.2).length<=17179869184/\Nat.gcd p.1 p.2=Int.gcd (zv v) (zv w)) (λp=>p.2) ((zv v).natAbs,(zv w).natAbs) ?_ ?_ ?_
  .exact Qa (by simp [okS,okV,okC,okL,okH,okB,okE,Za,ja,za,Ja,wsA,ws]) ⟨⟨⟨rfl,rfl⟩,.inr ⟨⟨rfl,trivial,trivial⟩,trivial⟩⟩,trivial⟩
  .exact⟨hz,hz',rfl⟩
  .rintro⟨a,b⟩ ⟨ha,hb,hg⟩;simp only at ha hb hg;simp only [go_sem,hm,hw',hd,ws];simp only [qb];refine λ_=>⟨λh=>⟨ua _,ua _,Jo _,Jo _,λe=>by rw [e]at h;simp at h,ha,hb,?_⟩,λh=>⟨ua _,by omega,?_⟩⟩
   .have hb0:0<b:=by
     rcases Nat.eq_zero_or_pos b with e | e
     .rw [e,yb]at h;simp at h
     .exact e
    refine⟨(b,a % b),Qa (by simp [okS,okV,okC,okL,okH,okB,okE,Za,ja,za,Ja,wsA,ws]) ⟨⟨⟨rfl,rfl⟩,.inr ⟨⟨rfl,trivial,trivial⟩,trivial⟩⟩,trivial⟩,⟨hb,Nat.le_trans (Xa (Nat.mod_le _ _)) ha,?_⟩,Nat.mod_lt _ hb0⟩
    rw [<-hg];show Nat.gcd b (a % b)=_;rw [Nat.gcd_comm b,<-Nat.gcd_rec,Nat.gcd_comm]
   .have:digs b=[]:=List.eq_nil_of_length_eq_zero (by omega)
    rw [yf.1 this,Nat.gcd_zero_right]at hg;rw [hg];exact hK
end Go.Abs
end
