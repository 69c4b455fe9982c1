/-
  Parts of the proof, merged: CoupA, CoupB, CoupC, CoupD, CoupE, CoupF, CoupG, CoupH, CoupJ.
-/
import Derived.Test.YtjggkdaangghfaaGreatM9
set_option linter.unusedVariables false
set_option linter.unusedSimpArgs false
set_option maxRecDepth 100000
section
namespace Go.Num
open Go.Abs
theorem Ybr {p q:BQ} (h:mcs p=mcs q):p=q:=by rw [<-jC p,h,jC]
theorem VB {p:BQ} {N:Nat} (h:sz p<=N):∀t∈mcs p,rl t.2.2<=N:=λt ht=>by
 obtain ⟨u,hu,rfl⟩:=List.mem_map.1 ht
 have h1:=qba hu
 have h2:rl (mcan u).2.2=rz u.2.2:=rfl
 omega
theorem vY {p q:BQ} (hp:Canon p) (hq:Canon q):chk2 (mcs p) (mcs q)=0:=by unfold chk2;rw [jF hp,if_neg (by decide),jF hq]
theorem Uba {p q:BQ} (hp:Canon p) (hq:Canon q) (hd:degB p+degB q<=24):mulC (mcs p) (mcs q)=0:=by
 unfold mulC;rw [vY hp hq,if_neg (by decide),xu,xu,if_neg (by omega)]
theorem JaY {p:BQ} (hp:Canon p) {d:Nat} (hd:Deg d p):degB p<=d:=by
 unfold degB
 cases hl:p.getLast? with
 | none=>simp only;omega
 | some u=>exact hd u (List.mem_of_getLast? hl)
theorem PB.dd {d s e t:Nat} {p q:BQ} (hp:PB d s p) (hq:PB e t q) (h:d+e<=24):degB p+degB q<=24:=by
 have h1:=JaY hp.canon hp.deg
 have h2:=JaY hq.canon hq.deg
 omega
theorem qN {p q:BQ} (hp:Canon p) (hq:Canon q):Canon (addB p q):=Ym (Xg.2 ⟨hp.ins,hq.ins⟩)
theorem J7 {p q:BQ} (hp:Canon p) (hq:Canon q):Canon (subB p q):=Ym (Xg.2 ⟨hp.ins,YC hq.ins⟩)
theorem UaY {p:BQ} (c:Rat) (hp:Canon p):Canon (sclB c p):=Ym (YC hp.ins)
theorem waH {p q:BQ} (hp:Canon p) (hq:Canon q) (hd:degB p+degB q<=24):Canon (mulB p q):=by
 refine Ym λt ht=>?_
 obtain ⟨a,ha,hb⟩:=List.mem_flatMap.1 ht
 obtain ⟨b,hb',rfl⟩:=List.mem_map.1 hb
 obtain ⟨x1,x2,x3⟩:=hp.ins a ha
 obtain ⟨y1,y2,y3⟩:=hq.ins b hb'
 have h1:=QK hp a ha
 have h2:=QK hq b hb'
 unfold inQ mulT
 simp only
 omega
theorem zbg (b:Bool) (c:Rat):mkC [((if b then 0 else 1:Int),(if b then 1 else 0:Int),rcan 1),(0,0,rcan c)]=0:=by
 have v1:vldR (rcan 1)=true:=zd _
 have v2:vldR (rcan c)=true:=zd _
 unfold mkC
 rw [if_neg (by simp)]
 cases b <;> simp [mkG,mkT,inM,v1,v2]
theorem qbg (b:Bool) (c:Rat):nf (([((if b then 0 else 1:Int),(if b then 1 else 0:Int),rcan 1),(0,0,rcan (-c))]:List Mo).map mv)=linB b c:=by
 unfold linB
 simp only [List.map_cons,List.map_nil,mv,Wb]
theorem YbC (x:R):nf (([(0,0,x)]:List Mo).map mv)=conB (rv x):=rfl
theorem Wbv {x:R} (h:vldR x=true):mkC [(0,0,x)]=0:=by
 unfold mkC
 rw [if_neg (by simp)]
 simp [mkG,mkT,inM,h]
end Go.Num
namespace Go.Abs
open Go.Num
variable {P:Program} {Γ:Nat->Spec}
def bC (p:BQ):C:=.slice ((mcs p).map mC)
def onB (k:BQ->Prop) (a:AV):Prop:=∃p,a=.one (bC p)/\Canon p/\k p
@[congr] theorem xbV {k:BQ->Prop} {a a' : AV} (h:a=a'):onB k a=onB k a':=by subst h;rfl
theorem zaO {p q:BQ} (h:bC p=bC q):p=q:=by
 simp only [bC,C.slice.injEq]at h
 exact Ybr (jo h)
theorem zbA (k:BQ->Prop) (p:BQ):onB k (.one (bC p))=(Canon p/\k p):=by
 refine propext ⟨λ⟨x,h,h1,h2⟩=>?_,λh=>⟨p,rfl,h⟩⟩
 simp only [AV.one.injEq]at h
 have:=zaO h;subst this;exact ⟨h1,h2⟩
theorem uaQ (k:BQ->Prop) (p:BQ):onB k (.one (.slice ((mcs p).map mC)))=(Canon p/\k p):=zbA k p
theorem X5 {β:Type} {T:BQ->(β->Prop)->Prop} (h:∀p,GoodT (T p)) {a:AV}:GoodT λK=>onB (λp=>T p K) a:=
 .of λK hx=>by
  obtain ⟨p,rfl,hc,hk⟩:=hx
  have:(λK=>onB (λp=>T p K) (.one (bC p)))=λK=>Canon p/\T p K:=funext λK=>zbA _ p
  rw [this];exact .and λ_=>h p
def onV (k:BQ×BQ->Prop) (a:AV):Prop:=∃p q,a=.agg [bC p,bC q]/\(Canon p/\Canon q)/\k (p,q)
@[congr] theorem xbU {k:BQ×BQ->Prop} {a a' : AV} (h:a=a'):onV k a=onV k a':=by subst h;rfl
theorem Qbx (k:BQ×BQ->Prop) (p q:BQ):onV k (.agg [bC p,bC q])=((Canon p/\Canon q)/\k (p,q)):=by
 refine propext ⟨λ⟨x,y,h,h1,h2⟩=>?_,λh=>⟨p,q,rfl,h⟩⟩
 simp only [AV.agg.injEq,List.cons.injEq,and_true]at h
 obtain ⟨e1,e2⟩:=h
 have:=zaO e1;have:=zaO e2
 subst_vars;exact ⟨h1,h2⟩
theorem JbE (k:BQ×BQ->Prop) (p q:BQ):onV k (.agg [.slice ((mcs p).map mC),.slice ((mcs q).map mC)])=((Canon p/\Canon q)/\k (p,q)):=Qbx k p q
theorem wbG {β:Type} {T:BQ×BQ->(β->Prop)->Prop} (h:∀p,GoodT (T p)) {a:AV}:GoodT λK=>onV (λp=>T p K) a:=
 .of λK hx=>by
  obtain ⟨p,q,rfl,hc,hk⟩:=hx
  have:(λK=>onV (λp=>T p K) (.agg [bC p,bC q]))=λK=>(Canon p/\Canon q)/\T (p,q) K:=funext λK=>Qbx _ p q
  rw [this];exact .and λ_=>h (p,q)
theorem JbH (p:BQ):bC p=.slice ((mcs p).map mC):=eq_of_heq (HEq.refl _)
attribute [go_sem] uaQ JbE JbH
attribute [go_sem ↓] uaQ JbE JbH
def jn (l:List AV) (K:AV->Prop):Prop:=
 match l with
 | [p,e]=>e=.one (.lit .nilIface)/\onB (λp=>K (.one (bC p))) p
 | _=>False
theorem jar (p e:AV) (K:AV->Prop):jn [p,e] K=(e=.one (.lit .nilIface)/\onB (λp=>K (.one (bC p))) p):=propext Iff.rfl
@[congr] theorem JbJ {K:AV->Prop} {l l' : List AV} (h:l=l'):jn l K=jn l' K:=by subst h;rfl
attribute [go_sem] jar
attribute [go_sem ↓] jar
theorem XaD:Good jn:=ka λas=>by
 unfold jn
 split
 .exact (.and λ_=>(X5 λ_=>(.ret _)))
 .exact .of λK hk=>hk.elim
def Jz (l:List AV) (K:AV->Prop):Prop:=
 match l with
 | [a,b]=>onB (λp=>onB (λq=>sz p+sz q<=1000000000/\K (.one (bC (addB p q)))) b) a
 | _=>False
theorem kaU (a b:AV) (K:AV->Prop):Jz [a,b] K=(onB (λp=>onB (λq=>sz p+sz q<=1000000000/\K (.one (bC (addB p q)))) b) a):=propext Iff.rfl
@[congr] theorem YbO {K:AV->Prop} {l l' : List AV} (h:l=l'):Jz l K=Jz l' K:=by subst h;rfl
attribute [go_sem] kaU
attribute [go_sem ↓] kaU
theorem qaU:Good Jz:=ka λas=>by
 unfold Jz
 split
 .exact (X5 λ_=>(X5 λ_=>(.and λ_=>(.ret _))))
 .exact .of λK hk=>hk.elim
def qz (l:List AV) (K:AV->Prop):Prop:=
 match l with
 | [a,b]=>onB (λp=>onB (λq=>sz p+sz q<=1000000000/\K (.one (bC (subB p q)))) b) a
 | _=>False
theorem waT (a b:AV) (K:AV->Prop):qz [a,b] K=(onB (λp=>onB (λq=>sz p+sz q<=1000000000/\K (.one (bC (subB p q)))) b) a):=propext Iff.rfl
@[congr] theorem WbL {K:AV->Prop} {l l' : List AV} (h:l=l'):qz l K=qz l' K:=by subst h;rfl
attribute [go_sem] waT
attribute [go_sem ↓] waT
theorem uaZ:Good qz:=ka λas=>by
 unfold qz
 split
 .exact (X5 λ_=>(X5 λ_=>(.and λ_=>(.ret _))))
 .exact .of λK hk=>hk.elim
def ZA (l:List AV) (K:AV->Prop):Prop:=
 match l with
 | [a,b]=>onB (λp=>onB (λq=>sz p+sz q<=3000000/\degB p+degB q<=24/\K (.one (bC (mulB p q)))) b) a
 | _=>False
theorem qa4 (a b:AV) (K:AV->Prop):ZA [a,b] K=(onB (λp=>onB (λq=>sz p+sz q<=3000000/\degB p+degB q<=24/\K (.one (bC (mulB p q)))) b) a):=propext Iff.rfl
@[congr] theorem QbQ {K:AV->Prop} {l l' : List AV} (h:l=l'):ZA l K=ZA l' K:=by subst h;rfl
attribute [go_sem] qa4
attribute [go_sem ↓] qa4
theorem JaV:Good ZA:=ka λas=>by
 unfold ZA
 split
 .exact (X5 λ_=>(X5 λ_=>(.and λ_=>(.and λ_=>(.ret _)))))
 .exact .of λK hk=>hk.elim
def Jp (l:List AV) (K:AV->Prop):Prop:=
 match l with
 | [a,x]=>onB (λp=>onR (λx=>rl x<=1000000/\sz p<=100000000/\K (.one (bC (sclB (rv x) p)))) x) a
 | _=>False
theorem Vab (a x:AV) (K:AV->Prop):Jp [a,x] K=(onB (λp=>onR (λx=>rl x<=1000000/\sz p<=100000000/\K (.one (bC (sclB (rv x) p)))) x) a):=propext Iff.rfl
@[congr] theorem ubu {K:AV->Prop} {l l' : List AV} (h:l=l'):Jp l K=Jp l' K:=by subst h;rfl
attribute [go_sem] Vab
attribute [go_sem ↓] Vab
theorem Xaj:Good Jp:=ka λas=>by
 unfold Jp
 split
 .exact (X5 λ_=>(Qf λ_=>(.and λ_=>(.and λ_=>(.ret _)))))
 .exact .of λK hk=>hk.elim
def WF (l:List AV) (K:AV->Prop):Prop:=
 match l with
 | [b,x]=>asBool (λb=>onR (λx=>rl x<=1000000/\K (.one (bC (linB b (rv x))))) x) b
 | _=>False
theorem zaL (b x:AV) (K:AV->Prop):WF [b,x] K=(asBool (λb=>onR (λx=>rl x<=1000000/\K (.one (bC (linB b (rv x))))) x) b):=propext Iff.rfl
@[congr] theorem XbN {K:AV->Prop} {l l' : List AV} (h:l=l'):WF l K=WF l' K:=by subst h;rfl
attribute [go_sem] zaL
attribute [go_sem ↓] zaL
theorem QaQ:Good WF:=ka λas=>by
 unfold WF
 split
 .exact (Zy (λ_=>(Qf λ_=>(.and λ_=>(.ret _)))) _)
 .exact .of λK hk=>hk.elim
def VE (l:List AV) (K:AV->Prop):Prop:=
 match l with
 | [x]=>onR (λx=>rl x<=1000000/\vldR x=true/\K (.one (bC (conB (rv x))))) x
 | _=>False
theorem zaS (x:AV) (K:AV->Prop):VE [x] K=(onR (λx=>rl x<=1000000/\vldR x=true/\K (.one (bC (conB (rv x))))) x):=propext Iff.rfl
@[congr] theorem kbL {K:AV->Prop} {l l' : List AV} (h:l=l'):VE l K=VE l' K:=by subst h;rfl
attribute [go_sem] zaS
attribute [go_sem ↓] zaS
theorem Ya4:Good VE:=ka λas=>by
 unfold VE
 split
 .exact (Qf λ_=>(.and λ_=>(.and λ_=>(.ret _))))
 .exact .of λK hk=>hk.elim
def kf:AC:=(.seq (.ops false [.m 6 (.c (.one .emp))])
 (.fg [0,1,2] (.seq (.seq (.ops false [.m 7 (.t 0),.u 8 (.nilck (.t 7)),.u 9 (.fa 0 (.t 8)),.u 10 (.ld none 1 false (.t 9)),.u 11 (.binn .eql (.t 10) (.c (.one (.lit .nilIface))))])
 (.fg [0,1,2,11] (.cond (.t 11) (.ops false [.m 12 (.t 0),.m 13 (.t 2),.u 14 (.nilck (.t 12)),.u 15 (.fa 0 (.t 14)),.n (.st none 1 (.t 15) (.t 13))]) .skip)))
 (.fg [1] (.seq (.ops false [.m 16 (.t 1),.m 6 (.t 16)])
 .ret)))))
def jg (f0 f1:Nat):AC:=(.seq (.ops false [.m 6 (.c (.one .emp))])
 (.fg [0,1,2] (.seq (.ops false [.m 7 (.t 0),.m 8 (.t 1),.m 9 (.t 2),.u 10 (.call f0 [(.t 8),(.t 9)]),.u 11 (.ext 0 (.t 10)),.u 12 (.ext 1 (.t 10)),.u 13 (.callr f1 [(.t 7),(.t 11),(.t 12)]),.m 6 (.t 13)])
 .ret)))
def Zg (f0 f1:Nat):AC:=(.seq (.ops false [.m 6 (.c (.one .emp))])
 (.fg [0,1,2] (.seq (.ops false [.m 7 (.t 0),.m 8 (.t 1),.m 9 (.t 2),.u 10 (.call f0 [(.t 8),(.t 9)]),.u 11 (.ext 0 (.t 10)),.u 12 (.ext 1 (.t 10)),.u 13 (.callr f1 [(.t 7),(.t 11),(.t 12)]),.m 6 (.t 13)])
 .ret)))
def Vg (f0 f1:Nat):AC:=(.seq (.ops false [.m 6 (.c (.one .emp))])
 (.fg [0,1,2] (.seq (.ops false [.m 7 (.t 0),.m 8 (.t 1),.m 9 (.t 2),.u 10 (.call f0 [(.t 8),(.t 9)]),.u 11 (.ext 0 (.t 10)),.u 12 (.ext 1 (.t 10)),.u 13 (.callr f1 [(.t 7),(.t 11),(.t 12)]),.m 6 (.t 13)])
 .ret)))
def Xe (f0 f1:Nat):AC:=(.seq (.ops false [.u 5 (.box 3 (.t 2)),.m 6 (.c (.one .emp))])
 (.fg [0,1,5] (.seq (.ops false [.m 7 (.t 0),.m 8 (.t 1),.u 9 (.ld none 3 true (.t 5)),.u 10 (.call f0 [(.t 8),(.t 9)]),.u 11 (.ext 0 (.t 10)),.u 12 (.ext 1 (.t 10)),.u 13 (.callr f1 [(.t 7),(.t 11),(.t 12)]),.m 6 (.t 13)])
 .ret)))
def Uc (f0 f1 f2 f3:Nat):AC:=(.seq (.ops false [.u 5 (.box 3 (.t 2)),.m 6 (.c (.one .emp))])
 (.fg [0,1,5] (.seq (.ops false [.u 8 (.call f0 [(.i 1)]),.u 9 (.build [.x 1 (.i 1),.z [(.lit (.int .i64 0))],.x 3 (.t 8)]),.u 7 (.alloc [(.lit (.int .i64 0)),(.lit (.int .i64 0)),(.lit (.bool false)),.emp,.emp]),.n (.st none 5 (.t 7) (.t 9))])
 (.fg [0,1,5,7] (.seq (.seq (.ops false [.m 10 (.t 1)])
 (.fg [0,5,7,10] (.cond (.t 10) (.ops false [.u 11 (.fa 0 (.t 7)),.n (.st none 1 (.t 11) (.i 0)),.u 12 (.fa 1 (.t 7)),.n (.st none 1 (.t 12) (.i 1))]) .skip)))
 (.fg [0,5,7] (.seq (.ops true [.m 13 (.t 0),.u 14 (.ld none 5 true (.t 7)),.u 15 (.ld none 3 true (.t 5)),.u 16 (.call f1 [(.t 15)]),.u 17 (.build [.z [(.lit (.int .i64 0)),(.lit (.int .i64 0))],.x 3 (.t 16)]),.u 18 (.row 5 [[.x 5 (.t 14)],[.x 5 (.t 17)]]),.u 19 (.call f2 [(.t 18)]),.u 20 (.ext 0 (.t 19)),.u 21 (.ext 1 (.t 19)),.u 22 (.callr f3 [(.t 13),(.t 20),(.t 21)]),.m 6 (.t 22)])
 .ret)))))))
def yd (f0 f1:Nat):AC:=(.seq (.ops false [.u 3 (.box 3 (.t 1)),.m 4 (.c (.one .emp))])
 (.fg [0,3] (.seq (.ops false [.m 5 (.t 0),.u 6 (.ld none 3 true (.t 3)),.u 7 (.build [.z [(.lit (.int .i64 0)),(.lit (.int .i64 0))],.x 3 (.t 6)]),.u 8 (.row 5 [[.x 5 (.t 7)]]),.u 9 (.call f0 [(.t 8)]),.u 10 (.ext 0 (.t 9)),.u 11 (.ext 1 (.t 9)),.u 12 (.callr f1 [(.t 5),(.t 10),(.t 11)]),.m 4 (.t 12)])
 .ret)))
theorem Wz {h:Nat->HB} {r ver:Nat} (hr:h r=⟨ver,some mk0⟩):upd h r ⟨ver,some ⟨[[.lit .nilIface]],1,true⟩⟩=h:=xba hr
theorem wak (hΓ:Holds P Γ) {f:Nat} (hc:check P f=some (17,kf.strip,[.tmp 6])):Sound P f (.red jn):=by
 refine Zl hc XaD hΓ (λrest h r ver K hr hcl hfi hG=>?_)
 match rest,hG with
 | [a,b],hG=>
  obtain ⟨rfl,p,rfl,hp,hK⟩:=hG
  refine ⟨by simp,?_⟩
  simp only [go_sem,kf,hr]
  rw [Wz hr]
  exact hK
theorem VaF (hΓ:Holds P Γ) {f fa ft tE:Nat} (ha:Γ fa=.dat false (vF tE)) (ht:Γ ft=.red jn) (hc:check P f=some (14,(jg fa ft).strip,[.tmp 6])):Sound P f (.red Jz):=by
 refine Zl hc qaU hΓ (λrest h r ver K hr hcl hfi hG=>?_)
 match rest,hG with
 | [a,b],hG=>
  obtain ⟨p,rfl,hp,q,rfl,hq,hsz,hK⟩:=hG
  refine ⟨by simp,?_⟩
  have hc0:=vY hp hq
  have hrp:=VB (p:=p) (N:=4294967296) (by omega)
  have hrq:=VB (p:=q) (N:=4294967296) (by omega)
  simp only [go_sem,jg,hr,ha,ht,hc0,jC,qr,Qc]
  refine ⟨Qv hp.ins,Qv hq.ins,hrp,hrq,hsz,qN hp hq,?_⟩
  rw [Wz hr]
  exact hK
theorem XaE (hΓ:Holds P Γ) {f fa ft tE:Nat} (ha:Γ fa=.dat false (YD tE)) (ht:Γ ft=.red jn) (hc:check P f=some (14,(Zg fa ft).strip,[.tmp 6])):Sound P f (.red qz):=by
 refine Zl hc uaZ hΓ (λrest h r ver K hr hcl hfi hG=>?_)
 match rest,hG with
 | [a,b],hG=>
  obtain ⟨p,rfl,hp,q,rfl,hq,hsz,hK⟩:=hG
  refine ⟨by simp,?_⟩
  have hc0:=vY hp hq
  have hrp:=VB (p:=p) (N:=1000000000) (by omega)
  have hrq:=VB (p:=q) (N:=1000000000) (by omega)
  simp only [go_sem,Zg,hr,ha,ht,hc0,jC,qr,Qc]
  refine ⟨Qv hp.ins,Qv hq.ins,hrp,hrq,hsz,J7 hp hq,?_⟩
  rw [Wz hr]
  exact hK
theorem vaD (hΓ:Holds P Γ) {f fa ft tE:Nat} (ha:Γ fa=.dat false (vE tE)) (ht:Γ ft=.red jn) (hc:check P f=some (14,(Vg fa ft).strip,[.tmp 6])):Sound P f (.red ZA):=by
 refine Zl hc JaV hΓ (λrest h r ver K hr hcl hfi hG=>?_)
 match rest,hG with
 | [a,b],hG=>
  obtain ⟨p,rfl,hp,q,rfl,hq,hsz,hd,hK⟩:=hG
  refine ⟨by simp,?_⟩
  have hc0:=Uba hp hq hd
  have hrp:=VB (p:=p) (N:=1000000000) (by omega)
  have hrq:=VB (p:=q) (N:=1000000000) (by omega)
  simp only [go_sem,Vg,hr,ha,ht,hc0,jC,qr,Qc]
  refine ⟨Qv hp.ins,Qv hq.ins,hrp,hrq,hsz,waH hp hq hd,?_⟩
  rw [Wz hr]
  exact hK
theorem W9 (hΓ:Holds P Γ) {f fa ft tE:Nat} (ha:Γ fa=.dat false (Xr tE)) (ht:Γ ft=.red jn) (hc:check P f=some (14,(Xe fa ft).strip,[.tmp 6])):Sound P f (.red Jp):=by
 refine Zl hc Xaj hΓ (λrest h r ver K hr hcl hfi hG=>?_)
 match rest,hG with
 | [a,b],hG=>
  obtain ⟨p,rfl,hp,x,rfl,hwx,hx,hsz,hK⟩:=hG
  refine ⟨by simp,?_⟩
  have hc0:=jF hp
  have hrp:=VB (p:=p) (N:=1000000000) (by omega)
  simp only [go_sem,Xe,hr,ha,ht,hc0,jC,qr,Qc,rA]
  refine ⟨Qv hp.ins,hwx,hrp,hx,hsz,UaY _ hp,?_⟩
  rw [Wz hr]
  exact hK
theorem UaF (hΓ:Holds P Γ) {f fo fn fm ft tE:Nat} (ho:Γ fo=.dat false ju) (hn:Γ fn=.dat false Xp) (hm:Γ fm=.dat false (Uv tE)) (ht:Γ ft=.red jn) (hc:check P f=some (23,(Uc fo fn fm ft).strip,[.tmp 6])):Sound P f (.red WF):=by
 refine Zl hc QaQ hΓ (λrest h r ver K hr hcl hfi hG=>?_)
 match rest,hG with
 | [a,b],hG=>
  obtain ⟨y,rfl,x,rfl,hwx,hx,hK⟩:=Jw hG
  refine ⟨by simp,?_⟩
  have hz:=Qd hwx
  have hz2:=uw (rv x)
  have z1:=rz_1
  have hcl0:=(PB.lin y (rv x)).canon
  cases y with
  | false=>
   simp only [go_sem,Uc,hr,ho,hn,hm,ht,rA,rone1]
   refine ⟨by decide,by decide,hwx,by omega,?_⟩
   change onMs _ (.one (.slice (List.map mC [((if false then 0 else 1:Int),(if false then 1 else 0:Int),rcan 1),(0,0,rcan (-rv x))])))
   rw [ZH,zbg false (-rv x),Qc,qr,qbg false (rv x),uaQ,Wz hr]
   refine ⟨λt ht=>?_,λt ht=>?_,?_,rfl,rfl,hcl0,hK⟩
   .simp only [List.mem_cons,List.not_mem_nil,or_false]at ht
    rcases ht with rfl | rfl
    .exact ⟨by simp [i64r],by simp [i64r],Je _⟩
    .exact ⟨by simp [i64r],by simp [i64r],Je _⟩
   .simp only [List.mem_cons,List.not_mem_nil,or_false]at ht
    rcases ht with rfl | rfl
    .have e:rl (rcan 1)=rz 1:=rfl
     simp only;omega
    .have e:rl (rcan (-rv x))=rz (-rv x):=rfl
     simp only;omega
   .simp only [List.map_cons,List.map_nil,mv,Wb,sz];omega
  | true=>
   simp only [go_sem,Uc,hr,ho,hn,hm,ht,rA,rone1]
   refine ⟨by decide,by decide,hwx,by omega,?_⟩
   change onMs _ (.one (.slice (List.map mC [((if true then 0 else 1:Int),(if true then 1 else 0:Int),rcan 1),(0,0,rcan (-rv x))])))
   rw [ZH,zbg true (-rv x),Qc,qr,qbg true (rv x),uaQ,Wz hr]
   refine ⟨λt ht=>?_,λt ht=>?_,?_,rfl,rfl,hcl0,hK⟩
   .simp only [List.mem_cons,List.not_mem_nil,or_false]at ht
    rcases ht with rfl | rfl
    .exact ⟨by simp [i64r],by simp [i64r],Je _⟩
    .exact ⟨by simp [i64r],by simp [i64r],Je _⟩
   .simp only [List.mem_cons,List.not_mem_nil,or_false]at ht
    rcases ht with rfl | rfl
    .have e:rl (rcan 1)=rz 1:=rfl
     simp only;omega
    .have e:rl (rcan (-rv x))=rz (-rv x):=rfl
     simp only;omega
   .simp only [List.map_cons,List.map_nil,mv,Wb,sz];omega
theorem yaB (hΓ:Holds P Γ) {f fm ft tE:Nat} (hm:Γ fm=.dat false (Uv tE)) (ht:Γ ft=.red jn) (hc:check P f=some (13,(yd fm ft).strip,[.tmp 4])):Sound P f (.red VE):=by
 refine Zl hc Ya4 hΓ (λrest h r ver K hr hcl hfi hG=>?_)
 match rest,hG with
 | [a],hG=>
  obtain ⟨x,rfl,hwx,hx,hv,hK⟩:=hG
  refine ⟨by simp,?_⟩
  have hz:=Qd hwx
  have hmk:=Wbv hv
  simp only [go_sem,yd,hr,hm,ht,rA]
  have hcl0:=(PB.con (rv x)).canon
  change onMs _ (.one (.slice (List.map mC [(0,0,x)])))
  rw [ZH,hmk,Qc,qr,YbC,uaQ,Wz hr]
  refine ⟨λt ht=>?_,λt ht=>?_,?_,rfl,rfl,hcl0,hK⟩
  .rw [List.mem_singleton.1 ht];exact ⟨by simp [i64r],by simp [i64r],hwx⟩
  .rw [List.mem_singleton.1 ht];simp only;omega
  .simp only [List.map_cons,List.map_nil,mv,sz];omega
end Go.Abs
end
section
namespace Go.Num
open Go.Abs
def cps3 (c:Cp):List R:=[c.2.2.1,c.2.2.2.1,c.2.2.2.2.1]
def cps5 (c:Cp):List R:=[c.2.2.1,c.2.2.2.1,c.2.2.2.2.1,c.2.2.2.2.2.1,c.2.2.2.2.2.2]
def gt0R (x:R):Bool:=decide (0<rv x)
def cchk (c:Cp):Nat:=if avld c.1=false∨avld c.2.1=false then 2 else if (cps5 c).all vldR=false then 2 else if (cps3 c).all gt0R=false then 3 else if av c.1=av c.2.1 then 8 else 0
def cpv (c:Cp):CpR:=(av c.1,av c.2.1,rv c.2.2.1,rv c.2.2.2.1,rv c.2.2.2.2.1,rv c.2.2.2.2.2.1,rv c.2.2.2.2.2.2)
def cchk2 (c:Cp) (l:List Arc):Nat:=if cchk c≠0 then cchk c else if l.all avld=false then 2 else 0
theorem qbv {c:Cp} (h:cchk c=0):avld c.1=true/\avld c.2.1=true/\(cps5 c).all vldR=true/\(cps3 c).all gt0R=true/\av c.1≠av c.2.1:=by
 unfold cchk at h
 split at h
 .contradiction
 .rename_i h1
  split at h
  .contradiction
  .rename_i h2
   split at h
   .contradiction
   .rename_i h3
    split at h
    .contradiction
    .rename_i h4
     simp only [not_or]at h1
     exact ⟨by simpa using h1.1,by simpa using h1.2,by simpa using h2,by simpa using h3,h4⟩
theorem ZM {c:Cp} (hw:WLC c) (hl:cl c<=1000):CB (cpv c):=by
 obtain ⟨wo,wq,w1,w2,w3,w4,w5⟩:=hw
 unfold cl at hl
 simp only [Nat.max_le]at hl
 obtain ⟨l1,l2,l3,l4,l5,l6,l7⟩:=hl
 have o:=jH wo
 have q:=jH wq
 have o1:rz (av c.1).1<=zq (av c.1):=Nat.le_max_left _ _
 have o2:rz (av c.1).2<=zq (av c.1):=Nat.le_max_right _ _
 have q1:rz (av c.2.1).1<=zq (av c.2.1):=Nat.le_max_left _ _
 have q2:rz (av c.2.1).2<=zq (av c.2.1):=Nat.le_max_right _ _
 exact ⟨by show rz (av c.1).1<=1000;omega,by show rz (av c.1).2<=1000;omega,by show rz (av c.2.1).1<=1000;omega,by show rz (av c.2.1).2<=1000;omega,
  Nat.le_trans (Qd w1) l3,Nat.le_trans (Qd w2) l4,Nat.le_trans (Qd w3) l5,Nat.le_trans (Qd w4) l6,Nat.le_trans (Qd w5) l7⟩
theorem WH (x:Rat):(ordQ x 0<=0)=(¬0<x):=by
 unfold ordQ
 refine propext ⟨λh h1=>?_,λh=>?_⟩
 .rw [if_neg (by grind),if_pos h1]at h
  exact absurd h (by decide)
 .by_cases h1:x<0
  .rw [if_pos h1];decide
  .rw [if_neg h1,if_neg h];decide
end Go.Num
namespace Go.Abs
open Go.Num
variable {P:Program} {Γ:Nat->Spec}
theorem clean27 (c:Cp):CleanR [cpC c]:=λe he x hx=>by
 rw [List.mem_singleton]at he
 subst he
 simp only [cpC,List.mem_cons,List.not_mem_nil,or_false]at hx
 rcases hx with rfl | rfl | rfl | rfl | rfl | rfl | rfl | rfl | rfl | rfl | rfl | rfl | rfl | rfl | rfl | rfl | rfl | rfl | rfl | rfl | rfl | rfl | rfl | rfl | rfl | rfl | rfl
 all_goals first | exact of_eq_true (Zi _) | exact of_eq_true (ji _) | exact of_eq_true (vi _)
theorem QH {h h' : Nat->HB} {z:Nat} {b:Bool} {e:List C} {c:Cp} (he:e=cpC c):okB h h' (some ⟨[e],z,b⟩) (some ⟨[cpC c],z,b⟩):=by
 subst he;exact ub (clean27 c)
def ZB (l:List AV) (K:AV->Prop):Prop:=
 match l with
 | [a,b]=>onR (λx=>onR (λy=>rl x<=100000000/\rl y<=100000000/\K (rQ (sqQ (rv x,rv y)))) b) a
 | _=>False
theorem uaG (a b:AV) (K:AV->Prop):ZB [a,b] K=(onR (λx=>onR (λy=>rl x<=100000000/\rl y<=100000000/\K (rQ (sqQ (rv x,rv y)))) b) a):=propext Iff.rfl
@[congr] theorem kbS {K:AV->Prop} {l l' : List AV} (h:l=l'):ZB l K=ZB l' K:=by subst h;rfl
attribute [go_sem] uaG
attribute [go_sem ↓] uaG
theorem xaK:Good ZB:=ka λas=>by
 unfold ZB
 split
 .exact (Qf λ_=>(Qf λ_=>(.and λ_=>(.and λ_=>(.ret _)))))
 .exact .of λK hk=>hk.elim
def uN (l:List AV) (K:AV->Prop):Prop:=
 match l with
 | [a,b,c]=>onA (λp=>onR (λu=>onR (λv=>al p<=100000000/\rl u<=100000000/\rl v<=100000000/\K (pQ (timQ (av p) (rv u) (rv v)))) c) b) a
 | _=>False
theorem kbc (a b c:AV) (K:AV->Prop):uN [a,b,c] K=(onA (λp=>onR (λu=>onR (λv=>al p<=100000000/\rl u<=100000000/\rl v<=100000000/\K (pQ (timQ (av p) (rv u) (rv v)))) c) b) a):=propext Iff.rfl
@[congr] theorem kbV {K:AV->Prop} {l l' : List AV} (h:l=l'):uN l K=uN l' K:=by subst h;rfl
attribute [go_sem] kbc
attribute [go_sem ↓] kbc
theorem Va8:Good uN:=ka λas=>by
 unfold uN
 split
 .exact (Ju λ_=>(Qf λ_=>(Qf λ_=>(.and λ_=>(.and λ_=>(.and λ_=>(.ret _)))))))
 .exact .of λK hk=>hk.elim
def XaL (l:List AV) (K:AV->Prop):Prop:=
 match l with
 | [a,b]=>onA (λp=>onA (λq=>al p<=10000000/\al q<=10000000/\K (rQ (sqQ (subQ (av p) (av q))))) b) a
 | _=>False
theorem UaO (a b:AV) (K:AV->Prop):XaL [a,b] K=(onA (λp=>onA (λq=>al p<=10000000/\al q<=10000000/\K (rQ (sqQ (subQ (av p) (av q))))) b) a):=propext Iff.rfl
@[congr] theorem xbM {K:AV->Prop} {l l' : List AV} (h:l=l'):XaL l K=XaL l' K:=by subst h;rfl
attribute [go_sem] UaO
attribute [go_sem ↓] UaO
def Xy (tE:Nat) (l:List AV) (K:AV->Prop):Prop:=
 match l with
 | [a]=>onCp (λc=>cl c<=100000000/\K (errV tE (cchk c))) a
 | _=>False
theorem Va2 (tE:Nat) (a:AV) (K:AV->Prop):Xy tE [a] K=(onCp (λc=>cl c<=100000000/\K (errV tE (cchk c))) a):=propext Iff.rfl
@[congr] theorem qbQ (tE:Nat) {K:AV->Prop} {l l' : List AV} (h:l=l'):Xy tE l K=Xy tE l' K:=by subst h;rfl
attribute [go_sem] Va2
attribute [go_sem ↓] Va2
theorem VaS (tE:Nat):Good (Xy tE):=ka λas=>by
 unfold Xy
 split
 .exact (Up λ_=>(.and λ_=>(.ret _)))
 .exact .of λK hk=>hk.elim
def Yv (tE:Nat) (l:List AV) (K:AV->Prop):Prop:=
 match l with
 | [a,b]=>onCp (λc=>onAs (λl=>cl c<=100000000/\okAs 100000000 l/\K (errV tE (cchk2 c l))) b) a
 | _=>False
theorem Zam (tE:Nat) (a b:AV) (K:AV->Prop):Yv tE [a,b] K=(onCp (λc=>onAs (λl=>cl c<=100000000/\okAs 100000000 l/\K (errV tE (cchk2 c l))) b) a):=propext Iff.rfl
@[congr] theorem UbI (tE:Nat) {K:AV->Prop} {l l' : List AV} (h:l=l'):Yv tE l K=Yv tE l' K:=by subst h;rfl
attribute [go_sem] Zam
attribute [go_sem ↓] Zam
theorem jaF (tE:Nat):Good (Yv tE):=ka λas=>by
 unfold Yv
 split
 .exact (Up λ_=>(kbz λ_=>(.and λ_=>(.and λ_=>(.ret _)))))
 .exact .of λK hk=>hk.elim
def kg (f0:Nat):AC:=(.seq (.ops false [.u 1 (.box 6 (.t 0)),.m 2 .fa])
 (.fg [1] (.seq (.ops false [.u 3 (.fa 0 (.t 1)),.u 4 (.ld none 3 true (.t 3)),.u 5 (.call f0 [(.t 4)]),.m 6 (.t 5),.w 7 6 true (.fa 3 (.t 1)),.w 8 6 true (.ld none 3 true (.t 7)),.w 9 6 true (.call f0 [(.t 8)]),.u 10 (.pick (.t 6) (.t 9) .fa),.m 2 (.t 10)])
 .ret)))
def jp (f0:Nat):AC:=(.seq (.ops false [.u 2 (.box 6 (.t 0)),.u 3 (.box 6 (.t 1)),.u 4 (.alloc [(.lit (.bool false)),.emp,.emp,(.lit (.bool false)),.emp,.emp])])
 (.fg [2,3,4] (.seq (.ops true [.u 5 (.fa 0 (.t 2)),.u 6 (.ld none 3 true (.t 5)),.u 7 (.fa 0 (.t 3)),.u 8 (.ld none 3 true (.t 7)),.u 9 (.call f0 [(.t 6),(.t 8)]),.u 10 (.fa 3 (.t 2)),.u 11 (.ld none 3 true (.t 10)),.u 12 (.fa 3 (.t 3)),.u 13 (.ld none 3 true (.t 12)),.u 14 (.call f0 [(.t 11),(.t 13)]),.u 15 (.build [.x 3 (.t 9),.x 3 (.t 14)]),.n (.st none 6 (.t 4) (.t 15))])
 .ret)))
def Xv (f0:Nat):AC:=(.seq (.ops false [.u 2 (.box 6 (.t 0)),.u 3 (.box 6 (.t 1)),.u 4 (.alloc [(.lit (.bool false)),.emp,.emp,(.lit (.bool false)),.emp,.emp])])
 (.fg [2,3,4] (.seq (.ops true [.u 5 (.fa 0 (.t 2)),.u 6 (.ld none 3 true (.t 5)),.u 7 (.fa 0 (.t 3)),.u 8 (.ld none 3 true (.t 7)),.u 9 (.call f0 [(.t 6),(.t 8)]),.u 10 (.fa 3 (.t 2)),.u 11 (.ld none 3 true (.t 10)),.u 12 (.fa 3 (.t 3)),.u 13 (.ld none 3 true (.t 12)),.u 14 (.call f0 [(.t 11),(.t 13)]),.u 15 (.build [.x 3 (.t 9),.x 3 (.t 14)]),.n (.st none 6 (.t 4) (.t 15))])
 .ret)))
def xq (f0 f1 f2:Nat):AC:=(.seq (.ops false [.u 3 (.box 6 (.t 0)),.u 4 (.box 3 (.t 1)),.u 5 (.box 3 (.t 2)),.u 6 (.alloc [(.lit (.bool false)),.emp,.emp,(.lit (.bool false)),.emp,.emp])])
 (.fg [3,4,5,6] (.seq (.ops true [.u 7 (.fa 0 (.t 3)),.u 8 (.ld none 3 true (.t 7)),.u 9 (.ld none 3 true (.t 4)),.u 10 (.call f0 [(.t 8),(.t 9)]),.u 11 (.fa 3 (.t 3)),.u 12 (.ld none 3 true (.t 11)),.u 13 (.ld none 3 true (.t 5)),.u 14 (.call f0 [(.t 12),(.t 13)]),.u 15 (.call f1 [(.t 10),(.t 14)]),.u 16 (.fa 3 (.t 3)),.u 17 (.ld none 3 true (.t 16)),.u 18 (.ld none 3 true (.t 4)),.u 19 (.call f0 [(.t 17),(.t 18)]),.u 20 (.fa 0 (.t 3)),.u 21 (.ld none 3 true (.t 20)),.u 22 (.ld none 3 true (.t 5)),.u 23 (.call f0 [(.t 21),(.t 22)]),.u 24 (.call f2 [(.t 19),(.t 23)]),.u 25 (.build [.x 3 (.t 15),.x 3 (.t 24)]),.n (.st none 6 (.t 6) (.t 25))])
 .ret)))
def ko (f0 f1:Nat):AC:=(.seq (.ops false [.u 2 (.box 3 (.t 0)),.u 3 (.box 3 (.t 1)),.u 4 (.alloc [(.lit (.bool false)),.emp,.emp])])
 (.fg [2,3,4] (.seq (.ops true [.u 5 (.ld none 3 true (.t 2)),.u 6 (.ld none 3 true (.t 2)),.u 7 (.call f0 [(.t 5),(.t 6)]),.u 8 (.ld none 3 true (.t 3)),.u 9 (.ld none 3 true (.t 3)),.u 10 (.call f0 [(.t 8),(.t 9)]),.u 11 (.call f1 [(.t 7),(.t 10)]),.n (.st none 3 (.t 4) (.t 11))])
 .ret)))
def Wg (f0 f1 f2 f3 tE:Nat):AC:=(.seq (.ops false [.u 1 (.box 27 (.t 0)),.m 2 (.c (.one (.lit .nilIface)))])
 (.fg [1] (.seq (.seq (.ops false [.u 7 (.fa 0 (.t 1)),.u 8 (.ld none 6 true (.t 7)),.u 9 (.call f0 [(.t 8)]),.u 10 (.un .not (.t 9)),.m 11 (.t 10),.w 12 11 false (.fa 6 (.t 1)),.w 13 11 false (.ld none 6 true (.t 12)),.w 14 11 false (.call f0 [(.t 13)]),.w 15 11 false (.un .not (.t 14)),.u 16 (.pick (.t 11) .tr (.t 15))])
 (.fg [1,16] (.cond (.t 16) (.seq (.ops false [.u 17 (.iface tE (.i 2)),.m 2 (.t 17)])
 .ret) .skip)))
 (.fg [1] (.seq (.seq (.ops false [.u 18 (.fa 12 (.t 1)),.u 19 (.ld none 3 true (.t 18)),.u 20 (.fa 15 (.t 1)),.u 21 (.ld none 3 true (.t 20)),.u 22 (.fa 18 (.t 1)),.u 23 (.ld none 3 true (.t 22)),.u 24 (.fa 21 (.t 1)),.u 25 (.ld none 3 true (.t 24)),.u 26 (.fa 24 (.t 1)),.u 27 (.ld none 3 true (.t 26)),.u 28 (.row 3 [[.x 3 (.t 19)],[.x 3 (.t 21)],[.x 3 (.t 23)],[.x 3 (.t 25)],[.x 3 (.t 27)]]),.u 29 (.len (.t 28)),.m 30 (.i 0)])
 (.fg [1,28,29,30] (.block 0 (.loop (.seq (.ops false [.u 31 (.bin .lss (.t 30) (.t 29))])
 (.fg [1,28,29,30,31] (.seq (.cond (.t 31) .skip (.exit 0))
 (.fg [1,28,29,30] (.seq (.block 1 (.seq (.ops false [.u 32 (.idx 3 (.t 28) (.t 30)),.u 33 (.ld none 3 true (.t 32)),.u 4 (.alloc [(.lit (.bool false)),.emp,.emp]),.n (.st none 3 (.t 4) (.t 33))])
 (.fg [1,4,28,29,30] (.seq (.ops false [.u 34 (.ld none 3 true (.t 4)),.u 35 (.call f1 [(.t 34)]),.u 36 (.un .not (.t 35))])
 (.fg [1,28,29,30,36] (.cond (.t 36) (.seq (.ops false [.u 37 (.iface tE (.i 2)),.m 2 (.t 37)])
 .ret) .skip))))))
 (.fg [1,28,29,30] (.ops false [.u 38 (.bin .add (.t 30) (.i 1)),.m 30 (.t 38)])))))))))))
 (.fg [1] (.seq (.seq (.ops false [.u 39 (.fa 12 (.t 1)),.u 40 (.ld none 3 true (.t 39)),.u 41 (.fa 15 (.t 1)),.u 42 (.ld none 3 true (.t 41)),.u 43 (.fa 18 (.t 1)),.u 44 (.ld none 3 true (.t 43)),.u 45 (.row 3 [[.x 3 (.t 40)],[.x 3 (.t 42)],[.x 3 (.t 44)]]),.u 46 (.len (.t 45)),.m 47 (.i 0)])
 (.fg [1,45,46,47] (.block 2 (.loop (.seq (.ops false [.u 48 (.bin .lss (.t 47) (.t 46))])
 (.fg [1,45,46,47,48] (.seq (.cond (.t 48) .skip (.exit 2))
 (.fg [1,45,46,47] (.seq (.block 3 (.seq (.ops false [.u 49 (.idx 3 (.t 45) (.t 47)),.u 50 (.ld none 3 true (.t 49)),.u 6 (.alloc [(.lit (.bool false)),.emp,.emp]),.n (.st none 3 (.t 6) (.t 50))])
 (.fg [1,6,45,46,47] (.seq (.ops false [.u 51 (.ld none 3 true (.t 6)),.u 52 (.call f2 [(.t 51)]),.u 53 (.bin .leq (.t 52) (.i 0))])
 (.fg [1,45,46,47,53] (.cond (.t 53) (.seq (.ops false [.u 54 (.iface tE (.i 3)),.m 2 (.t 54)])
 .ret) .skip))))))
 (.fg [1,45,46,47] (.ops false [.u 55 (.bin .add (.t 47) (.i 1)),.m 47 (.t 55)])))))))))))
 (.fg [1] (.seq (.seq (.ops false [.u 56 (.fa 0 (.t 1)),.u 57 (.fa 0 (.t 56)),.u 58 (.ld none 3 true (.t 57)),.u 59 (.fa 6 (.t 1)),.u 60 (.fa 0 (.t 59)),.u 61 (.ld none 3 true (.t 60)),.u 62 (.call f3 [(.t 58),(.t 61)]),.u 63 (.bin .eql (.t 62) (.i 0)),.m 64 (.t 63),.w 65 64 true (.fa 0 (.t 1)),.w 66 64 true (.fa 3 (.t 65)),.w 67 64 true (.ld none 3 true (.t 66)),.w 68 64 true (.fa 6 (.t 1)),.w 69 64 true (.fa 3 (.t 68)),.w 70 64 true (.ld none 3 true (.t 69)),.w 71 64 true (.call f3 [(.t 67),(.t 70)]),.w 72 64 true (.bin .eql (.t 71) (.i 0)),.u 73 (.pick (.t 64) (.t 72) .fa)])
 (.fg [73] (.cond (.t 73) (.seq (.ops false [.u 74 (.iface tE (.i 8)),.m 2 (.t 74)])
 .ret) .skip)))
 (.fg [] (.seq (.ops false [.m 2 (.c (.one (.lit .nilIface)))])
 .ret)))))))))))
def yl (f0 f1 tE:Nat):AC:=(.seq (.ops false [.u 2 (.box 27 (.t 0)),.m 4 (.c (.one (.lit .nilIface)))])
 (.fg [1,2] (.seq (.seq (.ops false [.u 8 (.ld none 27 true (.t 2)),.u 9 (.call f0 [(.t 8)]),.m 5 (.t 9)])
 (.fg [1,5] (.seq (.ops false [.m 10 (.t 5),.u 11 (.binn .neq (.t 10) (.c (.one (.lit .nilIface))))])
 (.fg [1,5,11] (.cond (.t 11) (.seq (.ops false [.m 12 (.t 5),.m 4 (.t 12)])
 .ret) .skip)))))
 (.fg [1] (.seq (.seq (.ops false [.m 13 (.t 1),.u 14 (.len (.t 13)),.m 15 (.i 0)])
 (.fg [13,14,15] (.block 0 (.loop (.seq (.ops false [.u 16 (.bin .lss (.t 15) (.t 14))])
 (.fg [13,14,15,16] (.seq (.cond (.t 16) .skip (.exit 0))
 (.fg [13,14,15] (.seq (.block 1 (.seq (.ops false [.u 17 (.idx 6 (.t 13) (.t 15)),.u 18 (.ld none 6 true (.t 17)),.u 7 (.alloc [(.lit (.bool false)),.emp,.emp,(.lit (.bool false)),.emp,.emp]),.n (.st none 6 (.t 7) (.t 18))])
 (.fg [7,13,14,15] (.seq (.ops false [.u 19 (.ld none 6 true (.t 7)),.u 20 (.call f1 [(.t 19)]),.u 21 (.un .not (.t 20))])
 (.fg [13,14,15,21] (.cond (.t 21) (.seq (.ops false [.u 22 (.iface tE (.i 2)),.m 4 (.t 22)])
 .ret) .skip))))))
 (.fg [13,14,15] (.ops false [.u 23 (.bin .add (.t 15) (.i 1)),.m 15 (.t 23)])))))))))))
 (.fg [] (.seq (.ops false [.m 4 (.c (.one (.lit .nilIface)))])
 .ret)))))))
theorem UG (hΓ:Holds P Γ) {f fv:Nat} (hv:Γ fv=.dat true qe) (hc:check P f=some (11,(kg fv).strip,[.tmp 2])):Sound P f (.dat true xj):=by
 refine Va hc qaj hΓ (λargs K hcl hfi hG=>?_)
 match args,hG with
 | [a],hG=>
  obtain ⟨⟨x,y⟩,rfl,⟨wx,wy⟩,hl,hK⟩:=hG
  refine ⟨by simp,?_⟩
  have hl':=Nat.max_le.1 hl
  simp only at wx wy hl'
  unfold avld at hK
  simp only at hK
  cases hx:vldR x with
  | true=>
   rw [hx,Bool.true_and]at hK
   simp only [go_sem,kg,hv,kp,hx]
   repeat (first | (refine And.intro (by omega) ?_) | (refine And.intro (by assumption) ?_) | (refine And.intro rfl ?_) | (refine And.intro ⟨rfl,by omega⟩ ?_) | (refine And.intro ⟨rfl,by omega,by omega⟩ ?_) | (intro _))
   exact hK
  | false=>
   rw [hx,Bool.false_and]at hK
   simp only [go_sem,kg,hv,kp,hx]
   repeat (first | (refine And.intro (by omega) ?_) | (refine And.intro (by assumption) ?_) | (refine And.intro rfl ?_) | (refine And.intro ⟨rfl,by omega⟩ ?_) | (refine And.intro ⟨rfl,by omega,by omega⟩ ?_) | (intro _))
   exact hK
theorem JI (hΓ:Holds P Γ) {f fs:Nat} (hs:Γ fs=.dat false xp) (hc:check P f=some (16,(jp fs).strip,[.cell 4 6 true])):Sound P f (.dat false qn):=by
 refine Va hc YaB hΓ (λargs K hcl hfi hG=>?_)
 match args,hG with
 | [a,b],hG=>
  obtain ⟨⟨x,y⟩,rfl,⟨wx,wy⟩,⟨u,v⟩,rfl,⟨wu,wv⟩,hl,hl2,hK⟩:=hG
  refine ⟨by simp,?_⟩
  have hl':=Nat.max_le.1 hl
  have hl2':=Nat.max_le.1 hl2
  simp only at wx wy wu wv hl' hl2'
  simp only [go_sem,jp,hs,kp]
  repeat (first | (refine And.intro (by omega) ?_) | (refine And.intro (by assumption) ?_) | (refine And.intro rfl ?_) | (refine And.intro ⟨rfl,by omega⟩ ?_) | (refine And.intro ⟨rfl,by omega,by omega⟩ ?_) | (intro _))
  exact hK
theorem uaj (hΓ:Holds P Γ) {f fs:Nat} (hs:Γ fs=.dat false Ql) (hc:check P f=some (16,(Xv fs).strip,[.cell 4 6 true])):Sound P f (.dat false Zw):=by
 refine Va hc zaE hΓ (λargs K hcl hfi hG=>?_)
 match args,hG with
 | [a,b],hG=>
  obtain ⟨⟨x,y⟩,rfl,⟨wx,wy⟩,⟨u,v⟩,rfl,⟨wu,wv⟩,hl,hl2,hK⟩:=hG
  refine ⟨by simp,?_⟩
  have hl':=Nat.max_le.1 hl
  have hl2':=Nat.max_le.1 hl2
  simp only at wx wy wu wv hl' hl2'
  simp only [go_sem,Xv,hs,kp]
  repeat (first | (refine And.intro (by omega) ?_) | (refine And.intro (by assumption) ?_) | (refine And.intro rfl ?_) | (refine And.intro ⟨rfl,by omega⟩ ?_) | (refine And.intro ⟨rfl,by omega,by omega⟩ ?_) | (intro _))
  exact hK
theorem ua3 (hΓ:Holds P Γ) {f fm fs fa:Nat} (hm:Γ fm=.dat false xg) (hs:Γ fs=.dat false xp) (ha:Γ fa=.dat false Ql) (hc:check P f=some (26,(xq fm fs fa).strip,[.cell 6 6 true])):Sound P f (.dat false uN):=by
 refine Va hc Va8 hΓ (λargs K hcl hfi hG=>?_)
 match args,hG with
 | [a,b,c],hG=>
  obtain ⟨⟨x,y⟩,rfl,⟨wx,wy⟩,u,rfl,wu,v,rfl,wv,hl,hu,hv,hK⟩:=hG
  refine ⟨by simp,?_⟩
  have hl':=Nat.max_le.1 hl
  simp only at wx wy hl'
  have z1:=Qd wx
  have z2:=Qd wy
  have z3:=Qd wu
  have z4:=Qd wv
  have m1:=Vb (rv x) (rv u)
  have m2:=Vb (rv y) (rv v)
  have m3:=Vb (rv y) (rv u)
  have m4:=Vb (rv x) (rv v)
  simp only [go_sem,xq,hm,hs,ha,kp,rA,Wb]
  repeat (first | (refine And.intro (by omega) ?_) | (refine And.intro (by assumption) ?_) | (refine And.intro rfl ?_) | (refine And.intro ⟨rfl,by omega⟩ ?_) | (refine And.intro ⟨rfl,by omega,by omega⟩ ?_) | (intro _))
  exact hK
theorem xaE (hΓ:Holds P Γ) {f fm fa:Nat} (hm:Γ fm=.dat false xg) (ha:Γ fa=.dat false Ql) (hc:check P f=some (12,(ko fm fa).strip,[.cell 4 3 true])):Sound P f (.dat false ZB):=by
 refine Va hc xaK hΓ (λargs K hcl hfi hG=>?_)
 match args,hG with
 | [a,b],hG=>
  obtain ⟨x,rfl,wx,y,rfl,wy,hx,hy,hK⟩:=hG
  refine ⟨by simp,?_⟩
  have z1:=Qd wx
  have z2:=Qd wy
  have m1:=Vb (rv x) (rv x)
  have m2:=Vb (rv y) (rv y)
  simp only [go_sem,ko,hm,ha,rA,Wb]
  repeat (first | (refine And.intro (by omega) ?_) | (refine And.intro (by assumption) ?_) | (refine And.intro rfl ?_) | (refine And.intro ⟨rfl,by omega⟩ ?_) | (refine And.intro ⟨rfl,by omega,by omega⟩ ?_) | (intro _))
  exact hK
theorem zaC (hΓ:Holds P Γ) {f fv fr fg fq tE:Nat} (hv:Γ fv=.dat true xj) (hr:Γ fr=.dat true qe) (hg:Γ fg=.dat true Vh) (hq' : Γ fq=.dat true jk) (hc:check P f=some (75,(Wg fv fr fg fq tE).strip,[.tmp 2])):Sound P f (.dat false (Xy tE)):=by
 refine Va hc (VaS tE) hΓ (λargs K hcl hfi hG=>?_)
 match args,hG with
 | [a],hG=>
  obtain ⟨c,rfl,hw,hl,hK⟩:=hG
  refine ⟨by simp,?_⟩
  obtain ⟨wo,wq,w1,w2,w3,w4,w5⟩:=id hw
  have hl0:=hl
  unfold cl at hl0
  simp only [Nat.max_le]at hl0
  obtain ⟨l1,l2,l3,l4,l5,l6,l7⟩:=hl0
  have wo1:=wo.1
  have wo2:=wo.2
  have wq1:=wq.1
  have wq2:=wq.2
  have lo1:=(Nat.max_le.1 l1).1
  have lo2:=(Nat.max_le.1 l1).2
  have lq1:=(Nat.max_le.1 l2).1
  have lq2:=(Nat.max_le.1 l2).2
  have h5:∀x∈cps5 c,WLR x/\rl x<=100000000:=λx hx=>by
   simp only [cps5,List.mem_cons,List.not_mem_nil,or_false]at hx
   rcases hx with rfl | rfl | rfl | rfl | rfl
   .exact ⟨w1,l3⟩
   .exact ⟨w2,l4⟩
   .exact ⟨w3,l5⟩
   .exact ⟨w4,l6⟩
   .exact ⟨w5,l7⟩
  have h3:∀x∈cps3 c,WLR x/\rl x<=100000000:=λx hx=>h5 x (by
   simp only [cps3,cps5,List.mem_cons,List.not_mem_nil,or_false]at hx ⊢
   rcases hx with rfl | rfl | rfl <;> simp)
  have n5:(cps5 c).length=5:=rfl
  have n3:(cps3 c).length=3:=rfl
  have e2:=Jd tE (by decide:2≠0)
  cases ha:avld c.1 with
  | false=>
   have e:cchk c=2:=if_pos (.inl ha)
   rw [e,e2]at hK
   simp only [go_sem,Wg,hv,cpA,cpC,jd,ha]
   repeat (first | (refine And.intro (by omega) ?_) | (refine And.intro (by assumption) ?_) | (refine And.intro rfl ?_) | (refine And.intro ⟨rfl,by omega⟩ ?_) | (refine And.intro ⟨rfl,by omega,by omega⟩ ?_) | (intro _))
   exact hK
  | true=>
  cases hb:avld c.2.1 with
  | false=>
   have e:cchk c=2:=if_pos (.inr hb)
   rw [e,e2]at hK
   simp only [go_sem,Wg,hv,cpA,cpC,jd,ha,hb]
   repeat (first | (refine And.intro (by omega) ?_) | (refine And.intro (by assumption) ?_) | (refine And.intro rfl ?_) | (refine And.intro ⟨rfl,by omega⟩ ?_) | (refine And.intro ⟨rfl,by omega,by omega⟩ ?_) | (intro _))
   exact hK
  | true=>
   have hab:¬(avld c.1=false∨avld c.2.1=false):=by simp [ha,hb]
   have hch:cchk c=if (cps5 c).all vldR=false then 2 else if (cps3 c).all gt0R=false then 3 else if av c.1=av c.2.1 then 8 else 0:=if_neg hab
   rw [hch]at hK
   simp only [go_sem,Wg,hv,cpA,cpC,jd,ha,hb]
   repeat (first | (refine And.intro (by omega) ?_) | (refine And.intro (by assumption) ?_) | (refine And.intro rfl ?_) | (refine And.intro ⟨rfl,by omega⟩ ?_) | (refine And.intro ⟨rfl,by omega,by omega⟩ ?_) | (intro _))
   refine Wa (λk:Nat=>⟨mkV [(1,.one (.ptr 1 1 0 0)),(28,.one (.full ((cps5 c).map rC))),(29,.one (.lit (.int .i64 5))),(30,.one (.lit (.int .i64 k)))],mkH [(1,⟨1,some ⟨[cpC c],27,true⟩⟩)]⟩) (λk=>k<=5/\((cps5 c).take k).all vldR=true) (λk=>5-k) 0 ?_ ?_ ?_
   .exact Qa (by simp [okS,okV,okC,okL,okH,okB,okE,Za,Ja,za,ja,wsA,ws,rC,cps5]) ⟨QH rfl,trivial⟩
   .exact ⟨Nat.zero_le _,rfl⟩
   .rintro k ⟨hk,hall⟩
    by_cases hlt:k<5
    .obtain ⟨x,hx⟩:∃x,(cps5 c).getD k (rcan 0)=x:=⟨_,rfl⟩
     have hx0:(cps5 c)[k]?=some x:=by
      rw [<-hx,List.getD_eq_getElem?_getD,List.getElem?_eq_getElem (by omega)];rfl
     obtain ⟨g1,g2⟩:=h5 x (List.mem_of_getElem? hx0)
     have hlt' : ((k:Nat):Int)<5:=by omega
     cases hz:vldR x with
     | true=>
      simp only [go_sem,hlt',hlt,hr,Jv,n5,hx,rC,hz]
      repeat (first | (refine And.intro (by omega) ?_) | (refine And.intro (by assumption) ?_) | (refine And.intro rfl ?_) | (refine And.intro ⟨rfl,by omega⟩ ?_) | (refine And.intro ⟨rfl,by omega,by omega⟩ ?_) | (intro _))
      exact ⟨k+1,Qa (by simp [okS,okV,okC,okL,okH,okB,okE,Za,Ja,za,ja,wsA,ws,rC,cps5]) ⟨QH rfl,trivial⟩,⟨by omega,allS hx0 hall hz⟩,by omega⟩
     | false=>
      have hf:(cps5 c).all vldR=false:=by
       rw [List.all_eq_false]
       exact ⟨x,List.mem_of_getElem? hx0,by simp [hz]⟩
      rw [if_pos hf,e2]at hK
      simp only [go_sem,hlt',hlt,hr,Jv,n5,hx,rC,hz]
      repeat (first | (refine And.intro (by omega) ?_) | (refine And.intro (by assumption) ?_) | (refine And.intro rfl ?_) | (refine And.intro ⟨rfl,by omega⟩ ?_) | (refine And.intro ⟨rfl,by omega,by omega⟩ ?_) | (intro _))
      exact hK
    .have hv5:(cps5 c).all vldR=true:=by rw [List.take_of_length_le (by omega)]at hall;exact hall
     rw [if_neg (by simp [hv5])]at hK
     have hlt' : ¬((k:Nat):Int)<5:=by omega
     simp only [go_sem,hlt',cpC]
     repeat (first | (refine And.intro (by omega) ?_) | (refine And.intro (by assumption) ?_) | (refine And.intro rfl ?_) | (refine And.intro ⟨rfl,by omega⟩ ?_) | (refine And.intro ⟨rfl,by omega,by omega⟩ ?_) | (intro _))
     refine Wa (λk:Nat=>⟨mkV [(1,.one (.ptr 1 1 0 0)),(45,.one (.full ((cps3 c).map rC))),(46,.one (.lit (.int .i64 3))),(47,.one (.lit (.int .i64 k)))],mkH [(1,⟨1,some ⟨[cpC c],27,true⟩⟩)]⟩) (λk=>k<=3/\((cps3 c).take k).all gt0R=true) (λk=>3-k) 0 ?_ ?_ ?_
     .exact Qa (by simp [okS,okV,okC,okL,okH,okB,okE,Za,Ja,za,ja,wsA,ws,rC,cps3]) ⟨QH rfl,trivial⟩
     .exact ⟨Nat.zero_le _,rfl⟩
     .rintro k ⟨hk,hall⟩
      by_cases hlt:k<3
      .obtain ⟨x,hx⟩:∃x,(cps3 c).getD k (rcan 0)=x:=⟨_,rfl⟩
       have hx0:(cps3 c)[k]?=some x:=by
        rw [<-hx,List.getD_eq_getElem?_getD,List.getElem?_eq_getElem (by omega)];rfl
       obtain ⟨g1,g2⟩:=h3 x (List.mem_of_getElem? hx0)
       have hlt' : ((k:Nat):Int)<3:=by omega
       cases hz:gt0R x with
       | true=>
        have hp:(ordQ (rv x) 0<=0)=False:=by rw [WH];simpa [gt0R] using hz
        simp only [go_sem,hlt',hlt,hg,Jv,n3,hx,rC,hp]
        repeat (first | (refine And.intro (by omega) ?_) | (refine And.intro (by assumption) ?_) | (refine And.intro rfl ?_) | (refine And.intro ⟨rfl,by omega⟩ ?_) | (refine And.intro ⟨rfl,by omega,by omega⟩ ?_) | (intro _))
        exact ⟨k+1,Qa (by simp [okS,okV,okC,okL,okH,okB,okE,Za,Ja,za,ja,wsA,ws,rC,cps3]) ⟨QH rfl,trivial⟩,⟨by omega,allS hx0 hall hz⟩,by omega⟩
       | false=>
        have hp:(ordQ (rv x) 0<=0)=True:=by rw [WH];simpa [gt0R] using hz
        have hf:(cps3 c).all gt0R=false:=by
         rw [List.all_eq_false]
         exact ⟨x,List.mem_of_getElem? hx0,by simp [hz]⟩
        rw [if_pos hf,Jd tE (by decide)]at hK
        simp only [go_sem,hlt',hlt,hg,Jv,n3,hx,rC,hp]
        repeat (first | (refine And.intro (by omega) ?_) | (refine And.intro (by assumption) ?_) | (refine And.intro rfl ?_) | (refine And.intro ⟨rfl,by omega⟩ ?_) | (refine And.intro ⟨rfl,by omega,by omega⟩ ?_) | (intro _))
        exact hK
      .have hv3:(cps3 c).all gt0R=true:=by rw [List.take_of_length_le (by omega)]at hall;exact hall
       rw [if_neg (by simp [hv3])]at hK
       have hlt' : ¬((k:Nat):Int)<3:=by omega
       have eav:(av c.1=av c.2.1)=(rv c.1.1=rv c.2.1.1/\rv c.1.2=rv c.2.1.2):=by
        unfold av;rw [Prod.mk.injEq]
       by_cases q1:rv c.1.1=rv c.2.1.1
       .by_cases q2:rv c.1.2=rv c.2.1.2
        .rw [if_pos (by rw [eav];exact ⟨q1,q2⟩),Jd tE (by decide)]at hK
         have o1:ordQ (rv c.1.1) (rv c.2.1.1)=0:=Qi.2 q1
         have o2:ordQ (rv c.1.2) (rv c.2.1.2)=0:=Qi.2 q2
         simp only [go_sem,hlt',cpC,hq',o1,o2]
         repeat (first | (refine And.intro (by omega) ?_) | (refine And.intro (by assumption) ?_) | (refine And.intro rfl ?_) | (refine And.intro ⟨rfl,by omega⟩ ?_) | (refine And.intro ⟨rfl,by omega,by omega⟩ ?_) | (intro _))
         exact hK
        .rw [if_neg (by rw [eav];exact λh=>q2 h.2),Qc]at hK
         have o1:ordQ (rv c.1.1) (rv c.2.1.1)=0:=Qi.2 q1
         have o2:¬ordQ (rv c.1.2) (rv c.2.1.2)=0:=λh=>q2 (Qi.1 h)
         simp only [go_sem,hlt',cpC,hq',o1,o2]
         repeat (first | (refine And.intro (by omega) ?_) | (refine And.intro (by assumption) ?_) | (refine And.intro rfl ?_) | (refine And.intro ⟨rfl,by omega⟩ ?_) | (refine And.intro ⟨rfl,by omega,by omega⟩ ?_) | (intro _))
         exact hK
       .rw [if_neg (by rw [eav];exact λh=>q1 h.1),Qc]at hK
        have o1:¬ordQ (rv c.1.1) (rv c.2.1.1)=0:=λh=>q1 (Qi.1 h)
        simp only [go_sem,hlt',cpC,hq',o1]
        repeat (first | (refine And.intro (by omega) ?_) | (refine And.intro (by assumption) ?_) | (refine And.intro rfl ?_) | (refine And.intro ⟨rfl,by omega⟩ ?_) | (refine And.intro ⟨rfl,by omega,by omega⟩ ?_) | (intro _))
        exact hK
theorem uah (hΓ:Holds P Γ) {f fk fv tE:Nat} (hk:Γ fk=.dat false (Xy tE)) (hv:Γ fv=.dat true xj) (hc:check P f=some (24,(yl fk fv tE).strip,[.tmp 4])):Sound P f (.dat false (Yv tE)):=by
 refine Va hc (jaF tE) hΓ (λargs K hcl hfi hG=>?_)
 match args,hG with
 | [a,b],hG=>
  obtain ⟨c,rfl,hw,l,rfl,hwl,hl,hok,hK⟩:=hG
  refine ⟨by simp,?_⟩
  by_cases h0:cchk c=0
  .have e0:=Qc tE
   rw [<-h0]at e0
   have e1:cchk2 c l=if l.all avld=false then 2 else 0:=if_neg (by simp [h0])
   rw [e1]at hK
   simp only [go_sem,yl,hk,cpA,cpC,jd,e0]
   refine ⟨hw,hl,λ_=>?_⟩
   refine Wa (λk:Nat=>⟨mkV [(13,.one (.slice (l.map aC))),(14,.one (.lit (.int .i64 l.length))),(15,.one (.lit (.int .i64 k)))],mkH []⟩) (λk=>k<=l.length/\(l.take k).all avld=true) (λk=>l.length-k) 0 ?_ ?_ ?_
   .exact Qa (by simp [okS,okV,okC,okL,okH,okB,okE,Za,Ja,za,ja,wsA,ws]) trivial
   .exact ⟨Nat.zero_le _,rfl⟩
   .rintro k ⟨hk2,hall⟩
    by_cases hlt:k<l.length
    .obtain ⟨x,hx⟩:∃x,l.getD k a0=x:=⟨_,rfl⟩
     have hx0:=jax hlt hx
     obtain ⟨g1,g2⟩:=hok x (List.mem_of_getElem? hx0)
     cases hz:avld x with
     | true=>
      simp only [go_sem,hlt,hv,hx,kp,jd,hz]
      repeat (first | (refine And.intro (by omega) ?_) | (refine And.intro (by assumption) ?_) | (refine And.intro rfl ?_) | (refine And.intro ⟨rfl,by omega⟩ ?_) | (refine And.intro ⟨rfl,by omega,by omega⟩ ?_) | (intro _))
      exact ⟨k+1,Qa (by simp [okS,okV,okC,okL,okH,okB,okE,Za,Ja,za,ja,wsA,ws]) trivial,⟨by omega,allS hx0 hall hz⟩,by omega⟩
     | false=>
      have hf:l.all avld=false:=by
       rw [List.all_eq_false]
       exact ⟨x,List.mem_of_getElem? hx0,by simp [hz]⟩
      rw [if_pos hf,Jd tE (by decide)]at hK
      simp only [go_sem,hlt,hv,hx,kp,jd,hz]
      repeat (first | (refine And.intro (by omega) ?_) | (refine And.intro (by assumption) ?_) | (refine And.intro rfl ?_) | (refine And.intro ⟨rfl,by omega⟩ ?_) | (refine And.intro ⟨rfl,by omega,by omega⟩ ?_) | (intro _))
      exact hK
    .rw [List.take_of_length_le (by omega)]at hall
     rw [if_neg (by simp [hall]),Qc]at hK
     simp only [go_sem,hlt]
     exact hK
  .have e0:=Jd tE h0
   have e1:cchk2 c l=cchk c:=if_pos h0
   rw [e1,e0]at hK
   simp only [go_sem,yl,hk,cpA,cpC,jd,e0]
   exact ⟨hw,hl,hK⟩
end Go.Abs
end
section
namespace Go.Num
open Go.Abs
def tOk (v:BQ×BQ) (u w:Rat):Prop:=PB 1 1006 v.1/\PB 1 1006 v.2/\rz u<=1004/\rz w<=1004
def nOk (v:BQ×BQ):Prop:=∃d s,PB d s v.1/\PB d s v.2/\d+d<=24/\s<=1000000
theorem PB.mulok {d s e t:Nat} {p q:BQ} (hp:PB d s p) (hq:PB e t q) (h:d+e<=24) (h2:s+t<=3000000):sz p+sz q<=3000000/\degB p+degB q<=24:=
 ⟨by have:=hp.size;have:=hq.size;omega,hp.dd hq h⟩
end Go.Num
namespace Go.Abs
open Go.Num
variable {P:Program} {Γ:Nat->Spec}
def XE (l:List AV) (K:AV->Prop):Prop:=
 match l with
 | [v,u,w]=>onV (λv=>onR (λu=>onR (λw=>tOk v (rv u) (rv w)/\rl u<=1000000/\rl w<=1000000/\K (.agg [bC (timB v (rv u) (rv w)).1,bC (timB v (rv u) (rv w)).2])) w) u) v
 | _=>False
theorem Ua1 (v u w:AV) (K:AV->Prop):XE [v,u,w] K=(onV (λv=>onR (λu=>onR (λw=>tOk v (rv u) (rv w)/\rl u<=1000000/\rl w<=1000000/\K (.agg [bC (timB v (rv u) (rv w)).1,bC (timB v (rv u) (rv w)).2])) w) u) v):=propext Iff.rfl
@[congr] theorem wbL {K:AV->Prop} {l l' : List AV} (h:l=l'):XE l K=XE l' K:=by subst h;rfl
attribute [go_sem] Ua1
attribute [go_sem ↓] Ua1
theorem yaL:Good XE:=ka λas=>by
 unfold XE
 split
 .exact (wbG λ_=>(Qf λ_=>(Qf λ_=>(.and λ_=>(.and λ_=>(.and λ_=>(.ret _)))))))
 .exact .of λK hk=>hk.elim
def QB (l:List AV) (K:AV->Prop):Prop:=
 match l with
 | [v]=>onV (λv=>nOk v/\K (.one (bC (nrmB v)))) v
 | _=>False
theorem xaN (v:AV) (K:AV->Prop):QB [v] K=(onV (λv=>nOk v/\K (.one (bC (nrmB v)))) v):=propext Iff.rfl
@[congr] theorem jbP {K:AV->Prop} {l l' : List AV} (h:l=l'):QB l K=QB l' K:=by subst h;rfl
attribute [go_sem] xaN
attribute [go_sem ↓] xaN
theorem waM:Good QB:=ka λas=>by
 unfold QB
 split
 .exact (wbG λ_=>(.and λ_=>(.ret _)))
 .exact .of λK hk=>hk.elim
def jB (l:List AV) (K:AV->Prop):Prop:=
 match l with
 | [c]=>onCp (λc=>cl c<=1000/\K (.agg [bC (cAl (cpv c)).1,bC (cAl (cpv c)).2,bC (cBe (cpv c)).1,bC (cBe (cpv c)).2,bC (cE (cpv c)),bC (cF (cpv c)),bC (cM (cpv c))])) c
 | _=>False
theorem WaV (c:AV) (K:AV->Prop):jB [c] K=(onCp (λc=>cl c<=1000/\K (.agg [bC (cAl (cpv c)).1,bC (cAl (cpv c)).2,bC (cBe (cpv c)).1,bC (cBe (cpv c)).2,bC (cE (cpv c)),bC (cF (cpv c)),bC (cM (cpv c))])) c):=propext Iff.rfl
@[congr] theorem kbQ {K:AV->Prop} {l l' : List AV} (h:l=l'):jB l K=jB l' K:=by subst h;rfl
attribute [go_sem] WaV
attribute [go_sem ↓] WaV
theorem vaI:Good jB:=ka λas=>by
 unfold jB
 split
 .exact (Up λ_=>(.and λ_=>(.ret _)))
 .exact .of λK hk=>hk.elim
def ue (f0 f1 f2:Nat):AC:=(.seq (.ops false [.u 5 (.box 2 (.t 1)),.u 6 (.box 3 (.t 2)),.u 7 (.box 3 (.t 3)),.u 8 (.alloc [.emp,.emp])])
 (.fg [0,5,6,7,8] (.seq (.ops true [.m 9 (.t 0),.m 10 (.t 0),.u 11 (.fa 0 (.t 5)),.u 12 (.ld none 1 false (.t 11)),.u 13 (.ld none 3 true (.t 6)),.u 14 (.callr f0 [(.t 10),(.t 12),(.t 13)]),.m 15 (.t 0),.u 16 (.fa 1 (.t 5)),.u 17 (.ld none 1 false (.t 16)),.u 18 (.ld none 3 true (.t 7)),.u 19 (.callr f0 [(.t 15),(.t 17),(.t 18)]),.u 20 (.callr f1 [(.t 9),(.t 14),(.t 19)]),.m 21 (.t 0),.m 22 (.t 0),.u 23 (.fa 1 (.t 5)),.u 24 (.ld none 1 false (.t 23)),.u 25 (.ld none 3 true (.t 6)),.u 26 (.callr f0 [(.t 22),(.t 24),(.t 25)]),.m 27 (.t 0),.u 28 (.fa 0 (.t 5)),.u 29 (.ld none 1 false (.t 28)),.u 30 (.ld none 3 true (.t 7)),.u 31 (.callr f0 [(.t 27),(.t 29),(.t 30)]),.u 32 (.callr f2 [(.t 21),(.t 26),(.t 31)]),.u 33 (.build [.x 1 (.t 20),.x 1 (.t 32)]),.n (.st none 2 (.t 8) (.t 33))])
 .ret)))
def vf (f0 f1:Nat):AC:=(.seq (.ops false [.u 3 (.box 2 (.t 1)),.m 4 (.c (.one .emp))])
 (.fg [0,3] (.seq (.ops true [.m 5 (.t 0),.m 6 (.t 0),.u 7 (.fa 0 (.t 3)),.u 8 (.ld none 1 false (.t 7)),.u 9 (.fa 0 (.t 3)),.u 10 (.ld none 1 false (.t 9)),.u 11 (.callr f0 [(.t 6),(.t 8),(.t 10)]),.m 12 (.t 0),.u 13 (.fa 1 (.t 3)),.u 14 (.ld none 1 false (.t 13)),.u 15 (.fa 1 (.t 3)),.u 16 (.ld none 1 false (.t 15)),.u 17 (.callr f0 [(.t 12),(.t 14),(.t 16)]),.u 18 (.callr f1 [(.t 5),(.t 11),(.t 17)]),.m 4 (.t 18)])
 .ret)))
def Ue (f0 f1 f2 f3 f4 f5 f6 f7 f8 f9 f10 f11:Nat):AC:=(.seq (.ops false [.u 3 (.box 27 (.t 1)),.u 4 (.alloc [.emp,.emp,.emp,.emp,.emp,.emp,.emp])])
 (.fg [0,3,4] (.seq (.ops true [.m 11 (.t 0),.u 12 (.fa 0 (.t 3)),.u 13 (.fa 0 (.t 12)),.u 14 (.ld none 3 true (.t 13)),.u 15 (.callr f0 [(.t 11),.fa,(.t 14)]),.m 16 (.t 0),.u 17 (.fa 0 (.t 3)),.u 18 (.fa 3 (.t 17)),.u 19 (.ld none 3 true (.t 18)),.u 20 (.callr f0 [(.t 16),.tr,(.t 19)]),.u 21 (.build [.x 1 (.t 15),.x 1 (.t 20)]),.u 5 (.alloc [.emp,.emp]),.n (.st none 2 (.t 5) (.t 21))])
 (.fg [0,3,4,5] (.seq (.ops true [.m 22 (.t 0),.u 23 (.fa 6 (.t 3)),.u 24 (.fa 0 (.t 23)),.u 25 (.ld none 3 true (.t 24)),.u 26 (.callr f0 [(.t 22),.fa,(.t 25)]),.m 27 (.t 0),.u 28 (.fa 6 (.t 3)),.u 29 (.fa 3 (.t 28)),.u 30 (.ld none 3 true (.t 29)),.u 31 (.callr f0 [(.t 27),.tr,(.t 30)]),.u 32 (.build [.x 1 (.t 26),.x 1 (.t 31)]),.u 6 (.alloc [.emp,.emp]),.n (.st none 2 (.t 6) (.t 32))])
 (.fg [0,3,4,5,6] (.seq (.ops true [.u 33 (.call f1 [(.i 1)]),.u 34 (.fa 21 (.t 3)),.u 35 (.ld none 3 true (.t 34)),.u 36 (.call f2 [(.t 33),(.t 35)]),.u 7 (.alloc [(.lit (.bool false)),.emp,.emp]),.n (.st none 3 (.t 7) (.t 36))])
 (.fg [0,3,4,5,6,7] (.seq (.ops true [.m 37 (.t 0),.u 38 (.ld none 2 true (.t 5)),.u 39 (.fa 21 (.t 3)),.u 40 (.ld none 3 true (.t 39)),.u 41 (.fa 24 (.t 3)),.u 42 (.ld none 3 true (.t 41)),.u 43 (.call f3 [(.t 42)]),.u 44 (.callr f4 [(.t 37),(.t 38),(.t 40),(.t 43)]),.m 45 (.t 0),.u 46 (.ld none 2 true (.t 6)),.u 47 (.ld none 3 true (.t 7)),.u 48 (.fa 24 (.t 3)),.u 49 (.ld none 3 true (.t 48)),.u 50 (.callr f4 [(.t 45),(.t 46),(.t 47),(.t 49)]),.u 51 (.build [.x 2 (.t 44),.x 2 (.t 50),.z [.emp,.emp,.emp]]),.u 8 (.alloc [.emp,.emp,.emp,.emp,.emp,.emp,.emp]),.n (.st none 7 (.t 8) (.t 51))])
 (.fg [0,3,4,5,6,7,8] (.seq (.ops true [.u 52 (.fa 21 (.t 3)),.u 53 (.ld none 3 true (.t 52)),.u 54 (.fa 24 (.t 3)),.u 55 (.ld none 3 true (.t 54)),.u 56 (.call f5 [(.t 53),(.t 55)]),.u 57 (.fa 15 (.t 3)),.u 58 (.ld none 3 true (.t 57)),.u 59 (.call f6 [(.t 56),(.t 58)]),.u 60 (.fa 12 (.t 3)),.u 61 (.ld none 3 true (.t 60)),.u 62 (.call f2 [(.t 59),(.t 61)]),.u 9 (.alloc [(.lit (.bool false)),.emp,.emp]),.n (.st none 3 (.t 9) (.t 62))])
 (.fg [0,3,4,5,6,7,8,9] (.seq (.ops true [.u 63 (.fa 18 (.t 3)),.u 64 (.ld none 3 true (.t 63)),.u 65 (.ld none 3 true (.t 7)),.u 66 (.fa 24 (.t 3)),.u 67 (.ld none 3 true (.t 66)),.u 68 (.call f5 [(.t 65),(.t 67)]),.u 69 (.fa 15 (.t 3)),.u 70 (.ld none 3 true (.t 69)),.u 71 (.call f6 [(.t 68),(.t 70)]),.u 72 (.call f2 [(.t 64),(.t 71)]),.u 10 (.alloc [(.lit (.bool false)),.emp,.emp]),.n (.st none 3 (.t 10) (.t 72))])
 (.fg [0,4,5,6,8,9,10] (.seq (.ops true [.m 73 (.t 0),.m 74 (.t 0),.u 75 (.ld none 2 true (.t 5)),.u 76 (.callr f7 [(.t 74),(.t 75)]),.m 77 (.t 0),.u 78 (.ld none 3 true (.t 9)),.u 79 (.callr f8 [(.t 77),(.t 78)]),.u 80 (.callr f9 [(.t 73),(.t 76),(.t 79)]),.u 81 (.fa 4 (.t 8)),.n (.st none 1 (.t 81) (.t 80))])
 (.fg [0,4,6,8,10] (.seq (.ops true [.m 82 (.t 0),.m 83 (.t 0),.u 84 (.ld none 3 true (.t 10)),.u 85 (.callr f8 [(.t 83),(.t 84)]),.m 86 (.t 0),.u 87 (.ld none 2 true (.t 6)),.u 88 (.callr f7 [(.t 86),(.t 87)]),.u 89 (.callr f10 [(.t 82),(.t 85),(.t 88)]),.u 90 (.fa 5 (.t 8)),.n (.st none 1 (.t 90) (.t 89))])
 (.fg [0,4,8] (.seq (.ops true [.m 91 (.t 0),.m 92 (.t 0),.u 93 (.fa 0 (.t 8)),.u 94 (.fa 0 (.t 93)),.u 95 (.ld none 1 false (.t 94)),.u 96 (.fa 2 (.t 8)),.u 97 (.fa 1 (.t 96)),.u 98 (.ld none 1 false (.t 97)),.u 99 (.callr f11 [(.t 92),(.t 95),(.t 98)]),.m 100 (.t 0),.u 101 (.fa 0 (.t 8)),.u 102 (.fa 1 (.t 101)),.u 103 (.ld none 1 false (.t 102)),.u 104 (.fa 2 (.t 8)),.u 105 (.fa 0 (.t 104)),.u 106 (.ld none 1 false (.t 105)),.u 107 (.callr f11 [(.t 100),(.t 103),(.t 106)]),.u 108 (.callr f10 [(.t 91),(.t 99),(.t 107)]),.u 109 (.fa 6 (.t 8)),.n (.st none 1 (.t 109) (.t 108))])
 (.fg [4,8] (.seq (.ops false [.u 110 (.ld none 7 true (.t 8)),.n (.st none 7 (.t 4) (.t 110))])
 .ret)))))))))))))))))))))
theorem QaB (hΓ:Holds P Γ) {f fl fs fa:Nat} (hl:Γ fl=.red Jp) (hs:Γ fs=.red qz) (ha:Γ fa=.red Jz) (hc:check P f=some (34,(ue fl fs fa).strip,[.cell 8 2 true])):Sound P f (.red XE):=by
 refine Zl hc yaL hΓ (λrest h r ver K hr hcl hfi hG=>?_)
 match rest,hG with
 | [a,b,c],hG=>
  obtain ⟨p,q,rfl,⟨hp,hq⟩,u,rfl,wu,w,rfl,ww,⟨p1,p2,r1,r2⟩,h1,h2,hK⟩:=hG
  refine ⟨by simp,?_⟩
  simp only [timB]at p1 p2 hK
  have e:tri (1+1)=3:=rfl
  have a1:=p1.scl r1
  have a2:=p1.scl r2
  have a3:=p2.scl r1
  have a4:=p2.scl r2
  rw [e]at a1 a2 a3 a4
  have c1:=a1.canon
  have c2:=a2.canon
  have c3:=a3.canon
  have c4:=a4.canon
  have s1:=a1.size
  have s2:=a2.size
  have s3:=a3.size
  have s4:=a4.size
  have s5:=p1.size
  have s6:=p2.size
  have c5:=J7 c1 c4
  have c6:=qN c3 c2
  simp only [go_sem,ue,hr,hl,hs,ha,rA]
  repeat (first | (refine And.intro (by omega) ?_) | (refine And.intro (by assumption) ?_) | (refine And.intro rfl ?_) | (refine And.intro ⟨rfl,by omega⟩ ?_) | (refine And.intro ⟨rfl,by omega,by omega⟩ ?_) | (intro _))
  rw [Wz hr];exact hK
theorem kaC (hΓ:Holds P Γ) {f fm fa:Nat} (hm:Γ fm=.red ZA) (ha:Γ fa=.red Jz) (hc:check P f=some (19,(vf fm fa).strip,[.tmp 4])):Sound P f (.red QB):=by
 refine Zl hc waM hΓ (λrest h r ver K hr hcl hfi hG=>?_)
 match rest,hG with
 | [a],hG=>
  obtain ⟨p,q,rfl,⟨hp,hq⟩,⟨d,s,p1,p2,hd,hs⟩,hK⟩:=hG
  refine ⟨by simp,?_⟩
  simp only at p1 p2 hK
  obtain ⟨m1,m2⟩:=p1.mulok p1 hd (by omega)
  obtain ⟨m3,m4⟩:=p2.mulok p2 hd (by omega)
  have q1:=p1.mul p1 hd
  have q2:=p2.mul p2 hd
  have t1:tri (d+1)<=91:=Wan (show d+1<=13 by omega)
  have t2:tri (d+1)*s<=91*1000000:=Nat.mul_le_mul t1 hs
  have s1:=q1.size
  have s2:=q2.size
  have c1:=q1.canon
  have c2:=q2.canon
  have c3:=qN c1 c2
  simp only [go_sem,vf,hr,hm,ha]
  repeat (first | (refine And.intro (by omega) ?_) | (refine And.intro (by assumption) ?_) | (refine And.intro rfl ?_) | (refine And.intro ⟨rfl,by omega⟩ ?_) | (refine And.intro ⟨rfl,by omega,by omega⟩ ?_) | (intro _))
  rw [Wz hr];exact hK
set_option maxHeartbeats 1000000 in
theorem zaD (hΓ:Holds P Γ) {f fl fo fs fn ft fq fm fk fc fa fb fu:Nat} (hl:Γ fl=.red WF) (ho:Γ fo=.dat false ju) (hs:Γ fs=.dat false xp) (hn:Γ fn=.dat false Xp) (ht:Γ ft=.red XE) (hq' : Γ fq=.dat false ZB) (hm:Γ fm=.dat false xg) (hk:Γ fk=.red QB) (hcn:Γ fc=.red VE) (ha:Γ fa=.red Jz) (hb:Γ fb=.red qz) (hu:Γ fu=.red ZA) (hc:check P f=some (111,(Ue fl fo fs fn ft fq fm fk fc fa fb fu).strip,[.cell 4 7 true])):Sound P f (.red jB):=by
 refine Zl hc vaI hΓ (λrest h r ver K hr hcl hfi hG=>?_)
 match rest,hG with
 | [a],hG=>
  obtain ⟨c,rfl,hw,hl1,hK⟩:=hG
  refine ⟨by simp,?_⟩
  have hB:=ZM hw hl1
  obtain ⟨wo,wq,w1,w2,w3,w4,w5⟩:=id hw
  have hl0:=hl1
  unfold cl at hl0
  simp only [Nat.max_le]at hl0
  obtain ⟨l1,l2,l3,l4,l5,l6,l7⟩:=hl0
  have wo1:=wo.1
  have wo2:=wo.2
  have wq1:=wq.1
  have wq2:=wq.2
  have lo1:=(Nat.max_le.1 l1).1
  have lo2:=(Nat.max_le.1 l1).2
  have lq1:=(Nat.max_le.1 l2).1
  have lq2:=(Nat.max_le.1 l2).2
  have z1:=rz_1
  have x1:PB 1 1006 (linB false (rv c.1.1)):=PB.lx hB.o1
  have x2:PB 1 1006 (linB true (rv c.1.2)):=PB.lx hB.o2
  have x3:PB 1 1006 (linB false (rv c.2.1.1)):=PB.lx hB.q1
  have x4:PB 1 1006 (linB true (rv c.2.1.2)):=PB.lx hB.q2
  have y1:=x1.canon
  have y2:=x2.canon
  have y3:=x3.canon
  have y4:=x4.canon
  have ru:rz (rv c.2.2.2.2.2.1)<=1000:=hB.u
  have rw' : rz (rv c.2.2.2.2.2.2)<=1000:=hB.v
  have rb:rz (rv c.2.2.2.1)<=1000:=hB.b2
  have ra:rz (rv c.2.2.1)<=1000:=hB.a2
  have rc:rz (rv c.2.2.2.2.1)<=1000:=hB.c2
  have rr:rz (1-rv c.2.2.2.2.2.1)<=1004:=yba hB
  have rn:rz (-rv c.2.2.2.2.2.2)<=1000:=by rw [uw];exact rw'
  have t1:tOk (linB false (rv c.1.1),linB true (rv c.1.2)) (rv c.2.2.2.2.2.1) (-rv c.2.2.2.2.2.2):=⟨x1,x2,by omega,by omega⟩
  have t2:tOk (linB false (rv c.2.1.1),linB true (rv c.2.1.2)) (1-rv c.2.2.2.2.2.1) (rv c.2.2.2.2.2.2):=⟨x3,x4,by omega,by omega⟩
  have n1:nOk (linB false (rv c.1.1),linB true (rv c.1.2)):=⟨1,1006,x1,x2,by decide,by decide⟩
  have n2:nOk (linB false (rv c.2.1.1),linB true (rv c.2.1.2)):=⟨1,1006,x3,x4,by decide,by decide⟩
  have k1:=XF (rv c.2.2.2.2.2.1,rv c.2.2.2.2.2.2)
  have k2:zq (rv c.2.2.2.2.2.1,rv c.2.2.2.2.2.2)<=1000:=Nat.max_le.2 ⟨ru,rw'⟩
  have k3:=Vb (sqQ (rv c.2.2.2.2.2.1,rv c.2.2.2.2.2.2)) (rv c.2.2.2.1)
  have k4:=km (sqQ (rv c.2.2.2.2.2.1,rv c.2.2.2.2.2.2)*rv c.2.2.2.1) (rv c.2.2.1)
  have k5:=XF (1-rv c.2.2.2.2.2.1,rv c.2.2.2.2.2.2)
  have k6:zq (1-rv c.2.2.2.2.2.1,rv c.2.2.2.2.2.2)<=1004:=Nat.max_le.2 ⟨rr,Nat.le_trans rw' (by decide)⟩
  have k7:=Vb (sqQ (1-rv c.2.2.2.2.2.1,rv c.2.2.2.2.2.2)) (rv c.2.2.2.1)
  have k8:=km (rv c.2.2.2.2.1) (sqQ (1-rv c.2.2.2.2.2.1,rv c.2.2.2.2.2.2)*rv c.2.2.2.1)
  have y12:=And.intro y1 y2
  have y34:=And.intro y3 y4
  have e1:PB 2 12072 (nrmB (linB false (rv c.1.1),linB true (rv c.1.2))):=WaE (o:=(rv c.1.1,rv c.1.2)) hB.o1 hB.o2
  have e2:PB 2 12072 (nrmB (linB false (rv c.2.1.1),linB true (rv c.2.1.2))):=WaE (o:=(rv c.2.1.1,rv c.2.1.2)) hB.q1 hB.q2
  have e1c:=e1.canon
  have e1s:=e1.size
  have e2c:=e2.canon
  have e2s:=e2.size
  have b1:=PB.con (sqQ (rv c.2.2.2.2.2.1,rv c.2.2.2.2.2.2)*rv c.2.2.2.1-rv c.2.2.1)
  have b2:=PB.con (rv c.2.2.2.2.1-sqQ (1-rv c.2.2.2.2.2.1,rv c.2.2.2.2.2.2)*rv c.2.2.2.1)
  have b1c:=b1.canon
  have b1s:=b1.size
  have b2c:=b2.canon
  have b2s:=b2.size
  have A1:PB 1 8100 (timB (linB false (rv c.1.1),linB true (rv c.1.2)) (rv c.2.2.2.2.2.1) (-rv c.2.2.2.2.2.2)).1:=(YM hB).1
  have A2:PB 1 8100 (timB (linB false (rv c.1.1),linB true (rv c.1.2)) (rv c.2.2.2.2.2.1) (-rv c.2.2.2.2.2.2)).2:=(YM hB).2
  have B1:PB 1 8200 (timB (linB false (rv c.2.1.1),linB true (rv c.2.1.2)) (1-rv c.2.2.2.2.2.1) (rv c.2.2.2.2.2.2)).1:=(YI hB).1
  have B2:PB 1 8200 (timB (linB false (rv c.2.1.1),linB true (rv c.2.1.2)) (1-rv c.2.2.2.2.2.1) (rv c.2.2.2.2.2.2)).2:=(YI hB).2
  obtain ⟨m1,m2⟩:=A1.mulok B2 (by decide) (by decide)
  obtain ⟨m3,m4⟩:=A2.mulok B1 (by decide) (by decide)
  have M1:=A1.mul B2 (by decide)
  have M2:=A2.mul B1 (by decide)
  have tt:tri (1+1)=3:=rfl
  rw [tt]at M1 M2
  have A1c:=A1.canon
  have A2c:=A2.canon
  have B1c:=B1.canon
  have B2c:=B2.canon
  have M1c:=M1.canon
  have M1s:=M1.size
  have M2c:=M2.canon
  have M2s:=M2.size
  have q1:rl c.1.1<=1000000:=Nat.le_trans lo1 (by decide)
  have q2:rl c.1.2<=1000000:=Nat.le_trans lo2 (by decide)
  have q3:rl c.2.1.1<=1000000:=Nat.le_trans lq1 (by decide)
  have q4:rl c.2.1.2<=1000000:=Nat.le_trans lq2 (by decide)
  have q5:rz 1<=4294967296:=Nat.le_trans z1 (by decide)
  have q6:rl c.2.2.2.2.2.1<=4294967296:=Nat.le_trans l6 (by decide)
  have q7:rl c.2.2.2.2.2.2<=4294967296:=Nat.le_trans l7 (by decide)
  have q8:rl c.2.2.2.2.2.1<=1000000:=Nat.le_trans l6 (by decide)
  have q9:rl c.2.2.2.2.2.2<=1000000:=Nat.le_trans l7 (by decide)
  have q10:rl c.2.2.2.2.2.1<=100000000:=Nat.le_trans l6 (by decide)
  have q11:rl c.2.2.2.2.2.2<=100000000:=Nat.le_trans l7 (by decide)
  have q12:rz (-rv c.2.2.2.2.2.2)<=1000000:=Nat.le_trans rn (by decide)
  have q13:rz (1-rv c.2.2.2.2.2.1)<=1000000:=Nat.le_trans rr (by decide)
  have q14:rz (1-rv c.2.2.2.2.2.1)<=100000000:=Nat.le_trans rr (by decide)
  have q15:rl c.2.2.2.1<=4294967296:=Nat.le_trans l4 (by decide)
  have q16:rl c.2.2.1<=4294967296:=Nat.le_trans l3 (by decide)
  have q17:rl c.2.2.2.2.1<=4294967296:=Nat.le_trans l5 (by decide)
  have q18:rz (sqQ (rv c.2.2.2.2.2.1,rv c.2.2.2.2.2.2))<=4294967296:=by omega
  have q19:rz (sqQ (rv c.2.2.2.2.2.1,rv c.2.2.2.2.2.2)*rv c.2.2.2.1)<=4294967296:=by omega
  have q20:rz (sqQ (1-rv c.2.2.2.2.2.1,rv c.2.2.2.2.2.2))<=4294967296:=by omega
  have q21:rz (sqQ (1-rv c.2.2.2.2.2.1,rv c.2.2.2.2.2.2)*rv c.2.2.2.1)<=4294967296:=by omega
  have q22a:=ybs hB
  have q23a:=qbm hB
  have q22:rz (sqQ (rv c.2.2.2.2.2.1,rv c.2.2.2.2.2.2)*rv c.2.2.2.1-rv c.2.2.1)<=1000000:=Nat.le_trans q22a (by decide)
  have q23:rz (rv c.2.2.2.2.1-sqQ (1-rv c.2.2.2.2.2.1,rv c.2.2.2.2.2.2)*rv c.2.2.2.1)<=1000000:=Nat.le_trans q23a (by decide)
  have q24:=Nat.le_trans (Nat.add_le_add e1s (Nat.le_trans b1s (Nat.add_le_add_right q22a 2))) (by decide:12072+(10000+2)<=1000000000)
  have q25:=Nat.le_trans (Nat.add_le_add (Nat.le_trans b2s (Nat.add_le_add_right q23a 2)) e2s) (by decide:(10000+2)+12072<=1000000000)
  have q26:=Nat.le_trans (Nat.add_le_add M1s M2s) (by decide:_<=1000000000)
  simp only [go_sem,Ue,hr,hl,ho,hs,hn,ht,hq',hm,hk,hcn,ha,hb,hu,cpA,cpC,jd,Wb,rone1,zd]
  repeat (first | (refine And.intro (by with_reducible assumption) ?_) | (refine And.intro (by decide) ?_))
  rw [Wz hr];exact hK
end Go.Abs
end
section
namespace Go.Num
open Go.Abs
theorem jbv {d s:Nat} {x y:BQ} (h1:PB d s x) (h2:PB d s y) (hd:d+d<=24) (hs:s<=1000000):nOk (x,y):=⟨d,s,h1,h2,hd,hs⟩
theorem UF (a:V2):av (rcan a.1,rcan a.2)=a:=YbG a
theorem Vbj {c:Cp} {l:List Arc} (h:cchk2 c l=0):cchk c=0/\l.all avld=true:=by
 unfold cchk2 at h
 split at h
 .rename_i h1;exact absurd h h1
 .rename_i h1
  split at h
  .contradiction
  .rename_i h2;exact ⟨by omega,by simpa using h2⟩
theorem Jbl (x:Rat):decide (ordQ x 0=0)=decide (x=0):=by rw [decide_eq_decide];exact Qi
theorem QaY (x:Rat):(ordQ x 0=0)=(x=0):=propext Qi
instance decH (c:CpR) (a b:V2):Decidable (hldQ c a b):=inferInstanceAs (Decidable (_/\_/\_))
theorem zq_d (a b:V2):rz (sqQ (subQ a b))<=4*zq a+4*zq b+14:=by
 have h1:=YL a b
 have h2:=XF (subQ a b)
 omega
theorem Zab (a:V2) (u w:Rat):zq (timQ a u w)<=2*zq a+rz u+rz w+6:=by
 have a1:rz a.1<=zq a:=Nat.le_max_left _ _
 have a2:rz a.2<=zq a:=Nat.le_max_right _ _
 have m1:=Vb a.1 u
 have m2:=Vb a.2 w
 have m3:=Vb a.2 u
 have m4:=Vb a.1 w
 have s1:=km (a.1*u) (a.2*w)
 have s2:=Vz (a.2*u) (a.1*w)
 exact Nat.max_le.2 ⟨by show rz (a.1*u-a.2*w)<=_;omega,by show rz (a.2*u+a.1*w)<=_;omega⟩
end Go.Num
namespace Go.Abs
open Go.Num
variable {P:Program} {Γ:Nat->Spec}
def kB (tE:Nat) (l:List AV) (K:AV->Prop):Prop:=
 match l with
 | [c]=>onCp (λc=>cl c<=1000/\K (.tup [.one (.slice ((bres (cchk c) (cCur (cpv c))).map mC)),errV tE (cchk c)])) c
 | _=>False
theorem wa3 (tE:Nat) (c:AV) (K:AV->Prop):kB tE [c] K=(onCp (λc=>cl c<=1000/\K (.tup [.one (.slice ((bres (cchk c) (cCur (cpv c))).map mC)),errV tE (cchk c)])) c):=propext Iff.rfl
@[congr] theorem ZbP (tE:Nat) {K:AV->Prop} {l l' : List AV} (h:l=l'):kB tE l K=kB tE l' K:=by subst h;rfl
attribute [go_sem] wa3
attribute [go_sem ↓] wa3
theorem YaL (tE:Nat):Good (kB tE):=ka λas=>by
 unfold kB
 split
 .exact (Up λ_=>(.and λ_=>(.ret _)))
 .exact .of λK hk=>hk.elim
def WD (tE:Nat) (l:List AV) (K:AV->Prop):Prop:=
 match l with
 | [c]=>onCp (λc=>cl c<=1000/\K (.tup [.one (.slice ((bres (cchk c) (cM (cpv c))).map mC)),errV tE (cchk c)])) c
 | _=>False
theorem uaL (tE:Nat) (c:AV) (K:AV->Prop):WD tE [c] K=(onCp (λc=>cl c<=1000/\K (.tup [.one (.slice ((bres (cchk c) (cM (cpv c))).map mC)),errV tE (cchk c)])) c):=propext Iff.rfl
@[congr] theorem kbP (tE:Nat) {K:AV->Prop} {l l' : List AV} (h:l=l'):WD tE l K=WD tE l' K:=by subst h;rfl
attribute [go_sem] uaL
attribute [go_sem ↓] uaL
theorem WaI (tE:Nat):Good (WD tE):=ka λas=>by
 unfold WD
 split
 .exact (Up λ_=>(.and λ_=>(.ret _)))
 .exact .of λK hk=>hk.elim
def vB (tE:Nat) (l:List AV) (K:AV->Prop):Prop:=
 match l with
 | [c,p]=>onCp (λc=>onA (λp=>cl c<=1000/\al p<=10000/\K (.tup [.one (.lit (.bool (decide (cchk2 c [p]=0) && decide (wV (cpv c) (av p)=0)))),errV tE (cchk2 c [p])])) p) c
 | _=>False
theorem Ja0 (tE:Nat) (c p:AV) (K:AV->Prop):vB tE [c,p] K=(onCp (λc=>onA (λp=>cl c<=1000/\al p<=10000/\K (.tup [.one (.lit (.bool (decide (cchk2 c [p]=0) && decide (wV (cpv c) (av p)=0)))),errV tE (cchk2 c [p])])) p) c):=propext Iff.rfl
@[congr] theorem UbT (tE:Nat) {K:AV->Prop} {l l' : List AV} (h:l=l'):vB tE l K=vB tE l' K:=by subst h;rfl
attribute [go_sem] Ja0
attribute [go_sem ↓] Ja0
theorem qaS (tE:Nat):Good (vB tE):=ka λas=>by
 unfold vB
 split
 .exact (Up λ_=>(Ju λ_=>(.and λ_=>(.and λ_=>(.ret _)))))
 .exact .of λK hk=>hk.elim
def QE (tE:Nat) (l:List AV) (K:AV->Prop):Prop:=
 match l with
 | [c,a,b]=>onCp (λc=>onA (λa=>onA (λb=>cl c<=10000/\al a<=10000/\al b<=10000/\K (.tup [pQ (if cchk2 c [a,b]=0 then ptQ (cpv c) (av a) (av b) else (0,0)),errV tE (cchk2 c [a,b])])) b) a) c
 | _=>False
theorem JaQ (tE:Nat) (c a b:AV) (K:AV->Prop):QE tE [c,a,b] K=(onCp (λc=>onA (λa=>onA (λb=>cl c<=10000/\al a<=10000/\al b<=10000/\K (.tup [pQ (if cchk2 c [a,b]=0 then ptQ (cpv c) (av a) (av b) else (0,0)),errV tE (cchk2 c [a,b])])) b) a) c):=propext Iff.rfl
@[congr] theorem ybP (tE:Nat) {K:AV->Prop} {l l' : List AV} (h:l=l'):QE tE l K=QE tE l' K:=by subst h;rfl
attribute [go_sem] JaQ
attribute [go_sem ↓] JaQ
theorem UaR (tE:Nat):Good (QE tE):=ka λas=>by
 unfold QE
 split
 .exact (Up λ_=>(Ju λ_=>(Ju λ_=>(.and λ_=>(.and λ_=>(.and λ_=>(.ret _)))))))
 .exact .of λK hk=>hk.elim
def qaQ (tE:Nat) (l:List AV) (K:AV->Prop):Prop:=
 match l with
 | [c,a,b]=>onCp (λc=>onA (λa=>onA (λb=>cl c<=10000/\al a<=10000/\al b<=10000/\K (.tup [.one (.lit (.bool (decide (cchk2 c [a,b]=0) && decide (hldQ (cpv c) (av a) (av b))))),errV tE (cchk2 c [a,b])])) b) a) c
 | _=>False
theorem jaT (tE:Nat) (c a b:AV) (K:AV->Prop):qaQ tE [c,a,b] K=(onCp (λc=>onA (λa=>onA (λb=>cl c<=10000/\al a<=10000/\al b<=10000/\K (.tup [.one (.lit (.bool (decide (cchk2 c [a,b]=0) && decide (hldQ (cpv c) (av a) (av b))))),errV tE (cchk2 c [a,b])])) b) a) c):=propext Iff.rfl
@[congr] theorem YbS (tE:Nat) {K:AV->Prop} {l l' : List AV} (h:l=l'):qaQ tE l K=qaQ tE l' K:=by subst h;rfl
attribute [go_sem] jaT
attribute [go_sem ↓] jaT
def wl (f0 f1 f2 f3 f4 f5 f6 f7:Nat):AC:=(.seq (.ops false [.u 1 (.box 27 (.t 0)),.m 2 (.c (.one .emp)),.m 3 (.c (.one (.lit .nilIface)))])
 (.fg [1] (.seq (.seq (.ops false [.u 11 (.ld none 27 true (.t 1)),.u 12 (.call f0 [(.t 11)]),.m 4 (.t 12)])
 (.fg [1,4] (.seq (.ops false [.m 13 (.t 4),.u 14 (.binn .neq (.t 13) (.c (.one (.lit .nilIface))))])
 (.fg [1,4,14] (.cond (.t 14) (.seq (.ops false [.m 15 (.t 4),.m 2 (.c (.one .emp)),.m 3 (.t 15)])
 .ret) .skip)))))
 (.fg [1] (.seq (.ops false [.u 16 (.build [.z [(.lit .nilIface)]]),.u 17 (.box 1 (.t 16)),.m 5 (.t 17)])
 (.fg [1,5] (.seq (.ops false [.m 18 (.t 5),.u 19 (.ld none 27 true (.t 1)),.u 20 (.callr f1 [(.t 18),(.t 19)]),.u 6 (.alloc [.emp,.emp,.emp,.emp,.emp,.emp,.emp]),.n (.st none 7 (.t 6) (.t 20))])
 (.fg [1,5,6] (.seq (.ops true [.m 21 (.t 5),.m 22 (.t 5),.u 23 (.fa 4 (.t 6)),.u 24 (.ld none 1 false (.t 23)),.u 25 (.fa 2 (.t 6)),.u 26 (.fa 1 (.t 25)),.u 27 (.ld none 1 false (.t 26)),.u 28 (.callr f2 [(.t 22),(.t 24),(.t 27)]),.m 29 (.t 5),.u 30 (.fa 5 (.t 6)),.u 31 (.ld none 1 false (.t 30)),.u 32 (.fa 0 (.t 6)),.u 33 (.fa 1 (.t 32)),.u 34 (.ld none 1 false (.t 33)),.u 35 (.callr f2 [(.t 29),(.t 31),(.t 34)]),.u 36 (.callr f3 [(.t 21),(.t 28),(.t 35)]),.m 7 (.t 36)])
 (.fg [1,5,6,7] (.seq (.ops true [.m 37 (.t 5),.m 38 (.t 5),.u 39 (.fa 5 (.t 6)),.u 40 (.ld none 1 false (.t 39)),.u 41 (.fa 0 (.t 6)),.u 42 (.fa 0 (.t 41)),.u 43 (.ld none 1 false (.t 42)),.u 44 (.callr f2 [(.t 38),(.t 40),(.t 43)]),.m 45 (.t 5),.u 46 (.fa 4 (.t 6)),.u 47 (.ld none 1 false (.t 46)),.u 48 (.fa 2 (.t 6)),.u 49 (.fa 0 (.t 48)),.u 50 (.ld none 1 false (.t 49)),.u 51 (.callr f2 [(.t 45),(.t 47),(.t 50)]),.u 52 (.callr f3 [(.t 37),(.t 44),(.t 51)]),.m 8 (.t 52)])
 (.fg [1,5,6,7,8] (.seq (.ops true [.m 53 (.t 5),.m 54 (.t 5),.u 55 (.fa 6 (.t 6)),.u 56 (.ld none 1 false (.t 55)),.u 57 (.fa 6 (.t 6)),.u 58 (.ld none 1 false (.t 57)),.u 59 (.callr f2 [(.t 54),(.t 56),(.t 58)]),.u 60 (.call f4 [(.i 4)]),.u 61 (.fa 15 (.t 1)),.u 62 (.ld none 3 true (.t 61)),.u 63 (.call f5 [(.t 60),(.t 62)]),.u 64 (.callr f6 [(.t 53),(.t 59),(.t 63)]),.m 9 (.t 64)])
 (.fg [5,7,8,9] (.seq (.ops false [.m 65 (.t 5),.m 66 (.t 5),.m 67 (.t 7),.m 68 (.t 8),.u 69 (.build [.x 1 (.t 67),.x 1 (.t 68)]),.u 70 (.callr f7 [(.t 66),(.t 69)]),.m 71 (.t 9),.u 72 (.callr f3 [(.t 65),(.t 70),(.t 71)]),.m 10 (.t 72)])
 (.fg [5,10] (.seq (.ops true [.m 73 (.t 10),.m 74 (.t 5),.u 75 (.nilck (.t 74)),.u 76 (.fa 0 (.t 75)),.u 77 (.ld none 1 false (.t 76)),.m 2 (.t 73),.m 3 (.t 77)])
 .ret)))))))))))))))))
def Wj (f0 f1:Nat):AC:=(.seq (.ops false [.u 1 (.box 27 (.t 0)),.m 2 (.c (.one .emp)),.m 3 (.c (.one (.lit .nilIface)))])
 (.fg [1] (.seq (.seq (.ops false [.u 7 (.ld none 27 true (.t 1)),.u 8 (.call f0 [(.t 7)]),.m 4 (.t 8)])
 (.fg [1,4] (.seq (.ops false [.m 9 (.t 4),.u 10 (.binn .neq (.t 9) (.c (.one (.lit .nilIface))))])
 (.fg [1,4,10] (.cond (.t 10) (.seq (.ops false [.m 11 (.t 4),.m 2 (.c (.one .emp)),.m 3 (.t 11)])
 .ret) .skip)))))
 (.fg [1] (.seq (.ops false [.u 12 (.build [.z [(.lit .nilIface)]]),.u 13 (.box 1 (.t 12)),.m 5 (.t 13)])
 (.fg [1,5] (.seq (.ops false [.m 14 (.t 5),.u 15 (.ld none 27 true (.t 1)),.u 16 (.callr f1 [(.t 14),(.t 15)]),.u 6 (.alloc [.emp,.emp,.emp,.emp,.emp,.emp,.emp]),.n (.st none 7 (.t 6) (.t 16))])
 (.fg [5,6] (.seq (.ops true [.u 17 (.fa 6 (.t 6)),.u 18 (.ld none 1 false (.t 17)),.m 19 (.t 5),.u 20 (.nilck (.t 19)),.u 21 (.fa 0 (.t 20)),.u 22 (.ld none 1 false (.t 21)),.m 2 (.t 18),.m 3 (.t 22)])
 .ret)))))))))
def js (f0 f1 f2 f3:Nat):AC:=(.seq (.ops false [.u 2 (.box 27 (.t 0)),.u 3 (.box 6 (.t 1)),.m 4 .fa,.m 5 (.c (.one (.lit .nilIface)))])
 (.fg [2,3] (.seq (.seq (.ops false [.u 10 (.ld none 27 true (.t 2)),.u 11 (.ld none 6 true (.t 3)),.u 12 (.row 6 [[.x 6 (.t 11)]]),.u 13 (.call f0 [(.t 10),(.t 12)]),.m 6 (.t 13)])
 (.fg [2,3,6] (.seq (.ops false [.m 14 (.t 6),.u 15 (.binn .neq (.t 14) (.c (.one (.lit .nilIface))))])
 (.fg [2,3,6,15] (.cond (.t 15) (.seq (.ops false [.m 16 (.t 6),.m 4 .fa,.m 5 (.t 16)])
 .ret) .skip)))))
 (.fg [2,3] (.seq (.ops false [.u 18 (.ld none 27 true (.t 2)),.u 19 (.call f1 [(.t 18)]),.m 17 (.t 19),.u 20 (.ext 0 (.t 17)),.u 21 (.ext 1 (.t 17)),.m 7 (.t 20),.m 8 (.t 21)])
 (.fg [3,7,8] (.seq (.seq (.ops false [.m 22 (.t 8),.u 23 (.binn .neq (.t 22) (.c (.one (.lit .nilIface))))])
 (.fg [3,7,8,23] (.cond (.t 23) (.seq (.ops false [.m 24 (.t 8),.m 4 .fa,.m 5 (.t 24)])
 .ret) .skip)))
 (.fg [3,7] (.seq (.ops false [.m 26 (.t 7),.u 27 (.fa 0 (.t 3)),.u 28 (.ld none 3 true (.t 27)),.u 29 (.fa 3 (.t 3)),.u 30 (.ld none 3 true (.t 29)),.u 31 (.call f2 [(.t 26),(.t 28),(.t 30)]),.m 25 (.t 31),.u 32 (.ext 0 (.t 25)),.u 33 (.ext 1 (.t 25)),.u 9 (.alloc [(.lit (.bool false)),.emp,.emp]),.n (.st none 3 (.t 9) (.t 32)),.m 8 (.t 33)])
 (.fg [8,9] (.seq (.ops false [.m 34 (.t 8),.u 35 (.binn .eql (.t 34) (.c (.one (.lit .nilIface)))),.m 36 (.t 35),.w 37 36 true (.ld none 3 true (.t 9)),.w 38 36 true (.call f3 [(.t 37)]),.w 39 36 true (.bin .eql (.t 38) (.i 0)),.u 40 (.pick (.t 36) (.t 39) .fa),.m 41 (.t 8),.m 4 (.t 40),.m 5 (.t 41)])
 .ret)))))))))))
def Xl (f0 f1 f2 f3:Nat):AC:=(.seq (.ops false [.u 3 (.box 27 (.t 0)),.u 4 (.box 6 (.t 1)),.u 5 (.box 6 (.t 2)),.u 6 (.alloc [(.lit (.bool false)),.emp,.emp,(.lit (.bool false)),.emp,.emp]),.m 7 (.c (.one (.lit .nilIface)))])
 (.fg [3,4,5,6] (.seq (.seq (.ops false [.u 9 (.ld none 27 true (.t 3)),.u 10 (.ld none 6 true (.t 4)),.u 11 (.ld none 6 true (.t 5)),.u 12 (.row 6 [[.x 6 (.t 10)],[.x 6 (.t 11)]]),.u 13 (.call f0 [(.t 9),(.t 12)]),.m 8 (.t 13)])
 (.fg [3,4,5,6,8] (.seq (.ops false [.m 14 (.t 8),.u 15 (.binn .neq (.t 14) (.c (.one (.lit .nilIface))))])
 (.fg [3,4,5,6,8,15] (.cond (.t 15) (.seq (.ops false [.u 16 (.build [.z [(.lit (.bool false)),.emp,.emp,(.lit (.bool false)),.emp,.emp]]),.m 17 (.t 8),.n (.st none 6 (.t 6) (.t 16)),.m 7 (.t 17)])
 .ret) .skip)))))
 (.fg [3,4,5,6] (.seq (.ops true [.u 18 (.ld none 6 true (.t 4)),.u 19 (.ld none 6 true (.t 5)),.u 20 (.ld none 6 true (.t 4)),.u 21 (.call f1 [(.t 19),(.t 20)]),.u 22 (.fa 21 (.t 3)),.u 23 (.ld none 3 true (.t 22)),.u 24 (.fa 24 (.t 3)),.u 25 (.ld none 3 true (.t 24)),.u 26 (.call f2 [(.t 21),(.t 23),(.t 25)]),.u 27 (.call f3 [(.t 18),(.t 26)]),.n (.st none 6 (.t 6) (.t 27)),.m 7 (.c (.one (.lit .nilIface)))])
 .ret)))))
theorem zaB (hΓ:Holds P Γ) {f fk fb tE:Nat} (hk:Γ fk=.dat false (Xy tE)) (hb:Γ fb=.red jB) (hc:check P f=some (23,(Wj fk fb).strip,[.tmp 2,.tmp 3])):Sound P f (.dat false (WD tE)):=by
 refine Va hc (WaI tE) hΓ (λargs K hcl hfi hG=>?_)
 match args,hG with
 | [a],hG=>
  obtain ⟨c,rfl,hw,hl,hK⟩:=hG
  refine ⟨by simp,?_⟩
  have hl2:cl c<=100000000:=Nat.le_trans hl (by decide)
  by_cases h0:cchk c=0
  .have e0:=Qc tE
   rw [<-h0]at e0
   rw [h0,qr,Qc]at hK
   simp only [go_sem,Wj,hk,hb,cpA,cpC,jd,e0]
   repeat (first | (refine And.intro (by with_reducible assumption) ?_) | (refine And.intro (Nat.le_trans (by with_reducible assumption) (by decide)) ?_) | (refine And.intro (by decide) ?_))
   exact hK
  .have e0:=Jd tE h0
   rw [Zz h0,e0]at hK
   simp only [go_sem,Wj,hk,cpA,cpC,jd,e0]
   repeat (first | (refine And.intro (by with_reducible assumption) ?_) | (refine And.intro (Nat.le_trans (by with_reducible assumption) (by decide)) ?_) | (refine And.intro (by decide) ?_))
   exact hK
set_option maxHeartbeats 2000000 in
theorem XaB (hΓ:Holds P Γ) {f fk fb fm fs fo ft fl fn tE:Nat} (hk:Γ fk=.dat false (Xy tE)) (hb:Γ fb=.red jB) (hm:Γ fm=.red ZA) (hs:Γ fs=.red qz) (ho:Γ fo=.dat false ju) (ht:Γ ft=.dat false xg) (hl' : Γ fl=.red Jp) (hn:Γ fn=.red QB) (hc:check P f=some (78,(wl fk fb fm fs fo ft fl fn).strip,[.tmp 2,.tmp 3])):Sound P f (.dat false (kB tE)):=by
 refine Va hc (YaL tE) hΓ (λargs K hcl hfi hG=>?_)
 match args,hG with
 | [a],hG=>
  obtain ⟨c,rfl,hw,hl,hK⟩:=hG
  refine ⟨by simp,?_⟩
  have hl2:cl c<=100000000:=Nat.le_trans hl (by decide)
  by_cases h0:cchk c=0
  .have e0:=Qc tE
   rw [<-h0]at e0
   rw [h0,qr,Qc]at hK
   have hB:=ZM hw hl
   have i4:((4:Int):Rat)=4:=rfl
   have w4:=hw.2.2.2.1
   have l4:rl c.2.2.2.1<=4294967296:=by unfold cl at hl;omega
   have z4:rz 4<=4294967296:=Nat.le_trans rz_4 (by decide)
   have z4c:=jby hB
   have eb:(cpv c).2.2.2.1=rv c.2.2.2.1:=rfl
   rw [eb]at z4c
   have z4b:=Nat.le_trans z4c (by decide:_<=1000000)
   have pe:=pb_e hB
   have pf:=pb_f hB
   obtain ⟨a1,a2⟩:=YM hB
   obtain ⟨b1,b2⟩:=YI hB
   have pm:=pb_m hB
   have c1:=pe.canon
   have c2:=pf.canon
   have c3:=a1.canon
   have c4:=a2.canon
   have c5:=b1.canon
   have c6:=b2.canon
   have c7:=pm.canon
   obtain ⟨m1,m2⟩:=pe.mulok b2 (by decide) (by decide)
   obtain ⟨m3,m4⟩:=pf.mulok a2 (by decide) (by decide)
   obtain ⟨m5,m6⟩:=pf.mulok a1 (by decide) (by decide)
   obtain ⟨m7,m8⟩:=pe.mulok b1 (by decide) (by decide)
   obtain ⟨m9,m10⟩:=pm.mulok pm (by decide) (by decide)
   have t1:tri (1+1)=3:=rfl
   have t2:tri (2+1)=6:=rfl
   have M1:=pe.mul b2 (by decide)
   have M2:=pf.mul a2 (by decide)
   have M3:=pf.mul a1 (by decide)
   have M4:=pe.mul b1 (by decide)
   rw [t1,t2]at M1 M2 M3 M4
   have s1:=Nat.le_trans (Nat.add_le_add M1.size M2.size) (by decide:_<=1000000000)
   have s2:=Nat.le_trans (Nat.add_le_add M3.size M4.size) (by decide:_<=1000000000)
   have k1:=M1.canon
   have k2:=M2.canon
   have k3:=M3.canon
   have k4:=M4.canon
   have pmm:PB 4 1176000 (mulB (cM (cpv c)) (cM (cpv c))):=zbn hB
   have k5:=pmm.canon
   have s3:=Nat.le_trans pmm.size (by decide:_<=100000000)
   have px:PB 3 240000 (subB (mulB (cE (cpv c)) (cBe (cpv c)).2) (mulB (cF (cpv c)) (cAl (cpv c)).2)):=pb_x hB
   have py:PB 3 240000 (subB (mulB (cF (cpv c)) (cAl (cpv c)).1) (mulB (cE (cpv c)) (cBe (cpv c)).1)):=pb_y hB
   have k6:=And.intro px.canon py.canon
   have n1:nOk (subB (mulB (cE (cpv c)) (cBe (cpv c)).2) (mulB (cF (cpv c)) (cAl (cpv c)).2),subB (mulB (cF (cpv c)) (cAl (cpv c)).1) (mulB (cE (cpv c)) (cBe (cpv c)).1)):=jbv px py (by decide) (by decide)
   have pnn:PB 6 9600000 (nrmB (subB (mulB (cE (cpv c)) (cBe (cpv c)).2) (mulB (cF (cpv c)) (cAl (cpv c)).2),subB (mulB (cF (cpv c)) (cAl (cpv c)).1) (mulB (cE (cpv c)) (cBe (cpv c)).1))):=zbl hB
   have pla:=Ybp hB
   unfold cLa cMM at pla
   rw [eb]at pla
   have k7:=pnn.canon
   have k8:=pla.canon
   have s4:=Nat.le_trans (Nat.add_le_add pnn.size pla.size) (by decide:_<=1000000000)
   simp only [go_sem,wl,hk,hb,hm,hs,ho,ht,hl',hn,cpA,cpC,jd,Wb,i4,e0]
   repeat (first | (refine And.intro (by with_reducible assumption) ?_) | (refine And.intro (Nat.le_trans (by with_reducible assumption) (by decide)) ?_) | (refine And.intro (by decide) ?_))
   exact hK
  .have e0:=Jd tE h0
   rw [Zz h0,e0]at hK
   simp only [go_sem,wl,hk,cpA,cpC,jd,e0]
   repeat (first | (refine And.intro (by with_reducible assumption) ?_) | (refine And.intro (Nat.le_trans (by with_reducible assumption) (by decide)) ?_) | (refine And.intro (by decide) ?_))
   exact hK
theorem yaD (hΓ:Holds P Γ) {f fk fv fe fg tE:Nat} (hk:Γ fk=.dat false (Yv tE)) (hv:Γ fv=.dat false (kB tE)) (he:Γ fe=.dat false (zy tE)) (hg:Γ fg=.dat true Vh) (hc:check P f=some (42,(js fk fv fe fg).strip,[.tmp 4,.tmp 5])):Sound P f (.dat false (vB tE)):=by
 refine Va hc (qaS tE) hΓ (λargs K hcl hfi hG=>?_)
 match args,hG with
 | [a,b],hG=>
  obtain ⟨c,rfl,hw,⟨x,y⟩,rfl,hwp,hl,hlp,hK⟩:=hG
  refine ⟨by simp,?_⟩
  have hl2:cl c<=100000000:=Nat.le_trans hl (by decide)
  have hl1:=Nat.max_le.1 hlp
  have lx:=hl1.1
  have ly:=hl1.2
  have wx:=hwp.1
  have wy:=hwp.2
  simp only at lx ly wx wy
  have hwl:∀q∈[(x,y)],WLA q:=λq hq=>by rw [List.mem_singleton.1 hq];exact hwp
  have hok:okAs 100000000 [(x,y)]:=λq hq=>by rw [List.mem_singleton.1 hq];exact ⟨hwp,Nat.le_trans hlp (by decide)⟩
  by_cases h0:cchk2 c [(x,y)]=0
  .have e0:=Qc tE
   obtain ⟨h1,h2⟩:=Vbj h0
   rw [h0,Qc]at hK
   have hB:=ZM hw hl
   have pc:=waP hB
   have cc:=jF pc.canon
   have ev0:=zbc hB (av (x,y))
   have i0:=Qv pc.canon.ins
   have i1:=VB (p:=cCur (cpv c)) (N:=1000000000) (Nat.le_trans pc.size (by decide))
   have i2:=Nat.le_trans pc.size (by decide:_<=100000000)
   have i3:ev (cCur (cpv c)) (rv x) (rv y)=wV (cpv c) (av (x,y)):=ev0
   have z:=ybF pc.canon.ins (rv x) (rv y)
   have z1:=UE pc.canon
   have z2:=Qd wx
   have z3:=Qd wy
   have z4:rz (wV (cpv c) (av (x,y)))<=4294967296:=by
    rw [i3]at z
    have z5:=pc.size
    have z6:(cCur (cpv c)).length*(24*(rz (rv x)+2)+24*(rz (rv y)+2)+8)<=325*(24*(10000+2)+24*(10000+2)+8):=Nat.mul_le_mul z1 (by omega)
    omega
   have g0:decide (0=0)=true:=rfl
   rw [g0,Bool.true_and]at hK
   simp only [go_sem,js,hk,hv,he,hg,cpA,cpC,jd,kp,h0,h1,e0,qr,jC,cc,i3,Wb,Jbl]
   repeat (first | (refine And.intro (by with_reducible assumption) ?_) | (refine And.intro (Nat.le_trans (by with_reducible assumption) (by decide)) ?_) | (refine And.intro (by decide) ?_))
   exact hK
  .have e0:=Jd tE h0
   rw [e0,decide_eq_false h0,Bool.false_and]at hK
   simp only [go_sem,js,hk,hv,he,hg,cpA,cpC,jd,kp,e0]
   repeat (first | (refine And.intro (by with_reducible assumption) ?_) | (refine And.intro (Nat.le_trans (by with_reducible assumption) (by decide)) ?_) | (refine And.intro (by decide) ?_))
   exact hK
theorem yaF (hΓ:Holds P Γ) {f fk fs ft fa tE:Nat} (hk:Γ fk=.dat false (Yv tE)) (hs:Γ fs=.dat false qn) (ht:Γ ft=.dat false uN) (ha:Γ fa=.dat false Zw) (hc:check P f=some (28,(Xl fk fs ft fa).strip,[.cell 6 6 true,.tmp 7])):Sound P f (.dat false (QE tE)):=by
 refine Va hc (UaR tE) hΓ (λargs K hcl hfi hG=>?_)
 match args,hG with
 | [a,b,d],hG=>
  obtain ⟨c,rfl,hw,p,rfl,wp,q,rfl,wq,hl,hlp,hlq,hK⟩:=hG
  refine ⟨by simp,?_⟩
  have hl2:cl c<=100000000:=Nat.le_trans hl (by decide)
  have hlp2:al p<=100000000:=Nat.le_trans hlp (by decide)
  have hlq2:al q<=100000000:=Nat.le_trans hlq (by decide)
  have wu:=hw.2.2.2.2.2.1
  have wv:=hw.2.2.2.2.2.2
  have lu:rl c.2.2.2.2.2.1<=100000000:=by unfold cl at hl;omega
  have lv:rl c.2.2.2.2.2.2<=100000000:=by unfold cl at hl;omega
  have hwl:∀z∈[p,q],WLA z:=λz hz=>by
   simp only [List.mem_cons,List.not_mem_nil,or_false]at hz
   rcases hz with rfl | rfl <;> assumption
  have hok:okAs 100000000 [p,q]:=λz hz=>by
   simp only [List.mem_cons,List.not_mem_nil,or_false]at hz
   rcases hz with rfl | rfl
   .exact ⟨wp,hlp2⟩
   .exact ⟨wq,hlq2⟩
  by_cases h0:cchk2 c [p,q]=0
  .have e0:=Qc tE
   rw [if_pos h0,h0,Qc]at hK
   have z1:=jH wp
   have z2:=jH wq
   have z3:=YL (av q) (av p)
   have z4:=Qd wu
   have z5:=Qd wv
   have z6:al (rcan (subQ (av q) (av p)).1,rcan (subQ (av q) (av p)).2)<=100000000:=by rw [zH];change zq _<=_;omega
   have z7:=Zab (subQ (av q) (av p)) (rv c.2.2.2.2.2.1) (rv c.2.2.2.2.2.2)
   have z8:al (rcan (timQ (subQ (av q) (av p)) (rv c.2.2.2.2.2.1) (rv c.2.2.2.2.2.2)).1,rcan (timQ (subQ (av q) (av p)) (rv c.2.2.2.2.2.1) (rv c.2.2.2.2.2.2)).2)<=100000000:=by rw [zH];change zq _<=_;unfold cl at hl;omega
   simp only [go_sem,Xl,hk,hs,ht,ha,cpA,cpC,jd,kp,h0,e0,UF]
   repeat (first | (refine And.intro (by with_reducible assumption) ?_) | (refine And.intro (Nat.le_trans (by with_reducible assumption) (by decide)) ?_) | (refine And.intro (by decide) ?_))
   exact hK
  .have e0:=Jd tE h0
   rw [if_neg h0,e0,jak,Wc]at hK
   simp only [go_sem,Xl,hk,hs,ht,ha,cpA,cpC,jd,kp,e0]
   repeat (first | (refine And.intro (by with_reducible assumption) ?_) | (refine And.intro (Nat.le_trans (by with_reducible assumption) (by decide)) ?_) | (refine And.intro (by decide) ?_))
   exact hK
end Go.Abs
end
section
namespace Go.Num
open Go.Abs
def liC (c:Cp) (p:Arc):Nat:=if cchk2 c [p]≠0 then cchk2 c [p] else if wV (cpv c) (av p)≠0 then 21 else if wM (cpv c) (av p)=0 then 15 else 0
theorem ybQ (c:CpR) (p:V2):c.2.2.2.2.1-sqQ (subQ p c.2.1)-sqQ (cRe c,c.2.2.2.2.2.2)*c.2.2.2.1=wF c p:=by unfold wF cSe;grind
theorem rz_e {c:CpR} (h:CB c) (p:V2):rz (wE c p)<=4*zq p+20000:=by
 have h1:=zq_d p c.1
 have h2:=ybs h
 have h3:=Vz (sqQ (subQ p c.1)) (cFi c)
 have h4:zq c.1<=1000:=Nat.max_le.2 ⟨h.o1,h.o2⟩
 unfold wE;omega
theorem rz_f {c:CpR} (h:CB c) (p:V2):rz (wF c p)<=4*zq p+20000:=by
 have h1:=zq_d p c.2.1
 have h2:=qbm h
 have h3:=km (cSe c) (sqQ (subQ p c.2.1))
 have h4:zq c.2.1<=1000:=Nat.max_le.2 ⟨h.q1,h.q2⟩
 unfold wF;omega
end Go.Num
namespace Go.Abs
open Go.Num
variable {P:Program} {Γ:Nat->Spec}
def VD (tE:Nat) (l:List AV) (K:AV->Prop):Prop:=
 match l with
 | [c,p]=>onCp (λc=>onA (λp=>cl c<=1000/\al p<=1000/\K (.tup [pQ (if liC c p=0 then endA (cpv c) (av p) (zL (cpv c) (av p)) else (0,0)),pQ (if liC c p=0 then endB (cpv c) (av p) (zL (cpv c) (av p)) else (0,0)),errV tE (liC c p)])) p) c
 | _=>False
theorem VaI (tE:Nat) (c p:AV) (K:AV->Prop):VD tE [c,p] K=(onCp (λc=>onA (λp=>cl c<=1000/\al p<=1000/\K (.tup [pQ (if liC c p=0 then endA (cpv c) (av p) (zL (cpv c) (av p)) else (0,0)),pQ (if liC c p=0 then endB (cpv c) (av p) (zL (cpv c) (av p)) else (0,0)),errV tE (liC c p)])) p) c):=propext Iff.rfl
@[congr] theorem jbQ (tE:Nat) {K:AV->Prop} {l l' : List AV} (h:l=l'):VD tE l K=VD tE l' K:=by subst h;rfl
attribute [go_sem] VaI
attribute [go_sem ↓] VaI
theorem yaX (tE:Nat):Good (VD tE):=ka λas=>by
 unfold VD
 split
 .exact (Up λ_=>(Ju λ_=>(.and λ_=>(.and λ_=>(.ret _)))))
 .exact .of λK hk=>hk.elim
def Jf (f0 f1 f2 f3 f4 f5 f6 f7 f8 f9 f10 f11 tE:Nat):AC:=(.seq (.ops false [.u 2 (.box 27 (.t 0)),.u 3 (.box 6 (.t 1)),.u 4 (.alloc [(.lit (.bool false)),.emp,.emp,(.lit (.bool false)),.emp,.emp]),.u 5 (.alloc [(.lit (.bool false)),.emp,.emp,(.lit (.bool false)),.emp,.emp]),.m 6 (.c (.one (.lit .nilIface)))])
 (.fg [2,3,4,5] (.seq (.ops false [.u 22 (.ld none 27 true (.t 2)),.u 23 (.ld none 6 true (.t 3)),.u 24 (.call f0 [(.t 22),(.t 23)]),.m 21 (.t 24),.u 25 (.ext 0 (.t 21)),.u 26 (.ext 1 (.t 21)),.m 7 (.t 25),.m 8 (.t 26)])
 (.fg [2,3,4,5,7,8] (.seq (.seq (.ops false [.m 27 (.t 8),.u 28 (.binn .neq (.t 27) (.c (.one (.lit .nilIface))))])
 (.fg [2,3,4,5,7,8,28] (.cond (.t 28) (.seq (.ops false [.u 29 (.build [.z [(.lit (.bool false)),.emp,.emp,(.lit (.bool false)),.emp,.emp]]),.u 30 (.build [.z [(.lit (.bool false)),.emp,.emp,(.lit (.bool false)),.emp,.emp]]),.m 31 (.t 8),.n (.st none 6 (.t 4) (.t 29)),.n (.st none 6 (.t 5) (.t 30)),.m 6 (.t 31)])
 .ret) .skip)))
 (.fg [2,3,4,5,7] (.seq (.seq (.ops false [.m 32 (.t 7),.u 33 (.un .not (.t 32))])
 (.fg [2,3,4,5,33] (.cond (.t 33) (.seq (.ops false [.u 34 (.build [.z [(.lit (.bool false)),.emp,.emp,(.lit (.bool false)),.emp,.emp]]),.u 35 (.build [.z [(.lit (.bool false)),.emp,.emp,(.lit (.bool false)),.emp,.emp]]),.u 36 (.iface tE (.i 21)),.n (.st none 6 (.t 4) (.t 34)),.n (.st none 6 (.t 5) (.t 35)),.m 6 (.t 36)])
 .ret) .skip)))
 (.fg [2,3,4,5] (.seq (.ops true [.u 37 (.ld none 6 true (.t 3)),.u 38 (.fa 0 (.t 2)),.u 39 (.ld none 6 true (.t 38)),.u 40 (.call f1 [(.t 37),(.t 39)]),.u 41 (.ld none 6 true (.t 3)),.u 42 (.fa 6 (.t 2)),.u 43 (.ld none 6 true (.t 42)),.u 44 (.call f1 [(.t 41),(.t 43)]),.u 9 (.alloc [(.lit (.bool false)),.emp,.emp,(.lit (.bool false)),.emp,.emp]),.u 10 (.alloc [(.lit (.bool false)),.emp,.emp,(.lit (.bool false)),.emp,.emp]),.n (.st none 6 (.t 9) (.t 40)),.n (.st none 6 (.t 10) (.t 44))])
 (.fg [2,3,4,5,9,10] (.seq (.ops true [.u 45 (.call f2 [(.i 1)]),.u 46 (.fa 21 (.t 2)),.u 47 (.ld none 3 true (.t 46)),.u 48 (.call f3 [(.t 45),(.t 47)]),.u 11 (.alloc [(.lit (.bool false)),.emp,.emp]),.n (.st none 3 (.t 11) (.t 48))])
 (.fg [2,3,4,5,9,10,11] (.seq (.ops true [.u 49 (.ld none 6 true (.t 9)),.u 50 (.fa 21 (.t 2)),.u 51 (.ld none 3 true (.t 50)),.u 52 (.fa 24 (.t 2)),.u 53 (.ld none 3 true (.t 52)),.u 54 (.call f4 [(.t 53)]),.u 55 (.call f5 [(.t 49),(.t 51),(.t 54)]),.u 56 (.ld none 6 true (.t 10)),.u 57 (.ld none 3 true (.t 11)),.u 58 (.fa 24 (.t 2)),.u 59 (.ld none 3 true (.t 58)),.u 60 (.call f5 [(.t 56),(.t 57),(.t 59)]),.u 12 (.alloc [(.lit (.bool false)),.emp,.emp,(.lit (.bool false)),.emp,.emp]),.u 13 (.alloc [(.lit (.bool false)),.emp,.emp,(.lit (.bool false)),.emp,.emp]),.n (.st none 6 (.t 12) (.t 55)),.n (.st none 6 (.t 13) (.t 60))])
 (.fg [2,3,4,5,9,10,11,12,13] (.seq (.ops true [.u 61 (.fa 0 (.t 12)),.u 62 (.ld none 3 true (.t 61)),.u 63 (.fa 3 (.t 13)),.u 64 (.ld none 3 true (.t 63)),.u 65 (.call f6 [(.t 62),(.t 64)]),.u 66 (.fa 3 (.t 12)),.u 67 (.ld none 3 true (.t 66)),.u 68 (.fa 0 (.t 13)),.u 69 (.ld none 3 true (.t 68)),.u 70 (.call f6 [(.t 67),(.t 69)]),.u 71 (.call f3 [(.t 65),(.t 70)]),.u 14 (.alloc [(.lit (.bool false)),.emp,.emp]),.n (.st none 3 (.t 14) (.t 71))])
 (.fg [2,3,4,5,9,10,11,12,13,14] (.seq (.seq (.ops false [.u 72 (.ld none 3 true (.t 14)),.u 73 (.call f7 [(.t 72)]),.u 74 (.bin .eql (.t 73) (.i 0))])
 (.fg [2,3,4,5,9,10,11,12,13,14,74] (.cond (.t 74) (.seq (.ops false [.u 75 (.build [.z [(.lit (.bool false)),.emp,.emp,(.lit (.bool false)),.emp,.emp]]),.u 76 (.build [.z [(.lit (.bool false)),.emp,.emp,(.lit (.bool false)),.emp,.emp]]),.u 77 (.iface tE (.i 15)),.n (.st none 6 (.t 4) (.t 75)),.n (.st none 6 (.t 5) (.t 76)),.m 6 (.t 77)])
 .ret) .skip)))
 (.fg [2,3,4,5,9,10,11,12,13,14] (.seq (.ops true [.u 78 (.fa 0 (.t 9)),.u 79 (.ld none 3 true (.t 78)),.u 80 (.fa 3 (.t 9)),.u 81 (.ld none 3 true (.t 80)),.u 82 (.call f8 [(.t 79),(.t 81)]),.u 83 (.fa 21 (.t 2)),.u 84 (.ld none 3 true (.t 83)),.u 85 (.fa 24 (.t 2)),.u 86 (.ld none 3 true (.t 85)),.u 87 (.call f8 [(.t 84),(.t 86)]),.u 88 (.fa 15 (.t 2)),.u 89 (.ld none 3 true (.t 88)),.u 90 (.call f6 [(.t 87),(.t 89)]),.u 91 (.fa 12 (.t 2)),.u 92 (.ld none 3 true (.t 91)),.u 93 (.call f3 [(.t 90),(.t 92)]),.u 94 (.call f9 [(.t 82),(.t 93)]),.u 15 (.alloc [(.lit (.bool false)),.emp,.emp]),.n (.st none 3 (.t 15) (.t 94))])
 (.fg [2,3,4,5,10,11,12,13,14,15] (.seq (.ops true [.u 95 (.fa 18 (.t 2)),.u 96 (.ld none 3 true (.t 95)),.u 97 (.fa 0 (.t 10)),.u 98 (.ld none 3 true (.t 97)),.u 99 (.fa 3 (.t 10)),.u 100 (.ld none 3 true (.t 99)),.u 101 (.call f8 [(.t 98),(.t 100)]),.u 102 (.call f3 [(.t 96),(.t 101)]),.u 103 (.ld none 3 true (.t 11)),.u 104 (.fa 24 (.t 2)),.u 105 (.ld none 3 true (.t 104)),.u 106 (.call f8 [(.t 103),(.t 105)]),.u 107 (.fa 15 (.t 2)),.u 108 (.ld none 3 true (.t 107)),.u 109 (.call f6 [(.t 106),(.t 108)]),.u 110 (.call f3 [(.t 102),(.t 109)]),.u 16 (.alloc [(.lit (.bool false)),.emp,.emp]),.n (.st none 3 (.t 16) (.t 110))])
 (.fg [2,3,4,5,11,12,13,14,15,16] (.seq (.ops true [.u 111 (.call f2 [(.i 2)]),.u 112 (.ld none 3 true (.t 14)),.u 113 (.call f6 [(.t 111),(.t 112)]),.u 17 (.alloc [(.lit (.bool false)),.emp,.emp]),.n (.st none 3 (.t 17) (.t 113))])
 (.fg [2,3,4,5,11,12,13,15,16,17] (.seq (.ops true [.u 115 (.ld none 3 true (.t 15)),.u 116 (.fa 3 (.t 13)),.u 117 (.ld none 3 true (.t 116)),.u 118 (.call f6 [(.t 115),(.t 117)]),.u 119 (.ld none 3 true (.t 16)),.u 120 (.fa 3 (.t 12)),.u 121 (.ld none 3 true (.t 120)),.u 122 (.call f6 [(.t 119),(.t 121)]),.u 123 (.call f3 [(.t 118),(.t 122)]),.u 124 (.ld none 3 true (.t 17)),.u 125 (.call f10 [(.t 123),(.t 124)]),.m 114 (.t 125),.u 126 (.ext 0 (.t 114)),.u 127 (.ext 1 (.t 114)),.u 18 (.alloc [(.lit (.bool false)),.emp,.emp]),.n (.st none 3 (.t 18) (.t 126)),.m 8 (.t 127)])
 (.fg [2,3,4,5,8,11,12,13,15,16,17,18] (.seq (.seq (.ops false [.m 128 (.t 8),.u 129 (.binn .neq (.t 128) (.c (.one (.lit .nilIface))))])
 (.fg [2,3,4,5,8,11,12,13,15,16,17,18,129] (.cond (.t 129) (.seq (.ops false [.u 130 (.build [.z [(.lit (.bool false)),.emp,.emp,(.lit (.bool false)),.emp,.emp]]),.u 131 (.build [.z [(.lit (.bool false)),.emp,.emp,(.lit (.bool false)),.emp,.emp]]),.m 132 (.t 8),.n (.st none 6 (.t 4) (.t 130)),.n (.st none 6 (.t 5) (.t 131)),.m 6 (.t 132)])
 .ret) .skip)))
 (.fg [2,3,4,5,11,12,13,15,16,17,18] (.seq (.ops true [.u 134 (.ld none 3 true (.t 16)),.u 135 (.fa 0 (.t 12)),.u 136 (.ld none 3 true (.t 135)),.u 137 (.call f6 [(.t 134),(.t 136)]),.u 138 (.ld none 3 true (.t 15)),.u 139 (.fa 0 (.t 13)),.u 140 (.ld none 3 true (.t 139)),.u 141 (.call f6 [(.t 138),(.t 140)]),.u 142 (.call f3 [(.t 137),(.t 141)]),.u 143 (.ld none 3 true (.t 17)),.u 144 (.call f10 [(.t 142),(.t 143)]),.m 133 (.t 144),.u 145 (.ext 0 (.t 133)),.u 146 (.ext 1 (.t 133)),.u 19 (.alloc [(.lit (.bool false)),.emp,.emp]),.n (.st none 3 (.t 19) (.t 145)),.m 8 (.t 146)])
 (.fg [2,3,4,5,8,11,18,19] (.seq (.seq (.ops false [.m 147 (.t 8),.u 148 (.binn .neq (.t 147) (.c (.one (.lit .nilIface))))])
 (.fg [2,3,4,5,8,11,18,19,148] (.cond (.t 148) (.seq (.ops false [.u 149 (.build [.z [(.lit (.bool false)),.emp,.emp,(.lit (.bool false)),.emp,.emp]]),.u 150 (.build [.z [(.lit (.bool false)),.emp,.emp,(.lit (.bool false)),.emp,.emp]]),.m 151 (.t 8),.n (.st none 6 (.t 4) (.t 149)),.n (.st none 6 (.t 5) (.t 150)),.m 6 (.t 151)])
 .ret) .skip)))
 (.fg [2,3,4,5,11,18,19] (.seq (.ops false [.u 152 (.ld none 3 true (.t 18)),.u 153 (.ld none 3 true (.t 19)),.u 154 (.build [.x 3 (.t 152),.x 3 (.t 153)]),.u 20 (.alloc [(.lit (.bool false)),.emp,.emp,(.lit (.bool false)),.emp,.emp]),.n (.st none 6 (.t 20) (.t 154))])
 (.fg [2,3,4,5,11,20] (.seq (.ops true [.u 155 (.ld none 6 true (.t 3)),.u 156 (.ld none 6 true (.t 20)),.u 157 (.fa 21 (.t 2)),.u 158 (.ld none 3 true (.t 157)),.u 159 (.fa 24 (.t 2)),.u 160 (.ld none 3 true (.t 159)),.u 161 (.call f5 [(.t 156),(.t 158),(.t 160)]),.u 162 (.call f1 [(.t 155),(.t 161)]),.u 163 (.ld none 6 true (.t 3)),.u 164 (.ld none 6 true (.t 20)),.u 165 (.ld none 3 true (.t 11)),.u 166 (.fa 24 (.t 2)),.u 167 (.ld none 3 true (.t 166)),.u 168 (.call f4 [(.t 167)]),.u 169 (.call f5 [(.t 164),(.t 165),(.t 168)]),.u 170 (.call f11 [(.t 163),(.t 169)]),.n (.st none 6 (.t 4) (.t 162)),.n (.st none 6 (.t 5) (.t 170)),.m 6 (.c (.one (.lit .nilIface)))])
 .ret)))))))))))))))))))))))))))))))))))
set_option maxHeartbeats 2000000 in
theorem UaD (hΓ:Holds P Γ) {f fn fs fo fu fe ft fm fg fq fa fd fp tE:Nat} (hn:Γ fn=.dat false (vB tE)) (hs:Γ fs=.dat false qn) (ho:Γ fo=.dat false ju) (hu:Γ fu=.dat false xp) (he:Γ fe=.dat false Xp) (ht:Γ ft=.dat false uN) (hm:Γ fm=.dat false xg) (hg:Γ fg=.dat true Vh) (hq' : Γ fq=.dat false ZB) (ha:Γ fa=.dat false Ql) (hd:Γ fd=.dat false (Jy tE)) (hp:Γ fp=.dat false Zw) (hc:check P f=some (171,(Jf fn fs fo fu fe ft fm fg fq fa fd fp tE).strip,[.cell 4 6 true,.cell 5 6 true,.tmp 6])):Sound P f (.dat false (VD tE)):=by
 refine Va hc (yaX tE) hΓ (λargs K hcl hfi hG=>?_)
 match args,hG with
 | [a,b],hG=>
  obtain ⟨c,rfl,hw,p,rfl,wp,hl,hlp,hK⟩:=hG
  refine ⟨by simp,?_⟩
  have hlp1:al p<=10000:=Nat.le_trans hlp (by decide)
  have hlp2:al p<=100000000:=Nat.le_trans hlp (by decide)
  by_cases h0:cchk2 c [p]=0
  .have e0:=Qc tE
   have d0:decide (0=0)=true:=rfl
   by_cases hv:wV (cpv c) (av p)=0
   .obtain ⟨wo,wQ,w1,w2,w3,w4,w5⟩:=id hw
    have hl0:=hl
    unfold cl at hl0
    simp only [Nat.max_le]at hl0
    obtain ⟨l1,l2,l3,l4,l5,l6,l7⟩:=hl0
    have hB:=ZM hw hl
    have e15:liC c p=if wM (cpv c) (av p)=0 then 15 else 0:=by
     unfold liC;rw [if_neg (by omega),if_neg (by simp [hv])]
    obtain ⟨FI,hFI⟩:∃x,subQ (av p) (av c.1)=x:=⟨_,rfl⟩
    obtain ⟨SE,hSE⟩:∃x,subQ (av p) (av c.2.1)=x:=⟨_,rfl⟩
    obtain ⟨RE,hRE⟩:∃x,1-rv c.2.2.2.2.2.1=x:=⟨_,rfl⟩
    obtain ⟨AL,hAL⟩:∃x,timQ FI (rv c.2.2.2.2.2.1) (-rv c.2.2.2.2.2.2)=x:=⟨_,rfl⟩
    obtain ⟨BE,hBE⟩:∃x,timQ SE RE (rv c.2.2.2.2.2.2)=x:=⟨_,rfl⟩
    obtain ⟨M,hM⟩:∃x,AL.1*BE.2-AL.2*BE.1=x:=⟨_,rfl⟩
    obtain ⟨E,hE⟩:∃x,sqQ FI+(sqQ (rv c.2.2.2.2.2.1,rv c.2.2.2.2.2.2)*rv c.2.2.2.1-rv c.2.2.1)=x:=⟨_,rfl⟩
    obtain ⟨F,hF⟩:∃x,rv c.2.2.2.2.1-sqQ SE-sqQ (RE,rv c.2.2.2.2.2.2)*rv c.2.2.2.1=x:=⟨_,rfl⟩
    have gM:wM (cpv c) (av p)=M:=by rw [<-hM,<-hAL,<-hBE,<-hRE,<-hFI,<-hSE];rfl
    have gE:wE (cpv c) (av p)=E:=by rw [<-hE,<-hFI];rfl
    have gF:wF (cpv c) (av p)=F:=by rw [<-ybQ,<-hF,<-hSE,<-hRE];rfl
    have gA:wAl (cpv c) (av p)=AL:=by rw [<-hAL,<-hFI];rfl
    have gB:wBe (cpv c) (av p)=BE:=by rw [<-hBE,<-hSE,<-hRE];rfl
    rw [e15]at hK
    unfold endA endB zL wN at hK
    rw [gM,gE,gF,gA,gB]at hK
    have q1:=jH wp
    have q2:=jH wo
    have q3:=jH wQ
    have z1:zq FI<=2002:=by have:=YL (av p) (av c.1);rw [hFI]at this;omega
    have z2:zq SE<=2002:=by have:=YL (av p) (av c.2.1);rw [hSE]at this;omega
    have u1:=Qd w4
    have u2:=Qd w5
    have u3:rz RE<=1004:=by have h:=yba hB;rw [<-hRE];exact h
    have u4:rz (-rv c.2.2.2.2.2.2)<=1000:=by rw [uw];omega
    have z3:zq AL<=10000:=by have:=Zab FI (rv c.2.2.2.2.2.1) (-rv c.2.2.2.2.2.2);rw [hAL]at this;omega
    have z4:zq BE<=10000:=by have:=Zab SE RE (rv c.2.2.2.2.2.2);rw [hBE]at this;omega
    have z5:rz M<=100000:=by
     have:=wa6 AL BE
     unfold crossQ at this
     rw [hM]at this
     omega
    have z6:rz E<=100000:=by have:=rz_e hB (av p);rw [gE]at this;omega
    have z7:rz F<=100000:=by have:=rz_f hB (av p);rw [gF]at this;omega
    have wo1:=wo.1
    have b0:=rz_0
    have b1:=rz_1
    have b2:=rz_2
    have a1:al (rcan FI.1,rcan FI.2)<=2002:=z1
    have a2:al (rcan SE.1,rcan SE.2)<=2002:=z2
    have x1:rz AL.1<=10000:=(Nat.max_le.1 z3).1
    have x2:rz AL.2<=10000:=(Nat.max_le.1 z3).2
    have x3:rz BE.1<=10000:=(Nat.max_le.1 z4).1
    have x4:rz BE.2<=10000:=(Nat.max_le.1 z4).2
    have x5:rz FI.1<=2002:=(Nat.max_le.1 z1).1
    have x6:rz FI.2<=2002:=(Nat.max_le.1 z1).2
    have x7:rz SE.1<=2002:=(Nat.max_le.1 z2).1
    have x8:rz SE.2<=2002:=(Nat.max_le.1 z2).2
    have m1:=Nat.le_trans (Vb AL.1 BE.2) (by omega:_<=30000)
    have m2:=Nat.le_trans (Vb AL.2 BE.1) (by omega:_<=30000)
    have m3:=Nat.le_trans (XF FI) (by omega:_<=30000)
    have m4:=Nat.le_trans (XF SE) (by omega:_<=30000)
    have k1:zq (rv c.2.2.2.2.2.1,rv c.2.2.2.2.2.2)<=1000:=Nat.max_le.2 ⟨Nat.le_trans u1 l6,Nat.le_trans u2 l7⟩
    have k2:zq (RE,rv c.2.2.2.2.2.2)<=1004:=Nat.max_le.2 ⟨u3,Nat.le_trans u2 (Nat.le_trans l7 (by decide))⟩
    have v2:=Qd w2
    have v1:=Qd w1
    have v3:=Qd w3
    have m5:=Nat.le_trans (XF (rv c.2.2.2.2.2.1,rv c.2.2.2.2.2.2)) (by omega:_<=30000)
    have m6:=Nat.le_trans (XF (RE,rv c.2.2.2.2.2.2)) (by omega:_<=30000)
    have m7:=Nat.le_trans (Vb (sqQ (rv c.2.2.2.2.2.1,rv c.2.2.2.2.2.2)) (rv c.2.2.2.1)) (by omega:_<=40000)
    have m8:=Nat.le_trans (Vb (sqQ (RE,rv c.2.2.2.2.2.2)) (rv c.2.2.2.1)) (by omega:_<=40000)
    have m9:=Nat.le_trans (km (sqQ (rv c.2.2.2.2.2.1,rv c.2.2.2.2.2.2)*rv c.2.2.2.1) (rv c.2.2.1)) (by omega:_<=50000)
    have m10:=Nat.le_trans (km (rv c.2.2.2.2.1) (sqQ SE)) (by omega:_<=50000)
    have n1:=Nat.le_trans (Vb E BE.2) (by omega:_<=200000)
    have n2:=Nat.le_trans (Vb F AL.2) (by omega:_<=200000)
    have n3:=Nat.le_trans (Vb F AL.1) (by omega:_<=200000)
    have n4:=Nat.le_trans (Vb E BE.1) (by omega:_<=200000)
    have n5:=Nat.le_trans (km (E*BE.2) (F*AL.2)) (by omega:_<=500000)
    have n6:=Nat.le_trans (km (F*AL.1) (E*BE.1)) (by omega:_<=500000)
    have n7:=Nat.le_trans (Vb 2 M) (by omega:_<=200000)
    have n8:=Nat.le_trans (Va0 (E*BE.2-F*AL.2) (2*M)) (by omega:_<=1000000)
    have n9:=Nat.le_trans (Va0 (F*AL.1-E*BE.1) (2*M)) (by omega:_<=1000000)
    have i1:((1:Int):Rat)=1:=rfl
    have i2:((2:Int):Rat)=2:=rfl
    by_cases hm0:M=0
    .rw [if_pos hm0,Jd tE (by decide),if_neg (by decide),if_neg (by decide),jak]at hK
     simp only [go_sem,Jf,hn,hs,ho,hu,he,ht,hm,hg,hq',ha,hd,hp,cpA,cpC,jd,kp,h0,e0,d0,Bool.true_and,decide_eq_true hv,UF,Wb,i1,i2,hFI,hSE,hRE,hAL,hBE,hM,hE,hF,QaY,hm0]
     repeat (first | (refine And.intro (by with_reducible assumption) ?_) | (refine And.intro (Nat.le_trans (by with_reducible assumption) (by decide)) ?_) | (refine And.intro (by decide) ?_))
     rw [Wc]at hK
     exact hK
    .rw [if_neg hm0,Qc,if_pos rfl,if_pos rfl]at hK
     have h2M:(if 2*M=0 then 8 else 0)=0:=if_neg λh=>by
      rcases Rat.mul_eq_zero.1 h with h1 | h1
      .exact absurd h1 (by decide)
      .exact hm0 h1
     obtain ⟨Z,hZ⟩:∃Z:V2,((E*BE.2-F*AL.2) / (2*M),(F*AL.1-E*BE.1) / (2*M))=Z:=⟨_,rfl⟩
     have f1:cRe (cpv c)=RE:=hRE
     have f2:(cpv c).2.2.2.2.2.1=rv c.2.2.2.2.2.1:=rfl
     have f3:(cpv c).2.2.2.2.2.2=rv c.2.2.2.2.2.2:=rfl
     rw [f1,f2,f3,hZ]at hK
     have zZ:zq Z<=1000000:=by rw [<-hZ];exact Nat.max_le.2 ⟨n8,n9⟩
     obtain ⟨T1,hT1⟩:∃x,timQ Z (rv c.2.2.2.2.2.1) (rv c.2.2.2.2.2.2)=x:=⟨_,rfl⟩
     obtain ⟨T2,hT2⟩:∃x,timQ Z RE (-rv c.2.2.2.2.2.2)=x:=⟨_,rfl⟩
     rw [hT1,hT2]at hK
     have y1:al (rcan Z.1,rcan Z.2)<=1000000:=zZ
     have y2:zq T1<=3000000:=by have:=Zab Z (rv c.2.2.2.2.2.1) (rv c.2.2.2.2.2.2);rw [hT1]at this;omega
     have y3:zq T2<=3000000:=by have:=Zab Z RE (-rv c.2.2.2.2.2.2);rw [hT2]at this;omega
     have y4:al (rcan T1.1,rcan T1.2)<=3000000:=y2
     have y5:al (rcan T2.1,rcan T2.2)<=3000000:=y3
     have hZ1:(E*BE.2-F*AL.2) / (2*M)=Z.1:=congrArg Prod.fst hZ
     have hZ2:(F*AL.1-E*BE.1) / (2*M)=Z.2:=congrArg Prod.snd hZ
     simp only [go_sem,Jf,hn,hs,ho,hu,he,ht,hm,hg,hq',ha,hd,hp,cpA,cpC,jd,kp,h0,e0,d0,Bool.true_and,decide_eq_true hv,UF,Wb,i1,i2,hFI,hSE,hRE,hAL,hBE,hM,hE,hF,QaY,hm0,h2M,hZ1,hZ2,hT1,hT2]
     repeat (first | (refine And.intro (by with_reducible assumption) ?_) | (refine And.intro (Nat.le_trans (by with_reducible assumption) (by decide)) ?_) | (refine And.intro (by decide) ?_))
     exact hK
   .have e21:liC c p=21:=by unfold liC;rw [if_neg (by omega),if_pos hv]
    rw [e21,Jd tE (by decide),if_neg (by decide),if_neg (by decide),jak,Wc]at hK
    simp only [go_sem,Jf,hn,cpA,cpC,jd,kp,h0,e0,d0,Bool.true_and,decide_eq_false hv]
    repeat (first | (refine And.intro (by with_reducible assumption) ?_) | (refine And.intro (Nat.le_trans (by with_reducible assumption) (by decide)) ?_) | (refine And.intro (by decide) ?_))
    exact hK
  .have e1:=Jd tE h0
   have e2:liC c p=cchk2 c [p]:=by unfold liC;rw [if_pos h0]
   rw [e2,if_neg h0,if_neg h0,e1,jak,Wc]at hK
   simp only [go_sem,Jf,hn,cpA,cpC,jd,kp,e1]
   repeat (first | (refine And.intro (by with_reducible assumption) ?_) | (refine And.intro (Nat.le_trans (by with_reducible assumption) (by decide)) ?_) | (refine And.intro (by decide) ?_))
   exact hK
end Go.Abs
end
section
namespace Go.Num
open Go.Abs
def cqR (X:CpQ):AV:=.agg [cb (rcan X.1.1),cn (rcan X.1.1),cd (rcan X.1.1),cb (rcan X.1.2),cn (rcan X.1.2),cd (rcan X.1.2),cb (rcan X.2.1.1),cn (rcan X.2.1.1),cd (rcan X.2.1.1),cb (rcan X.2.1.2),cn (rcan X.2.1.2),cd (rcan X.2.1.2),cb (rcan X.2.2.1),cn (rcan X.2.2.1),cd (rcan X.2.2.1),cb (rcan X.2.2.2.1),cn (rcan X.2.2.2.1),cd (rcan X.2.2.2.1),cb (rcan X.2.2.2.2.1),cn (rcan X.2.2.2.2.1),cd (rcan X.2.2.2.2.1),cb (rcan X.2.2.2.2.2.1),cn (rcan X.2.2.2.2.2.1),cd (rcan X.2.2.2.2.2.1),cb (rcan X.2.2.2.2.2.2),cn (rcan X.2.2.2.2.2.2),cd (rcan X.2.2.2.2.2.2)]
def scq (c:CpR) (k k2:Rat):CpR:=((c.1.1*k,c.1.2*k),(c.2.1.1*k,c.2.1.2*k),c.2.2.1*k2,c.2.2.2.1*k2,c.2.2.2.2.1*k2,c.2.2.2.2.2.1,c.2.2.2.2.2.2)
def z27:CpR:=((0,0),(0,0),0,0,0,0,0)
def moC (c:Cp) (g:Ps):Nat:=if cchk c≠0 then cchk c else if pvld g=false then 2 else 0
def scC (c:Cp) (k:R):Nat:=if cchk c≠0 then cchk c else if vldR k=false then 2 else if rv k=0 then 8 else 0
end Go.Num
namespace Go.Abs
open Go.Num
variable {P:Program} {Γ:Nat->Spec}
def pfA (x:R):AV:=.one (.ref [cb x,cn x,cd x])
theorem Qbt (x y:R) (h:pfA x=pfA y):x=y:=by
 simp only [pfA,AV.one.injEq,C.ref.injEq,List.cons.injEq,and_true]at h
 exact WN h.1 h.2.1 h.2.2
def onPf (k:R->Prop) (a:AV):Prop:=onE pfA (λx=>WLR x/\k x) a
@[congr] theorem JbS {k:R->Prop} {a a' : AV} (h:a=a'):onPf k a=onPf k a':=by subst h;rfl
theorem ubf (k:R->Prop) (x:R):onPf k (.one (.ref [cb x,cn x,cd x]))=(WLR x/\k x):=Wp Qbt (λx=>WLR x/\k x) x
attribute [go_sem] ubf
attribute [go_sem ↓] ubf
theorem xH (y:R):CleanL [cb y,cn y,cd y]:=by
 intro c hc
 simp only [List.mem_cons,List.not_mem_nil,or_false]at hc
 rcases hc with rfl | rfl | rfl
 .exact of_eq_true (Zi _)
 .exact of_eq_true (ji _)
 .exact of_eq_true (vi _)
theorem V4 (f r ver i off:Nat):ownC (.clo f [.ptr r ver i off])=[r]:=eq_of_heq (HEq.refl _)
attribute [go_sem] V4
attribute [go_sem ↓] V4
def jbk (l:List AV) (K:AV->Prop):Prop:=
 match l with
 | [a,k]=>onA (λp=>onPf (λk=>al p<=100000000/\rl k<=100000000/\K (pQ (rv p.1*rv k,rv p.2*rv k))) k) a
 | _=>False
theorem qbh (a k:AV) (K:AV->Prop):jbk [a,k] K=(onA (λp=>onPf (λk=>al p<=100000000/\rl k<=100000000/\K (pQ (rv p.1*rv k,rv p.2*rv k))) k) a):=propext Iff.rfl
@[congr] theorem VbV {K:AV->Prop} {l l' : List AV} (h:l=l'):jbk l K=jbk l' K:=by subst h;rfl
attribute [go_sem] qbh
attribute [go_sem ↓] qbh
def zaJ (l:List AV) (K:AV->Prop):Prop:=
 match l with
 | [c,k,l]=>onCp (λc=>onR (λk=>onR (λl=>cl c<=100000000/\rl k<=100000000/\rl l<=100000000/\K (cqR (scq (cpv c) (rv k) (rv l)))) l) k) c
 | _=>False
theorem Wa3 (c k l:AV) (K:AV->Prop):zaJ [c,k,l] K=(onCp (λc=>onR (λk=>onR (λl=>cl c<=100000000/\rl k<=100000000/\rl l<=100000000/\K (cqR (scq (cpv c) (rv k) (rv l)))) l) k) c):=propext Iff.rfl
@[congr] theorem ubN {K:AV->Prop} {l l' : List AV} (h:l=l'):zaJ l K=zaJ l' K:=by subst h;rfl
attribute [go_sem] Wa3
attribute [go_sem ↓] Wa3
def qaR (tE:Nat) (l:List AV) (K:AV->Prop):Prop:=
 match l with
 | [c,g]=>onCp (λc=>onPo (λg=>cl c<=1000/\pl g<=1000/\K (.tup [cqR (if moC c g=0 then movQ38 (cpv c) (pv g) else z27),errV tE (moC c g)])) g) c
 | _=>False
theorem VaR (tE:Nat) (c g:AV) (K:AV->Prop):qaR tE [c,g] K=(onCp (λc=>onPo (λg=>cl c<=1000/\pl g<=1000/\K (.tup [cqR (if moC c g=0 then movQ38 (cpv c) (pv g) else z27),errV tE (moC c g)])) g) c):=propext Iff.rfl
@[congr] theorem vbQ (tE:Nat) {K:AV->Prop} {l l' : List AV} (h:l=l'):qaR tE l K=qaR tE l' K:=by subst h;rfl
attribute [go_sem] VaR
attribute [go_sem ↓] VaR
def qaN (tE:Nat) (l:List AV) (K:AV->Prop):Prop:=
 match l with
 | [c,k]=>onCp (λc=>onR (λk=>cl c<=1000/\rl k<=1000/\K (.tup [cqR (if scC c k=0 then sclQ38 (cpv c) (rv k) else z27),errV tE (scC c k)])) k) c
 | _=>False
theorem kaP (tE:Nat) (c k:AV) (K:AV->Prop):qaN tE [c,k] K=(onCp (λc=>onR (λk=>cl c<=1000/\rl k<=1000/\K (.tup [cqR (if scC c k=0 then sclQ38 (cpv c) (rv k) else z27),errV tE (scC c k)])) k) c):=propext Iff.rfl
@[congr] theorem YbM (tE:Nat) {K:AV->Prop} {l l' : List AV} (h:l=l'):qaN tE l K=qaN tE l' K:=by subst h;rfl
attribute [go_sem] kaP
attribute [go_sem ↓] kaP
end Go.Abs
end
section
namespace Go.Num
open Go.Abs
def cps9 (c:Cp):List R:=[c.1.1,c.1.2,c.2.1.1,c.2.1.2,c.2.2.1,c.2.2.2.1,c.2.2.2.2.1,c.2.2.2.2.2.1,c.2.2.2.2.2.2]
def sC (c:Cp):Bool:=(cps9 c).all (sR 2)
def exQ:CpR:=((0,0),(4,0),1,16,1,1 / 2,0)
theorem XbC:wV exQ (2,1)=0:=by decide +kernel
theorem Wby:wV exQ (2,2)≠0:=by decide +kernel
theorem ex_m:wM exQ (2,1)≠0:=by decide +kernel
theorem ex_a:endA exQ (2,1) (zL exQ (2,1))=(0,1):=by decide +kernel
theorem ex_b:endB exQ (2,1) (zL exQ (2,1))=(4,1):=by decide +kernel
theorem ex_p:ptQ exQ (0,1) (4,1)=(2,1):=by decide +kernel
theorem Wag (X:CpR):cpv (canC X)=X:=by unfold cpv canC av;simp only [Wb]
theorem qbn:cchk (canC exQ)=0:=by
 have h1:avld (canC exQ).1=true:=by show (vldR (rcan _) && vldR (rcan _))=true;rw [zd,zd];rfl
 have h2:avld (canC exQ).2.1=true:=by show (vldR (rcan _) && vldR (rcan _))=true;rw [zd,zd];rfl
 have h3:(cps5 (canC exQ)).all vldR=true:=by simp [cps5,canC,zd]
 have h4:(cps3 (canC exQ)).all gt0R=true:=by simp [cps3,canC,gt0R,Wb,exQ];decide
 have h5:av (canC exQ).1≠av (canC exQ).2.1:=by
  have e1:av (canC exQ).1=(cpv (canC exQ)).1:=rfl
  have e2:av (canC exQ).2.1=(cpv (canC exQ)).2.1:=rfl
  rw [e1,e2,Wag];decide
 unfold cchk
 rw [if_neg (by simp [h1,h2]),if_neg (by simp [h3]),if_neg (by simp [h4]),if_neg h5]
theorem UY {l:List Arc} (h:l.all avld=true):cchk2 (canC exQ) l=0:=by
 unfold cchk2;rw [qbn,if_neg (by decide),if_neg (by simp [h])]
theorem wbO {c:Cp} (h:sC c=true):cl c<=2:=by
 unfold sC cps9 at h
 simp only [List.all_cons,List.all_nil,Bool.and_true,Bool.and_eq_true]at h
 obtain ⟨h1,h2,h3,h4,h5,h6,h7,h8,h9⟩:=h
 unfold cl
 simp only [Nat.max_le]
 exact ⟨Nat.max_le.2 ⟨yW h1,yW h2⟩,Nat.max_le.2 ⟨yW h3,yW h4⟩,yW h5,yW h6,yW h7,yW h8,yW h9⟩
end Go.Num
namespace Go.Abs
open Go.Num
variable {P:Program} {Γ:Nat->Spec}
theorem zao (dr:Bool):∀(l m:List AO) (Q:S->Prop),wpL Γ dr Q (l++m)=wpL Γ dr (wpL Γ dr Q m) l
 | [],m,Q=>rfl
 | o::l,m,Q=>by
  have ih:=zao dr l m Q
  funext s
  show wpG Γ dr s (wpL Γ dr Q (l++m)) o=wpG Γ dr s (wpL Γ dr (wpL Γ dr Q m) l) o
  rw [ih]
theorem ubD (dr:Bool) (l:List AO) (Q:Ex->S->Prop) (s:S):wpA Γ (.seq (.ops dr l) .ret) Q s=wpL Γ dr (Q .ret) l s:=rfl
theorem qbE (X:CpR):cqR X=cpA (canC X):=eq_of_heq (HEq.refl _)
def jE (l:List AV) (K:AV->Prop):Prop:=
 match l with
 | [c]=>onCp (λc=>cl c<=4294967296/\K (.one (.lit (.bool (sC c))))) c
 | _=>False
theorem yaQ (c:AV) (K:AV->Prop):jE [c] K=(onCp (λc=>cl c<=4294967296/\K (.one (.lit (.bool (sC c))))) c):=propext Iff.rfl
@[congr] theorem ybL {K:AV->Prop} {l l' : List AV} (h:l=l'):jE l K=jE l' K:=by subst h;rfl
attribute [go_sem] yaQ
attribute [go_sem ↓] yaQ
theorem VaU:Good jE:=ka λas=>by
 unfold jE
 split
 .exact (Up λ_=>(.and λ_=>(.ret _)))
 .exact .of λK hk=>hk.elim
def zO (l:List AV) (K:AV->Prop):Prop:=
 match l with
 | [a,b]=>asInt (λk n=>asInt (λk' m=>k=.i64/\k' = .i64/\(-9223372036854775808<=n/\n<=9223372036854775807)/\(-9223372036854775808<=m/\m<=9223372036854775807)/\K (pQ (n,m))) b) a
 | _=>False
theorem Qbc (a b:AV) (K:AV->Prop):zO [a,b] K=(asInt (λk n=>asInt (λk' m=>k=.i64/\k' = .i64/\(-9223372036854775808<=n/\n<=9223372036854775807)/\(-9223372036854775808<=m/\m<=9223372036854775807)/\K (pQ (n,m))) b) a):=propext Iff.rfl
@[congr] theorem ubV {K:AV->Prop} {l l' : List AV} (h:l=l'):zO l K=zO l' K:=by subst h;rfl
attribute [go_sem] Qbc
attribute [go_sem ↓] Qbc
theorem uba:Good zO:=ka λas=>by
 unfold zO
 split
 .repeat (first | exact .ret _ | exact .of (λK hk=>hk.elim) | (refine .and λ_=>?_) | (refine zf λ_=>?_) | (refine Qf λ_=>?_) | (refine Qf λ_=>?_) | (refine Ju λ_=>?_) | (refine Up λ_=>?_) | (refine Vd (λ_ _=>?_) _) | (refine Zy (λ_=>?_) _) | (refine uF ?_ ?_) | (intro _) | assumption)
 .exact .of λK hk=>hk.elim
def UB (l:List AV) (K:AV->Prop):Prop:=
 match l with
 | []=>K (cqR exQ)
 | _=>False
theorem qaH (K:AV->Prop):UB [] K=(K (cqR exQ)):=propext Iff.rfl
@[congr] theorem ubP {K:AV->Prop} {l l' : List AV} (h:l=l'):UB l K=UB l' K:=by subst h;rfl
attribute [go_sem] qaH
attribute [go_sem ↓] qaH
theorem Wa2:Good UB:=ka λas=>by
 unfold UB
 split
 .exact (.ret _)
 .exact .of λK hk=>hk.elim
def ux (l:List AV) (K:AV->Prop):Prop:=
 match l with
 | []=>K (.one (.lit (.bool true)))
 | _=>False
theorem vax (K:AV->Prop):ux [] K=(K (.one (.lit (.bool true)))):=propext Iff.rfl
@[congr] theorem ybH {K:AV->Prop} {l l' : List AV} (h:l=l'):ux l K=ux l' K:=by subst h;rfl
attribute [go_sem] vax
attribute [go_sem ↓] vax
theorem YaF:Good ux:=ka λas=>by
 unfold ux
 split
 .exact (.ret _)
 .exact .of λK hk=>hk.elim
def jh:AC:=(.seq (.ops false [.u 1 (.box 27 (.t 0)),.m 2 .fa])
 (.fg [1] (.seq (.seq (.ops false [.u 5 (.fa 0 (.t 1)),.u 6 (.fa 0 (.t 5)),.u 7 (.ld none 3 true (.t 6)),.u 8 (.fa 0 (.t 1)),.u 9 (.fa 3 (.t 8)),.u 10 (.ld none 3 true (.t 9)),.u 11 (.fa 6 (.t 1)),.u 12 (.fa 0 (.t 11)),.u 13 (.ld none 3 true (.t 12)),.u 14 (.fa 6 (.t 1)),.u 15 (.fa 3 (.t 14)),.u 16 (.ld none 3 true (.t 15)),.u 17 (.fa 12 (.t 1)),.u 18 (.ld none 3 true (.t 17)),.u 19 (.fa 15 (.t 1)),.u 20 (.ld none 3 true (.t 19)),.u 21 (.fa 18 (.t 1)),.u 22 (.ld none 3 true (.t 21)),.u 23 (.fa 21 (.t 1)),.u 24 (.ld none 3 true (.t 23)),.u 25 (.fa 24 (.t 1)),.u 26 (.ld none 3 true (.t 25)),.u 27 (.row 3 [[.x 3 (.t 7)],[.x 3 (.t 10)],[.x 3 (.t 13)],[.x 3 (.t 16)],[.x 3 (.t 18)],[.x 3 (.t 20)],[.x 3 (.t 22)],[.x 3 (.t 24)],[.x 3 (.t 26)]]),.u 28 (.len (.t 27)),.m 29 (.i 0)])
 (.fg [27,28,29] (.block 0 (.loop (.seq (.ops false [.u 30 (.bin .lss (.t 29) (.t 28))])
 (.fg [27,28,29,30] (.seq (.cond (.t 30) .skip (.exit 0))
 (.fg [27,28,29] (.seq (.block 1 (.seq (.ops false [.u 31 (.idx 3 (.t 27) (.t 29)),.u 32 (.ld none 3 true (.t 31)),.u 4 (.alloc [(.lit (.bool false)),.emp,.emp]),.n (.st none 3 (.t 4) (.t 32))])
 (.fg [4,27,28,29] (.seq (.ops false [.u 33 (.fa 1 (.t 4)),.u 34 (.ld none 1 false (.t 33)),.u 35 (.len (.t 34)),.u 36 (.bin .gtr (.t 35) (.i 2)),.m 37 (.t 36),.w 38 37 false (.fa 2 (.t 4)),.w 39 37 false (.ld none 1 false (.t 38)),.w 40 37 false (.len (.t 39)),.w 41 37 false (.bin .gtr (.t 40) (.i 2)),.u 42 (.pick (.t 37) .tr (.t 41))])
 (.fg [27,28,29,42] (.cond (.t 42) (.seq (.ops false [.m 2 .fa])
 .ret) .skip))))))
 (.fg [27,28,29] (.ops false [.u 43 (.bin .add (.t 29) (.i 1)),.m 29 (.t 43)])))))))))))
 (.fg [] (.seq (.ops false [.m 2 .tr])
 .ret)))))
def qm (f0:Nat):AC:=(.seq (.ops false [.u 4 (.alloc [(.lit (.bool false)),.emp,.emp,(.lit (.bool false)),.emp,.emp])])
 (.fg [0,1,4] (.seq (.ops false [.m 5 (.t 0),.u 6 (.call f0 [(.t 5)]),.m 7 (.t 1),.u 8 (.call f0 [(.t 7)]),.u 9 (.build [.x 3 (.t 6),.x 3 (.t 8)]),.n (.st none 6 (.t 4) (.t 9))])
 .ret)))
def jf (f0 f1 f2:Nat):AC:=(.seq (.ops false [.u 0 (.alloc [(.lit (.bool false)),.emp,.emp,(.lit (.bool false)),.emp,.emp,(.lit (.bool false)),.emp,.emp,(.lit (.bool false)),.emp,.emp,(.lit (.bool false)),.emp,.emp,(.lit (.bool false)),.emp,.emp,(.lit (.bool false)),.emp,.emp,(.lit (.bool false)),.emp,.emp,(.lit (.bool false)),.emp,.emp])])
 (.fg [0] (.seq (.ops false [.u 5 (.call f0 [(.i 1),(.i 2)]),.m 4 (.t 5),.u 6 (.ext 0 (.t 4)),.u 7 (.ext 1 (.t 4)),.u 1 (.alloc [(.lit (.bool false)),.emp,.emp]),.n (.st none 3 (.t 1) (.t 6)),.m 2 (.t 7)])
 (.fg [0,1] (.seq (.ops false [.u 8 (.call f1 [(.i 1)]),.u 3 (.alloc [(.lit (.bool false)),.emp,.emp]),.n (.st none 3 (.t 3) (.t 8))])
 (.fg [0,1,3] (.seq (.ops true [.u 9 (.call f2 [(.i 4),(.i 0)]),.u 10 (.ld none 3 true (.t 3)),.u 11 (.call f1 [(.i 16)]),.u 12 (.ld none 3 true (.t 3)),.u 13 (.ld none 3 true (.t 1)),.u 14 (.build [.z [(.lit (.bool false)),.emp,.emp,(.lit (.bool false)),.emp,.emp],.x 6 (.t 9),.x 3 (.t 10),.x 3 (.t 11),.x 3 (.t 12),.x 3 (.t 13),.z [(.lit (.bool false)),.emp,.emp]]),.n (.st none 27 (.t 0) (.t 14))])
 .ret)))))))
def xd (f0 f1 f2 f3 f4 f5:Nat):List AO:=[.m 36 (.t 2),.u 37 (.binn .eql (.t 36) (.c (.one (.lit .nilIface)))),.m 38 (.t 37),.w 39 38 true (.mv (.t 5)),.w 40 38 true (.binn .eql (.t 39) (.c (.one (.lit .nilIface)))),.u 41 (.pick (.t 38) (.t 40) .fa),.m 42 (.t 41),.w 43 42 true (.mv (.t 7)),.w 44 42 true (.binn .eql (.t 43) (.c (.one (.lit .nilIface)))),.u 45 (.pick (.t 42) (.t 44) .fa),.m 46 (.t 45),.w 47 46 true (.mv (.t 9))]
theorem yp {f0 f1 f2 f3 f4 f5:Nat} (Γ:Nat->Spec) (dr:Bool) (Q:S->Prop) (s:S):wpL Γ dr Q (xd f0 f1 f2 f3 f4 f5) s=wpL Γ dr Q [.m 36 (.t 2),.u 37 (.binn .eql (.t 36) (.c (.one (.lit .nilIface)))),.m 38 (.t 37),.w 39 38 true (.mv (.t 5)),.w 40 38 true (.binn .eql (.t 39) (.c (.one (.lit .nilIface)))),.u 41 (.pick (.t 38) (.t 40) .fa),.m 42 (.t 41),.w 43 42 true (.mv (.t 7)),.w 44 42 true (.binn .eql (.t 43) (.c (.one (.lit .nilIface)))),.u 45 (.pick (.t 42) (.t 44) .fa),.m 46 (.t 45),.w 47 46 true (.mv (.t 9))] s:=eq_of_heq (HEq.refl _)
def Yd (f0 f1 f2 f3 f4 f5:Nat):List AO:=[.w 48 46 true (.binn .eql (.t 47) (.c (.one (.lit .nilIface)))),.u 49 (.pick (.t 46) (.t 48) .fa),.m 50 (.t 49),.w 51 50 true (.mv (.t 1)),.u 52 (.pick (.t 50) (.t 51) .fa),.m 53 (.t 52),.w 54 53 true (.mv (.t 8)),.w 55 53 true (.un .not (.t 54)),.u 56 (.pick (.t 53) (.t 55) .fa),.m 57 (.t 56),.w 58 57 true (.ld none 6 true (.t 3)),.w 59 57 true (.call f1 [(.i 0),(.i 1)])]
theorem Zq {f0 f1 f2 f3 f4 f5:Nat} (Γ:Nat->Spec) (dr:Bool) (Q:S->Prop) (s:S):wpL Γ dr Q (Yd f0 f1 f2 f3 f4 f5) s=wpL Γ dr Q [.w 48 46 true (.binn .eql (.t 47) (.c (.one (.lit .nilIface)))),.u 49 (.pick (.t 46) (.t 48) .fa),.m 50 (.t 49),.w 51 50 true (.mv (.t 1)),.u 52 (.pick (.t 50) (.t 51) .fa),.m 53 (.t 52),.w 54 53 true (.mv (.t 8)),.w 55 53 true (.un .not (.t 54)),.u 56 (.pick (.t 53) (.t 55) .fa),.m 57 (.t 56),.w 58 57 true (.ld none 6 true (.t 3)),.w 59 57 true (.call f1 [(.i 0),(.i 1)])] s:=eq_of_heq (HEq.refl _)
def Xd (f0 f1 f2 f3 f4 f5:Nat):List AO:=[.w 60 57 true (.call f5 [(.t 58),(.t 59)]),.u 61 (.pick (.t 57) (.t 60) .fa),.m 62 (.t 61),.w 63 62 true (.ld none 6 true (.t 4)),.w 64 62 true (.call f1 [(.i 4),(.i 1)]),.w 65 62 true (.call f5 [(.t 63),(.t 64)]),.u 66 (.pick (.t 62) (.t 65) .fa),.m 67 (.t 66),.w 68 67 true (.ld none 6 true (.t 6)),.w 69 67 true (.call f1 [(.i 2),(.i 1)]),.w 70 67 true (.call f5 [(.t 68),(.t 69)]),.u 71 (.pick (.t 67) (.t 70) .fa)]
theorem Yp {f0 f1 f2 f3 f4 f5:Nat} (Γ:Nat->Spec) (dr:Bool) (Q:S->Prop) (s:S):wpL Γ dr Q (Xd f0 f1 f2 f3 f4 f5) s=wpL Γ dr Q [.w 60 57 true (.call f5 [(.t 58),(.t 59)]),.u 61 (.pick (.t 57) (.t 60) .fa),.m 62 (.t 61),.w 63 62 true (.ld none 6 true (.t 4)),.w 64 62 true (.call f1 [(.i 4),(.i 1)]),.w 65 62 true (.call f5 [(.t 63),(.t 64)]),.u 66 (.pick (.t 62) (.t 65) .fa),.m 67 (.t 66),.w 68 67 true (.ld none 6 true (.t 6)),.w 69 67 true (.call f1 [(.i 2),(.i 1)]),.w 70 67 true (.call f5 [(.t 68),(.t 69)]),.u 71 (.pick (.t 67) (.t 70) .fa)] s:=eq_of_heq (HEq.refl _)
def Wd (f0 f1 f2 f3 f4 f5:Nat):List AO:=[.m 0 (.t 71)]
theorem qq {f0 f1 f2 f3 f4 f5:Nat} (Γ:Nat->Spec) (dr:Bool) (Q:S->Prop) (s:S):wpL Γ dr Q (Wd f0 f1 f2 f3 f4 f5) s=wpL Γ dr Q [.m 0 (.t 71)] s:=eq_of_heq (HEq.refl _)
def ye (f0 f1 f2 f3 f4 f5:Nat):AC:=(.seq (.ops true (xd f0 f1 f2 f3 f4 f5++(Yd f0 f1 f2 f3 f4 f5++(Xd f0 f1 f2 f3 f4 f5++(Wd f0 f1 f2 f3 f4 f5)))))
 .ret)
theorem qt {f0 f1 f2 f3 f4 f5:Nat} (Γ:Nat->Spec) (Q:Ex->S->Prop) (s:S):wpA Γ (ye f0 f1 f2 f3 f4 f5) Q s=wpA Γ (.seq (.ops true (xd f0 f1 f2 f3 f4 f5++(Yd f0 f1 f2 f3 f4 f5++(Xd f0 f1 f2 f3 f4 f5++(Wd f0 f1 f2 f3 f4 f5)))))
 .ret) Q s:=eq_of_heq (HEq.refl _)
def vl (f0 f1 f2 f3 f4 f5:Nat):AC:=(.seq (.ops false [.u 17 (.call f0 []),.u 18 (.call f1 [(.i 2),(.i 1)]),.u 19 (.call f3 [(.t 17),(.t 18)]),.m 16 (.t 19),.u 20 (.ext 0 (.t 16)),.u 21 (.ext 1 (.t 16)),.u 22 (.ext 2 (.t 16)),.u 3 (.alloc [(.lit (.bool false)),.emp,.emp,(.lit (.bool false)),.emp,.emp]),.u 4 (.alloc [(.lit (.bool false)),.emp,.emp,(.lit (.bool false)),.emp,.emp]),.n (.st none 6 (.t 3) (.t 20)),.n (.st none 6 (.t 4) (.t 21)),.m 5 (.t 22)])
 (.fg [1,2,3,4,5] (.seq (.ops false [.u 24 (.call f0 []),.u 25 (.call f1 [(.i 0),(.i 1)]),.u 26 (.call f1 [(.i 4),(.i 1)]),.u 27 (.call f4 [(.t 24),(.t 25),(.t 26)]),.m 23 (.t 27),.u 28 (.ext 0 (.t 23)),.u 29 (.ext 1 (.t 23)),.u 6 (.alloc [(.lit (.bool false)),.emp,.emp,(.lit (.bool false)),.emp,.emp]),.n (.st none 6 (.t 6) (.t 28)),.m 7 (.t 29)])
 (.fg [1,2,3,4,5,6,7] (.seq (.ops false [.u 31 (.call f0 []),.u 32 (.call f1 [(.i 2),(.i 2)]),.u 33 (.call f2 [(.t 31),(.t 32)]),.m 30 (.t 33),.u 34 (.ext 0 (.t 30)),.u 35 (.ext 1 (.t 30)),.m 8 (.t 34),.m 9 (.t 35)])
 (.fg [1,2,3,4,5,6,7,8,9] (ye f0 f1 f2 f3 f4 f5)))))))
theorem jj {f0 f1 f2 f3 f4 f5:Nat} (Γ:Nat->Spec) (Q:Ex->S->Prop) (s:S):wpA Γ (vl f0 f1 f2 f3 f4 f5) Q s=wpA Γ (.seq (.ops false [.u 17 (.call f0 []),.u 18 (.call f1 [(.i 2),(.i 1)]),.u 19 (.call f3 [(.t 17),(.t 18)]),.m 16 (.t 19),.u 20 (.ext 0 (.t 16)),.u 21 (.ext 1 (.t 16)),.u 22 (.ext 2 (.t 16)),.u 3 (.alloc [(.lit (.bool false)),.emp,.emp,(.lit (.bool false)),.emp,.emp]),.u 4 (.alloc [(.lit (.bool false)),.emp,.emp,(.lit (.bool false)),.emp,.emp]),.n (.st none 6 (.t 3) (.t 20)),.n (.st none 6 (.t 4) (.t 21)),.m 5 (.t 22)])
 (.fg [1,2,3,4,5] (.seq (.ops false [.u 24 (.call f0 []),.u 25 (.call f1 [(.i 0),(.i 1)]),.u 26 (.call f1 [(.i 4),(.i 1)]),.u 27 (.call f4 [(.t 24),(.t 25),(.t 26)]),.m 23 (.t 27),.u 28 (.ext 0 (.t 23)),.u 29 (.ext 1 (.t 23)),.u 6 (.alloc [(.lit (.bool false)),.emp,.emp,(.lit (.bool false)),.emp,.emp]),.n (.st none 6 (.t 6) (.t 28)),.m 7 (.t 29)])
 (.fg [1,2,3,4,5,6,7] (.seq (.ops false [.u 31 (.call f0 []),.u 32 (.call f1 [(.i 2),(.i 2)]),.u 33 (.call f2 [(.t 31),(.t 32)]),.m 30 (.t 33),.u 34 (.ext 0 (.t 30)),.u 35 (.ext 1 (.t 30)),.m 8 (.t 34),.m 9 (.t 35)])
 (.fg [1,2,3,4,5,6,7,8,9] (ye f0 f1 f2 f3 f4 f5))))))) Q s:=eq_of_heq (HEq.refl _)
attribute [go_sem ↓] jj
attribute [go_sem] jj
def vh (f0 f1 f2 f3 f4 f5:Nat):AC:=(.seq (.ops false [.m 0 .fa])
 (.fg [] (.seq (.ops false [.u 11 (.call f0 []),.u 12 (.call f1 [(.i 2),(.i 1)]),.u 13 (.call f2 [(.t 11),(.t 12)]),.m 10 (.t 13),.u 14 (.ext 0 (.t 10)),.u 15 (.ext 1 (.t 10)),.m 1 (.t 14),.m 2 (.t 15)])
 (.fg [1,2] (vl f0 f1 f2 f3 f4 f5)))))
theorem wae (hΓ:Holds P Γ) {f fo ff:Nat} (ho:Γ fo=.dat false WG) (hf:Γ ff=.dat false xr) (hc:check P f=some (13,(wj fo ff).strip,[.cell 4 3 true,.tmp 5])):Sound P f (.dat false vy):=by
 refine Va hc waG hΓ (λargs K hcl hfi hG=>?_)
 match args,hG with
 | [a,b],hG=>
  obtain ⟨k,n,rfl,hG⟩:=kb hG
  obtain ⟨k',d,rfl,rfl,rfl,hn,hd,h0,hK⟩:=kb hG
  refine ⟨by simp,?_⟩
  have e:(if d=0 then 8 else 0:Int)=0:=if_neg h0
  simp only [go_sem,wj,ho,hf,h0]
  have z1:zs n<=2:=UX (by omega)
  have z2:zs d<=2:=UX (by omega)
  exact ⟨hn.1,hn.2,hd.1,hd.2,by omega,by omega,hK⟩
theorem JaG (hΓ:Holds P Γ) {f:Nat} (hc:check P f=some (44,jh.strip,[.tmp 2])):Sound P f (.dat true jE):=by
 refine Va hc VaU hΓ (λargs K hcl hfi hG=>?_)
 match args,hG with
 | [a],hG=>
  obtain ⟨c,rfl,hw,hl,hK⟩:=hG
  refine ⟨by simp,?_⟩
  obtain ⟨xs,hxs⟩:∃xs:List R,xs=cps9 c:=⟨_,rfl⟩
  have hlx:xs.length=9:=by rw [hxs];rfl
  have hwx:∀x∈xs,rl x<=4294967296:=by
   intro x hx
   rw [hxs]at hx
   simp only [cps9,List.mem_cons,List.not_mem_nil,or_false]at hx
   unfold cl al at hl
   rcases hx with rfl | rfl | rfl | rfl | rfl | rfl | rfl | rfl | rfl <;> omega
  have hex:xs.all (sR 2)=sC c:=by rw [hxs];rfl
  simp only [go_sem,jh,cpA,cpC]
  refine Wa (λj:Nat=>⟨mkV [(27,.one (.full (xs.map rC))),(28,.one (.lit (.int .i64 9))),(29,.one (.lit (.int .i64 j)))],mkH []⟩) (λj=>j<=9/\(xs.take j).all (sR 2)=true) (λj=>9-j) 0 ?_ ?_ ?_
  .exact Qa (by rw [hxs];simp [okS,okV,okC,okL,okH,okB,okE,Za,Ja,za,ja,wsA,ws,rC,cps9]) trivial
  .exact ⟨Nat.zero_le _,rfl⟩
  .rintro j ⟨hj,hallj⟩
   by_cases hltj:j<9
   .obtain ⟨x,hx⟩:∃x,xs.getD j (rcan 0)=x:=⟨_,rfl⟩
    have hx0:=jax (by omega:j<xs.length) hx
    have hxr:=hwx x (List.mem_of_getElem? hx0)
    have hjx:j<xs.length:=by omega
    obtain ⟨b,n,d⟩:=x
    have w1:n.length<=4294967296:=Nat.le_trans (Nat.le_max_left _ _) hxr
    have w2:d.length<=4294967296:=Nat.le_trans (Nat.le_max_right _ _) hxr
    have bad:¬(sR 2 (b,n,d)=true)->K (.one (.lit (.bool false))):=by
     intro hb
     have e1:sC c=false:=by rw [<-hex];exact UbO hx0 (by simpa using hb)
     rw [e1]at hK;exact hK
    have hsr:sR 2 (b,n,d)=true↔n.length<=2/\d.length<=2:=by simp [sR]
    simp only [go_sem,hltj,hjx,hx,ZbR,cb,cn,cd,ws,hlx]
    exact ⟨λ_ _=>⟨λh=>bad (λe=>by have:=hsr.1 e;omega),λh _=>⟨λh'=>bad (λe=>by have:=hsr.1 e;omega),λh'=>⟨by omega,j+1,Qa (by simp [okS,okV,okC,okL,okH,okB,okE,Za,Ja,za,ja,wsA,ws]) trivial,⟨by omega,Xa7 hx0 hallj (hsr.2 ⟨by omega,by omega⟩)⟩,by omega⟩⟩⟩,λh=>absurd (by omega) h⟩
   .rw [List.take_of_length_le (by omega),hex]at hallj
    rw [hallj]at hK
    simp only [go_sem,hltj]
    exact ⟨λh=>absurd h (by omega),λ_=>hK⟩
theorem vaL (hΓ:Holds P Γ) {f fo:Nat} (ho:Γ fo=.dat false ju) (hc:check P f=some (10,(qm fo).strip,[.cell 4 6 true])):Sound P f (.dat false zO):=by
 refine Va hc uba hΓ (λargs K hcl hfi hG=>?_)
 match args,hG with
 | [a,b],hG=>
  obtain ⟨k,n,rfl,hG'⟩:=kb hG
  obtain ⟨k',m,rfl,rfl,rfl,h1,h2,hK⟩:=kb hG'
  clear hG hG'
  refine ⟨by simp,?_⟩
  simp only [go_sem,qm,ho]
  exact ⟨h1.1,h1.2,h2.1,h2.2,hK⟩
theorem WaF (hΓ:Holds P Γ) {f fm fo fl:Nat} (hm:Γ fm=.dat false vy) (ho:Γ fo=.dat false ju) (hl:Γ fl=.dat false zO) (hc:check P f=some (15,(jf fm fo fl).strip,[.cell 0 27 true])):Sound P f (.dat false UB):=by
 refine Va hc Wa2 hΓ (λargs K hcl hfi hG=>?_)
 match args,hG with
 | [],hK=>
  refine ⟨by simp,?_⟩
  have i1:((1:Int):Rat)=1:=rfl
  have i4:((4:Int):Rat)=4:=rfl
  have i0:((0:Int):Rat)=0:=rfl
  have i16:((16:Int):Rat)=16:=rfl
  have ih:Rat.divInt 1 2=1 / 2:=by decide +kernel
  unfold UB cqR exQ at hK
  simp only [Wc]at hK
  simp only [go_sem,jf,hm,ho,hl,i1,i4,i0,i16,ih,Wc]
  exact ⟨by decide,by decide,by decide,by decide,by decide,by decide,by decide,by decide,by decide,hK⟩
set_option maxHeartbeats 2000000 in
theorem qaf (hΓ:Holds P Γ) {f fe fo fn fl fp fs tE:Nat} (he:Γ fe=.dat false UB) (ho:Γ fo=.dat false zO) (hn:Γ fn=.dat false (vB tE)) (hl:Γ fl=.dat false (VD tE)) (hp:Γ fp=.dat false (QE tE)) (hs:Γ fs=.dat true jy) (hc:check P f=some (72,(vh fe fo fn fl fp fs).strip,[.tmp 0])):Sound P f (.dat true ux):=by
 refine Va hc YaF hΓ (λargs K hcl hfi hG=>?_)
 match args,hG with
 | [],hK=>
  refine ⟨by simp,?_⟩
  have i1:((1:Int):Rat)=1:=rfl
  have i4:((4:Int):Rat)=4:=rfl
  have i0:((0:Int):Rat)=0:=rfl
  have i2:((2:Int):Rat)=2:=rfl
  have vA:∀a:V2,avld (rcan a.1,rcan a.2)=true:=λa=>by show (vldR (rcan _) && vldR (rcan _))=true;rw [zd,zd];rfl
  have k21:cchk2 (canC exQ) [(rcan 2,rcan 1)]=0:=UY (by simp [vA (2,1)])
  have k22:cchk2 (canC exQ) [(rcan 2,rcan 2)]=0:=UY (by simp [vA (2,2)])
  have k2:cchk2 (canC exQ) [(rcan 0,rcan 1),(rcan 4,rcan 1)]=0:=UY (by simp [vA (0,1),vA (4,1)])
  have a21:av (rcan 2,rcan 1)=(2,1):=UF (2,1)
  have a22:av (rcan 2,rcan 2)=(2,2):=UF (2,2)
  have a01:av (rcan 0,rcan 1)=(0,1):=UF (0,1)
  have a41:av (rcan 4,rcan 1)=(4,1):=UF (4,1)
  have lC:liC (canC exQ) (rcan 2,rcan 1)=0:=by
   unfold liC
   rw [k21,a21,Wag,if_neg (by decide),if_neg (by simp [XbC]),if_neg ex_m]
  have d1:=decide_eq_true XbC
  have d2:=decide_eq_false Wby
  have wA:∀a:V2,WLA (rcan a.1,rcan a.2):=λa=>jG a
  have w21:=wA (2,1)
  have w22:=wA (2,2)
  have w01:=wA (0,1)
  have w41:=wA (4,1)
  have wC:WLC (canC exQ):=⟨jG _,jG _,Je _,Je _,Je _,Je _,Je _⟩
  have z0:=rz_0
  have z1:=rz_1
  have z2:=rz_2
  have z4:=rz_4
  have l21:al (rcan 2,rcan 1)<=14:=Nat.max_le.2 ⟨by show rz 2<=_;omega,by show rz 1<=_;omega⟩
  have l22:al (rcan 2,rcan 2)<=14:=Nat.max_le.2 ⟨by show rz 2<=_;omega,by show rz 2<=_;omega⟩
  have l01:al (rcan 0,rcan 1)<=14:=Nat.max_le.2 ⟨by show rz 0<=_;omega,by show rz 1<=_;omega⟩
  have l41:al (rcan 4,rcan 1)<=14:=Nat.max_le.2 ⟨by show rz 4<=_;omega,by show rz 1<=_;omega⟩
  have lc:cl (canC exQ)<=100:=by
   have z16:=Vb 4 4
   have e16:(4:Rat)*4=16:=by decide +kernel
   have zh:=Va0 1 2
   rw [e16]at z16
   rw [xby]
   simp only [Nat.max_le,exQ,zq]
   refine ⟨⟨by omega,by omega⟩,⟨by omega,by omega⟩,by omega,by omega,by omega,by omega,by omega⟩
  have dd:∀{α:Type} [DecidableEq α] (x:α),decide (x=x)=true:=λx=>decide_eq_true rfl
  obtain ⟨E,hE⟩:∃E,canC exQ=E:=⟨_,rfl⟩
  have hcq:cqR exQ=cpA E:=by rw [qbE,hE]
  have hcv:cpv E=exQ:=by rw [<-hE,Wag]
  rw [hE]at k21 k22 k2 lC wC lc
  simp only [go_sem,vh,he,ho,hn,hl,hp,hs,i1,i4,i0,i2,hcq,cpA,cpC,jd,k21,k22,k2,lC,hcv,a21,a22,a01,a41,d1,d2,ex_a,ex_b,ex_p,Qc,dd,Bool.true_and,Bool.and_true]
  repeat (first | (refine And.intro (by with_reducible assumption) ?_) | (refine And.intro (Nat.le_trans (by with_reducible assumption) (by decide)) ?_) | (refine And.intro (by decide) ?_))
  rw [qt,ubD,zao,zao,zao]
  rw [yp]
  simp only [go_sem]
  rw [Zq]
  simp only [go_sem,ho,hs,i1,i0,i4,i2,dd]
  repeat (first | (refine And.intro (by with_reducible assumption) ?_) | (refine And.intro (Nat.le_trans (by with_reducible assumption) (by decide)) ?_) | (refine And.intro (by decide) ?_))
  rw [Yp]
  simp only [go_sem,ho,hs,i1,i0,i4,i2,dd]
  repeat (first | (refine And.intro (by with_reducible assumption) ?_) | (refine And.intro (Nat.le_trans (by with_reducible assumption) (by decide)) ?_) | (refine And.intro (by decide) ?_))
  rw [qq]
  simp only [go_sem,ho,hs,i1,i0,i4,i2,dd]
  repeat (first | (refine And.intro (by with_reducible assumption) ?_) | (refine And.intro (Nat.le_trans (by with_reducible assumption) (by decide)) ?_) | (refine And.intro (by decide) ?_))
  exact hK
end Go.Abs
end
section
namespace Go.Num
open Go.Abs
theorem zq_1 (a:V2):rz a.1<=zq a:=Nat.le_max_left _ _
theorem zq_2 (a:V2):rz a.2<=zq a:=Nat.le_max_right _ _
end Go.Num
namespace Go.Abs
open Go.Num
variable {P:Program} {Γ:Nat->Spec}
def kK (l:List AV) (K:AV->Prop):Prop:=
 match l with
 | [c,p]=>onCp (λc=>onA (λp=>cl c<=1048576/\al p<=1048576/\K (.one (.lit (.bool true)))) p) c
 | _=>False
theorem xQ (c p:AV) (K:AV->Prop):kK [c,p] K=(onCp (λc=>onA (λp=>cl c<=1048576/\al p<=1048576/\K (.one (.lit (.bool true)))) p) c):=propext Iff.rfl
@[congr] theorem Jbu {K:AV->Prop} {l l' : List AV} (h:l=l'):kK l K=kK l' K:=by subst h;rfl
attribute [go_sem] xQ
attribute [go_sem ↓] xQ
end Go.Abs
end
section
namespace Go.Num
open Go.Abs
def cpsA (c:Cp):List R:=[c.2.2.2.2.2.1,c.2.2.2.2.2.2,c.2.2.1,c.2.2.2.1,c.2.2.2.2.1]
theorem Wbe (c:Cp):(cpsA c).all vldR=(cps5 c).all vldR:=by
 unfold cpsA cps5
 simp only [List.all_cons,List.all_nil,Bool.and_true]
 cases vldR c.2.2.2.2.2.1 <;> cases vldR c.2.2.2.2.2.2 <;> simp
def clsC (c:Cp) (a b:Arc):Cp:=(c.1,c.2.1,rcan (sqQ (subQ (av a) (av c.1))),rcan (sqQ (subQ (av b) (av a))),rcan (sqQ (subQ (av b) (av c.2.1))),c.2.2.2.2.2.1,c.2.2.2.2.2.2)
end Go.Num
namespace Go.Abs
open Go.Num
variable {P:Program} {Γ:Nat->Spec}
theorem ubi {h h' : Nat->HB} {z:Nat} {b:Bool} {es:List (List C)} {l:List R} (e:es=l.map rC):okB h h' (some ⟨es,z,b⟩) (some ⟨l.map rC,z,b⟩):=by
 subst e
 exact ⟨⟨rfl,rfl⟩,.inl ⟨rfl,of_eq_true (XH l)⟩⟩
def xD (l:List AV) (K:AV->Prop):Prop:=
 match l with
 | [c]=>onCp (λc=>cl c<=100000000/\K (.one (.lit (.int .i64 (cchk c:Nat))))) c
 | _=>False
theorem ja4 (c:AV) (K:AV->Prop):xD [c] K=(onCp (λc=>cl c<=100000000/\K (.one (.lit (.int .i64 (cchk c:Nat))))) c):=propext Iff.rfl
@[congr] theorem ubQ {K:AV->Prop} {l l' : List AV} (h:l=l'):xD l K=xD l' K:=by subst h;rfl
attribute [go_sem] ja4
attribute [go_sem ↓] ja4
theorem waS:Good xD:=ka λas=>by
 unfold xD
 split
 .exact (Up λ_=>(.and λ_=>(.ret _)))
 .exact .of λK hk=>hk.elim
def Qa1 (l:List AV) (K:AV->Prop):Prop:=
 match l with
 | [c,a,b]=>onCp (λc=>onA (λa=>onA (λb=>cl c<=10000/\al a<=10000/\al b<=10000/\K (.tup [cpA (clsC c a b),.one (.lit (.bool (decide (cchk (clsC c a b)=0))))])) b) a) c
 | _=>False
theorem vaV (c a b:AV) (K:AV->Prop):Qa1 [c,a,b] K=(onCp (λc=>onA (λa=>onA (λb=>cl c<=10000/\al a<=10000/\al b<=10000/\K (.tup [cpA (clsC c a b),.one (.lit (.bool (decide (cchk (clsC c a b)=0))))])) b) a) c):=propext Iff.rfl
@[congr] theorem JbP {K:AV->Prop} {l l' : List AV} (h:l=l'):Qa1 l K=Qa1 l' K:=by subst h;rfl
attribute [go_sem] vaV
attribute [go_sem ↓] vaV
def kh (f0 f1 f2 f3:Nat):AC:=(.seq (.ops false [.u 1 (.box 27 (.t 0)),.m 2 (.i 0)])
 (.fg [1] (.seq (.ops false [.u 8 (.fa 12 (.t 1)),.u 9 (.ld none 3 true (.t 8)),.u 10 (.fa 15 (.t 1)),.u 11 (.ld none 3 true (.t 10)),.u 12 (.fa 18 (.t 1)),.u 13 (.ld none 3 true (.t 12)),.u 14 (.row 3 [[.x 3 (.t 9)],[.x 3 (.t 11)],[.x 3 (.t 13)]]),.m 3 (.t 14)])
 (.fg [1,3] (.seq (.seq (.ops false [.u 15 (.fa 21 (.t 1)),.u 16 (.ld none 3 true (.t 15)),.u 17 (.fa 24 (.t 1)),.u 18 (.ld none 3 true (.t 17)),.u 19 (.row 3 [[.x 3 (.t 16)],[.x 3 (.t 18)]]),.m 20 (.t 3),.u 21 (.app 3 (.t 19) (.t 20)),.u 22 (.len (.t 21)),.m 23 (.i 0)])
 (.fg [1,3,21,22,23] (.block 0 (.loop (.seq (.ops false [.u 24 (.bin .lss (.t 23) (.t 22))])
 (.fg [1,3,21,22,23,24] (.seq (.cond (.t 24) .skip (.exit 0))
 (.fg [1,3,21,22,23] (.seq (.block 1 (.seq (.ops false [.u 25 (.idx 3 (.t 21) (.t 23)),.u 26 (.ld none 3 true (.t 25)),.u 5 (.alloc [(.lit (.bool false)),.emp,.emp]),.n (.st none 3 (.t 5) (.t 26))])
 (.fg [1,3,5,21,22,23] (.seq (.ops false [.u 27 (.ld none 3 true (.t 5)),.u 28 (.call f0 [(.t 27)]),.u 29 (.un .not (.t 28))])
 (.fg [1,3,21,22,23,29] (.cond (.t 29) (.seq (.ops false [.m 2 (.i 2)])
 .ret) .skip))))))
 (.fg [1,3,21,22,23] (.ops false [.u 30 (.bin .add (.t 23) (.i 1)),.m 23 (.t 30)])))))))))))
 (.fg [1,3] (.seq (.seq (.ops false [.u 31 (.fa 0 (.t 1)),.u 32 (.ld none 6 true (.t 31)),.u 33 (.call f1 [(.t 32)]),.u 34 (.un .not (.t 33)),.m 35 (.t 34),.w 36 35 false (.fa 6 (.t 1)),.w 37 35 false (.ld none 6 true (.t 36)),.w 38 35 false (.call f1 [(.t 37)]),.w 39 35 false (.un .not (.t 38)),.u 40 (.pick (.t 35) .tr (.t 39))])
 (.fg [1,3,40] (.cond (.t 40) (.seq (.ops false [.m 2 (.i 2)])
 .ret) .skip)))
 (.fg [1,3] (.seq (.seq (.ops false [.m 41 (.t 3),.u 42 (.len (.t 41)),.m 43 (.i 0)])
 (.fg [1,41,42,43] (.block 2 (.loop (.seq (.ops false [.u 44 (.bin .lss (.t 43) (.t 42))])
 (.fg [1,41,42,43,44] (.seq (.cond (.t 44) .skip (.exit 2))
 (.fg [1,41,42,43] (.seq (.block 3 (.seq (.ops false [.u 45 (.idx 3 (.t 41) (.t 43)),.u 46 (.ld none 3 true (.t 45)),.u 7 (.alloc [(.lit (.bool false)),.emp,.emp]),.n (.st none 3 (.t 7) (.t 46))])
 (.fg [1,7,41,42,43] (.seq (.ops false [.u 47 (.ld none 3 true (.t 7)),.u 48 (.call f2 [(.t 47)]),.u 49 (.bin .leq (.t 48) (.i 0))])
 (.fg [1,41,42,43,49] (.cond (.t 49) (.seq (.ops false [.m 2 (.i 3)])
 .ret) .skip))))))
 (.fg [1,41,42,43] (.ops false [.u 50 (.bin .add (.t 43) (.i 1)),.m 43 (.t 50)])))))))))))
 (.fg [1] (.seq (.seq (.ops false [.u 51 (.fa 0 (.t 1)),.u 52 (.ld none 6 true (.t 51)),.u 53 (.fa 6 (.t 1)),.u 54 (.ld none 6 true (.t 53)),.u 55 (.call f3 [(.t 52),(.t 54)])])
 (.fg [55] (.cond (.t 55) (.seq (.ops false [.m 2 (.i 8)])
 .ret) .skip)))
 (.fg [] (.seq (.ops false [.m 2 (.i 0)])
 .ret)))))))))))))
set_option maxHeartbeats 2000000 in
theorem uaA (hΓ:Holds P Γ) {f fr fv fg fs:Nat} (hr:Γ fr=.dat true qe) (hv:Γ fv=.dat true xj) (hg:Γ fg=.dat true Vh) (hs:Γ fs=.dat true Ux) (hc:check P f=some (56,(kh fr fv fg fs).strip,[.tmp 2])):Sound P f (.dat true xD):=by
 refine Va hc waS hΓ (λargs K hcl hfi hG=>?_)
 match args,hG with
 | [a],hG=>
  obtain ⟨c,rfl,hw,hl,hK⟩:=hG
  refine ⟨by simp,?_⟩
  obtain ⟨wo,wq,w1,w2,w3,w4,w5⟩:=id hw
  have hl0:=hl
  unfold cl at hl0
  simp only [Nat.max_le]at hl0
  obtain ⟨l1,l2,l3,l4,l5,l6,l7⟩:=hl0
  have h5:∀x∈cpsA c,WLR x/\rl x<=100000000:=λx hx=>by
   simp only [cpsA,List.mem_cons,List.not_mem_nil,or_false]at hx
   rcases hx with rfl | rfl | rfl | rfl | rfl
   .exact ⟨w4,l6⟩
   .exact ⟨w5,l7⟩
   .exact ⟨w1,l3⟩
   .exact ⟨w2,l4⟩
   .exact ⟨w3,l5⟩
  have h3:∀x∈cps3 c,WLR x/\rl x<=100000000:=λx hx=>h5 x (by
   simp only [cps3,cpsA,List.mem_cons,List.not_mem_nil,or_false]at hx ⊢
   rcases hx with rfl | rfl | rfl <;> simp)
  have n5:(cpsA c).length=5:=rfl
  have n3:(cps3 c).length=3:=rfl
  have int2:((2:Nat):Int)=2:=rfl
  have int3:((3:Nat):Int)=3:=rfl
  have int8:((8:Nat):Int)=8:=rfl
  have hk2:(cpsA c).all vldR=false->cchk c=2:=λh=>by
   unfold cchk
   rw [Wbe]at h
   split
   .rfl
   .rfl
  simp only [go_sem,kh,cpA,cpC]
  refine ⟨λe he=>?_,λe he=>?_,?_⟩
  .simp only [List.mem_cons,List.not_mem_nil,or_false]at he
   rcases he with rfl | rfl | rfl <;> rfl
  .simp only [List.mem_cons,List.not_mem_nil,or_false]at he
   rcases he with rfl | rfl <;> rfl
  refine Wa (λk:Nat=>⟨mkV [(1,.one (.ptr 1 1 0 0)),(3,.one (.full ((cps3 c).map rC))),(21,.one (.own 21 1 3 0 5)),(22,.one (.lit (.int .i64 5))),(23,.one (.lit (.int .i64 k)))],mkH [(1,⟨1,some ⟨[cpC c],27,true⟩⟩),(21,⟨1,some ⟨(cpsA c).map rC,3,true⟩⟩)]⟩) (λk=>k<=5/\((cpsA c).take k).all vldR=true) (λk=>5-k) 0 ?_ ?_ ?_
  .exact Qa (by simp [okS,okV,okC,okL,okH,okB,okE,Za,Ja,za,ja,wsA,ws,rC,cps3]) ⟨QH rfl,ubi rfl,trivial⟩
  .exact ⟨Nat.zero_le _,rfl⟩
  .rintro k ⟨hk,hall⟩
   by_cases hlt:k<5
   .obtain ⟨x,hx⟩:∃x,(cpsA c).getD k (rcan 0)=x:=⟨_,rfl⟩
    have hx0:(cpsA c)[k]?=some x:=by
     rw [<-hx,List.getD_eq_getElem?_getD,List.getElem?_eq_getElem (by omega)];rfl
    obtain ⟨g1,g2⟩:=h5 x (List.mem_of_getElem? hx0)
    have hlt' : ((k:Nat):Int)<5:=by omega
    cases hz:vldR x with
    | true=>
     simp only [go_sem,hlt',hlt,hr,Jv,n5,hx,rC,hz]
     repeat (first | (refine And.intro (by omega) ?_) | (refine And.intro (by assumption) ?_) | (refine And.intro rfl ?_) | (refine And.intro ⟨rfl,by omega⟩ ?_) | (refine And.intro ⟨rfl,by omega,by omega⟩ ?_) | (intro _))
     exact ⟨k+1,Qa (by simp [okS,okV,okC,okL,okH,okB,okE,Za,Ja,za,ja,wsA,ws,rC,cps3]) ⟨QH rfl,ubi rfl,trivial⟩,⟨by omega,allS hx0 hall hz⟩,by omega⟩
    | false=>
     have hf:(cpsA c).all vldR=false:=by
      rw [List.all_eq_false]
      exact ⟨x,List.mem_of_getElem? hx0,by simp [hz]⟩
     rw [hk2 hf]at hK
     simp only [go_sem,hlt',hlt,hr,Jv,n5,hx,rC,hz]
     repeat (first | (refine And.intro (by omega) ?_) | (refine And.intro (by assumption) ?_) | (refine And.intro rfl ?_) | (refine And.intro ⟨rfl,by omega⟩ ?_) | (refine And.intro ⟨rfl,by omega,by omega⟩ ?_) | (intro _))
     exact hK
   .have hv5:(cps5 c).all vldR=true:=by rw [List.take_of_length_le (by omega)]at hall;rw [<-Wbe];exact hall
    have hlt' : ¬((k:Nat):Int)<5:=by omega
    cases ha:avld c.1 with
    | false=>
     have e:cchk c=2:=if_pos (.inl ha)
     rw [e]at hK
     simp only [go_sem,hlt',hv,cpC,jd,ha]
     repeat (first | (refine And.intro (by omega) ?_) | (refine And.intro (by assumption) ?_) | (refine And.intro rfl ?_) | (refine And.intro ⟨rfl,by omega⟩ ?_) | (refine And.intro ⟨rfl,by omega,by omega⟩ ?_) | (intro _))
     exact hK
    | true=>
    cases hb:avld c.2.1 with
    | false=>
     have e:cchk c=2:=if_pos (.inr hb)
     rw [e]at hK
     simp only [go_sem,hlt',hv,cpC,jd,ha,hb]
     repeat (first | (refine And.intro (by omega) ?_) | (refine And.intro (by assumption) ?_) | (refine And.intro rfl ?_) | (refine And.intro ⟨rfl,by omega⟩ ?_) | (refine And.intro ⟨rfl,by omega,by omega⟩ ?_) | (intro _))
     exact hK
    | true=>
     have hab:¬(avld c.1=false∨avld c.2.1=false):=by simp [ha,hb]
     have hch:cchk c=if (cps3 c).all gt0R=false then 3 else if av c.1=av c.2.1 then 8 else 0:=by
      unfold cchk;rw [if_neg hab,if_neg (by simp [hv5])]
     rw [hch]at hK
     simp only [go_sem,hlt',hv,cpC,jd,ha,hb]
     repeat (first | (refine And.intro (by omega) ?_) | (refine And.intro (by assumption) ?_) | (refine And.intro rfl ?_) | (refine And.intro ⟨rfl,by omega⟩ ?_) | (refine And.intro ⟨rfl,by omega,by omega⟩ ?_) | (intro _))
     refine Wa (λk:Nat=>⟨mkV [(1,.one (.ptr 1 1 0 0)),(41,.one (.full ((cps3 c).map rC))),(42,.one (.lit (.int .i64 3))),(43,.one (.lit (.int .i64 k)))],mkH [(1,⟨1,some ⟨[cpC c],27,true⟩⟩)]⟩) (λk=>k<=3/\((cps3 c).take k).all gt0R=true) (λk=>3-k) 0 ?_ ?_ ?_
     .exact Qa (by simp [okS,okV,okC,okL,okH,okB,okE,Za,Ja,za,ja,wsA,ws,rC,cps3]) ⟨QH rfl,trivial⟩
     .exact ⟨Nat.zero_le _,rfl⟩
     .rintro k ⟨hk,hall⟩
      by_cases hlt:k<3
      .obtain ⟨x,hx⟩:∃x,(cps3 c).getD k (rcan 0)=x:=⟨_,rfl⟩
       have hx0:(cps3 c)[k]?=some x:=by
        rw [<-hx,List.getD_eq_getElem?_getD,List.getElem?_eq_getElem (by omega)];rfl
       obtain ⟨g1,g2⟩:=h3 x (List.mem_of_getElem? hx0)
       have hlt' : ((k:Nat):Int)<3:=by omega
       cases hz:gt0R x with
       | true=>
        have hp:(ordQ (rv x) 0<=0)=False:=by rw [WH];simpa [gt0R] using hz
        simp only [go_sem,hlt',hlt,hg,Jv,n3,hx,rC,hp]
        repeat (first | (refine And.intro (by omega) ?_) | (refine And.intro (by assumption) ?_) | (refine And.intro rfl ?_) | (refine And.intro ⟨rfl,by omega⟩ ?_) | (refine And.intro ⟨rfl,by omega,by omega⟩ ?_) | (intro _))
        exact ⟨k+1,Qa (by simp [okS,okV,okC,okL,okH,okB,okE,Za,Ja,za,ja,wsA,ws,rC,cps3]) ⟨QH rfl,trivial⟩,⟨by omega,allS hx0 hall hz⟩,by omega⟩
       | false=>
        have hp:(ordQ (rv x) 0<=0)=True:=by rw [WH];simpa [gt0R] using hz
        have hf:(cps3 c).all gt0R=false:=by
         rw [List.all_eq_false]
         exact ⟨x,List.mem_of_getElem? hx0,by simp [hz]⟩
        rw [if_pos hf]at hK
        simp only [go_sem,hlt',hlt,hg,Jv,n3,hx,rC,hp]
        repeat (first | (refine And.intro (by omega) ?_) | (refine And.intro (by assumption) ?_) | (refine And.intro rfl ?_) | (refine And.intro ⟨rfl,by omega⟩ ?_) | (refine And.intro ⟨rfl,by omega,by omega⟩ ?_) | (intro _))
        exact hK
      .have hv3:(cps3 c).all gt0R=true:=by rw [List.take_of_length_le (by omega)]at hall;exact hall
       rw [if_neg (by simp [hv3])]at hK
       have hlt' : ¬((k:Nat):Int)<3:=by omega
       by_cases q1:av c.1=av c.2.1
       .rw [if_pos q1]at hK
        simp only [go_sem,hlt',cpC,hs,jd,decide_eq_true q1]
        repeat (first | (refine And.intro (by omega) ?_) | (refine And.intro (by assumption) ?_) | (refine And.intro rfl ?_) | (refine And.intro ⟨rfl,by omega⟩ ?_) | (refine And.intro ⟨rfl,by omega,by omega⟩ ?_) | (intro _))
        exact hK
       .rw [if_neg q1]at hK
        simp only [go_sem,hlt',cpC,hs,jd,decide_eq_false q1]
        repeat (first | (refine And.intro (by omega) ?_) | (refine And.intro (by assumption) ?_) | (refine And.intro rfl ?_) | (refine And.intro ⟨rfl,by omega⟩ ?_) | (refine And.intro ⟨rfl,by omega,by omega⟩ ?_) | (intro _))
        exact hK
end Go.Abs
end
