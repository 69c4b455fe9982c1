/-
  Parts of the proof, merged: PoseF, PoseG, PoseH, PoseJ, PoseQ, PoseL.
-/
import Derived.Test.YtneiiodebbmcaaaGreatDoorM7
set_option linter.unusedVariables false
set_option linter.unusedSimpArgs false
set_option maxRecDepth 100000
section
namespace Go.Num
open Go.Abs
def pt(i:Nat)(A:List V2):V2:=A.getD i (0,0)
theorem Xaw(A:List V2)(i:Nat):(A.map acan).getD i a0=acan (pt i A):=by
 unfold pt;rw [List.getD_eq_getElem?_getD,List.getD_eq_getElem?_getD,List.getElem?_map];cases A[i]? with
 | none=>simp only [Option.map_none,Option.getD_none,acan,a0,yb]
 | some x=>rfl
def ciV(A:List V2):V2:=ciQ (pt 0 A) (subQ (pt 1 A) (pt 0 A)) (subQ (pt 2 A) (pt 0 A))
def crV(A:List V2):Rat:=crossQ (subQ (pt 1 A) (pt 0 A)) (subQ (pt 2 A) (pt 0 A))
theorem xbq(A:List V2):ciL (A.map acan)=ciV A:=by unfold ciL ciV;simp only [Xaw,xau]
theorem kbo(A:List V2):crL (A.map acan)=crV A:=by unfold crL crV;simp only [Xaw,xau]
def othV(A:List V2):V2:=if pt 0 A=pt 1 A then pt 2 A else pt 1 A
def lnC(A:List V2):Nat:=if pt 0 A=othV A then 8 else if crV A≠0 then 21 else 0
def lnA(A:List V2):Rat:=if lnC A=0 then (pt 0 A).2-(othV A).2 else 0
def lnB(A:List V2):Rat:=if lnC A=0 then (othV A).1-(pt 0 A).1 else 0
def lnK(A:List V2):Rat:=if lnC A=0 then ((pt 0 A).2-(othV A).2)*(pt 0 A).1+((othV A).1-(pt 0 A).1)*(pt 0 A).2 else 0
abbrev DyQ:=V2×V2×Rat
def dl(d:Dy):Nat:=max (al d.1) (max (al d.2.1) (rl d.2.2))
def dvld(d:Dy):Bool:=avld d.1 && (avld d.2.1 && vldR d.2.2)
def d0:DyQ:=((0,0),(0,0),0)
def cenC(l:List Ps)(m:Arc):Nat:=if chkC l [m]≠0 then chkC l [m] else if crV (imgs l m)=0 then 8 else 0
def cenQ(A:List V2)(m:V2):DyQ:=(ciV A,m,sqQ (subQ (pt 0 A) (ciV A)))
def lineC(l:List Ps)(m:Arc):Nat:=if chkC l [m]≠0 then chkC l [m] else lnC (imgs l m)
def psnC(l:List Ps)(d:Dy):Nat:=if plchk l≠0 then plchk l else if dvld d then 0 else 2
def psnB(l:List Ps)(d:Dy):Bool:=(imgs l d.2.1).all λx=>decide (sqQ (subQ x (av d.1))=rv d.2.2)
theorem jbU{p u v:V2}{b:Nat}(hu:zq u<=b)(hv:zq v<=b):zq (ciQ p u v)<=zq p+14*b+32:=by
 unfold ciQ;split
 .have:zq (0,0)=0:=by unfold zq;rw [rz_0];rfl
  omega
 .have u1:rz u.1<=zq u:=Nat.le_max_left _ _;have u2:rz u.2<=zq u:=Nat.le_max_right _ _;have v1:rz v.1<=zq v:=Nat.le_max_left _ _;have v2:rz v.2<=zq v:=Nat.le_max_right _ _;have p1:rz p.1<=zq p:=Nat.le_max_left _ _;have p2:rz p.2<=zq p:=Nat.le_max_right _ _;have su:=J2 u;have sv:=J2 v;have zc:=JJ u v;have zt:=ka6 2;have zt2:zs 2<=2:=Y2 (by decide)
  have e2:(((2:Int)):Rat)=2:=rfl;rw [e2]at zt;have md:=ub 2 (crossQ u v);have m1:=ub (sqQ u) v.2;have m2:=ub (sqQ v) u.2;have m3:=ub (sqQ v) u.1;have m4:=ub (sqQ u) v.1;have s1:=Zo (sqQ u*v.2) (sqQ v*u.2);have s2:=Zo (sqQ v*u.1) (sqQ u*v.1);have d1:=kK (sqQ u*v.2-sqQ v*u.2) (2*crossQ u v);have d2:=kK (sqQ v*u.1-sqQ u*v.1) (2*crossQ u v);have a1:=qo p.1 ((sqQ u*v.2-sqQ v*u.2) / (2*crossQ u v));have a2:=qo p.2 ((sqQ v*u.1-sqQ u*v.1) / (2*crossQ u v));have g:zq (ctrQ p u v)=max (rz (p.1+(sqQ u*v.2-sqQ v*u.2) / (2*crossQ u v))) (rz (p.2+(sqQ v*u.1-sqQ u*v.1) / (2*crossQ u v))):=rfl;rw [g];exact Nat.max_le.2 ⟨by omega,by omega⟩
theorem Xi{b c:Nat}{l:List Ps}(h:okPs b l)(hb:b<=c):okPs c l:=λp hp=>⟨(h p hp).1,Nat.le_trans (h p hp).2 hb⟩
end Go.Num
namespace Go.Abs
open Go.Num
variable {P:Program} {Γ:Nat->Spec}
def dqA(d:DyQ):AV:=.agg [cb (rcan d.1.1),cn (rcan d.1.1),cd (rcan d.1.1),cb (rcan d.1.2),cn (rcan d.1.2),cd (rcan d.1.2),cb (rcan d.2.1.1),cn (rcan d.2.1.1),cd (rcan d.2.1.1),cb (rcan d.2.1.2),cn (rcan d.2.1.2),cd (rcan d.2.1.2),cb (rcan d.2.2),cn (rcan d.2.2),cd (rcan d.2.2)]
theorem X6(d:DyQ):dqA d=.agg [cb (rcan d.1.1),cn (rcan d.1.1),cd (rcan d.1.1),cb (rcan d.1.2),cn (rcan d.1.2),cd (rcan d.1.2),cb (rcan d.2.1.1),cn (rcan d.2.1.1),cd (rcan d.2.1.1),cb (rcan d.2.1.2),cn (rcan d.2.1.2),cd (rcan d.2.1.2),cb (rcan d.2.2),cn (rcan d.2.2),cd (rcan d.2.2)]:=eq_of_heq (HEq.refl _)
attribute [go_sem,go_sem ↓] X6
def Jan(tE:Nat)(l:List AV)(K:AV->Prop):Prop:=
 match l with
 | [a,b]=>onPs (λl=>onA (λm=>okPs 1000 l/\al m<=10000/\K (.tup [rQ (if lineC l m=0 then lnA (imgs l m) else 0),rQ (if lineC l m=0 then lnB (imgs l m) else 0),rQ (if lineC l m=0 then lnK (imgs l m) else 0),errV tE (lineC l m)])) b) a
 | _=>False
theorem vat(tE:Nat)(a b:AV)(K:AV->Prop):Jan tE [a,b] K=(onPs (λl=>onA (λm=>okPs 1000 l/\al m<=10000/\K (.tup [rQ (if lineC l m=0 then lnA (imgs l m) else 0),rQ (if lineC l m=0 then lnB (imgs l m) else 0),rQ (if lineC l m=0 then lnK (imgs l m) else 0),errV tE (lineC l m)])) b) a):=propext Iff.rfl
@[congr] theorem QbO (tE:Nat) {K:AV->Prop} {l l' : List AV} (h:l=l'):Jan tE l K=Jan tE l' K:=by subst h;rfl
attribute [go_sem,go_sem ↓] vat
def Jai(l:List AV)(K:AV->Prop):Prop:=
 match l with
 | [a,b]=>onPs (λl=>onA (λm=>okPs 1000 l/\al m<=10000/\l.length=3/\K (.tup [rQ (lnA (imgs l m)),rQ (lnB (imgs l m)),rQ (lnK (imgs l m)),.one (.lit (.int .i64 (lnC (imgs l m):Nat)))])) b) a
 | _=>False
theorem qay(a b:AV)(K:AV->Prop):Jai [a,b] K=(onPs (λl=>onA (λm=>okPs 1000 l/\al m<=10000/\l.length=3/\K (.tup [rQ (lnA (imgs l m)),rQ (lnB (imgs l m)),rQ (lnK (imgs l m)),.one (.lit (.int .i64 (lnC (imgs l m):Nat)))])) b) a):=propext Iff.rfl
@[congr] theorem wbL {K:AV->Prop} {l l' : List AV} (h:l=l'):Jai l K=Jai l' K:=by subst h;rfl
attribute [go_sem,go_sem ↓] qay
def QO(tE:Nat)(l:List AV)(K:AV->Prop):Prop:=
 match l with
 | [a,b]=>onPs (λl=>onA (λm=>okPs 1000 l/\al m<=10000/\K (.tup [dqA (if cenC l m=0 then cenQ (imgs l m) (av m) else d0),errV tE (cenC l m)])) b) a
 | _=>False
theorem YS(tE:Nat)(a b:AV)(K:AV->Prop):QO tE [a,b] K=(onPs (λl=>onA (λm=>okPs 1000 l/\al m<=10000/\K (.tup [dqA (if cenC l m=0 then cenQ (imgs l m) (av m) else d0),errV tE (cenC l m)])) b) a):=propext Iff.rfl
@[congr] theorem kbx (tE:Nat) {K:AV->Prop} {l l' : List AV} (h:l=l'):QO tE l K=QO tE l' K:=by subst h;rfl
attribute [go_sem,go_sem ↓] YS
def xM(tE:Nat)(l:List AV)(K:AV->Prop):Prop:=
 match l with
 | [a,b]=>onPs (λl=>onDy (λd=>okPs 1000 l/\dl d<=100000/\K (.tup [.one (.lit (.bool (decide (psnC l d=0) && psnB l d))),errV tE (psnC l d)])) b) a
 | _=>False
theorem QQ(tE:Nat)(a b:AV)(K:AV->Prop):xM tE [a,b] K=(onPs (λl=>onDy (λd=>okPs 1000 l/\dl d<=100000/\K (.tup [.one (.lit (.bool (decide (psnC l d=0) && psnB l d))),errV tE (psnC l d)])) b) a):=propext Iff.rfl
@[congr] theorem wbw (tE:Nat) {K:AV->Prop} {l l' : List AV} (h:l=l'):xM tE l K=xM tE l' K:=by subst h;rfl
attribute [go_sem,go_sem ↓] QQ
end Go.Abs
end
section
namespace Go.Num
open Go.Abs
def exPs:List Ps:=[((rcan 0,false),(rcan 0,rcan 0)),((rcan 0,false),(rcan 2,rcan 0)),((rcan 0,true),(rcan 2,rcan 2))]
def o2:Arc:=(rcan 0,rcan 0)
theorem rz_2:rz 2<=2:=by
 have zt:=ka6 2;have zt2:zs 2<=2:=Y2 (by decide)
 have e2:(((2:Int)):Rat)=2:=rfl;rw [e2]at zt;omega
end Go.Num
namespace Go.Abs
open Go.Num
variable {P:Program} {Γ:Nat->Spec}
def qaX(l:List AV)(K:AV->Prop):Prop:=
 match l with
 | []=>K (psA exPs)
 | _=>False
theorem Za6(K:AV->Prop):qaX [] K=(K (psA exPs)):=propext Iff.rfl
@[congr] theorem qbX {K:AV->Prop} {l l' : List AV} (h:l=l'):qaX l K=qaX l' K:=by subst h;rfl
attribute [go_sem,go_sem ↓] Za6
def qak(l:List AV)(K:AV->Prop):Prop:=
 match l with
 | []=>K (.one (.lit (.bool true)))
 | _=>False
theorem Qay(K:AV->Prop):qak [] K=(K (.one (.lit (.bool true)))):=propext Iff.rfl
@[congr] theorem ZbN {K:AV->Prop} {l l' : List AV} (h:l=l'):qak l K=qak l' K:=by subst h;rfl
attribute [go_sem,go_sem ↓] Qay
def QZ(l:List AV)(K:AV->Prop):Prop:=
 match l with
 | [a,b]=>onPs (λl=>onA (λm=>okPs 1048576 l/\al m<=1048576/\K (.one (.lit (.bool true)))) b) a
 | _=>False
theorem uaa(a b:AV)(K:AV->Prop):QZ [a,b] K=(onPs (λl=>onA (λm=>okPs 1048576 l/\al m<=1048576/\K (.one (.lit (.bool true)))) b) a):=propext Iff.rfl
@[congr] theorem VbD {K:AV->Prop} {l l' : List AV} (h:l=l'):QZ l K=QZ l' K:=by subst h;rfl
attribute [go_sem,go_sem ↓] uaa
theorem xbb{l:List Ps}(hw:∀p∈l,WLP p)(h:l.all sP=true):okPs 2 l:=by
 intro p hp;have hs:=List.all_eq_true.1 h p hp;simp only [sP,Bool.and_eq_true]at hs;exact⟨hw p hp,Nat.max_le.2 ⟨Qa6 hs.1,Nat.max_le.2 ⟨Qa6 hs.2.1,Qa6 hs.2.2⟩⟩⟩
theorem zbe{m:Arc}(h:sA m=true):al m<=2:=by
 simp only [sA,Bool.and_eq_true]at h;exact Nat.max_le.2 ⟨Qa6 h.1,Qa6 h.2⟩
end Go.Abs
end
section
namespace Go.Num
open Go.Abs
instance decAR:DecidableEq (Arc×R):=instDecidableEqProd
instance decDy:DecidableEq Dy:=instDecidableEqProd
def dz:Dy:=(((false,[],[]),(false,[],[])),((false,[],[]),(false,[],[])),(false,[],[]))
def cenR(A:List V2)(m:Arc):Dy:=(acan (ciV A),m,rcan (sqQ (subQ (pt 0 A) (ciV A))))
def movR(A:List V2)(m:Arc):Dy:=(m,acan (ciV A),rcan (sqQ (subQ (pt 0 A) (ciV A))))
def pcan(p:PsQ):Ps:=((rcan p.1.1,p.1.2),acan p.2)
theorem VbE(p:PsQ):pv (pcan p)=p:=by unfold pv pcan tv;simp only [Qb,xau]
def imgsB(l:List Ps)(o:Arc):List V2:=l.map λp=>appQ (invQ (pv p)) (av o)
theorem Vbm(p:PsQ):WLP (pcan p):=⟨Ze _,vd _⟩
def movC(l:List Ps)(o:Arc):Nat:=if chkC l [o]≠0 then chkC l [o] else if crV (imgsB l o)=0 then 8 else 0
def movQ(A:List V2)(o:V2):DyQ:=(o,ciV A,sqQ (subQ (pt 0 A) (ciV A)))
end Go.Num
namespace Go.Abs
open Go.Num
variable {P:Program} {Γ:Nat->Spec}
def zK(l:List AV)(K:AV->Prop):Prop:=
 match l with
 | [a,b]=>onPs (λl=>onA (λm=>okPs 1000 l/\al m<=10000/\l.length=3/\K (.tup [dA (if crV (imgs l m)=0 then dz else cenR (imgs l m) m),.one (.lit (.int .i64 (if crV (imgs l m)=0 then 8 else 0)))])) b) a
 | _=>False
theorem qT(a b:AV)(K:AV->Prop):zK [a,b] K=(onPs (λl=>onA (λm=>okPs 1000 l/\al m<=10000/\l.length=3/\K (.tup [dA (if crV (imgs l m)=0 then dz else cenR (imgs l m) m),.one (.lit (.int .i64 (if crV (imgs l m)=0 then 8 else 0)))])) b) a):=propext Iff.rfl
@[congr] theorem ybw {K:AV->Prop} {l l' : List AV} (h:l=l'):zK l K=zK l' K:=by subst h;rfl
attribute [go_sem,go_sem ↓] qT
def kO(l:List AV)(K:AV->Prop):Prop:=
 match l with
 | [a,b]=>onPs (λl=>onA (λm=>okPs 1000 l/\al m<=10000/\l.length=3/\K (.tup [dA (if crV (imgsB l m)=0 then dz else movR (imgsB l m) m),.one (.lit (.int .i64 (if crV (imgsB l m)=0 then 8 else 0)))])) b) a
 | _=>False
theorem qV(a b:AV)(K:AV->Prop):kO [a,b] K=(onPs (λl=>onA (λm=>okPs 1000 l/\al m<=10000/\l.length=3/\K (.tup [dA (if crV (imgsB l m)=0 then dz else movR (imgsB l m) m),.one (.lit (.int .i64 (if crV (imgsB l m)=0 then 8 else 0)))])) b) a):=propext Iff.rfl
@[congr] theorem Ubw {K:AV->Prop} {l l' : List AV} (h:l=l'):kO l K=kO l' K:=by subst h;rfl
attribute [go_sem,go_sem ↓] qV
def qO(tE:Nat)(l:List AV)(K:AV->Prop):Prop:=
 match l with
 | [a,b]=>onPs (λl=>onA (λm=>okPs 1000 l/\al m<=10000/\K (.tup [dqA (if movC l m=0 then movQ (imgsB l m) (av m) else d0),errV tE (movC l m)])) b) a
 | _=>False
theorem WR(tE:Nat)(a b:AV)(K:AV->Prop):qO tE [a,b] K=(onPs (λl=>onA (λm=>okPs 1000 l/\al m<=10000/\K (.tup [dqA (if movC l m=0 then movQ (imgsB l m) (av m) else d0),errV tE (movC l m)])) b) a):=propext Iff.rfl
@[congr] theorem jbx (tE:Nat) {K:AV->Prop} {l l' : List AV} (h:l=l'):qO tE l K=qO tE l' K:=by subst h;rfl
attribute [go_sem,go_sem ↓] WR
def qL(l:List AV)(K:AV->Prop):Prop:=
 match l with
 | [a,b]=>onPs (λl=>onDy (λd=>okPs 1000 l/\dl d<=100000/\l.length<=1000/\K (.one (.lit (.bool (psnB l d))))) b) a
 | _=>False
theorem VP(a b:AV)(K:AV->Prop):qL [a,b] K=(onPs (λl=>onDy (λd=>okPs 1000 l/\dl d<=100000/\l.length<=1000/\K (.one (.lit (.bool (psnB l d))))) b) a):=propext Iff.rfl
@[congr] theorem ubw {K:AV->Prop} {l l' : List AV} (h:l=l'):qL l K=qL l' K:=by subst h;rfl
attribute [go_sem,go_sem ↓] VP
def yaj(l:List AV)(K:AV->Prop):Prop:=
 match l with
 | [a]=>onDy (λd=>dl d<=100000/\K (.one (.lit (.bool (dvld d))))) a
 | _=>False
theorem Vas(a:AV)(K:AV->Prop):yaj [a] K=(onDy (λd=>dl d<=100000/\K (.one (.lit (.bool (dvld d))))) a):=propext Iff.rfl
@[congr] theorem VbL {K:AV->Prop} {l l' : List AV} (h:l=l'):yaj l K=yaj l' K:=by subst h;rfl
attribute [go_sem,go_sem ↓] Vas
def kN(l:List AV)(K:AV->Prop):Prop:=
 match l with
 | [a]=>onDy (λd=>dl d<=4294967296/\K (.one (.lit (.bool (sA d.1 && (sA d.2.1 && sR 4 d.2.2)))))) a
 | _=>False
theorem QS(a:AV)(K:AV->Prop):kN [a] K=(onDy (λd=>dl d<=4294967296/\K (.one (.lit (.bool (sA d.1 && (sA d.2.1 && sR 4 d.2.2)))))) a):=propext Iff.rfl
@[congr] theorem vbx {K:AV->Prop} {l l' : List AV} (h:l=l'):kN l K=kN l' K:=by subst h;rfl
attribute [go_sem,go_sem ↓] QS
def Qs(l:List AV)(K:AV->Prop):Prop:=
 match l with
 | [a,b]=>onDy (λd=>onDy (λe=>dl d<=4294967296/\K (.one (.lit (.bool (decide (d=e)))))) b) a
 | _=>False
theorem Jaa(a b:AV)(K:AV->Prop):Qs [a,b] K=(onDy (λd=>onDy (λe=>dl d<=4294967296/\K (.one (.lit (.bool (decide (d=e)))))) b) a):=propext Iff.rfl
@[congr] theorem qbA {K:AV->Prop} {l l' : List AV} (h:l=l'):Qs l K=Qs l' K:=by subst h;rfl
attribute [go_sem,go_sem ↓] Jaa
theorem Wai:Good Qs:=Wa λas=>by
 unfold Qs;split
 .exact(Ybh λ_=>(Ybh λ_=>(.and λ_=>(.ret _))))
 .exact .of λK hk=>hk.elim
def jd(f0 f1:Nat):AC:=(.seq (.ops false [.u 2 (.box 15 (.t 0)),.u 3 (.box 15 (.t 1)),.m 4 .fa])
 (.fg [2,3] (.seq (.ops false [.u 5 (.fa 0 (.t 2)),.u 6 (.ld none 6 true (.t 5)),.u 7 (.fa 0 (.t 3)),.u 8 (.ld none 6 true (.t 7)),.u 9 (.call f0 [(.t 6),(.t 8)]),.m 10 (.t 9),.w 11 10 true (.fa 6 (.t 2)),.w 12 10 true (.ld none 6 true (.t 11)),.w 13 10 true (.fa 6 (.t 3)),.w 14 10 true (.ld none 6 true (.t 13)),.w 15 10 true (.call f0 [(.t 12),(.t 14)]),.u 16 (.pick (.t 10) (.t 15) .fa),.m 17 (.t 16),.w 18 17 true (.fa 12 (.t 2)),.w 19 17 true (.ld none 3 true (.t 18)),.w 20 17 true (.fa 12 (.t 3)),.w 21 17 true (.ld none 3 true (.t 20)),.w 22 17 true (.call f1 [(.t 19),(.t 21)]),.u 23 (.pick (.t 17) (.t 22) .fa),.m 4 (.t 23)])
 .ret)))
theorem wad(hΓ:Holds P Γ){f fs fr:Nat}(hs:Γ fs=.dat true Xz)(hr:Γ fr=.dat true VD)(hc:check P f=some (24,(jd fs fr).strip,[.tmp 4])):Sound P f (.dat true Qs):=by
 refine ka hc Wai hΓ (λargs K hcl hfi hG=>?_);match args,hG with
 | [a,b],hG=>
  obtain⟨⟨c,m,r⟩,rfl,⟨hwc,hwm,hwr⟩,⟨c',m',r'⟩,rfl,⟨hwc',hwm',hwr'⟩,hd,hK⟩:=hG;refine⟨by simp,?_⟩
  have dc:al c<=4294967296:=Nat.le_trans (Nat.le_max_left _ _) hd;have dm:al m<=4294967296:=Nat.le_trans (Nat.le_trans (Nat.le_max_left _ _) (Nat.le_max_right _ _)) hd;have dr:rl r<=4294967296:=Nat.le_trans (Nat.le_trans (Nat.le_max_right _ _) (Nat.le_max_right _ _)) hd;simp only at hwc hwm hwr hwc' hwm' hwr';have e:decide ((c,m,r)=(c',m',r'))=(decide (c=c') && (decide (m=m') && decide (r=r'))):=by
   rw [<-Bool.decide_and,<-Bool.decide_and,decide_eq_decide];simp only [Prod.mk.injEq]
  rw [e]at hK;cases h1:decide (c=c') with
  | false=>
   rw [h1]at hK;simp only [go_sem,jd,hs,hr,dA,dC,Zb,h1];repeat first | refine Ja (by omega) ?_ | refine Ja (by assumption) ?_ | refine Ja rfl ?_ | refine Ja ⟨rfl,by omega⟩ ?_ | refine Ja ⟨rfl,by omega,by omega⟩ ?_ | intro _
   exact hK
  | true=>
   cases h2:decide (m=m') with
   | false=>
    rw [h1,h2]at hK;simp only [go_sem,jd,hs,hr,dA,dC,Zb,h1,h2];repeat first | refine Ja (by omega) ?_ | refine Ja (by assumption) ?_ | refine Ja rfl ?_ | refine Ja ⟨rfl,by omega⟩ ?_ | refine Ja ⟨rfl,by omega,by omega⟩ ?_ | intro _
    exact hK
   | true=>
    rw [h1,h2,Bool.true_and,Bool.true_and]at hK;simp only [go_sem,jd,hs,hr,dA,dC,Zb,h1,h2];repeat first | refine Ja (by omega) ?_ | refine Ja (by assumption) ?_ | refine Ja rfl ?_ | refine Ja ⟨rfl,by omega⟩ ?_ | refine Ja ⟨rfl,by omega,by omega⟩ ?_ | intro _
    exact hK
end Go.Abs
end
section
namespace Go.Num
open Go.Abs
theorem ybf:dz=((rcan 0,rcan 0),(rcan 0,rcan 0),rcan 0):=by unfold dz;rw [yb]
theorem Vbl{m:Arc}(hw:WLA m)(h:avld m=true):(rcan (av m).1,rcan (av m).2)=m:=by
 unfold avld at h;rw [Bool.and_eq_true]at h;exact Prod.ext (Qz hw.1 h.1) (Qz hw.2 h.2)
end Go.Num
namespace Go.Abs
open Go.Num
variable {P:Program} {Γ:Nat->Spec}
theorem wbP:((2:Nat):Int)=2:=rfl
theorem zbz:((0:Nat):Int)=0:=rfl
def yX(l:List AV)(K:AV->Prop):Prop:=
 match l with
 | [a,b]=>onPs (λl=>onA (λm=>okPs 1048576 l/\al m<=1048576/\K (.one (.lit (.bool true)))) b) a
 | _=>False
theorem xac(a b:AV)(K:AV->Prop):yX [a,b] K=(onPs (λl=>onA (λm=>okPs 1048576 l/\al m<=1048576/\K (.one (.lit (.bool true)))) b) a):=propext Iff.rfl
@[congr] theorem Vby {K:AV->Prop} {l l' : List AV} (h:l=l'):yX l K=yX l' K:=by subst h;rfl
attribute [go_sem,go_sem ↓] xac
end Go.Abs
end
section
namespace Go.Num
open Go.Abs
end Go.Num
end
section
namespace Go.Num
open Go.Abs
abbrev P3:=Ps×Ps×Ps
def WL3(t:P3):Prop:=WLP t.1/\WLP t.2.1/\WLP t.2.2
def l3(t:P3):List Ps:=[t.1,t.2.1,t.2.2]
end Go.Num
namespace Go.Abs
open Go.Num
variable {P:Program} {Γ:Nat->Spec}
def p3C(t:P3):List C:=pC t.1++pC t.2.1++pC t.2.2
def p3A(t:P3):AV:=.agg (p3C t)
def onP3(k:P3->Prop)(a:AV):Prop:=onE p3A (λt=>WL3 t/\k t) a
@[congr] theorem ZbV {k:P3->Prop} {a a' : AV} (h:a=a'):onP3 k a=onP3 k a':=by subst h;rfl
theorem Vba(t:P3):CleanL (p3C t):=by
 intro c hc;simp only [p3C,List.mem_append]at hc;rcases hc with(hc | hc) | hc
 .exact yt _ c hc
 .exact yt _ c hc
 .exact yt _ c hc
theorem jaM(t:P3):(p3C t).length=30:=by simp [p3C,Xr]
theorem qat(t:P3):(p3C t).drop 0=p3C t:=rfl
theorem Qa1(t:P3):(p3C t).take 30=p3C t:=List.take_of_length_le (by rw [jaM];decide)
theorem VbI(t:P3):(p3C t).take 10=pC t.1:=by unfold p3C;rw [List.append_assoc,List.take_left' (Xr _)]
theorem Qbz(t:P3):(p3C t).drop 10=pC t.2.1++pC t.2.2:=by unfold p3C;rw [List.append_assoc,List.drop_left' (Xr _)]
theorem xbG(t:P3):((p3C t).drop 10).take 10=pC t.2.1:=by rw [Qbz,List.take_left' (Xr _)]
theorem ubJ(t:P3):(((p3C t).drop 10).drop 10).take 10=pC t.2.2:=by rw [Qbz,List.drop_left' (Xr _),List.take_of_length_le (by rw [Xr];decide)]
theorem wbk(t:P3)(r:List (List C)):datQ 0 0 (some ⟨p3C t::r,30,true⟩)=.ref (p3C t):=zF [] _ _ _ _ _ ⟨Nat.zero_le _,Vba t⟩
theorem Wbk(k:List Ps->Prop)(p q r:Ps):onPs k (.one (.slice [pC p,pC q,pC r]))=((∀x∈l3 (p,q,r),WLP x)/\k (l3 (p,q,r))):=YL k (l3 (p,q,r))
theorem xbg(t:P3):p3A t=.agg (p3C t):=eq_of_heq (HEq.refl _)
attribute [go_sem,go_sem ↓] Wbk jaM qat Qa1 VbI xbG ubJ wbk xbg
def Zal(l:List AV)(K:AV->Prop):Prop:=
 match l with
 | [a,b]=>onP3 (λt=>onA (λm=>okPs 1048576 (l3 t)/\al m<=1048576/\K (.one (.lit (.bool true)))) b) a
 | _=>False
theorem Wao(a b:AV)(K:AV->Prop):Zal [a,b] K=(onP3 (λt=>onA (λm=>okPs 1048576 (l3 t)/\al m<=1048576/\K (.one (.lit (.bool true)))) b) a):=propext Iff.rfl
@[congr] theorem wbM {K:AV->Prop} {l l' : List AV} (h:l=l'):Zal l K=Zal l' K:=by subst h;rfl
attribute [go_sem,go_sem ↓] Wao
end Go.Abs
end
