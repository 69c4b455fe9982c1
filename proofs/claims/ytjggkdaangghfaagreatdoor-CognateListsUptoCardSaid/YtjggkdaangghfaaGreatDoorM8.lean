/-
  Parts of the proof, merged: PoseF, PoseG, PoseH, PoseI, PoseJ, PoseK.
-/
import Derived.Test.YtjggkdaangghfaaGreatDoorM7
set_option linter.unusedVariables false
set_option linter.unusedSimpArgs false
set_option maxRecDepth 100000
section
namespace Go.Num
open Go.Abs
def pt(i:Nat)(A:List V2):V2:=A.getD i (0,0)
def ciV(A:List V2):V2:=ciQ (pt 0 A) (subQ (pt 1 A) (pt 0 A)) (subQ (pt 2 A) (pt 0 A))
def crV(A:List V2):Rat:=crossQ (subQ (pt 1 A) (pt 0 A)) (subQ (pt 2 A) (pt 0 A))
def othV(A:List V2):V2:=if pt 0 A=pt 1 A then pt 2 A else pt 1 A
def lnC(A:List V2):Nat:=if pt 0 A=othV A then 8 else if crV A≠0 then 21 else 0
def lnA(A:List V2):Rat:=if lnC A=0 then (pt 0 A).2-(othV A).2 else 0
def lnB(A:List V2):Rat:=if lnC A=0 then (othV A).1-(pt 0 A).1 else 0
def lnK(A:List V2):Rat:=if lnC A=0 then ((pt 0 A).2-(othV A).2)*(pt 0 A).1+((othV A).1-(pt 0 A).1)*(pt 0 A).2 else 0
abbrev DyQ:=V2×V2×Rat
def dl(d:Dy):Nat:=max (al d.1) (max (al d.2.1) (rl d.2.2))
def dvld(d:Dy):Bool:=avld d.1 && (avld d.2.1 && vldR d.2.2)
def d0:DyQ:=((0,0),(0,0),0)
def cenC(l:List Ps)(m:Arc):Nat:=if chkC l [m]≠0 then chkC l [m] else if crV (imgs l m)=0 then 8 else 0
def cenQ(A:List V2)(m:V2):DyQ:=(ciV A,m,sqQ (subQ (pt 0 A) (ciV A)))
def lineC(l:List Ps)(m:Arc):Nat:=if chkC l [m]≠0 then chkC l [m] else lnC (imgs l m)
def psnC(l:List Ps)(d:Dy):Nat:=if plchk l≠0 then plchk l else if dvld d then 0 else 2
def psnB(l:List Ps)(d:Dy):Bool:=(imgs l d.2.1).all λx=>decide (sqQ (subQ x (av d.1))=rv d.2.2)
end Go.Num
namespace Go.Abs
open Go.Num
variable {P:Program} {Γ:Nat->Spec}
def dqA(d:DyQ):AV:=.agg [cb (rcan d.1.1),cn (rcan d.1.1),cd (rcan d.1.1),cb (rcan d.1.2),cn (rcan d.1.2),cd (rcan d.1.2),cb (rcan d.2.1.1),cn (rcan d.2.1.1),cd (rcan d.2.1.1),cb (rcan d.2.1.2),cn (rcan d.2.1.2),cd (rcan d.2.1.2),cb (rcan d.2.2),cn (rcan d.2.2),cd (rcan d.2.2)]
theorem qbj(d:DyQ):dqA d=.agg [cb (rcan d.1.1),cn (rcan d.1.1),cd (rcan d.1.1),cb (rcan d.1.2),cn (rcan d.1.2),cd (rcan d.1.2),cb (rcan d.2.1.1),cn (rcan d.2.1.1),cd (rcan d.2.1.1),cb (rcan d.2.1.2),cn (rcan d.2.1.2),cd (rcan d.2.1.2),cb (rcan d.2.2),cn (rcan d.2.2),cd (rcan d.2.2)]:=eq_of_heq (HEq.refl _)
attribute [go_sem,go_sem ↓] qbj
def xah(tE:Nat)(l:List AV)(K:AV->Prop):Prop:=
 match l with
 | [a,b]=>onPs (λl=>onA (λm=>okPs 1000 l/\al m<=10000/\K (.tup [rQ (if lineC l m=0 then lnA (imgs l m) else 0),rQ (if lineC l m=0 then lnB (imgs l m) else 0),rQ (if lineC l m=0 then lnK (imgs l m) else 0),errV tE (lineC l m)])) b) a
 | _=>False
theorem Uat(tE:Nat)(a b:AV)(K:AV->Prop):xah tE [a,b] K=(onPs (λl=>onA (λm=>okPs 1000 l/\al m<=10000/\K (.tup [rQ (if lineC l m=0 then lnA (imgs l m) else 0),rQ (if lineC l m=0 then lnB (imgs l m) else 0),rQ (if lineC l m=0 then lnK (imgs l m) else 0),errV tE (lineC l m)])) b) a):=propext Iff.rfl
@[congr] theorem zbK (tE:Nat) {K:AV->Prop} {l l' : List AV} (h:l=l'):xah tE l K=xah tE l' K:=by subst h;rfl
attribute [go_sem,go_sem ↓] Uat
def yal(l:List AV)(K:AV->Prop):Prop:=
 match l with
 | [a,b]=>onPs (λl=>onA (λm=>okPs 1000 l/\al m<=10000/\l.length=3/\K (.tup [rQ (lnA (imgs l m)),rQ (lnB (imgs l m)),rQ (lnK (imgs l m)),.one (.lit (.int .i64 (lnC (imgs l m):Nat)))])) b) a
 | _=>False
theorem Yay(a b:AV)(K:AV->Prop):yal [a,b] K=(onPs (λl=>onA (λm=>okPs 1000 l/\al m<=10000/\l.length=3/\K (.tup [rQ (lnA (imgs l m)),rQ (lnB (imgs l m)),rQ (lnK (imgs l m)),.one (.lit (.int .i64 (lnC (imgs l m):Nat)))])) b) a):=propext Iff.rfl
@[congr] theorem ybJ {K:AV->Prop} {l l' : List AV} (h:l=l'):yal l K=yal l' K:=by subst h;rfl
attribute [go_sem,go_sem ↓] Yay
def xJ(tE:Nat)(l:List AV)(K:AV->Prop):Prop:=
 match l with
 | [a,b]=>onPs (λl=>onA (λm=>okPs 1000 l/\al m<=10000/\K (.tup [dqA (if cenC l m=0 then cenQ (imgs l m) (av m) else d0),errV tE (cenC l m)])) b) a
 | _=>False
theorem ZU(tE:Nat)(a b:AV)(K:AV->Prop):xJ tE [a,b] K=(onPs (λl=>onA (λm=>okPs 1000 l/\al m<=10000/\K (.tup [dqA (if cenC l m=0 then cenQ (imgs l m) (av m) else d0),errV tE (cenC l m)])) b) a):=propext Iff.rfl
@[congr] theorem Wbu (tE:Nat) {K:AV->Prop} {l l' : List AV} (h:l=l'):xJ tE l K=xJ tE l' K:=by subst h;rfl
attribute [go_sem,go_sem ↓] ZU
def uL(tE:Nat)(l:List AV)(K:AV->Prop):Prop:=
 match l with
 | [a,b]=>onPs (λl=>onDy (λd=>okPs 1000 l/\dl d<=100000/\K (.tup [.one (.lit (.bool (decide (psnC l d=0) && psnB l d))),errV tE (psnC l d)])) b) a
 | _=>False
theorem QU(tE:Nat)(a b:AV)(K:AV->Prop):uL tE [a,b] K=(onPs (λl=>onDy (λd=>okPs 1000 l/\dl d<=100000/\K (.tup [.one (.lit (.bool (decide (psnC l d=0) && psnB l d))),errV tE (psnC l d)])) b) a):=propext Iff.rfl
@[congr] theorem xbu (tE:Nat) {K:AV->Prop} {l l' : List AV} (h:l=l'):uL tE l K=uL tE l' K:=by subst h;rfl
attribute [go_sem,go_sem ↓] QU
theorem Xal(hΓ:Holds P Γ){f fp fm fc:Nat}(hp:Γ fp=.dat false Xd)(hm:Γ fm=.dat false Wv)(hc' : Γ fc=.dat true QC)(hc:check P f=some (26,(Xu fp fm fc).strip,[.tmp 4])):Sound P f (.dat true kf):=by
 refine Va hc UJ hΓ (λargs K hcl hfi hG=>?_);match args,hG with
 | [a,b],hG=>
  obtain⟨x,rfl,hx,y,rfl,hy,hl,hl',hK⟩:=hG;refine⟨by simp,?_⟩
  simp only [go_sem,Xu,hp,hm,hc',hx,hy];have n1:=JB hx;have d1:=VB hx;have n2:=JB hy;have d2:=VB hy;rw [<-wa3];exact⟨by omega,by omega,by omega,by omega,by omega,by omega,hK⟩
end Go.Abs
end
section
namespace Go.Num
open Go.Abs
def exPs:List Ps:=[((rcan 0,false),(rcan 0,rcan 0)),((rcan 0,false),(rcan 2,rcan 0)),((rcan 0,true),(rcan 2,rcan 2))]
def o2:Arc:=(rcan 0,rcan 0)
theorem rz_2:rz 2<=2:=by
 have zt:=Wbh 2;have zt2:zs 2<=2:=VV (by decide)
 have e2:(((2:Int)):Rat)=2:=rfl;rw [e2]at zt;omega
end Go.Num
namespace Go.Abs
open Go.Num
variable {P:Program} {Γ:Nat->Spec}
def Ya7(l:List AV)(K:AV->Prop):Prop:=
 match l with
 | []=>K (psA exPs)
 | _=>False
theorem kaR(K:AV->Prop):Ya7 [] K=(K (psA exPs)):=propext Iff.rfl
@[congr] theorem wbN {K:AV->Prop} {l l' : List AV} (h:l=l'):Ya7 l K=Ya7 l' K:=by subst h;rfl
attribute [go_sem,go_sem ↓] kaR
def Yag(l:List AV)(K:AV->Prop):Prop:=
 match l with
 | []=>K (.one (.lit (.bool true)))
 | _=>False
theorem vaz(K:AV->Prop):Yag [] K=(K (.one (.lit (.bool true)))):=propext Iff.rfl
@[congr] theorem kbL {K:AV->Prop} {l l' : List AV} (h:l=l'):Yag l K=Yag l' K:=by subst h;rfl
attribute [go_sem,go_sem ↓] vaz
def yV(l:List AV)(K:AV->Prop):Prop:=
 match l with
 | [a,b]=>onPs (λl=>onA (λm=>okPs 1048576 l/\al m<=1048576/\K (.one (.lit (.bool true)))) b) a
 | _=>False
theorem xac(a b:AV)(K:AV->Prop):yV [a,b] K=(onPs (λl=>onA (λm=>okPs 1048576 l/\al m<=1048576/\K (.one (.lit (.bool true)))) b) a):=propext Iff.rfl
@[congr] theorem wbw {K:AV->Prop} {l l' : List AV} (h:l=l'):yV l K=yV l' K:=by subst h;rfl
attribute [go_sem,go_sem ↓] xac
theorem vaB{m:Arc}(h:sA m=true):al m<=2:=by
 simp only [sA,Bool.and_eq_true]at h;exact Nat.max_le.2 ⟨WM h.1,WM h.2⟩
end Go.Abs
end
section
namespace Go.Num
open Go.Abs
instance decAR:DecidableEq (Arc×R):=instDecidableEqProd
instance decDy:DecidableEq Dy:=instDecidableEqProd
def dz:Dy:=(((false,[],[]),(false,[],[])),((false,[],[]),(false,[],[])),(false,[],[]))
def cenR(A:List V2)(m:Arc):Dy:=(acan (ciV A),m,rcan (sqQ (subQ (pt 0 A) (ciV A))))
def movR(A:List V2)(m:Arc):Dy:=(m,acan (ciV A),rcan (sqQ (subQ (pt 0 A) (ciV A))))
def imgsB(l:List Ps)(o:Arc):List V2:=l.map λp=>appQ (invQ (pv p)) (av o)
def movC(l:List Ps)(o:Arc):Nat:=if chkC l [o]≠0 then chkC l [o] else if crV (imgsB l o)=0 then 8 else 0
def movQ(A:List V2)(o:V2):DyQ:=(o,ciV A,sqQ (subQ (pt 0 A) (ciV A)))
end Go.Num
namespace Go.Abs
open Go.Num
variable {P:Program} {Γ:Nat->Spec}
theorem VbQ{h h' : Nat->HB}{z:Nat}{b:Bool}{es:List (List C)}(hc:CleanR es):okB h h' (some ⟨es,z,b⟩) (some ⟨es,z,b⟩):=⟨⟨rfl,rfl⟩,.inl ⟨rfl,hc⟩⟩
def yM(l:List AV)(K:AV->Prop):Prop:=
 match l with
 | [a,b]=>onPs (λl=>onA (λm=>okPs 1000 l/\al m<=10000/\l.length=3/\K (.tup [dA (if crV (imgs l m)=0 then dz else cenR (imgs l m) m),.one (.lit (.int .i64 (if crV (imgs l m)=0 then 8 else 0)))])) b) a
 | _=>False
theorem uP(a b:AV)(K:AV->Prop):yM [a,b] K=(onPs (λl=>onA (λm=>okPs 1000 l/\al m<=10000/\l.length=3/\K (.tup [dA (if crV (imgs l m)=0 then dz else cenR (imgs l m) m),.one (.lit (.int .i64 (if crV (imgs l m)=0 then 8 else 0)))])) b) a):=propext Iff.rfl
@[congr] theorem qbu {K:AV->Prop} {l l' : List AV} (h:l=l'):yM l K=yM l' K:=by subst h;rfl
attribute [go_sem,go_sem ↓] uP
def qL(l:List AV)(K:AV->Prop):Prop:=
 match l with
 | [a,b]=>onPs (λl=>onA (λm=>okPs 1000 l/\al m<=10000/\l.length=3/\K (.tup [dA (if crV (imgsB l m)=0 then dz else movR (imgsB l m) m),.one (.lit (.int .i64 (if crV (imgsB l m)=0 then 8 else 0)))])) b) a
 | _=>False
theorem yP(a b:AV)(K:AV->Prop):qL [a,b] K=(onPs (λl=>onA (λm=>okPs 1000 l/\al m<=10000/\l.length=3/\K (.tup [dA (if crV (imgsB l m)=0 then dz else movR (imgsB l m) m),.one (.lit (.int .i64 (if crV (imgsB l m)=0 then 8 else 0)))])) b) a):=propext Iff.rfl
@[congr] theorem Ubt {K:AV->Prop} {l l' : List AV} (h:l=l'):qL l K=qL l' K:=by subst h;rfl
attribute [go_sem,go_sem ↓] yP
def VM(tE:Nat)(l:List AV)(K:AV->Prop):Prop:=
 match l with
 | [a,b]=>onPs (λl=>onA (λm=>okPs 1000 l/\al m<=10000/\K (.tup [dqA (if movC l m=0 then movQ (imgsB l m) (av m) else d0),errV tE (movC l m)])) b) a
 | _=>False
theorem qT(tE:Nat)(a b:AV)(K:AV->Prop):VM tE [a,b] K=(onPs (λl=>onA (λm=>okPs 1000 l/\al m<=10000/\K (.tup [dqA (if movC l m=0 then movQ (imgsB l m) (av m) else d0),errV tE (movC l m)])) b) a):=propext Iff.rfl
@[congr] theorem ubt (tE:Nat) {K:AV->Prop} {l l' : List AV} (h:l=l'):VM tE l K=VM tE l' K:=by subst h;rfl
attribute [go_sem,go_sem ↓] qT
def zN(l:List AV)(K:AV->Prop):Prop:=
 match l with
 | [a,b]=>onPs (λl=>onDy (λd=>okPs 1000 l/\dl d<=100000/\l.length<=1000/\K (.one (.lit (.bool (psnB l d))))) b) a
 | _=>False
theorem vP(a b:AV)(K:AV->Prop):zN [a,b] K=(onPs (λl=>onDy (λd=>okPs 1000 l/\dl d<=100000/\l.length<=1000/\K (.one (.lit (.bool (psnB l d))))) b) a):=propext Iff.rfl
@[congr] theorem vbu {K:AV->Prop} {l l' : List AV} (h:l=l'):zN l K=zN l' K:=by subst h;rfl
attribute [go_sem,go_sem ↓] vP
def jaj(l:List AV)(K:AV->Prop):Prop:=
 match l with
 | [a]=>onDy (λd=>dl d<=100000/\K (.one (.lit (.bool (dvld d))))) a
 | _=>False
theorem ZaC(a:AV)(K:AV->Prop):jaj [a] K=(onDy (λd=>dl d<=100000/\K (.one (.lit (.bool (dvld d))))) a):=propext Iff.rfl
@[congr] theorem qbL {K:AV->Prop} {l l' : List AV} (h:l=l'):jaj l K=jaj l' K:=by subst h;rfl
attribute [go_sem,go_sem ↓] ZaC
def kL(l:List AV)(K:AV->Prop):Prop:=
 match l with
 | [a]=>onDy (λd=>dl d<=4294967296/\K (.one (.lit (.bool (sA d.1 && (sA d.2.1 && sR 4 d.2.2)))))) a
 | _=>False
theorem qP(a:AV)(K:AV->Prop):kL [a] K=(onDy (λd=>dl d<=4294967296/\K (.one (.lit (.bool (sA d.1 && (sA d.2.1 && sR 4 d.2.2)))))) a):=propext Iff.rfl
@[congr] theorem jbu {K:AV->Prop} {l l' : List AV} (h:l=l'):kL l K=kL l' K:=by subst h;rfl
attribute [go_sem,go_sem ↓] qP
def VW(l:List AV)(K:AV->Prop):Prop:=
 match l with
 | [a,b]=>onDy (λd=>onDy (λe=>dl d<=4294967296/\K (.one (.lit (.bool (decide (d=e)))))) b) a
 | _=>False
theorem V9(a b:AV)(K:AV->Prop):VW [a,b] K=(onDy (λd=>onDy (λe=>dl d<=4294967296/\K (.one (.lit (.bool (decide (d=e)))))) b) a):=propext Iff.rfl
@[congr] theorem UbD {K:AV->Prop} {l l' : List AV} (h:l=l'):VW l K=VW l' K:=by subst h;rfl
attribute [go_sem,go_sem ↓] V9
end Go.Abs
end
section
namespace Go.Num
open Go.Abs
abbrev CpQ:=V2×V2×Rat×Rat×Rat×Rat×Rat
def c0:CpQ:=((0,0),(0,0),0,0,0,0,0)
def timesQ(a b:V2):V2:=(a.1*b.1-a.2*b.2,a.1*b.2+a.2*b.1)
def barQ(a:V2):V2:=(a.1,-a.2)
def lnkC(A B:List V2)(m n:V2):Nat:=if m=n then 8 else if crV A=0 then 8 else if crV B=0 then 8 else if ciV A=ciV B then 8 else 0
def lnkQ(A B:List V2)(m n:V2):CpQ:=(ciV A,ciV B,sqQ (subQ (pt 0 A) (ciV A)),sqQ (subQ n m),sqQ (subQ (pt 0 B) (ciV B)),-(m.1*(subQ n m).1+m.2*(subQ n m).2) / sqQ (subQ n m),(m.1*(subQ n m).2-m.2*(subQ n m).1) / sqQ (subQ n m))
def lkC(l:List Ps)(m n:Arc):Nat:=if chkC l [m,n]≠0 then chkC l [m,n] else lnkC (imgs l m) (imgs l n) (av m) (av n)
end Go.Num
namespace Go.Abs
open Go.Num
variable {P:Program} {Γ:Nat->Spec}
def cqC(c:CpQ):List C:=[cb (rcan c.1.1),cn (rcan c.1.1),cd (rcan c.1.1),cb (rcan c.1.2),cn (rcan c.1.2),cd (rcan c.1.2),cb (rcan c.2.1.1),cn (rcan c.2.1.1),cd (rcan c.2.1.1),cb (rcan c.2.1.2),cn (rcan c.2.1.2),cd (rcan c.2.1.2),cb (rcan c.2.2.1),cn (rcan c.2.2.1),cd (rcan c.2.2.1),cb (rcan c.2.2.2.1),cn (rcan c.2.2.2.1),cd (rcan c.2.2.2.1),cb (rcan c.2.2.2.2.1),cn (rcan c.2.2.2.2.1),cd (rcan c.2.2.2.2.1),cb (rcan c.2.2.2.2.2.1),cn (rcan c.2.2.2.2.2.1),cd (rcan c.2.2.2.2.2.1),cb (rcan c.2.2.2.2.2.2),cn (rcan c.2.2.2.2.2.2),cd (rcan c.2.2.2.2.2.2)]
def cqA(c:CpQ):AV:=.agg (cqC c)
def cl(c:Cp):Nat:=max (al c.1) (max (al c.2.1) (max (rl c.2.2.1) (max (rl c.2.2.2.1) (max (rl c.2.2.2.2.1) (max (rl c.2.2.2.2.2.1) (rl c.2.2.2.2.2.2))))))
def Wi(l:List AV)(K:AV->Prop):Prop:=
 match l with
 | [a,b]=>onA (λp=>onA (λq=>al p<=100000000/\al q<=100000000/\K (pQ (timesQ (av p) (av q)))) b) a
 | _=>False
theorem U3(a b:AV)(K:AV->Prop):Wi [a,b] K=(onA (λp=>onA (λq=>al p<=100000000/\al q<=100000000/\K (pQ (timesQ (av p) (av q)))) b) a):=propext Iff.rfl
@[congr] theorem XbF {K:AV->Prop} {l l' : List AV} (h:l=l'):Wi l K=Wi l' K:=by subst h;rfl
attribute [go_sem,go_sem ↓] U3
theorem JK:Good Wi:=Xa λas=>by
 unfold Wi;split
 .exact(jk λ_=>(jk λ_=>(.and λ_=>(.and λ_=>(.ret _)))))
 .exact .of λK hk=>hk.elim
def YF(l:List AV)(K:AV->Prop):Prop:=
 match l with
 | [a]=>onA (λp=>al p<=100000000/\vldR p.1=true/\K (pQ (barQ (av p)))) a
 | _=>False
theorem ka6(a:AV)(K:AV->Prop):YF [a] K=(onA (λp=>al p<=100000000/\vldR p.1=true/\K (pQ (barQ (av p)))) a):=propext Iff.rfl
@[congr] theorem xbP {K:AV->Prop} {l l' : List AV} (h:l=l'):YF l K=YF l' K:=by subst h;rfl
attribute [go_sem,go_sem ↓] ka6
theorem Qa6:Good YF:=Xa λas=>by
 unfold YF;split
 .exact(jk λ_=>(.and λ_=>(.and λ_=>(.ret _))))
 .exact .of λK hk=>hk.elim
def Uaj(tE:Nat)(l:List AV)(K:AV->Prop):Prop:=
 match l with
 | [a,b,c]=>onPs (λl=>onA (λm=>onA (λn=>okPs 1000 l/\al m<=10000/\al n<=10000/\K (.tup [cqA (if lkC l m n=0 then lnkQ (imgs l m) (imgs l n) (av m) (av n) else c0),errV tE (lkC l m n)])) c) b) a
 | _=>False
theorem wan(tE:Nat)(a b c:AV)(K:AV->Prop):Uaj tE [a,b,c] K=(onPs (λl=>onA (λm=>onA (λn=>okPs 1000 l/\al m<=10000/\al n<=10000/\K (.tup [cqA (if lkC l m n=0 then lnkQ (imgs l m) (imgs l n) (av m) (av n) else c0),errV tE (lkC l m n)])) c) b) a):=propext Iff.rfl
@[congr] theorem WbL (tE:Nat) {K:AV->Prop} {l l' : List AV} (h:l=l'):Uaj tE l K=Uaj tE l' K:=by subst h;rfl
attribute [go_sem,go_sem ↓] wan
def Vai(l:List AV)(K:AV->Prop):Prop:=
 match l with
 | [a,b,c]=>onPs (λl=>onA (λm=>onA (λn=>okPs 1000 l/\al m<=10000/\al n<=10000/\l.length=3/\K (.tup [cqA (if lnkC (imgs l m) (imgs l n) (av m) (av n)=0 then lnkQ (imgs l m) (imgs l n) (av m) (av n) else c0),.one (.lit (.int .i64 (lnkC (imgs l m) (imgs l n) (av m) (av n):Nat)))])) c) b) a
 | _=>False
theorem Vap(a b c:AV)(K:AV->Prop):Vai [a,b,c] K=(onPs (λl=>onA (λm=>onA (λn=>okPs 1000 l/\al m<=10000/\al n<=10000/\l.length=3/\K (.tup [cqA (if lnkC (imgs l m) (imgs l n) (av m) (av n)=0 then lnkQ (imgs l m) (imgs l n) (av m) (av n) else c0),.one (.lit (.int .i64 (lnkC (imgs l m) (imgs l n) (av m) (av n):Nat)))])) c) b) a):=propext Iff.rfl
@[congr] theorem wbH {K:AV->Prop} {l l' : List AV} (h:l=l'):Vai l K=Vai l' K:=by subst h;rfl
attribute [go_sem,go_sem ↓] Vap
def yh(f0 f1 f2:Nat):AC:=(.seq (.ops false [.u 2 (.box 6 (.t 0)),.u 3 (.box 6 (.t 1)),.u 4 (.alloc [(.lit (.bool false)),.emp,.emp,(.lit (.bool false)),.emp,.emp])])
 (.fg [2,3,4] (.seq (.ops true [.u 5 (.fa 0 (.t 2)),.u 6 (.ld none 3 true (.t 5)),.u 7 (.fa 0 (.t 3)),.u 8 (.ld none 3 true (.t 7)),.u 9 (.call f0 [(.t 6),(.t 8)]),.u 10 (.fa 3 (.t 2)),.u 11 (.ld none 3 true (.t 10)),.u 12 (.fa 3 (.t 3)),.u 13 (.ld none 3 true (.t 12)),.u 14 (.call f0 [(.t 11),(.t 13)]),.u 15 (.call f1 [(.t 9),(.t 14)]),.u 16 (.fa 0 (.t 2)),.u 17 (.ld none 3 true (.t 16)),.u 18 (.fa 3 (.t 3)),.u 19 (.ld none 3 true (.t 18)),.u 20 (.call f0 [(.t 17),(.t 19)]),.u 21 (.fa 3 (.t 2)),.u 22 (.ld none 3 true (.t 21)),.u 23 (.fa 0 (.t 3)),.u 24 (.ld none 3 true (.t 23)),.u 25 (.call f0 [(.t 22),(.t 24)]),.u 26 (.call f2 [(.t 20),(.t 25)]),.u 27 (.build [.x 3 (.t 15),.x 3 (.t 26)]),.n (.st none 6 (.t 4) (.t 27))])
 .ret)))
def vl(f0:Nat):AC:=(.seq (.ops false [.u 1 (.box 6 (.t 0)),.u 2 (.alloc [(.lit (.bool false)),.emp,.emp,(.lit (.bool false)),.emp,.emp])])
 (.fg [1,2] (.seq (.ops true [.u 3 (.fa 0 (.t 1)),.u 4 (.ld none 3 true (.t 3)),.u 5 (.fa 3 (.t 1)),.u 6 (.ld none 3 true (.t 5)),.u 7 (.call f0 [(.t 6)]),.u 8 (.build [.x 3 (.t 4),.x 3 (.t 7)]),.n (.st none 6 (.t 2) (.t 8))])
 .ret)))
theorem yaa(hΓ:Holds P Γ){f fm fs fa:Nat}(hm:Γ fm=.dat false Ul)(hs:Γ fs=.dat false Jv)(ha:Γ fa=.dat false uo)(hc:check P f=some (28,(yh fm fs fa).strip,[.cell 4 6 true])):Sound P f (.dat false Wi):=by
 refine Va hc JK hΓ (λargs K hcl hfi hG=>?_);match args,hG with
 | [a,b],hG=>
  obtain⟨p,rfl,hp,q,rfl,hq,hl,hl',hK⟩:=hG;refine⟨by simp,?_⟩
  obtain⟨l1,l2⟩:=al1 hl;obtain⟨l3,l4⟩:=al1 hl';have r1:=yf hp.1;have r2:=yf hp.2;have r3:=yf hq.1;have r4:=yf hq.2;have m1:=Ze (rv p.1) (rv q.1);have m2:=Ze (rv p.2) (rv q.2);have m3:=Ze (rv p.1) (rv q.2);have m4:=Ze (rv p.2) (rv q.1);have p1:=hp.1;have p2:=hp.2;have q1:=hq.1;have q2:=hq.2;have e:timesQ (av p) (av q)=(rv p.1*rv q.1-rv p.2*rv q.2,rv p.1*rv q.2+rv p.2*rv q.1):=rfl;rw [e]at hK;simp only [go_sem,yh,hm,hs,ha,ud];repeat first|refine Ja (by omega) ?_|refine Ja (by assumption) ?_|refine Ja rfl ?_|refine Ja ⟨rfl,by omega⟩ ?_|refine Ja ⟨rfl,by omega,by omega⟩ ?_|intro _
  exact hK
theorem vaD(hΓ:Holds P Γ){f fn:Nat}(hn:Γ fn=.dat false jv)(hc:check P f=some (9,(vl fn).strip,[.cell 2 6 true])):Sound P f (.dat false YF):=by
 refine Va hc Qa6 hΓ (λargs K hcl hfi hG=>?_);match args,hG with
 | [a],hG=>
  obtain⟨p,rfl,hp,hl,hv,hK⟩:=hG;refine⟨by simp,?_⟩
  obtain⟨l1,l2⟩:=al1 hl;have p2:=hp.2;have e:pQ (barQ (av p))=.agg [cb p.1,cn p.1,cd p.1,cb (rcan (-rv p.2)),cn (rcan (-rv p.2)),cd (rcan (-rv p.2))]:=by
   rw [vaM];have:rcan (barQ (av p)).1=p.1:=Zf hp.1 hv;rw [this];rfl
  rw [e]at hK;simp only [go_sem,vl,hn,ud];repeat first|refine Ja (by omega) ?_|refine Ja (by assumption) ?_|refine Ja rfl ?_|refine Ja ⟨rfl,by omega⟩ ?_|refine Ja ⟨rfl,by omega,by omega⟩ ?_|intro _
  exact hK
end Go.Abs
end
section
namespace Go.Num
open Go.Abs
theorem Qar{m:Arc}(hw:WLA m)(h:avld m=true):(rcan (av m).1,rcan (av m).2)=m:=by
 unfold avld at h;rw [Bool.and_eq_true]at h;exact Prod.ext (Zf hw.1 h.1) (Zf hw.2 h.2)
end Go.Num
namespace Go.Abs
open Go.Num
variable {P:Program} {Γ:Nat->Spec}
def uZ(l:List AV)(K:AV->Prop):Prop:=
 match l with
 | [a,b]=>onPs (λl=>onA (λm=>okPs 1048576 l/\al m<=1048576/\K (.one (.lit (.bool true)))) b) a
 | _=>False
theorem Q8(a b:AV)(K:AV->Prop):uZ [a,b] K=(onPs (λl=>onA (λm=>okPs 1048576 l/\al m<=1048576/\K (.one (.lit (.bool true)))) b) a):=propext Iff.rfl
@[congr] theorem VbC {K:AV->Prop} {l l' : List AV} (h:l=l'):uZ l K=uZ l' K:=by subst h;rfl
attribute [go_sem,go_sem ↓] Q8
end Go.Abs
end
section
namespace Go.Num
open Go.Abs
abbrev Cp5:=R×R×R×R×R
instance decC5:DecidableEq Cp5:=λa b=>decidable_of_iff (a.1=b.1/\a.2.1=b.2.1/\a.2.2.1=b.2.2.1/\a.2.2.2.1=b.2.2.2.1/\a.2.2.2.2=b.2.2.2.2) ⟨λ⟨h1,h2,h3,h4,h5⟩=>Prod.ext h1 (Prod.ext h2 (Prod.ext h3 (Prod.ext h4 h5))),λh=>by subst h;exact⟨rfl,rfl,rfl,rfl,rfl⟩⟩
instance decCp:DecidableEq Cp:=λa b=>decidable_of_iff (a.1=b.1/\a.2.1=b.2.1/\(a.2.2:Cp5)=b.2.2) ⟨λ⟨h1,h2,h3⟩=>Prod.ext h1 (Prod.ext h2 h3),λh=>by subst h;exact⟨rfl,rfl,rfl⟩⟩
def canC(X:CpQ):Cp:=((rcan X.1.1,rcan X.1.2),(rcan X.2.1.1,rcan X.2.1.2),rcan X.2.2.1,rcan X.2.2.2.1,rcan X.2.2.2.2.1,rcan X.2.2.2.2.2.1,rcan X.2.2.2.2.2.2)
theorem YbE(X:CpQ):cl (canC X)=max (zq X.1) (max (zq X.2.1) (max (rz X.2.2.1) (max (rz X.2.2.2.1) (max (rz X.2.2.2.2.1) (max (rz X.2.2.2.2.2.1) (rz X.2.2.2.2.2.2)))))):=rfl
end Go.Num
namespace Go.Abs
open Go.Num
variable {P:Program} {Γ:Nat->Spec}
def cpC(c:Cp):List C:=[cb c.1.1,cn c.1.1,cd c.1.1,cb c.1.2,cn c.1.2,cd c.1.2,cb c.2.1.1,cn c.2.1.1,cd c.2.1.1,cb c.2.1.2,cn c.2.1.2,cd c.2.1.2,cb c.2.2.1,cn c.2.2.1,cd c.2.2.1,cb c.2.2.2.1,cn c.2.2.2.1,cd c.2.2.2.1,cb c.2.2.2.2.1,cn c.2.2.2.2.1,cd c.2.2.2.2.1,cb c.2.2.2.2.2.1,cn c.2.2.2.2.2.1,cd c.2.2.2.2.2.1,cb c.2.2.2.2.2.2,cn c.2.2.2.2.2.2,cd c.2.2.2.2.2.2]
def cpA(c:Cp):AV:=.agg (cpC c)
theorem uO{x y:R}(h1:cb x=cb y)(h2:cn x=cn y)(h3:cd x=cd y):x=y:=Yu _ _ (by simp only [rA];rw [h1,h2,h3])
theorem JaN(x y:Cp)(h:cpA x=cpA y):x=y:=by
 simp only [cpA,cpC,AV.agg.injEq,List.cons.injEq,and_true]at h;obtain⟨a1,a2,a3,b1,b2,b3,c1,c2,c3,d1,d2,d3,e1,e2,e3,f1,f2,f3,g1,g2,g3,h1,h2,h3,i1,i2,i3⟩:=h;exact Prod.ext (Prod.ext (uO a1 a2 a3) (uO b1 b2 b3)) (Prod.ext (Prod.ext (uO c1 c2 c3) (uO d1 d2 d3)) (Prod.ext (uO e1 e2 e3) (Prod.ext (uO f1 f2 f3) (Prod.ext (uO g1 g2 g3) (Prod.ext (uO h1 h2 h3) (uO i1 i2 i3))))))
def onCp(k:Cp->Prop)(a:AV):Prop:=onE cpA (λc=>WLC c/\k c) a
@[congr] theorem YbQ {k:Cp->Prop} {a a' : AV} (h:a=a'):onCp k a=onCp k a':=by subst h;rfl
theorem kbg(k:Cp->Prop)(a1 a2 a3 b1 b2 b3 c1 c2 c3 d1 d2 d3 e1 e2 e3 f1 f2 f3 g1 g2 g3 h1 h2 h3 i1 i2 i3:C):onCp k (.agg [a1,a2,a3,b1,b2,b3,c1,c2,c3,d1,d2,d3,e1,e2,e3,f1,f2,f3,g1,g2,g3,h1,h2,h3,i1,i2,i3]) =
  onO (λa=>onO (λb=>onO (λc=>onO (λd=>onO (λe=>onO (λf=>onO (λg=>onO (λh=>onO (λi=>WLC ((a,b),(c,d),e,f,g,h,i)/\k ((a,b),(c,d),e,f,g,h,i)) (dR i1 i2 i3)) (dR h1 h2 h3)) (dR g1 g2 g3)) (dR f1 f2 f3)) (dR e1 e2 e3)) (dR d1 d2 d3)) (dR c1 c2 c3)) (dR b1 b2 b3)) (dR a1 a2 a3):=by
 refine propext ⟨λ⟨t,h,hh⟩=>?_,λh=>?_⟩
 .simp only [cpA,cpC,AV.agg.injEq,List.cons.injEq,and_true]at h;obtain⟨rfl,rfl,rfl,rfl,rfl,rfl,rfl,rfl,rfl,rfl,rfl,rfl,rfl,rfl,rfl,rfl,rfl,rfl,rfl,rfl,rfl,rfl,rfl,rfl,rfl,rfl,rfl⟩:=h;simp only [dR_e,XJ];exact hh
 .obtain⟨a,ha,q1⟩:=qc.1 h;obtain⟨b,hb,q2⟩:=qc.1 q1;obtain⟨c,hc,q3⟩:=qc.1 q2;obtain⟨d,hd,q4⟩:=qc.1 q3;obtain⟨e,he,q5⟩:=qc.1 q4;obtain⟨f,hf,q6⟩:=qc.1 q5;obtain⟨g,hg,q7⟩:=qc.1 q6;obtain⟨hh,hhh,q8⟩:=qc.1 q7;obtain⟨i,hi,q9⟩:=qc.1 q8;obtain⟨rfl,rfl,rfl⟩:=Zc.1 ha;obtain⟨rfl,rfl,rfl⟩:=Zc.1 hb;obtain⟨rfl,rfl,rfl⟩:=Zc.1 hc;obtain⟨rfl,rfl,rfl⟩:=Zc.1 hd;obtain⟨rfl,rfl,rfl⟩:=Zc.1 he;obtain⟨rfl,rfl,rfl⟩:=Zc.1 hf;obtain⟨rfl,rfl,rfl⟩:=Zc.1 hg;obtain⟨rfl,rfl,rfl⟩:=Zc.1 hhh;obtain⟨rfl,rfl,rfl⟩:=Zc.1 hi;exact⟨((a,b),(c,d),e,f,g,hh,i),rfl,q9⟩
theorem Vf{β:Type}{T:Cp->(β->Prop)->Prop}(h:∀x,GoodT (T x)){a:AV}:GoodT λK=>onCp (λx=>T x K) a:=
 zI (e:=cpA) (T:=λp K=>WLC p/\T p K) JaN λp=>GoodT.and (c:=WLC p) (T:=T p) λ_=>h p
attribute [go_sem,go_sem ↓] kbg
def xt(l:List AV)(K:AV->Prop):Prop:=
 match l with
 | [a,b]=>onCp (λc=>onCp (λd=>cl c<=4294967296/\K (.one (.lit (.bool (decide (c=d)))))) b) a
 | _=>False
theorem Zae(a b:AV)(K:AV->Prop):xt [a,b] K=(onCp (λc=>onCp (λd=>cl c<=4294967296/\K (.one (.lit (.bool (decide (c=d)))))) b) a):=propext Iff.rfl
@[congr] theorem ubD {K:AV->Prop} {l l' : List AV} (h:l=l'):xt l K=xt l' K:=by subst h;rfl
attribute [go_sem,go_sem ↓] Zae
theorem Xag:Good xt:=Xa λas=>by
 unfold xt;split
 .exact(Vf λ_=>(Vf λ_=>(.and λ_=>(.ret _))))
 .exact .of λK hk=>hk.elim
def QE(l:List AV)(K:AV->Prop):Prop:=
 match l with
 | [a,b,c]=>onPs (λl=>onDy (λd=>onA (λn=>okPs 1048576 l/\dl d<=1048576/\al n<=1048576/\K (.one (.lit (.bool true)))) c) b) a
 | _=>False
theorem wI(a b c:AV)(K:AV->Prop):QE [a,b,c] K=(onPs (λl=>onDy (λd=>onA (λn=>okPs 1048576 l/\dl d<=1048576/\al n<=1048576/\K (.one (.lit (.bool true)))) c) b) a):=propext Iff.rfl
@[congr] theorem zbg {K:AV->Prop} {l l' : List AV} (h:l=l'):QE l K=QE l' K:=by subst h;rfl
attribute [go_sem,go_sem ↓] wI
def Qd(f0 f1:Nat):AC:=(.seq (.ops false [.u 2 (.box 27 (.t 0)),.u 3 (.box 27 (.t 1)),.m 4 .fa])
 (.fg [2,3] (.seq (.ops false [.u 5 (.fa 0 (.t 2)),.u 6 (.ld none 6 true (.t 5)),.u 7 (.fa 0 (.t 3)),.u 8 (.ld none 6 true (.t 7)),.u 9 (.call f0 [(.t 6),(.t 8)]),.m 10 (.t 9),.w 11 10 true (.fa 6 (.t 2)),.w 12 10 true (.ld none 6 true (.t 11)),.w 13 10 true (.fa 6 (.t 3)),.w 14 10 true (.ld none 6 true (.t 13)),.w 15 10 true (.call f0 [(.t 12),(.t 14)]),.u 16 (.pick (.t 10) (.t 15) .fa),.m 17 (.t 16),.w 18 17 true (.fa 12 (.t 2)),.w 19 17 true (.ld none 3 true (.t 18)),.w 20 17 true (.fa 15 (.t 2)),.w 21 17 true (.ld none 3 true (.t 20)),.w 22 17 true (.fa 18 (.t 2)),.w 23 17 true (.ld none 3 true (.t 22)),.w 24 17 true (.fa 21 (.t 2)),.w 25 17 true (.ld none 3 true (.t 24)),.w 26 17 true (.fa 24 (.t 2)),.w 27 17 true (.ld none 3 true (.t 26)),.w 28 17 true (.row 3 [[.x 3 (.t 19)],[.x 3 (.t 21)],[.x 3 (.t 23)],[.x 3 (.t 25)],[.x 3 (.t 27)]]),.w 29 17 true (.fa 12 (.t 3)),.w 30 17 true (.ld none 3 true (.t 29)),.w 31 17 true (.fa 15 (.t 3)),.w 32 17 true (.ld none 3 true (.t 31)),.w 33 17 true (.fa 18 (.t 3)),.w 34 17 true (.ld none 3 true (.t 33)),.w 35 17 true (.fa 21 (.t 3)),.w 36 17 true (.ld none 3 true (.t 35)),.w 37 17 true (.fa 24 (.t 3)),.w 38 17 true (.ld none 3 true (.t 37)),.w 39 17 true (.row 3 [[.x 3 (.t 30)],[.x 3 (.t 32)],[.x 3 (.t 34)],[.x 3 (.t 36)],[.x 3 (.t 38)]]),.w 40 17 true (.call f1 [(.t 28),(.t 39)]),.u 41 (.pick (.t 17) (.t 40) .fa),.m 4 (.t 41)])
 .ret)))
theorem qaf(hΓ:Holds P Γ){f fs fr:Nat}(hs:Γ fs=.dat true Uw)(hr:Γ fr=.dat true Jz)(hc:check P f=some (42,(Qd fs fr).strip,[.tmp 4])):Sound P f (.dat true xt):=by
 refine Va hc Xag hΓ (λargs K hcl hfi hG=>?_);match args,hG with
 | [a,b],hG=>
  obtain⟨⟨o,q,x1,x2,x3,x4,x5⟩,rfl,⟨wo,wq,w1,w2,w3,w4,w5⟩,⟨o',q',y1,y2,y3,y4,y5⟩,rfl,⟨wo',wq',v1,v2,v3,v4,v5⟩,hl,hK⟩:=hG;refine⟨by simp,?_⟩
  unfold cl at hl;simp only [Nat.max_le]at hl;obtain⟨l1,l2,l3,l4,l5,l6,l7⟩:=hl;simp only at wo wq w1 w2 w3 w4 w5 wo' wq' v1 v2 v3 v4 v5;have hr5:okRs 4294967296 [x1,x2,x3,x4,x5]:=λx hx=>by
   simp only [List.mem_cons,List.not_mem_nil,or_false]at hx;rcases hx with rfl|rfl|rfl|rfl|rfl
   .exact⟨w1,l3⟩
   .exact⟨w2,l4⟩
   .exact⟨w3,l5⟩
   .exact⟨w4,l6⟩
   .exact⟨w5,l7⟩
  have e:decide ((o,q,x1,x2,x3,x4,x5)=(o',q',y1,y2,y3,y4,y5))=(decide (o=o') && (decide (q=q') && decide ([x1,x2,x3,x4,x5]=[y1,y2,y3,y4,y5]))):=by
   rw [<-Bool.decide_and,<-Bool.decide_and,decide_eq_decide];simp only [Prod.mk.injEq,List.cons.injEq,and_true]
  rw [e]at hK;cases h1:decide (o=o') with
  | false=>
   rw [h1]at hK;simp only [go_sem,Qd,hs,hr,cpA,cpC,Jb,h1];repeat first|refine Ja (by omega) ?_|refine Ja (by assumption) ?_|refine Ja rfl ?_|refine Ja ⟨rfl,by omega⟩ ?_|refine Ja ⟨rfl,by omega,by omega⟩ ?_|intro _
   exact hK
  | true=>
   cases h2:decide (q=q') with
   | false=>
    rw [h1,h2]at hK;simp only [go_sem,Qd,hs,hr,cpA,cpC,Jb,h1,h2];repeat first|refine Ja (by omega) ?_|refine Ja (by assumption) ?_|refine Ja rfl ?_|refine Ja ⟨rfl,by omega⟩ ?_|refine Ja ⟨rfl,by omega,by omega⟩ ?_|intro _
    exact hK
   | true=>
    rw [h1,h2,Bool.true_and,Bool.true_and]at hK;simp only [go_sem,Qd,hs,hr,cpA,cpC,Jb,h1,h2];repeat first|refine Ja (by omega) ?_|refine Ja (by assumption) ?_|refine Ja rfl ?_|refine Ja ⟨rfl,by omega⟩ ?_|refine Ja ⟨rfl,by omega,by omega⟩ ?_|intro _
    exact⟨⟨w1,w2,w3,w4,w5⟩,⟨v1,v2,v3,v4,v5⟩,hr5,hK⟩
end Go.Abs
end
