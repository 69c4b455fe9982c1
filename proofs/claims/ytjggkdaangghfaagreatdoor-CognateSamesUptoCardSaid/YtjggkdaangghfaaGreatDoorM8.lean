/-
  Parts of the proof, merged: PoseF, PoseG, PoseH, PoseI, PoseJ, PoseK.
-/
import Derived.Test.YtjggkdaangghfaaGreatDoorM7
set_option linter.unusedVariables false
set_option linter.unusedSimpArgs false
set_option maxRecDepth 100000
section
namespace Go.Num
open Go.Abs
def pt(i:Nat)(A:List V2):V2:=A.getD i (0,0)
def ciV(A:List V2):V2:=ciQ (pt 0 A) (subQ (pt 1 A) (pt 0 A)) (subQ (pt 2 A) (pt 0 A))
def crV(A:List V2):Rat:=crossQ (subQ (pt 1 A) (pt 0 A)) (subQ (pt 2 A) (pt 0 A))
def othV(A:List V2):V2:=if pt 0 A=pt 1 A then pt 2 A else pt 1 A
def lnC(A:List V2):Nat:=if pt 0 A=othV A then 8 else if crV A≠0 then 21 else 0
def lnA(A:List V2):Rat:=if lnC A=0 then (pt 0 A).2-(othV A).2 else 0
def lnB(A:List V2):Rat:=if lnC A=0 then (othV A).1-(pt 0 A).1 else 0
def lnK(A:List V2):Rat:=if lnC A=0 then ((pt 0 A).2-(othV A).2)*(pt 0 A).1+((othV A).1-(pt 0 A).1)*(pt 0 A).2 else 0
abbrev DyQ:=V2×V2×Rat
def dl(d:Dy):Nat:=max (al d.1) (max (al d.2.1) (rl d.2.2))
def dvld(d:Dy):Bool:=avld d.1 && (avld d.2.1 && vldR d.2.2)
def d0:DyQ:=((0,0),(0,0),0)
def cenC(l:List Ps)(m:Arc):Nat:=if chkC l [m]≠0 then chkC l [m] else if crV (imgs l m)=0 then 8 else 0
def cenQ(A:List V2)(m:V2):DyQ:=(ciV A,m,sqQ (subQ (pt 0 A) (ciV A)))
def lineC(l:List Ps)(m:Arc):Nat:=if chkC l [m]≠0 then chkC l [m] else lnC (imgs l m)
def psnC(l:List Ps)(d:Dy):Nat:=if plchk l≠0 then plchk l else if dvld d then 0 else 2
def psnB(l:List Ps)(d:Dy):Bool:=(imgs l d.2.1).all λx=>decide (sqQ (subQ x (av d.1))=rv d.2.2)
end Go.Num
namespace Go.Abs
open Go.Num
variable {P:Program} {Γ:Nat->Spec}
def dqA(d:DyQ):AV:=.agg [cb (rcan d.1.1),cn (rcan d.1.1),cd (rcan d.1.1),cb (rcan d.1.2),cn (rcan d.1.2),cd (rcan d.1.2),cb (rcan d.2.1.1),cn (rcan d.2.1.1),cd (rcan d.2.1.1),cb (rcan d.2.1.2),cn (rcan d.2.1.2),cd (rcan d.2.1.2),cb (rcan d.2.2),cn (rcan d.2.2),cd (rcan d.2.2)]
theorem Ubj(d:DyQ):dqA d=.agg [cb (rcan d.1.1),cn (rcan d.1.1),cd (rcan d.1.1),cb (rcan d.1.2),cn (rcan d.1.2),cd (rcan d.1.2),cb (rcan d.2.1.1),cn (rcan d.2.1.1),cd (rcan d.2.1.1),cb (rcan d.2.1.2),cn (rcan d.2.1.2),cd (rcan d.2.1.2),cb (rcan d.2.2),cn (rcan d.2.2),cd (rcan d.2.2)]:=eq_of_heq (HEq.refl _)
attribute [go_sem,go_sem ↓] Ubj
def yaj(tE:Nat)(l:List AV)(K:AV->Prop):Prop:=
 match l with
 | [a,b]=>onPs (λl=>onA (λm=>okPs 1000 l/\al m<=10000/\K (.tup [rQ (if lineC l m=0 then lnA (imgs l m) else 0),rQ (if lineC l m=0 then lnB (imgs l m) else 0),rQ (if lineC l m=0 then lnK (imgs l m) else 0),errV tE (lineC l m)])) b) a
 | _=>False
theorem kaC(tE:Nat)(a b:AV)(K:AV->Prop):yaj tE [a,b] K=(onPs (λl=>onA (λm=>okPs 1000 l/\al m<=10000/\K (.tup [rQ (if lineC l m=0 then lnA (imgs l m) else 0),rQ (if lineC l m=0 then lnB (imgs l m) else 0),rQ (if lineC l m=0 then lnK (imgs l m) else 0),errV tE (lineC l m)])) b) a):=propext Iff.rfl
@[congr] theorem zbO (tE:Nat) {K:AV->Prop} {l l' : List AV} (h:l=l'):yaj tE l K=yaj tE l' K:=by subst h;rfl
attribute [go_sem,go_sem ↓] kaC
def vak(l:List AV)(K:AV->Prop):Prop:=
 match l with
 | [a,b]=>onPs (λl=>onA (λm=>okPs 1000 l/\al m<=10000/\l.length=3/\K (.tup [rQ (lnA (imgs l m)),rQ (lnB (imgs l m)),rQ (lnK (imgs l m)),.one (.lit (.int .i64 (lnC (imgs l m):Nat)))])) b) a
 | _=>False
theorem uat(a b:AV)(K:AV->Prop):vak [a,b] K=(onPs (λl=>onA (λm=>okPs 1000 l/\al m<=10000/\l.length=3/\K (.tup [rQ (lnA (imgs l m)),rQ (lnB (imgs l m)),rQ (lnK (imgs l m)),.one (.lit (.int .i64 (lnC (imgs l m):Nat)))])) b) a):=propext Iff.rfl
@[congr] theorem ubR {K:AV->Prop} {l l' : List AV} (h:l=l'):vak l K=vak l' K:=by subst h;rfl
attribute [go_sem,go_sem ↓] uat
def UL(tE:Nat)(l:List AV)(K:AV->Prop):Prop:=
 match l with
 | [a,b]=>onPs (λl=>onA (λm=>okPs 1000 l/\al m<=10000/\K (.tup [dqA (if cenC l m=0 then cenQ (imgs l m) (av m) else d0),errV tE (cenC l m)])) b) a
 | _=>False
theorem ZV(tE:Nat)(a b:AV)(K:AV->Prop):UL tE [a,b] K=(onPs (λl=>onA (λm=>okPs 1000 l/\al m<=10000/\K (.tup [dqA (if cenC l m=0 then cenQ (imgs l m) (av m) else d0),errV tE (cenC l m)])) b) a):=propext Iff.rfl
@[congr] theorem zbz (tE:Nat) {K:AV->Prop} {l l' : List AV} (h:l=l'):UL tE l K=UL tE l' K:=by subst h;rfl
attribute [go_sem,go_sem ↓] ZV
def qO(tE:Nat)(l:List AV)(K:AV->Prop):Prop:=
 match l with
 | [a,b]=>onPs (λl=>onDy (λd=>okPs 1000 l/\dl d<=100000/\K (.tup [.one (.lit (.bool (decide (psnC l d=0) && psnB l d))),errV tE (psnC l d)])) b) a
 | _=>False
theorem QP(tE:Nat)(a b:AV)(K:AV->Prop):qO tE [a,b] K=(onPs (λl=>onDy (λd=>okPs 1000 l/\dl d<=100000/\K (.tup [.one (.lit (.bool (decide (psnC l d=0) && psnB l d))),errV tE (psnC l d)])) b) a):=propext Iff.rfl
@[congr] theorem Uby (tE:Nat) {K:AV->Prop} {l l' : List AV} (h:l=l'):qO tE l K=qO tE l' K:=by subst h;rfl
attribute [go_sem,go_sem ↓] QP
theorem Waj(hΓ:Holds P Γ){f fp fm fc:Nat}(hp:Γ fp=.dat false Qe)(hm:Γ fm=.dat false Uv)(hc' : Γ fc=.dat true uA)(hc:check P f=some (26,(qu fp fm fc).strip,[.tmp 4])):Sound P f (.dat true jg):=by
 refine ka hc vO hΓ (λargs K hcl hfi hG=>?_);match args,hG with
 | [a,b],hG=>
  obtain⟨x,rfl,hx,y,rfl,hy,hl,hl',hK⟩:=hG;refine⟨by simp,?_⟩
  simp only [go_sem,qu,hp,hm,hc',hx,hy];have n1:=uE hx;have d1:=qE hx;have n2:=uE hy;have d2:=qE hy;rw [<-WaR];exact⟨by omega,by omega,by omega,by omega,by omega,by omega,hK⟩
end Go.Abs
end
section
namespace Go.Num
open Go.Abs
def exPs:List Ps:=[((rcan 0,false),(rcan 0,rcan 0)),((rcan 0,false),(rcan 2,rcan 0)),((rcan 0,true),(rcan 2,rcan 2))]
def o2:Arc:=(rcan 0,rcan 0)
theorem rz_2:rz 2<=2:=by
 have zt:=zbh 2;have zt2:zs 2<=2:=uV (by decide)
 have e2:(((2:Int)):Rat)=2:=rfl;rw [e2]at zt;omega
end Go.Num
namespace Go.Abs
open Go.Num
variable {P:Program} {Γ:Nat->Spec}
def Ya5(l:List AV)(K:AV->Prop):Prop:=
 match l with
 | []=>K (psA exPs)
 | _=>False
theorem VaQ(K:AV->Prop):Ya5 [] K=(K (psA exPs)):=propext Iff.rfl
@[congr] theorem qbU {K:AV->Prop} {l l' : List AV} (h:l=l'):Ya5 l K=Ya5 l' K:=by subst h;rfl
attribute [go_sem,go_sem ↓] VaQ
def Uai(l:List AV)(K:AV->Prop):Prop:=
 match l with
 | []=>K (.one (.lit (.bool true)))
 | _=>False
theorem uax(K:AV->Prop):Uai [] K=(K (.one (.lit (.bool true)))):=propext Iff.rfl
@[congr] theorem XbP {K:AV->Prop} {l l' : List AV} (h:l=l'):Uai l K=Uai l' K:=by subst h;rfl
attribute [go_sem,go_sem ↓] uax
def YX(l:List AV)(K:AV->Prop):Prop:=
 match l with
 | [a,b]=>onPs (λl=>onA (λm=>okPs 1048576 l/\al m<=1048576/\K (.one (.lit (.bool true)))) b) a
 | _=>False
theorem J8(a b:AV)(K:AV->Prop):YX [a,b] K=(onPs (λl=>onA (λm=>okPs 1048576 l/\al m<=1048576/\K (.one (.lit (.bool true)))) b) a):=propext Iff.rfl
@[congr] theorem YbK {K:AV->Prop} {l l' : List AV} (h:l=l'):YX l K=YX l' K:=by subst h;rfl
attribute [go_sem,go_sem ↓] J8
end Go.Abs
end
section
namespace Go.Num
open Go.Abs
instance decAR:DecidableEq (Arc×R):=instDecidableEqProd
instance decDy:DecidableEq Dy:=instDecidableEqProd
def dz:Dy:=(((false,[],[]),(false,[],[])),((false,[],[]),(false,[],[])),(false,[],[]))
def cenR(A:List V2)(m:Arc):Dy:=(acan (ciV A),m,rcan (sqQ (subQ (pt 0 A) (ciV A))))
def movR(A:List V2)(m:Arc):Dy:=(m,acan (ciV A),rcan (sqQ (subQ (pt 0 A) (ciV A))))
def imgsB(l:List Ps)(o:Arc):List V2:=l.map λp=>appQ (invQ (pv p)) (av o)
def movC(l:List Ps)(o:Arc):Nat:=if chkC l [o]≠0 then chkC l [o] else if crV (imgsB l o)=0 then 8 else 0
def movQ(A:List V2)(o:V2):DyQ:=(o,ciV A,sqQ (subQ (pt 0 A) (ciV A)))
end Go.Num
namespace Go.Abs
open Go.Num
variable {P:Program} {Γ:Nat->Spec}
theorem Ub{h h' : Nat->HB}{z:Nat}{b:Bool}{es:List (List C)}(hc:CleanR es):okB h h' (some ⟨es,z,b⟩) (some ⟨es,z,b⟩):=⟨⟨rfl,rfl⟩,.inl ⟨rfl,hc⟩⟩
def jN(l:List AV)(K:AV->Prop):Prop:=
 match l with
 | [a,b]=>onPs (λl=>onA (λm=>okPs 1000 l/\al m<=10000/\l.length=3/\K (.tup [dA (if crV (imgs l m)=0 then dz else cenR (imgs l m) m),.one (.lit (.int .i64 (if crV (imgs l m)=0 then 8 else 0)))])) b) a
 | _=>False
theorem vR(a b:AV)(K:AV->Prop):jN [a,b] K=(onPs (λl=>onA (λm=>okPs 1000 l/\al m<=10000/\l.length=3/\K (.tup [dA (if crV (imgs l m)=0 then dz else cenR (imgs l m) m),.one (.lit (.int .i64 (if crV (imgs l m)=0 then 8 else 0)))])) b) a):=propext Iff.rfl
@[congr] theorem xby {K:AV->Prop} {l l' : List AV} (h:l=l'):jN l K=jN l' K:=by subst h;rfl
attribute [go_sem,go_sem ↓] vR
def jL(l:List AV)(K:AV->Prop):Prop:=
 match l with
 | [a,b]=>onPs (λl=>onA (λm=>okPs 1000 l/\al m<=10000/\l.length=3/\K (.tup [dA (if crV (imgsB l m)=0 then dz else movR (imgsB l m) m),.one (.lit (.int .i64 (if crV (imgsB l m)=0 then 8 else 0)))])) b) a
 | _=>False
theorem WQ(a b:AV)(K:AV->Prop):jL [a,b] K=(onPs (λl=>onA (λm=>okPs 1000 l/\al m<=10000/\l.length=3/\K (.tup [dA (if crV (imgsB l m)=0 then dz else movR (imgsB l m) m),.one (.lit (.int .i64 (if crV (imgsB l m)=0 then 8 else 0)))])) b) a):=propext Iff.rfl
@[congr] theorem jbz {K:AV->Prop} {l l' : List AV} (h:l=l'):jL l K=jL l' K:=by subst h;rfl
attribute [go_sem,go_sem ↓] WQ
def YJ(tE:Nat)(l:List AV)(K:AV->Prop):Prop:=
 match l with
 | [a,b]=>onPs (λl=>onA (λm=>okPs 1000 l/\al m<=10000/\K (.tup [dqA (if movC l m=0 then movQ (imgsB l m) (av m) else d0),errV tE (movC l m)])) b) a
 | _=>False
theorem QR(tE:Nat)(a b:AV)(K:AV->Prop):YJ tE [a,b] K=(onPs (λl=>onA (λm=>okPs 1000 l/\al m<=10000/\K (.tup [dqA (if movC l m=0 then movQ (imgsB l m) (av m) else d0),errV tE (movC l m)])) b) a):=propext Iff.rfl
@[congr] theorem yby (tE:Nat) {K:AV->Prop} {l l' : List AV} (h:l=l'):YJ tE l K=YJ tE l' K:=by subst h;rfl
attribute [go_sem,go_sem ↓] QR
def wJ(l:List AV)(K:AV->Prop):Prop:=
 match l with
 | [a,b]=>onPs (λl=>onDy (λd=>okPs 1000 l/\dl d<=100000/\l.length<=1000/\K (.one (.lit (.bool (psnB l d))))) b) a
 | _=>False
theorem WU(a b:AV)(K:AV->Prop):wJ [a,b] K=(onPs (λl=>onDy (λd=>okPs 1000 l/\dl d<=100000/\l.length<=1000/\K (.one (.lit (.bool (psnB l d))))) b) a):=propext Iff.rfl
@[congr] theorem vbz {K:AV->Prop} {l l' : List AV} (h:l=l'):wJ l K=wJ l' K:=by subst h;rfl
attribute [go_sem,go_sem ↓] WU
def Zaj(l:List AV)(K:AV->Prop):Prop:=
 match l with
 | [a]=>onDy (λd=>dl d<=100000/\K (.one (.lit (.bool (dvld d))))) a
 | _=>False
theorem Xax(a:AV)(K:AV->Prop):Zaj [a] K=(onDy (λd=>dl d<=100000/\K (.one (.lit (.bool (dvld d))))) a):=propext Iff.rfl
@[congr] theorem WbQ {K:AV->Prop} {l l' : List AV} (h:l=l'):Zaj l K=Zaj l' K:=by subst h;rfl
attribute [go_sem,go_sem ↓] Xax
def uJ(l:List AV)(K:AV->Prop):Prop:=
 match l with
 | [a]=>onDy (λd=>dl d<=4294967296/\K (.one (.lit (.bool (sA d.1 && (sA d.2.1 && sR 4 d.2.2)))))) a
 | _=>False
theorem QU(a:AV)(K:AV->Prop):uJ [a] K=(onDy (λd=>dl d<=4294967296/\K (.one (.lit (.bool (sA d.1 && (sA d.2.1 && sR 4 d.2.2)))))) a):=propext Iff.rfl
@[congr] theorem Zbz {K:AV->Prop} {l l' : List AV} (h:l=l'):uJ l K=uJ l' K:=by subst h;rfl
attribute [go_sem,go_sem ↓] QU
def XV(l:List AV)(K:AV->Prop):Prop:=
 match l with
 | [a,b]=>onDy (λd=>onDy (λe=>dl d<=4294967296/\K (.one (.lit (.bool (decide (d=e)))))) b) a
 | _=>False
theorem X8(a b:AV)(K:AV->Prop):XV [a,b] K=(onDy (λd=>onDy (λe=>dl d<=4294967296/\K (.one (.lit (.bool (decide (d=e)))))) b) a):=propext Iff.rfl
@[congr] theorem wbJ {K:AV->Prop} {l l' : List AV} (h:l=l'):XV l K=XV l' K:=by subst h;rfl
attribute [go_sem,go_sem ↓] X8
end Go.Abs
end
section
namespace Go.Num
open Go.Abs
abbrev CpQ:=V2×V2×Rat×Rat×Rat×Rat×Rat
def c0:CpQ:=((0,0),(0,0),0,0,0,0,0)
def timesQ(a b:V2):V2:=(a.1*b.1-a.2*b.2,a.1*b.2+a.2*b.1)
def barQ(a:V2):V2:=(a.1,-a.2)
theorem Jbe(a b:V2):zq (timesQ a b)<=2*zq a+2*zq b+6:=by
 have a1:rz a.1<=zq a:=Nat.le_max_left _ _;have a2:rz a.2<=zq a:=Nat.le_max_right _ _;have b1:rz b.1<=zq b:=Nat.le_max_left _ _;have b2:rz b.2<=zq b:=Nat.le_max_right _ _;have m1:=jc a.1 b.1;have m2:=jc a.2 b.2;have m3:=jc a.1 b.2;have m4:=jc a.2 b.1;have s1:=zw (a.1*b.1) (a.2*b.2);have s2:=JB (a.1*b.2) (a.2*b.1);have e:zq (timesQ a b)=max (rz (a.1*b.1-a.2*b.2)) (rz (a.1*b.2+a.2*b.1)):=rfl;rw [e];exact Nat.max_le.2 ⟨by omega,by omega⟩
theorem qaB(a:V2):zq (barQ a)=zq a:=by unfold zq barQ;simp only [Vv]
def lnkC(A B:List V2)(m n:V2):Nat:=if m=n then 8 else if crV A=0 then 8 else if crV B=0 then 8 else if ciV A=ciV B then 8 else 0
def lnkQ(A B:List V2)(m n:V2):CpQ:=(ciV A,ciV B,sqQ (subQ (pt 0 A) (ciV A)),sqQ (subQ n m),sqQ (subQ (pt 0 B) (ciV B)),-(m.1*(subQ n m).1+m.2*(subQ n m).2) / sqQ (subQ n m),(m.1*(subQ n m).2-m.2*(subQ n m).1) / sqQ (subQ n m))
def lkC(l:List Ps)(m n:Arc):Nat:=if chkC l [m,n]≠0 then chkC l [m,n] else lnkC (imgs l m) (imgs l n) (av m) (av n)
end Go.Num
namespace Go.Abs
open Go.Num
variable {P:Program} {Γ:Nat->Spec}
def cqC(c:CpQ):List C:=[cb (rcan c.1.1),cn (rcan c.1.1),cd (rcan c.1.1),cb (rcan c.1.2),cn (rcan c.1.2),cd (rcan c.1.2),cb (rcan c.2.1.1),cn (rcan c.2.1.1),cd (rcan c.2.1.1),cb (rcan c.2.1.2),cn (rcan c.2.1.2),cd (rcan c.2.1.2),cb (rcan c.2.2.1),cn (rcan c.2.2.1),cd (rcan c.2.2.1),cb (rcan c.2.2.2.1),cn (rcan c.2.2.2.1),cd (rcan c.2.2.2.1),cb (rcan c.2.2.2.2.1),cn (rcan c.2.2.2.2.1),cd (rcan c.2.2.2.2.1),cb (rcan c.2.2.2.2.2.1),cn (rcan c.2.2.2.2.2.1),cd (rcan c.2.2.2.2.2.1),cb (rcan c.2.2.2.2.2.2),cn (rcan c.2.2.2.2.2.2),cd (rcan c.2.2.2.2.2.2)]
def cqA(c:CpQ):AV:=.agg (cqC c)
def cl(c:Cp):Nat:=max (al c.1) (max (al c.2.1) (max (rl c.2.2.1) (max (rl c.2.2.2.1) (max (rl c.2.2.2.2.1) (max (rl c.2.2.2.2.2.1) (rl c.2.2.2.2.2.2))))))
def Jk(l:List AV)(K:AV->Prop):Prop:=
 match l with
 | [a,b]=>onA (λp=>onA (λq=>al p<=100000000/\al q<=100000000/\K (pQ (timesQ (av p) (av q)))) b) a
 | _=>False
theorem qac(a b:AV)(K:AV->Prop):Jk [a,b] K=(onA (λp=>onA (λq=>al p<=100000000/\al q<=100000000/\K (pQ (timesQ (av p) (av q)))) b) a):=propext Iff.rfl
@[congr] theorem vbF {K:AV->Prop} {l l' : List AV} (h:l=l'):Jk l K=Jk l' K:=by subst h;rfl
attribute [go_sem,go_sem ↓] qac
theorem yK:Good Jk:=Wa λas=>by
 unfold Jk;split
 .exact(Jz λ_=>(Jz λ_=>(.and λ_=>(.and λ_=>(.ret _)))))
 .exact .of λK hk=>hk.elim
def xE(l:List AV)(K:AV->Prop):Prop:=
 match l with
 | [a]=>onA (λp=>al p<=100000000/\vldR p.1=true/\K (pQ (barQ (av p)))) a
 | _=>False
theorem xaN(a:AV)(K:AV->Prop):xE [a] K=(onA (λp=>al p<=100000000/\vldR p.1=true/\K (pQ (barQ (av p)))) a):=propext Iff.rfl
@[congr] theorem UbV {K:AV->Prop} {l l' : List AV} (h:l=l'):xE l K=xE l' K:=by subst h;rfl
attribute [go_sem,go_sem ↓] xaN
theorem ya8:Good xE:=Wa λas=>by
 unfold xE;split
 .exact(Jz λ_=>(.and λ_=>(.and λ_=>(.ret _))))
 .exact .of λK hk=>hk.elim
def Yak(tE:Nat)(l:List AV)(K:AV->Prop):Prop:=
 match l with
 | [a,b,c]=>onPs (λl=>onA (λm=>onA (λn=>okPs 1000 l/\al m<=10000/\al n<=10000/\K (.tup [cqA (if lkC l m n=0 then lnkQ (imgs l m) (imgs l n) (av m) (av n) else c0),errV tE (lkC l m n)])) c) b) a
 | _=>False
theorem qaA(tE:Nat)(a b c:AV)(K:AV->Prop):Yak tE [a,b,c] K=(onPs (λl=>onA (λm=>onA (λn=>okPs 1000 l/\al m<=10000/\al n<=10000/\K (.tup [cqA (if lkC l m n=0 then lnkQ (imgs l m) (imgs l n) (av m) (av n) else c0),errV tE (lkC l m n)])) c) b) a):=propext Iff.rfl
@[congr] theorem QbP (tE:Nat) {K:AV->Prop} {l l' : List AV} (h:l=l'):Yak tE l K=Yak tE l' K:=by subst h;rfl
attribute [go_sem,go_sem ↓] qaA
def van(l:List AV)(K:AV->Prop):Prop:=
 match l with
 | [a,b,c]=>onPs (λl=>onA (λm=>onA (λn=>okPs 1000 l/\al m<=10000/\al n<=10000/\l.length=3/\K (.tup [cqA (if lnkC (imgs l m) (imgs l n) (av m) (av n)=0 then lnkQ (imgs l m) (imgs l n) (av m) (av n) else c0),.one (.lit (.int .i64 (lnkC (imgs l m) (imgs l n) (av m) (av n):Nat)))])) c) b) a
 | _=>False
theorem Yaz(a b c:AV)(K:AV->Prop):van [a,b,c] K=(onPs (λl=>onA (λm=>onA (λn=>okPs 1000 l/\al m<=10000/\al n<=10000/\l.length=3/\K (.tup [cqA (if lnkC (imgs l m) (imgs l n) (av m) (av n)=0 then lnkQ (imgs l m) (imgs l n) (av m) (av n) else c0),.one (.lit (.int .i64 (lnkC (imgs l m) (imgs l n) (av m) (av n):Nat)))])) c) b) a):=propext Iff.rfl
@[congr] theorem wbR {K:AV->Prop} {l l' : List AV} (h:l=l'):van l K=van l' K:=by subst h;rfl
attribute [go_sem,go_sem ↓] Yaz
def Wh(f0 f1 f2:Nat):AC:=(.seq (.ops false [.u 2 (.box 6 (.t 0)),.u 3 (.box 6 (.t 1)),.u 4 (.alloc [(.lit (.bool false)),.emp,.emp,(.lit (.bool false)),.emp,.emp])])
 (.fg [2,3,4] (.seq (.ops true [.u 5 (.fa 0 (.t 2)),.u 6 (.ld none 3 true (.t 5)),.u 7 (.fa 0 (.t 3)),.u 8 (.ld none 3 true (.t 7)),.u 9 (.call f0 [(.t 6),(.t 8)]),.u 10 (.fa 3 (.t 2)),.u 11 (.ld none 3 true (.t 10)),.u 12 (.fa 3 (.t 3)),.u 13 (.ld none 3 true (.t 12)),.u 14 (.call f0 [(.t 11),(.t 13)]),.u 15 (.call f1 [(.t 9),(.t 14)]),.u 16 (.fa 0 (.t 2)),.u 17 (.ld none 3 true (.t 16)),.u 18 (.fa 3 (.t 3)),.u 19 (.ld none 3 true (.t 18)),.u 20 (.call f0 [(.t 17),(.t 19)]),.u 21 (.fa 3 (.t 2)),.u 22 (.ld none 3 true (.t 21)),.u 23 (.fa 0 (.t 3)),.u 24 (.ld none 3 true (.t 23)),.u 25 (.call f0 [(.t 22),(.t 24)]),.u 26 (.call f2 [(.t 20),(.t 25)]),.u 27 (.build [.x 3 (.t 15),.x 3 (.t 26)]),.n (.st none 6 (.t 4) (.t 27))])
 .ret)))
def jl(f0:Nat):AC:=(.seq (.ops false [.u 1 (.box 6 (.t 0)),.u 2 (.alloc [(.lit (.bool false)),.emp,.emp,(.lit (.bool false)),.emp,.emp])])
 (.fg [1,2] (.seq (.ops true [.u 3 (.fa 0 (.t 1)),.u 4 (.ld none 3 true (.t 3)),.u 5 (.fa 3 (.t 1)),.u 6 (.ld none 3 true (.t 5)),.u 7 (.call f0 [(.t 6)]),.u 8 (.build [.x 3 (.t 4),.x 3 (.t 7)]),.n (.st none 6 (.t 2) (.t 8))])
 .ret)))
theorem Qah(hΓ:Holds P Γ){f fm fs fa:Nat}(hm:Γ fm=.dat false kj)(hs:Γ fs=.dat false vr)(ha:Γ fa=.dat false Zn)(hc:check P f=some (28,(Wh fm fs fa).strip,[.cell 4 6 true])):Sound P f (.dat false Jk):=by
 refine ka hc yK hΓ (λargs K hcl hfi hG=>?_);match args,hG with
 | [a,b],hG=>
  obtain⟨p,rfl,hp,q,rfl,hq,hl,hl',hK⟩:=hG;refine⟨by simp,?_⟩
  obtain⟨l1,l2⟩:=al1 hl;obtain⟨l3,l4⟩:=al1 hl';have r1:=Ze hp.1;have r2:=Ze hp.2;have r3:=Ze hq.1;have r4:=Ze hq.2;have m1:=jc (rv p.1) (rv q.1);have m2:=jc (rv p.2) (rv q.2);have m3:=jc (rv p.1) (rv q.2);have m4:=jc (rv p.2) (rv q.1);have p1:=hp.1;have p2:=hp.2;have q1:=hq.1;have q2:=hq.2;have e:timesQ (av p) (av q)=(rv p.1*rv q.1-rv p.2*rv q.2,rv p.1*rv q.2+rv p.2*rv q.1):=rfl;rw [e]at hK;simp only [go_sem,Wh,hm,hs,ha,Zw];repeat first|refine ja (by omega) ?_|refine ja (by assumption) ?_|refine ja rfl ?_|refine ja ⟨rfl,by omega⟩ ?_|refine ja ⟨rfl,by omega,by omega⟩ ?_|intro _
  exact hK
theorem uaG(hΓ:Holds P Γ){f fn:Nat}(hn:Γ fn=.dat false Xp)(hc:check P f=some (9,(jl fn).strip,[.cell 2 6 true])):Sound P f (.dat false xE):=by
 refine ka hc ya8 hΓ (λargs K hcl hfi hG=>?_);match args,hG with
 | [a],hG=>
  obtain⟨p,rfl,hp,hl,hv,hK⟩:=hG;refine⟨by simp,?_⟩
  obtain⟨l1,l2⟩:=al1 hl;have p2:=hp.2;have e:pQ (barQ (av p))=.agg [cb p.1,cn p.1,cd p.1,cb (rcan (-rv p.2)),cn (rcan (-rv p.2)),cd (rcan (-rv p.2))]:=by
   rw [uaK];have:rcan (barQ (av p)).1=p.1:=km hp.1 hv;rw [this];rfl
  rw [e]at hK;simp only [go_sem,jl,hn,Zw];repeat first|refine ja (by omega) ?_|refine ja (by assumption) ?_|refine ja rfl ?_|refine ja ⟨rfl,by omega⟩ ?_|refine ja ⟨rfl,by omega,by omega⟩ ?_|intro _
  exact hK
end Go.Abs
end
section
namespace Go.Num
open Go.Abs
end Go.Num
namespace Go.Abs
open Go.Num
variable {P:Program} {Γ:Nat->Spec}
def qZ(l:List AV)(K:AV->Prop):Prop:=
 match l with
 | [a,b]=>onPs (λl=>onA (λm=>okPs 1048576 l/\al m<=1048576/\K (.one (.lit (.bool true)))) b) a
 | _=>False
theorem Jad(a b:AV)(K:AV->Prop):qZ [a,b] K=(onPs (λl=>onA (λm=>okPs 1048576 l/\al m<=1048576/\K (.one (.lit (.bool true)))) b) a):=propext Iff.rfl
@[congr] theorem QbL {K:AV->Prop} {l l' : List AV} (h:l=l'):qZ l K=qZ l' K:=by subst h;rfl
attribute [go_sem,go_sem ↓] Jad
end Go.Abs
end
section
namespace Go.Num
open Go.Abs
abbrev Cp5:=R×R×R×R×R
instance decC5:DecidableEq Cp5:=λa b=>decidable_of_iff (a.1=b.1/\a.2.1=b.2.1/\a.2.2.1=b.2.2.1/\a.2.2.2.1=b.2.2.2.1/\a.2.2.2.2=b.2.2.2.2) ⟨λ⟨h1,h2,h3,h4,h5⟩=>Prod.ext h1 (Prod.ext h2 (Prod.ext h3 (Prod.ext h4 h5))),λh=>by subst h;exact⟨rfl,rfl,rfl,rfl,rfl⟩⟩
instance decCp:DecidableEq Cp:=λa b=>decidable_of_iff (a.1=b.1/\a.2.1=b.2.1/\(a.2.2:Cp5)=b.2.2) ⟨λ⟨h1,h2,h3⟩=>Prod.ext h1 (Prod.ext h2 h3),λh=>by subst h;exact⟨rfl,rfl,rfl⟩⟩
def canC(X:CpQ):Cp:=((rcan X.1.1,rcan X.1.2),(rcan X.2.1.1,rcan X.2.1.2),rcan X.2.2.1,rcan X.2.2.2.1,rcan X.2.2.2.2.1,rcan X.2.2.2.2.2.1,rcan X.2.2.2.2.2.2)
theorem vbH(X:CpQ):cl (canC X)=max (zq X.1) (max (zq X.2.1) (max (rz X.2.2.1) (max (rz X.2.2.2.1) (max (rz X.2.2.2.2.1) (max (rz X.2.2.2.2.2.1) (rz X.2.2.2.2.2.2)))))):=rfl
end Go.Num
namespace Go.Abs
open Go.Num
variable {P:Program} {Γ:Nat->Spec}
def cpC(c:Cp):List C:=[cb c.1.1,cn c.1.1,cd c.1.1,cb c.1.2,cn c.1.2,cd c.1.2,cb c.2.1.1,cn c.2.1.1,cd c.2.1.1,cb c.2.1.2,cn c.2.1.2,cd c.2.1.2,cb c.2.2.1,cn c.2.2.1,cd c.2.2.1,cb c.2.2.2.1,cn c.2.2.2.1,cd c.2.2.2.1,cb c.2.2.2.2.1,cn c.2.2.2.2.1,cd c.2.2.2.2.1,cb c.2.2.2.2.2.1,cn c.2.2.2.2.2.1,cd c.2.2.2.2.2.1,cb c.2.2.2.2.2.2,cn c.2.2.2.2.2.2,cd c.2.2.2.2.2.2]
def cpA(c:Cp):AV:=.agg (cpC c)
theorem uO{x y:R}(h1:cb x=cb y)(h2:cn x=cn y)(h3:cd x=cd y):x=y:=ju _ _ (by simp only [rA];rw [h1,h2,h3])
theorem YaU(x y:Cp)(h:cpA x=cpA y):x=y:=by
 simp only [cpA,cpC,AV.agg.injEq,List.cons.injEq,and_true]at h;obtain⟨a1,a2,a3,b1,b2,b3,c1,c2,c3,d1,d2,d3,e1,e2,e3,f1,f2,f3,g1,g2,g3,h1,h2,h3,i1,i2,i3⟩:=h;exact Prod.ext (Prod.ext (uO a1 a2 a3) (uO b1 b2 b3)) (Prod.ext (Prod.ext (uO c1 c2 c3) (uO d1 d2 d3)) (Prod.ext (uO e1 e2 e3) (Prod.ext (uO f1 f2 f3) (Prod.ext (uO g1 g2 g3) (Prod.ext (uO h1 h2 h3) (uO i1 i2 i3))))))
def onCp(k:Cp->Prop)(a:AV):Prop:=onE cpA (λc=>WLC c/\k c) a
@[congr] theorem Vb0 {k:Cp->Prop} {a a' : AV} (h:a=a'):onCp k a=onCp k a':=by subst h;rfl
theorem Ubk(k:Cp->Prop)(a1 a2 a3 b1 b2 b3 c1 c2 c3 d1 d2 d3 e1 e2 e3 f1 f2 f3 g1 g2 g3 h1 h2 h3 i1 i2 i3:C):onCp k (.agg [a1,a2,a3,b1,b2,b3,c1,c2,c3,d1,d2,d3,e1,e2,e3,f1,f2,f3,g1,g2,g3,h1,h2,h3,i1,i2,i3]) =
  onO (λa=>onO (λb=>onO (λc=>onO (λd=>onO (λe=>onO (λf=>onO (λg=>onO (λh=>onO (λi=>WLC ((a,b),(c,d),e,f,g,h,i)/\k ((a,b),(c,d),e,f,g,h,i)) (dR i1 i2 i3)) (dR h1 h2 h3)) (dR g1 g2 g3)) (dR f1 f2 f3)) (dR e1 e2 e3)) (dR d1 d2 d3)) (dR c1 c2 c3)) (dR b1 b2 b3)) (dR a1 a2 a3):=by
 refine propext ⟨λ⟨t,h,hh⟩=>?_,λh=>?_⟩
 .simp only [cpA,cpC,AV.agg.injEq,List.cons.injEq,and_true]at h;obtain⟨rfl,rfl,rfl,rfl,rfl,rfl,rfl,rfl,rfl,rfl,rfl,rfl,rfl,rfl,rfl,rfl,rfl,rfl,rfl,rfl,rfl,rfl,rfl,rfl,rfl,rfl,rfl⟩:=h;simp only [dR_e,VL];exact hh
 .obtain⟨a,ha,q1⟩:=qc.1 h;obtain⟨b,hb,q2⟩:=qc.1 q1;obtain⟨c,hc,q3⟩:=qc.1 q2;obtain⟨d,hd,q4⟩:=qc.1 q3;obtain⟨e,he,q5⟩:=qc.1 q4;obtain⟨f,hf,q6⟩:=qc.1 q5;obtain⟨g,hg,q7⟩:=qc.1 q6;obtain⟨hh,hhh,q8⟩:=qc.1 q7;obtain⟨i,hi,q9⟩:=qc.1 q8;obtain⟨rfl,rfl,rfl⟩:=Zc.1 ha;obtain⟨rfl,rfl,rfl⟩:=Zc.1 hb;obtain⟨rfl,rfl,rfl⟩:=Zc.1 hc;obtain⟨rfl,rfl,rfl⟩:=Zc.1 hd;obtain⟨rfl,rfl,rfl⟩:=Zc.1 he;obtain⟨rfl,rfl,rfl⟩:=Zc.1 hf;obtain⟨rfl,rfl,rfl⟩:=Zc.1 hg;obtain⟨rfl,rfl,rfl⟩:=Zc.1 hhh;obtain⟨rfl,rfl,rfl⟩:=Zc.1 hi;exact⟨((a,b),(c,d),e,f,g,hh,i),rfl,q9⟩
theorem Ym{β:Type}{T:Cp->(β->Prop)->Prop}(h:∀x,GoodT (T x)){a:AV}:GoodT λK=>onCp (λx=>T x K) a:=
 JI (e:=cpA) (T:=λp K=>WLC p/\T p K) YaU λp=>GoodT.and (c:=WLC p) (T:=T p) λ_=>h p
attribute [go_sem,go_sem ↓] Ubk
def vX(l:List AV)(K:AV->Prop):Prop:=
 match l with
 | [a,b]=>onCp (λc=>onCp (λd=>cl c<=4294967296/\K (.one (.lit (.bool (decide (c=d)))))) b) a
 | _=>False
theorem yah(a b:AV)(K:AV->Prop):vX [a,b] K=(onCp (λc=>onCp (λd=>cl c<=4294967296/\K (.one (.lit (.bool (decide (c=d)))))) b) a):=propext Iff.rfl
@[congr] theorem WbG {K:AV->Prop} {l l' : List AV} (h:l=l'):vX l K=vX l' K:=by subst h;rfl
attribute [go_sem,go_sem ↓] yah
def YD(l:List AV)(K:AV->Prop):Prop:=
 match l with
 | [a,b,c]=>onPs (λl=>onDy (λd=>onA (λn=>okPs 1048576 l/\dl d<=1048576/\al n<=1048576/\K (.one (.lit (.bool true)))) c) b) a
 | _=>False
theorem XH(a b c:AV)(K:AV->Prop):YD [a,b,c] K=(onPs (λl=>onDy (λd=>onA (λn=>okPs 1048576 l/\dl d<=1048576/\al n<=1048576/\K (.one (.lit (.bool true)))) c) b) a):=propext Iff.rfl
@[congr] theorem Qbl {K:AV->Prop} {l l' : List AV} (h:l=l'):YD l K=YD l' K:=by subst h;rfl
attribute [go_sem,go_sem ↓] XH
end Go.Abs
end
