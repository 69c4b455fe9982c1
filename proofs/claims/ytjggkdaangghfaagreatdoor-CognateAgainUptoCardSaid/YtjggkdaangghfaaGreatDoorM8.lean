/-
  Parts of the proof, merged: PoseF, PoseG, PoseH, PoseI, PoseJ, PoseK.
-/
import Derived.Test.YtjggkdaangghfaaGreatDoorM7
set_option linter.unusedVariables false
set_option linter.unusedSimpArgs false
set_option maxRecDepth 100000
section
namespace Go.Num
open Go.Abs
def pt (i:Nat) (A:List V2):V2:=A.getD i (0,0)
def ciV (A:List V2):V2:=ciQ (pt 0 A) (subQ (pt 1 A) (pt 0 A)) (subQ (pt 2 A) (pt 0 A))
def crV (A:List V2):Rat:=crossQ (subQ (pt 1 A) (pt 0 A)) (subQ (pt 2 A) (pt 0 A))
def othV (A:List V2):V2:=if pt 0 A=pt 1 A then pt 2 A else pt 1 A
def lnC (A:List V2):Nat:=if pt 0 A=othV A then 8 else if crV A≠0 then 21 else 0
def lnA (A:List V2):Rat:=if lnC A=0 then (pt 0 A).2-(othV A).2 else 0
def lnB (A:List V2):Rat:=if lnC A=0 then (othV A).1-(pt 0 A).1 else 0
def lnK (A:List V2):Rat:=if lnC A=0 then ((pt 0 A).2-(othV A).2)*(pt 0 A).1+((othV A).1-(pt 0 A).1)*(pt 0 A).2 else 0
abbrev DyQ:=V2×V2×Rat
def dl (d:Dy):Nat:=max (al d.1) (max (al d.2.1) (rl d.2.2))
def dvld (d:Dy):Bool:=avld d.1 && (avld d.2.1 && vldR d.2.2)
def d0:DyQ:=((0,0),(0,0),0)
def cenC (l:List Ps) (m:Arc):Nat:=if chkC l [m]≠0 then chkC l [m] else if crV (imgs l m)=0 then 8 else 0
def cenQ (A:List V2) (m:V2):DyQ:=(ciV A,m,sqQ (subQ (pt 0 A) (ciV A)))
def lineC (l:List Ps) (m:Arc):Nat:=if chkC l [m]≠0 then chkC l [m] else lnC (imgs l m)
def psnC (l:List Ps) (d:Dy):Nat:=if plchk l≠0 then plchk l else if dvld d then 0 else 2
def psnB (l:List Ps) (d:Dy):Bool:=(imgs l d.2.1).all λx=>decide (sqQ (subQ x (av d.1))=rv d.2.2)
end Go.Num
namespace Go.Abs
open Go.Num
variable {P:Program} {Γ:Nat->Spec}
def dqA (d:DyQ):AV:=.agg [cb (rcan d.1.1),cn (rcan d.1.1),cd (rcan d.1.1),cb (rcan d.1.2),cn (rcan d.1.2),cd (rcan d.1.2),cb (rcan d.2.1.1),cn (rcan d.2.1.1),cd (rcan d.2.1.1),cb (rcan d.2.1.2),cn (rcan d.2.1.2),cd (rcan d.2.1.2),cb (rcan d.2.2),cn (rcan d.2.2),cd (rcan d.2.2)]
theorem kba (d:DyQ):dqA d=.agg [cb (rcan d.1.1),cn (rcan d.1.1),cd (rcan d.1.1),cb (rcan d.1.2),cn (rcan d.1.2),cd (rcan d.1.2),cb (rcan d.2.1.1),cn (rcan d.2.1.1),cd (rcan d.2.1.1),cb (rcan d.2.1.2),cn (rcan d.2.1.2),cd (rcan d.2.1.2),cb (rcan d.2.2),cn (rcan d.2.2),cd (rcan d.2.2)]:=eq_of_heq (HEq.refl _)
attribute [go_sem] kba
attribute [go_sem ↓] kba
def Y8 (tE:Nat) (l:List AV) (K:AV->Prop):Prop:=
 match l with
 | [a,b]=>onPs (λl=>onA (λm=>okPs 1000 l/\al m<=10000/\K (.tup [rQ (if lineC l m=0 then lnA (imgs l m) else 0),rQ (if lineC l m=0 then lnB (imgs l m) else 0),rQ (if lineC l m=0 then lnK (imgs l m) else 0),errV tE (lineC l m)])) b) a
 | _=>False
theorem Zat (tE:Nat) (a b:AV) (K:AV->Prop):Y8 tE [a,b] K=(onPs (λl=>onA (λm=>okPs 1000 l/\al m<=10000/\K (.tup [rQ (if lineC l m=0 then lnA (imgs l m) else 0),rQ (if lineC l m=0 then lnB (imgs l m) else 0),rQ (if lineC l m=0 then lnK (imgs l m) else 0),errV tE (lineC l m)])) b) a):=propext Iff.rfl
@[congr] theorem vbD (tE:Nat) {K:AV->Prop} {l l' : List AV} (h:l=l'):Y8 tE l K=Y8 tE l' K:=by subst h;rfl
attribute [go_sem] Zat
attribute [go_sem ↓] Zat
def Qac (l:List AV) (K:AV->Prop):Prop:=
 match l with
 | [a,b]=>onPs (λl=>onA (λm=>okPs 1000 l/\al m<=10000/\l.length=3/\K (.tup [rQ (lnA (imgs l m)),rQ (lnB (imgs l m)),rQ (lnK (imgs l m)),.one (.lit (.int .i64 (lnC (imgs l m):Nat)))])) b) a
 | _=>False
theorem Yao (a b:AV) (K:AV->Prop):Qac [a,b] K=(onPs (λl=>onA (λm=>okPs 1000 l/\al m<=10000/\l.length=3/\K (.tup [rQ (lnA (imgs l m)),rQ (lnB (imgs l m)),rQ (lnK (imgs l m)),.one (.lit (.int .i64 (lnC (imgs l m):Nat)))])) b) a):=propext Iff.rfl
@[congr] theorem zbC {K:AV->Prop} {l l' : List AV} (h:l=l'):Qac l K=Qac l' K:=by subst h;rfl
attribute [go_sem] Yao
attribute [go_sem ↓] Yao
def QG (tE:Nat) (l:List AV) (K:AV->Prop):Prop:=
 match l with
 | [a,b]=>onPs (λl=>onA (λm=>okPs 1000 l/\al m<=10000/\K (.tup [dqA (if cenC l m=0 then cenQ (imgs l m) (av m) else d0),errV tE (cenC l m)])) b) a
 | _=>False
theorem uL (tE:Nat) (a b:AV) (K:AV->Prop):QG tE [a,b] K=(onPs (λl=>onA (λm=>okPs 1000 l/\al m<=10000/\K (.tup [dqA (if cenC l m=0 then cenQ (imgs l m) (av m) else d0),errV tE (cenC l m)])) b) a):=propext Iff.rfl
@[congr] theorem Vbm (tE:Nat) {K:AV->Prop} {l l' : List AV} (h:l=l'):QG tE l K=QG tE l' K:=by subst h;rfl
attribute [go_sem] uL
attribute [go_sem ↓] uL
def XE (tE:Nat) (l:List AV) (K:AV->Prop):Prop:=
 match l with
 | [a,b]=>onPs (λl=>onDy (λd=>okPs 1000 l/\dl d<=100000/\K (.tup [.one (.lit (.bool (decide (psnC l d=0) && psnB l d))),errV tE (psnC l d)])) b) a
 | _=>False
theorem xL (tE:Nat) (a b:AV) (K:AV->Prop):XE tE [a,b] K=(onPs (λl=>onDy (λd=>okPs 1000 l/\dl d<=100000/\K (.tup [.one (.lit (.bool (decide (psnC l d=0) && psnB l d))),errV tE (psnC l d)])) b) a):=propext Iff.rfl
@[congr] theorem zbn (tE:Nat) {K:AV->Prop} {l l' : List AV} (h:l=l'):XE tE l K=XE tE l' K:=by subst h;rfl
attribute [go_sem] xL
attribute [go_sem ↓] xL
theorem jaf (hΓ:Holds P Γ) {f fp fm fc:Nat} (hp:Γ fp=.dat false xe) (hm:Γ fm=.dat false Uv) (hc' : Γ fc=.dat true uw) (hc:check P f=some (26,(jq fp fm fc).strip,[.tmp 4])):Sound P f (.dat true Qm):=by
 refine va hc yaa hΓ (λargs K hcl hfi hG=>?_)
 match args,hG with
 | [a,b],hG=>
  obtain ⟨x,rfl,hx,y,rfl,hy,hl,hl',hK⟩:=hG
  refine ⟨by simp,?_⟩
  simp only [go_sem,jq,hp,hm,hc',hx,hy]
  have n1:=uz hx
  have d1:=ZC hx
  have n2:=uz hy
  have d2:=ZC hy
  rw [<-yaD]
  exact ⟨by omega,by omega,by omega,by omega,by omega,by omega,hK⟩
end Go.Abs
end
section
namespace Go.Num
open Go.Abs
def exPs:List Ps:=[((rcan 0,false),(rcan 0,rcan 0)),((rcan 0,false),(rcan 2,rcan 0)),((rcan 0,true),(rcan 2,rcan 2))]
def o2:Arc:=(rcan 0,rcan 0)
theorem rz_2:rz 2<=2:=by
 have zt:=za9 2
 have zt2:zs 2<=2:=XX (by decide)
 have e2:(((2:Int)):Rat)=2:=rfl
 rw [e2]at zt
 omega
end Go.Num
namespace Go.Abs
open Go.Num
variable {P:Program} {Γ:Nat->Spec}
def vaI (l:List AV) (K:AV->Prop):Prop:=
 match l with
 | []=>K (psA exPs)
 | _=>False
theorem ZaS (K:AV->Prop):vaI [] K=(K (psA exPs)):=propext Iff.rfl
@[congr] theorem wbF {K:AV->Prop} {l l' : List AV} (h:l=l'):vaI l K=vaI l' K:=by subst h;rfl
attribute [go_sem] ZaS
attribute [go_sem ↓] ZaS
def wae (l:List AV) (K:AV->Prop):Prop:=
 match l with
 | []=>K (.one (.lit (.bool true)))
 | _=>False
theorem kam (K:AV->Prop):wae [] K=(K (.one (.lit (.bool true)))):=propext Iff.rfl
@[congr] theorem UbA {K:AV->Prop} {l l' : List AV} (h:l=l'):wae l K=wae l' K:=by subst h;rfl
attribute [go_sem] kam
attribute [go_sem ↓] kam
def WO (l:List AV) (K:AV->Prop):Prop:=
 match l with
 | [a,b]=>onPs (λl=>onA (λm=>okPs 1048576 l/\al m<=1048576/\K (.one (.lit (.bool true)))) b) a
 | _=>False
theorem ZT (a b:AV) (K:AV->Prop):WO [a,b] K=(onPs (λl=>onA (λm=>okPs 1048576 l/\al m<=1048576/\K (.one (.lit (.bool true)))) b) a):=propext Iff.rfl
@[congr] theorem Xbv {K:AV->Prop} {l l' : List AV} (h:l=l'):WO l K=WO l' K:=by subst h;rfl
attribute [go_sem] ZT
attribute [go_sem ↓] ZT
end Go.Abs
end
section
namespace Go.Num
open Go.Abs
instance decAR:DecidableEq (Arc×R):=instDecidableEqProd
instance decDy:DecidableEq Dy:=instDecidableEqProd
def dz:Dy:=(((false,[],[]),(false,[],[])),((false,[],[]),(false,[],[])),(false,[],[]))
def cenR (A:List V2) (m:Arc):Dy:=(acan (ciV A),m,rcan (sqQ (subQ (pt 0 A) (ciV A))))
def movR (A:List V2) (m:Arc):Dy:=(m,acan (ciV A),rcan (sqQ (subQ (pt 0 A) (ciV A))))
def imgsB (l:List Ps) (o:Arc):List V2:=l.map λp=>appQ (invQ (pv p)) (av o)
def movC (l:List Ps) (o:Arc):Nat:=if chkC l [o]≠0 then chkC l [o] else if crV (imgsB l o)=0 then 8 else 0
def movQ (A:List V2) (o:V2):DyQ:=(o,ciV A,sqQ (subQ (pt 0 A) (ciV A)))
end Go.Num
namespace Go.Abs
open Go.Num
variable {P:Program} {Γ:Nat->Spec}
theorem UbI {h h' : Nat->HB} {z:Nat} {b:Bool} {es:List (List C)} (hc:CleanR es):okB h h' (some ⟨es,z,b⟩) (some ⟨es,z,b⟩):=⟨⟨rfl,rfl⟩,.inl ⟨rfl,hc⟩⟩
def uG (l:List AV) (K:AV->Prop):Prop:=
 match l with
 | [a,b]=>onPs (λl=>onA (λm=>okPs 1000 l/\al m<=10000/\l.length=3/\K (.tup [dA (if crV (imgs l m)=0 then dz else cenR (imgs l m) m),.one (.lit (.int .i64 (if crV (imgs l m)=0 then 8 else 0)))])) b) a
 | _=>False
theorem XL (a b:AV) (K:AV->Prop):uG [a,b] K=(onPs (λl=>onA (λm=>okPs 1000 l/\al m<=10000/\l.length=3/\K (.tup [dA (if crV (imgs l m)=0 then dz else cenR (imgs l m) m),.one (.lit (.int .i64 (if crV (imgs l m)=0 then 8 else 0)))])) b) a):=propext Iff.rfl
@[congr] theorem Wbm {K:AV->Prop} {l l' : List AV} (h:l=l'):uG l K=uG l' K:=by subst h;rfl
attribute [go_sem] XL
attribute [go_sem ↓] XL
def yE (l:List AV) (K:AV->Prop):Prop:=
 match l with
 | [a,b]=>onPs (λl=>onA (λm=>okPs 1000 l/\al m<=10000/\l.length=3/\K (.tup [dA (if crV (imgsB l m)=0 then dz else movR (imgsB l m) m),.one (.lit (.int .i64 (if crV (imgsB l m)=0 then 8 else 0)))])) b) a
 | _=>False
theorem xN (a b:AV) (K:AV->Prop):yE [a,b] K=(onPs (λl=>onA (λm=>okPs 1000 l/\al m<=10000/\l.length=3/\K (.tup [dA (if crV (imgsB l m)=0 then dz else movR (imgsB l m) m),.one (.lit (.int .i64 (if crV (imgsB l m)=0 then 8 else 0)))])) b) a):=propext Iff.rfl
@[congr] theorem qbn {K:AV->Prop} {l l' : List AV} (h:l=l'):yE l K=yE l' K:=by subst h;rfl
attribute [go_sem] xN
attribute [go_sem ↓] xN
def jI (tE:Nat) (l:List AV) (K:AV->Prop):Prop:=
 match l with
 | [a,b]=>onPs (λl=>onA (λm=>okPs 1000 l/\al m<=10000/\K (.tup [dqA (if movC l m=0 then movQ (imgsB l m) (av m) else d0),errV tE (movC l m)])) b) a
 | _=>False
theorem YM (tE:Nat) (a b:AV) (K:AV->Prop):jI tE [a,b] K=(onPs (λl=>onA (λm=>okPs 1000 l/\al m<=10000/\K (.tup [dqA (if movC l m=0 then movQ (imgsB l m) (av m) else d0),errV tE (movC l m)])) b) a):=propext Iff.rfl
@[congr] theorem vbm (tE:Nat) {K:AV->Prop} {l l' : List AV} (h:l=l'):jI tE l K=jI tE l' K:=by subst h;rfl
attribute [go_sem] YM
attribute [go_sem ↓] YM
def uH (l:List AV) (K:AV->Prop):Prop:=
 match l with
 | [a,b]=>onPs (λl=>onDy (λd=>okPs 1000 l/\dl d<=100000/\l.length<=1000/\K (.one (.lit (.bool (psnB l d))))) b) a
 | _=>False
theorem ZJ (a b:AV) (K:AV->Prop):uH [a,b] K=(onPs (λl=>onDy (λd=>okPs 1000 l/\dl d<=100000/\l.length<=1000/\K (.one (.lit (.bool (psnB l d))))) b) a):=propext Iff.rfl
@[congr] theorem kbm {K:AV->Prop} {l l' : List AV} (h:l=l'):uH l K=uH l' K:=by subst h;rfl
attribute [go_sem] ZJ
attribute [go_sem ↓] ZJ
def J8 (l:List AV) (K:AV->Prop):Prop:=
 match l with
 | [a]=>onDy (λd=>dl d<=100000/\K (.one (.lit (.bool (dvld d))))) a
 | _=>False
theorem Jaj (a:AV) (K:AV->Prop):J8 [a] K=(onDy (λd=>dl d<=100000/\K (.one (.lit (.bool (dvld d))))) a):=propext Iff.rfl
@[congr] theorem zbD {K:AV->Prop} {l l' : List AV} (h:l=l'):J8 l K=J8 l' K:=by subst h;rfl
attribute [go_sem] Jaj
attribute [go_sem ↓] Jaj
def QI (l:List AV) (K:AV->Prop):Prop:=
 match l with
 | [a]=>onDy (λd=>dl d<=4294967296/\K (.one (.lit (.bool (sA d.1 && (sA d.2.1 && sR 4 d.2.2)))))) a
 | _=>False
theorem xI (a:AV) (K:AV->Prop):QI [a] K=(onDy (λd=>dl d<=4294967296/\K (.one (.lit (.bool (sA d.1 && (sA d.2.1 && sR 4 d.2.2)))))) a):=propext Iff.rfl
@[congr] theorem ybm {K:AV->Prop} {l l' : List AV} (h:l=l'):QI l K=QI l' K:=by subst h;rfl
attribute [go_sem] xI
attribute [go_sem ↓] xI
def JS (l:List AV) (K:AV->Prop):Prop:=
 match l with
 | [a,b]=>onDy (λd=>onDy (λe=>dl d<=4294967296/\K (.one (.lit (.bool (decide (d=e)))))) b) a
 | _=>False
theorem wU (a b:AV) (K:AV->Prop):JS [a,b] K=(onDy (λd=>onDy (λe=>dl d<=4294967296/\K (.one (.lit (.bool (decide (d=e)))))) b) a):=propext Iff.rfl
@[congr] theorem zbv {K:AV->Prop} {l l' : List AV} (h:l=l'):JS l K=JS l' K:=by subst h;rfl
attribute [go_sem] wU
attribute [go_sem ↓] wU
end Go.Abs
end
section
namespace Go.Num
open Go.Abs
abbrev CpQ:=V2×V2×Rat×Rat×Rat×Rat×Rat
def c0:CpQ:=((0,0),(0,0),0,0,0,0,0)
def timesQ (a b:V2):V2:=(a.1*b.1-a.2*b.2,a.1*b.2+a.2*b.1)
def barQ (a:V2):V2:=(a.1,-a.2)
def lnkC (A B:List V2) (m n:V2):Nat:=if m=n then 8 else if crV A=0 then 8 else if crV B=0 then 8 else if ciV A=ciV B then 8 else 0
def lnkQ (A B:List V2) (m n:V2):CpQ:=(ciV A,ciV B,sqQ (subQ (pt 0 A) (ciV A)),sqQ (subQ n m),sqQ (subQ (pt 0 B) (ciV B)),-(m.1*(subQ n m).1+m.2*(subQ n m).2) / sqQ (subQ n m),(m.1*(subQ n m).2-m.2*(subQ n m).1) / sqQ (subQ n m))
def lkC (l:List Ps) (m n:Arc):Nat:=if chkC l [m,n]≠0 then chkC l [m,n] else lnkC (imgs l m) (imgs l n) (av m) (av n)
end Go.Num
namespace Go.Abs
open Go.Num
variable {P:Program} {Γ:Nat->Spec}
def cqC (c:CpQ):List C:=[cb (rcan c.1.1),cn (rcan c.1.1),cd (rcan c.1.1),cb (rcan c.1.2),cn (rcan c.1.2),cd (rcan c.1.2),cb (rcan c.2.1.1),cn (rcan c.2.1.1),cd (rcan c.2.1.1),cb (rcan c.2.1.2),cn (rcan c.2.1.2),cd (rcan c.2.1.2),cb (rcan c.2.2.1),cn (rcan c.2.2.1),cd (rcan c.2.2.1),cb (rcan c.2.2.2.1),cn (rcan c.2.2.2.1),cd (rcan c.2.2.2.1),cb (rcan c.2.2.2.2.1),cn (rcan c.2.2.2.2.1),cd (rcan c.2.2.2.2.1),cb (rcan c.2.2.2.2.2.1),cn (rcan c.2.2.2.2.2.1),cd (rcan c.2.2.2.2.2.1),cb (rcan c.2.2.2.2.2.2),cn (rcan c.2.2.2.2.2.2),cd (rcan c.2.2.2.2.2.2)]
def cqA (c:CpQ):AV:=.agg (cqC c)
def cl (c:Cp):Nat:=max (al c.1) (max (al c.2.1) (max (rl c.2.2.1) (max (rl c.2.2.2.1) (max (rl c.2.2.2.2.1) (max (rl c.2.2.2.2.2.1) (rl c.2.2.2.2.2.2))))))
def qp (l:List AV) (K:AV->Prop):Prop:=
 match l with
 | [a,b]=>onA (λp=>onA (λq=>al p<=100000000/\al q<=100000000/\K (pQ (timesQ (av p) (av q)))) b) a
 | _=>False
theorem X7 (a b:AV) (K:AV->Prop):qp [a,b] K=(onA (λp=>onA (λq=>al p<=100000000/\al q<=100000000/\K (pQ (timesQ (av p) (av q)))) b) a):=propext Iff.rfl
@[congr] theorem Ybn {K:AV->Prop} {l l' : List AV} (h:l=l'):qp l K=qp l' K:=by subst h;rfl
attribute [go_sem] X7
attribute [go_sem ↓] X7
theorem Zaa:Good qp:=Va λas=>by
 unfold qp
 split
 .exact (qz λ_=>(qz λ_=>(.and λ_=>(.and λ_=>(.ret _)))))
 .exact .of λK hk=>hk.elim
def kaX (l:List AV) (K:AV->Prop):Prop:=
 match l with
 | [a]=>onA (λp=>al p<=100000000/\vldR p.1=true/\K (pQ (barQ (av p)))) a
 | _=>False
theorem xaU (a:AV) (K:AV->Prop):kaX [a] K=(onA (λp=>al p<=100000000/\vldR p.1=true/\K (pQ (barQ (av p)))) a):=propext Iff.rfl
@[congr] theorem WbL {K:AV->Prop} {l l' : List AV} (h:l=l'):kaX l K=kaX l' K:=by subst h;rfl
attribute [go_sem] xaU
attribute [go_sem ↓] xaU
def Zac (tE:Nat) (l:List AV) (K:AV->Prop):Prop:=
 match l with
 | [a,b,c]=>onPs (λl=>onA (λm=>onA (λn=>okPs 1000 l/\al m<=10000/\al n<=10000/\K (.tup [cqA (if lkC l m n=0 then lnkQ (imgs l m) (imgs l n) (av m) (av n) else c0),errV tE (lkC l m n)])) c) b) a
 | _=>False
theorem xao (tE:Nat) (a b c:AV) (K:AV->Prop):Zac tE [a,b,c] K=(onPs (λl=>onA (λm=>onA (λn=>okPs 1000 l/\al m<=10000/\al n<=10000/\K (.tup [cqA (if lkC l m n=0 then lnkQ (imgs l m) (imgs l n) (av m) (av n) else c0),errV tE (lkC l m n)])) c) b) a):=propext Iff.rfl
@[congr] theorem ZbB (tE:Nat) {K:AV->Prop} {l l' : List AV} (h:l=l'):Zac tE l K=Zac tE l' K:=by subst h;rfl
attribute [go_sem] xao
attribute [go_sem ↓] xao
def kaf (l:List AV) (K:AV->Prop):Prop:=
 match l with
 | [a,b,c]=>onPs (λl=>onA (λm=>onA (λn=>okPs 1000 l/\al m<=10000/\al n<=10000/\l.length=3/\K (.tup [cqA (if lnkC (imgs l m) (imgs l n) (av m) (av n)=0 then lnkQ (imgs l m) (imgs l n) (av m) (av n) else c0),.one (.lit (.int .i64 (lnkC (imgs l m) (imgs l n) (av m) (av n):Nat)))])) c) b) a
 | _=>False
theorem Zan (a b c:AV) (K:AV->Prop):kaf [a,b,c] K=(onPs (λl=>onA (λm=>onA (λn=>okPs 1000 l/\al m<=10000/\al n<=10000/\l.length=3/\K (.tup [cqA (if lnkC (imgs l m) (imgs l n) (av m) (av n)=0 then lnkQ (imgs l m) (imgs l n) (av m) (av n) else c0),.one (.lit (.int .i64 (lnkC (imgs l m) (imgs l n) (av m) (av n):Nat)))])) c) b) a):=propext Iff.rfl
@[congr] theorem vbA {K:AV->Prop} {l l' : List AV} (h:l=l'):kaf l K=kaf l' K:=by subst h;rfl
attribute [go_sem] Zan
attribute [go_sem ↓] Zan
end Go.Abs
end
section
namespace Go.Num
open Go.Abs
theorem Zbb {m:Arc} (hw:WLA m) (h:avld m=true):(rcan (av m).1,rcan (av m).2)=m:=by
 unfold avld at h
 rw [Bool.and_eq_true]at h
 exact Prod.ext (Ye hw.1 h.1) (Ye hw.2 h.2)
end Go.Num
namespace Go.Abs
open Go.Num
variable {P:Program} {Γ:Nat->Spec}
def ZQ (l:List AV) (K:AV->Prop):Prop:=
 match l with
 | [a,b]=>onPs (λl=>onA (λm=>okPs 1048576 l/\al m<=1048576/\K (.one (.lit (.bool true)))) b) a
 | _=>False
theorem VV (a b:AV) (K:AV->Prop):ZQ [a,b] K=(onPs (λl=>onA (λm=>okPs 1048576 l/\al m<=1048576/\K (.one (.lit (.bool true)))) b) a):=propext Iff.rfl
@[congr] theorem ybn {K:AV->Prop} {l l' : List AV} (h:l=l'):ZQ l K=ZQ l' K:=by subst h;rfl
attribute [go_sem] VV
attribute [go_sem ↓] VV
end Go.Abs
end
section
namespace Go.Num
open Go.Abs
abbrev Cp5:=R×R×R×R×R
instance decC5:DecidableEq Cp5:=λa b=>decidable_of_iff (a.1=b.1/\a.2.1=b.2.1/\a.2.2.1=b.2.2.1/\a.2.2.2.1=b.2.2.2.1/\a.2.2.2.2=b.2.2.2.2) ⟨λ⟨h1,h2,h3,h4,h5⟩=>Prod.ext h1 (Prod.ext h2 (Prod.ext h3 (Prod.ext h4 h5))),λh=>by subst h;exact ⟨rfl,rfl,rfl,rfl,rfl⟩⟩
instance decCp:DecidableEq Cp:=λa b=>decidable_of_iff (a.1=b.1/\a.2.1=b.2.1/\(a.2.2:Cp5)=b.2.2) ⟨λ⟨h1,h2,h3⟩=>Prod.ext h1 (Prod.ext h2 h3),λh=>by subst h;exact ⟨rfl,rfl,rfl⟩⟩
def canC (X:CpQ):Cp:=((rcan X.1.1,rcan X.1.2),(rcan X.2.1.1,rcan X.2.1.2),rcan X.2.2.1,rcan X.2.2.2.1,rcan X.2.2.2.2.1,rcan X.2.2.2.2.2.1,rcan X.2.2.2.2.2.2)
theorem Xba (X:CpQ):cl (canC X)=max (zq X.1) (max (zq X.2.1) (max (rz X.2.2.1) (max (rz X.2.2.2.1) (max (rz X.2.2.2.2.1) (max (rz X.2.2.2.2.2.1) (rz X.2.2.2.2.2.2)))))):=rfl
end Go.Num
namespace Go.Abs
open Go.Num
variable {P:Program} {Γ:Nat->Spec}
def cpC (c:Cp):List C:=[cb c.1.1,cn c.1.1,cd c.1.1,cb c.1.2,cn c.1.2,cd c.1.2,cb c.2.1.1,cn c.2.1.1,cd c.2.1.1,cb c.2.1.2,cn c.2.1.2,cd c.2.1.2,cb c.2.2.1,cn c.2.2.1,cd c.2.2.1,cb c.2.2.2.1,cn c.2.2.2.1,cd c.2.2.2.1,cb c.2.2.2.2.1,cn c.2.2.2.2.1,cd c.2.2.2.2.1,cb c.2.2.2.2.2.1,cn c.2.2.2.2.2.1,cd c.2.2.2.2.2.1,cb c.2.2.2.2.2.2,cn c.2.2.2.2.2.2,cd c.2.2.2.2.2.2]
def cpA (c:Cp):AV:=.agg (cpC c)
theorem YI {x y:R} (h1:cb x=cb y) (h2:cn x=cn y) (h3:cd x=cd y):x=y:=Jp _ _ (by simp only [rA];rw [h1,h2,h3])
theorem qaD (x y:Cp) (h:cpA x=cpA y):x=y:=by
 simp only [cpA,cpC,AV.agg.injEq,List.cons.injEq,and_true]at h
 obtain ⟨a1,a2,a3,b1,b2,b3,c1,c2,c3,d1,d2,d3,e1,e2,e3,f1,f2,f3,g1,g2,g3,h1,h2,h3,i1,i2,i3⟩:=h
 exact Prod.ext (Prod.ext (YI a1 a2 a3) (YI b1 b2 b3)) (Prod.ext (Prod.ext (YI c1 c2 c3) (YI d1 d2 d3)) (Prod.ext (YI e1 e2 e3) (Prod.ext (YI f1 f2 f3) (Prod.ext (YI g1 g2 g3) (Prod.ext (YI h1 h2 h3) (YI i1 i2 i3))))))
def onCp (k:Cp->Prop) (a:AV):Prop:=onE cpA (λc=>WLC c/\k c) a
@[congr] theorem ZbM {k:Cp->Prop} {a a' : AV} (h:a=a'):onCp k a=onCp k a':=by subst h;rfl
theorem Ja9 (k:Cp->Prop) (a1 a2 a3 b1 b2 b3 c1 c2 c3 d1 d2 d3 e1 e2 e3 f1 f2 f3 g1 g2 g3 h1 h2 h3 i1 i2 i3:C):onCp k (.agg [a1,a2,a3,b1,b2,b3,c1,c2,c3,d1,d2,d3,e1,e2,e3,f1,f2,f3,g1,g2,g3,h1,h2,h3,i1,i2,i3]) =
  onO (λa=>onO (λb=>onO (λc=>onO (λd=>onO (λe=>onO (λf=>onO (λg=>onO (λh=>onO (λi=>WLC ((a,b),(c,d),e,f,g,h,i)/\k ((a,b),(c,d),e,f,g,h,i)) (dR i1 i2 i3)) (dR h1 h2 h3)) (dR g1 g2 g3)) (dR f1 f2 f3)) (dR e1 e2 e3)) (dR d1 d2 d3)) (dR c1 c2 c3)) (dR b1 b2 b3)) (dR a1 a2 a3):=by
 refine propext ⟨λ⟨t,h,hh⟩=>?_,λh=>?_⟩
 .simp only [cpA,cpC,AV.agg.injEq,List.cons.injEq,and_true]at h
  obtain ⟨rfl,rfl,rfl,rfl,rfl,rfl,rfl,rfl,rfl,rfl,rfl,rfl,rfl,rfl,rfl,rfl,rfl,rfl,rfl,rfl,rfl,rfl,rfl,rfl,rfl,rfl,rfl⟩:=h
  simp only [dR_e,kI];exact hh
 .obtain ⟨a,ha,q1⟩:=kb.1 h
  obtain ⟨b,hb,q2⟩:=kb.1 q1
  obtain ⟨c,hc,q3⟩:=kb.1 q2
  obtain ⟨d,hd,q4⟩:=kb.1 q3
  obtain ⟨e,he,q5⟩:=kb.1 q4
  obtain ⟨f,hf,q6⟩:=kb.1 q5
  obtain ⟨g,hg,q7⟩:=kb.1 q6
  obtain ⟨hh,hhh,q8⟩:=kb.1 q7
  obtain ⟨i,hi,q9⟩:=kb.1 q8
  obtain ⟨rfl,rfl,rfl⟩:=wb.1 ha
  obtain ⟨rfl,rfl,rfl⟩:=wb.1 hb
  obtain ⟨rfl,rfl,rfl⟩:=wb.1 hc
  obtain ⟨rfl,rfl,rfl⟩:=wb.1 hd
  obtain ⟨rfl,rfl,rfl⟩:=wb.1 he
  obtain ⟨rfl,rfl,rfl⟩:=wb.1 hf
  obtain ⟨rfl,rfl,rfl⟩:=wb.1 hg
  obtain ⟨rfl,rfl,rfl⟩:=wb.1 hhh
  obtain ⟨rfl,rfl,rfl⟩:=wb.1 hi
  exact ⟨((a,b),(c,d),e,f,g,hh,i),rfl,q9⟩
theorem Vk {β:Type} {T:Cp->(β->Prop)->Prop} (h:∀x,GoodT (T x)) {a:AV}:GoodT λK=>onCp (λx=>T x K) a:=
 WD (e:=cpA) (T:=λp K=>WLC p/\T p K) qaD λp=>GoodT.and (c:=WLC p) (T:=T p) λ_=>h p
attribute [go_sem] Ja9
attribute [go_sem ↓] Ja9
def yn (l:List AV) (K:AV->Prop):Prop:=
 match l with
 | [a,b]=>onCp (λc=>onCp (λd=>cl c<=4294967296/\K (.one (.lit (.bool (decide (c=d)))))) b) a
 | _=>False
theorem xZ (a b:AV) (K:AV->Prop):yn [a,b] K=(onCp (λc=>onCp (λd=>cl c<=4294967296/\K (.one (.lit (.bool (decide (c=d)))))) b) a):=propext Iff.rfl
@[congr] theorem Ybq {K:AV->Prop} {l l' : List AV} (h:l=l'):yn l K=yn l' K:=by subst h;rfl
attribute [go_sem] xZ
attribute [go_sem ↓] xZ
theorem xac:Good yn:=Va λas=>by
 unfold yn
 split
 .exact (Vk λ_=>(Vk λ_=>(.and λ_=>(.ret _))))
 .exact .of λK hk=>hk.elim
def Zz (l:List AV) (K:AV->Prop):Prop:=
 match l with
 | [a,b,c]=>onPs (λl=>onDy (λd=>onA (λn=>okPs 1048576 l/\dl d<=1048576/\al n<=1048576/\K (.one (.lit (.bool true)))) c) b) a
 | _=>False
theorem VD (a b c:AV) (K:AV->Prop):Zz [a,b,c] K=(onPs (λl=>onDy (λd=>onA (λn=>okPs 1048576 l/\dl d<=1048576/\al n<=1048576/\K (.one (.lit (.bool true)))) c) b) a):=propext Iff.rfl
@[congr] theorem ya8 {K:AV->Prop} {l l' : List AV} (h:l=l'):Zz l K=Zz l' K:=by subst h;rfl
attribute [go_sem] VD
attribute [go_sem ↓] VD
def Jc (f0 f1:Nat):AC:=(.seq (.ops false [.u 2 (.box 27 (.t 0)),.u 3 (.box 27 (.t 1)),.m 4 .fa])
 (.fg [2,3] (.seq (.ops false [.u 5 (.fa 0 (.t 2)),.u 6 (.ld none 6 true (.t 5)),.u 7 (.fa 0 (.t 3)),.u 8 (.ld none 6 true (.t 7)),.u 9 (.call f0 [(.t 6),(.t 8)]),.m 10 (.t 9),.w 11 10 true (.fa 6 (.t 2)),.w 12 10 true (.ld none 6 true (.t 11)),.w 13 10 true (.fa 6 (.t 3)),.w 14 10 true (.ld none 6 true (.t 13)),.w 15 10 true (.call f0 [(.t 12),(.t 14)]),.u 16 (.pick (.t 10) (.t 15) .fa),.m 17 (.t 16),.w 18 17 true (.fa 12 (.t 2)),.w 19 17 true (.ld none 3 true (.t 18)),.w 20 17 true (.fa 15 (.t 2)),.w 21 17 true (.ld none 3 true (.t 20)),.w 22 17 true (.fa 18 (.t 2)),.w 23 17 true (.ld none 3 true (.t 22)),.w 24 17 true (.fa 21 (.t 2)),.w 25 17 true (.ld none 3 true (.t 24)),.w 26 17 true (.fa 24 (.t 2)),.w 27 17 true (.ld none 3 true (.t 26)),.w 28 17 true (.row 3 [[.x 3 (.t 19)],[.x 3 (.t 21)],[.x 3 (.t 23)],[.x 3 (.t 25)],[.x 3 (.t 27)]]),.w 29 17 true (.fa 12 (.t 3)),.w 30 17 true (.ld none 3 true (.t 29)),.w 31 17 true (.fa 15 (.t 3)),.w 32 17 true (.ld none 3 true (.t 31)),.w 33 17 true (.fa 18 (.t 3)),.w 34 17 true (.ld none 3 true (.t 33)),.w 35 17 true (.fa 21 (.t 3)),.w 36 17 true (.ld none 3 true (.t 35)),.w 37 17 true (.fa 24 (.t 3)),.w 38 17 true (.ld none 3 true (.t 37)),.w 39 17 true (.row 3 [[.x 3 (.t 30)],[.x 3 (.t 32)],[.x 3 (.t 34)],[.x 3 (.t 36)],[.x 3 (.t 38)]]),.w 40 17 true (.call f1 [(.t 28),(.t 39)]),.u 41 (.pick (.t 17) (.t 40) .fa),.m 4 (.t 41)])
 .ret)))
theorem X3 (hΓ:Holds P Γ) {f fs fr:Nat} (hs:Γ fs=.dat true yv) (hr:Γ fr=.dat true Vv) (hc:check P f=some (42,(Jc fs fr).strip,[.tmp 4])):Sound P f (.dat true yn):=by
 refine va hc xac hΓ (λargs K hcl hfi hG=>?_)
 match args,hG with
 | [a,b],hG=>
  obtain ⟨⟨o,q,x1,x2,x3,x4,x5⟩,rfl,⟨wo,wq,w1,w2,w3,w4,w5⟩,⟨o',q',y1,y2,y3,y4,y5⟩,rfl,⟨wo',wq',v1,v2,v3,v4,v5⟩,hl,hK⟩:=hG
  refine ⟨by simp,?_⟩
  unfold cl at hl
  simp only [Nat.max_le]at hl
  obtain ⟨l1,l2,l3,l4,l5,l6,l7⟩:=hl
  simp only at wo wq w1 w2 w3 w4 w5 wo' wq' v1 v2 v3 v4 v5
  have hr5:okRs 4294967296 [x1,x2,x3,x4,x5]:=λx hx=>by
   simp only [List.mem_cons,List.not_mem_nil,or_false]at hx
   rcases hx with rfl | rfl | rfl | rfl | rfl
   .exact ⟨w1,l3⟩
   .exact ⟨w2,l4⟩
   .exact ⟨w3,l5⟩
   .exact ⟨w4,l6⟩
   .exact ⟨w5,l7⟩
  have e:decide ((o,q,x1,x2,x3,x4,x5)=(o',q',y1,y2,y3,y4,y5))=(decide (o=o') && (decide (q=q') && decide ([x1,x2,x3,x4,x5]=[y1,y2,y3,y4,y5]))):=by
   rw [<-Bool.decide_and,<-Bool.decide_and,decide_eq_decide];simp only [Prod.mk.injEq,List.cons.injEq,and_true]
  rw [e]at hK
  cases h1:decide (o=o') with
  | false=>
   rw [h1]at hK
   simp only [go_sem,Jc,hs,hr,cpA,cpC,Vc,h1]
   repeat (first | (refine And.intro (by omega) ?_) | (refine And.intro (by assumption) ?_) | (refine And.intro rfl ?_) | (refine And.intro ⟨rfl,by omega⟩ ?_) | (refine And.intro ⟨rfl,by omega,by omega⟩ ?_) | (intro _))
   exact hK
  | true=>
   cases h2:decide (q=q') with
   | false=>
    rw [h1,h2]at hK
    simp only [go_sem,Jc,hs,hr,cpA,cpC,Vc,h1,h2]
    repeat (first | (refine And.intro (by omega) ?_) | (refine And.intro (by assumption) ?_) | (refine And.intro rfl ?_) | (refine And.intro ⟨rfl,by omega⟩ ?_) | (refine And.intro ⟨rfl,by omega,by omega⟩ ?_) | (intro _))
    exact hK
   | true=>
    rw [h1,h2,Bool.true_and,Bool.true_and]at hK
    simp only [go_sem,Jc,hs,hr,cpA,cpC,Vc,h1,h2]
    repeat (first | (refine And.intro (by omega) ?_) | (refine And.intro (by assumption) ?_) | (refine And.intro rfl ?_) | (refine And.intro ⟨rfl,by omega⟩ ?_) | (refine And.intro ⟨rfl,by omega,by omega⟩ ?_) | (intro _))
    exact ⟨⟨w1,w2,w3,w4,w5⟩,⟨v1,v2,v3,v4,v5⟩,hr5,hK⟩
end Go.Abs
end
