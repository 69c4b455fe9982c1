/-
  Parts of the proof, merged: PoseF, PoseG, PoseH, PoseI, PoseJ, PoseK.
-/
import Derived.Test.YtjggkdaangghfaaGreatDoorM7
set_option linter.unusedVariables false
set_option linter.unusedSimpArgs false
set_option maxRecDepth 100000
section
namespace Go.Num
open Go.Abs
def pt (i:Nat) (A:List V2):V2:=A.getD i (0,0)
def ciV (A:List V2):V2:=ciQ (pt 0 A) (subQ (pt 1 A) (pt 0 A)) (subQ (pt 2 A) (pt 0 A))
def crV (A:List V2):Rat:=crossQ (subQ (pt 1 A) (pt 0 A)) (subQ (pt 2 A) (pt 0 A))
def othV (A:List V2):V2:=if pt 0 A=pt 1 A then pt 2 A else pt 1 A
def lnC (A:List V2):Nat:=if pt 0 A=othV A then 8 else if crV A≠0 then 21 else 0
def lnA (A:List V2):Rat:=if lnC A=0 then (pt 0 A).2-(othV A).2 else 0
def lnB (A:List V2):Rat:=if lnC A=0 then (othV A).1-(pt 0 A).1 else 0
def lnK (A:List V2):Rat:=if lnC A=0 then ((pt 0 A).2-(othV A).2)*(pt 0 A).1+((othV A).1-(pt 0 A).1)*(pt 0 A).2 else 0
abbrev DyQ:=V2×V2×Rat
def dl (d:Dy):Nat:=max (al d.1) (max (al d.2.1) (rl d.2.2))
def dvld (d:Dy):Bool:=avld d.1 && (avld d.2.1 && vldR d.2.2)
def d0:DyQ:=((0,0),(0,0),0)
def cenC (l:List Ps) (m:Arc):Nat:=if chkC l [m]≠0 then chkC l [m] else if crV (imgs l m)=0 then 8 else 0
def cenQ (A:List V2) (m:V2):DyQ:=(ciV A,m,sqQ (subQ (pt 0 A) (ciV A)))
def lineC (l:List Ps) (m:Arc):Nat:=if chkC l [m]≠0 then chkC l [m] else lnC (imgs l m)
def psnC (l:List Ps) (d:Dy):Nat:=if plchk l≠0 then plchk l else if dvld d then 0 else 2
def psnB (l:List Ps) (d:Dy):Bool:=(imgs l d.2.1).all λx=>decide (sqQ (subQ x (av d.1))=rv d.2.2)
end Go.Num
namespace Go.Abs
open Go.Num
variable {P:Program} {Γ:Nat->Spec}
def dqA (d:DyQ):AV:=.agg [cb (rcan d.1.1),cn (rcan d.1.1),cd (rcan d.1.1),cb (rcan d.1.2),cn (rcan d.1.2),cd (rcan d.1.2),cb (rcan d.2.1.1),cn (rcan d.2.1.1),cd (rcan d.2.1.1),cb (rcan d.2.1.2),cn (rcan d.2.1.2),cd (rcan d.2.1.2),cb (rcan d.2.2),cn (rcan d.2.2),cd (rcan d.2.2)]
theorem Ybg (d:DyQ):dqA d=.agg [cb (rcan d.1.1),cn (rcan d.1.1),cd (rcan d.1.1),cb (rcan d.1.2),cn (rcan d.1.2),cd (rcan d.1.2),cb (rcan d.2.1.1),cn (rcan d.2.1.1),cd (rcan d.2.1.1),cb (rcan d.2.1.2),cn (rcan d.2.1.2),cd (rcan d.2.1.2),cb (rcan d.2.2),cn (rcan d.2.2),cd (rcan d.2.2)]:=eq_of_heq (HEq.refl _)
attribute [go_sem] Ybg
attribute [go_sem ↓] Ybg
def xah (tE:Nat) (l:List AV) (K:AV->Prop):Prop:=
 match l with
 | [a,b]=>onPs (λl=>onA (λm=>okPs 1000 l/\al m<=10000/\K (.tup [rQ (if lineC l m=0 then lnA (imgs l m) else 0),rQ (if lineC l m=0 then lnB (imgs l m) else 0),rQ (if lineC l m=0 then lnK (imgs l m) else 0),errV tE (lineC l m)])) b) a
 | _=>False
theorem zas (tE:Nat) (a b:AV) (K:AV->Prop):xah tE [a,b] K=(onPs (λl=>onA (λm=>okPs 1000 l/\al m<=10000/\K (.tup [rQ (if lineC l m=0 then lnA (imgs l m) else 0),rQ (if lineC l m=0 then lnB (imgs l m) else 0),rQ (if lineC l m=0 then lnK (imgs l m) else 0),errV tE (lineC l m)])) b) a):=propext Iff.rfl
@[congr] theorem ZbH (tE:Nat) {K:AV->Prop} {l l' : List AV} (h:l=l'):xah tE l K=xah tE l' K:=by subst h;rfl
attribute [go_sem] zas
attribute [go_sem ↓] zas
def Zak (l:List AV) (K:AV->Prop):Prop:=
 match l with
 | [a,b]=>onPs (λl=>onA (λm=>okPs 1000 l/\al m<=10000/\l.length=3/\K (.tup [rQ (lnA (imgs l m)),rQ (lnB (imgs l m)),rQ (lnK (imgs l m)),.one (.lit (.int .i64 (lnC (imgs l m):Nat)))])) b) a
 | _=>False
theorem yao (a b:AV) (K:AV->Prop):Zak [a,b] K=(onPs (λl=>onA (λm=>okPs 1000 l/\al m<=10000/\l.length=3/\K (.tup [rQ (lnA (imgs l m)),rQ (lnB (imgs l m)),rQ (lnK (imgs l m)),.one (.lit (.int .i64 (lnC (imgs l m):Nat)))])) b) a):=propext Iff.rfl
@[congr] theorem qbH {K:AV->Prop} {l l' : List AV} (h:l=l'):Zak l K=Zak l' K:=by subst h;rfl
attribute [go_sem] yao
attribute [go_sem ↓] yao
def kK (tE:Nat) (l:List AV) (K:AV->Prop):Prop:=
 match l with
 | [a,b]=>onPs (λl=>onA (λm=>okPs 1000 l/\al m<=10000/\K (.tup [dqA (if cenC l m=0 then cenQ (imgs l m) (av m) else d0),errV tE (cenC l m)])) b) a
 | _=>False
theorem VS (tE:Nat) (a b:AV) (K:AV->Prop):kK tE [a,b] K=(onPs (λl=>onA (λm=>okPs 1000 l/\al m<=10000/\K (.tup [dqA (if cenC l m=0 then cenQ (imgs l m) (av m) else d0),errV tE (cenC l m)])) b) a):=propext Iff.rfl
@[congr] theorem zbs (tE:Nat) {K:AV->Prop} {l l' : List AV} (h:l=l'):kK tE l K=kK tE l' K:=by subst h;rfl
attribute [go_sem] VS
attribute [go_sem ↓] VS
def qK (tE:Nat) (l:List AV) (K:AV->Prop):Prop:=
 match l with
 | [a,b]=>onPs (λl=>onDy (λd=>okPs 1000 l/\dl d<=100000/\K (.tup [.one (.lit (.bool (decide (psnC l d=0) && psnB l d))),errV tE (psnC l d)])) b) a
 | _=>False
theorem QO (tE:Nat) (a b:AV) (K:AV->Prop):qK tE [a,b] K=(onPs (λl=>onDy (λd=>okPs 1000 l/\dl d<=100000/\K (.tup [.one (.lit (.bool (decide (psnC l d=0) && psnB l d))),errV tE (psnC l d)])) b) a):=propext Iff.rfl
@[congr] theorem ubr (tE:Nat) {K:AV->Prop} {l l' : List AV} (h:l=l'):qK tE l K=qK tE l' K:=by subst h;rfl
attribute [go_sem] QO
attribute [go_sem ↓] QO
theorem zak (hΓ:Holds P Γ) {f fp fm fc:Nat} (hp:Γ fp=.dat false jd) (hm:Γ fm=.dat false ut) (hc' : Γ fc=.dat true JA) (hc:check P f=some (26,(Wt fp fm fc).strip,[.tmp 4])):Sound P f (.dat true qh):=by
 refine ja hc ZJ hΓ (λargs K hcl hfi hG=>?_)
 match args,hG with
 | [a,b],hG=>
  obtain ⟨x,rfl,hx,y,rfl,hy,hl,hl',hK⟩:=hG
  refine ⟨by simp,?_⟩
  simp only [go_sem,Wt,hp,hm,hc',hx,hy]
  have n1:=jA hx
  have d1:=wA hx
  have n2:=jA hy
  have d2:=wA hy
  rw [<-va1]
  exact ⟨by omega,by omega,by omega,by omega,by omega,by omega,hK⟩
end Go.Abs
end
section
namespace Go.Num
open Go.Abs
def exPs:List Ps:=[((rcan 0,false),(rcan 0,rcan 0)),((rcan 0,false),(rcan 2,rcan 0)),((rcan 0,true),(rcan 2,rcan 2))]
def o2:Arc:=(rcan 0,rcan 0)
theorem rz_2:rz 2<=2:=by
 have zt:=Vbe 2
 have zt2:zs 2<=2:=qV (by decide)
 have e2:(((2:Int)):Rat)=2:=rfl
 rw [e2]at zt
 omega
end Go.Num
namespace Go.Abs
open Go.Num
variable {P:Program} {Γ:Nat->Spec}
def ja2 (l:List AV) (K:AV->Prop):Prop:=
 match l with
 | []=>K (psA exPs)
 | _=>False
theorem yaX (K:AV->Prop):ja2 [] K=(K (psA exPs)):=propext Iff.rfl
@[congr] theorem vbP {K:AV->Prop} {l l' : List AV} (h:l=l'):ja2 l K=ja2 l' K:=by subst h;rfl
attribute [go_sem] yaX
attribute [go_sem ↓] yaX
def Waf (l:List AV) (K:AV->Prop):Prop:=
 match l with
 | []=>K (.one (.lit (.bool true)))
 | _=>False
theorem Wan (K:AV->Prop):Waf [] K=(K (.one (.lit (.bool true)))):=propext Iff.rfl
@[congr] theorem jbI {K:AV->Prop} {l l' : List AV} (h:l=l'):Waf l K=Waf l' K:=by subst h;rfl
attribute [go_sem] Wan
attribute [go_sem ↓] Wan
def vT (l:List AV) (K:AV->Prop):Prop:=
 match l with
 | [a,b]=>onPs (λl=>onA (λm=>okPs 1048576 l/\al m<=1048576/\K (.one (.lit (.bool true)))) b) a
 | _=>False
theorem uab (a b:AV) (K:AV->Prop):vT [a,b] K=(onPs (λl=>onA (λm=>okPs 1048576 l/\al m<=1048576/\K (.one (.lit (.bool true)))) b) a):=propext Iff.rfl
@[congr] theorem VbD {K:AV->Prop} {l l' : List AV} (h:l=l'):vT l K=vT l' K:=by subst h;rfl
attribute [go_sem] uab
attribute [go_sem ↓] uab
end Go.Abs
end
section
namespace Go.Num
open Go.Abs
instance decAR:DecidableEq (Arc×R):=instDecidableEqProd
instance decDy:DecidableEq Dy:=instDecidableEqProd
def dz:Dy:=(((false,[],[]),(false,[],[])),((false,[],[]),(false,[],[])),(false,[],[]))
def cenR (A:List V2) (m:Arc):Dy:=(acan (ciV A),m,rcan (sqQ (subQ (pt 0 A) (ciV A))))
def movR (A:List V2) (m:Arc):Dy:=(m,acan (ciV A),rcan (sqQ (subQ (pt 0 A) (ciV A))))
def imgsB (l:List Ps) (o:Arc):List V2:=l.map λp=>appQ (invQ (pv p)) (av o)
def movC (l:List Ps) (o:Arc):Nat:=if chkC l [o]≠0 then chkC l [o] else if crV (imgsB l o)=0 then 8 else 0
def movQ (A:List V2) (o:V2):DyQ:=(o,ciV A,sqQ (subQ (pt 0 A) (ciV A)))
end Go.Num
namespace Go.Abs
open Go.Num
variable {P:Program} {Γ:Nat->Spec}
theorem XbM {h h' : Nat->HB} {z:Nat} {b:Bool} {es:List (List C)} (hc:CleanR es):okB h h' (some ⟨es,z,b⟩) (some ⟨es,z,b⟩):=⟨⟨rfl,rfl⟩,.inl ⟨rfl,hc⟩⟩
def qL (l:List AV) (K:AV->Prop):Prop:=
 match l with
 | [a,b]=>onPs (λl=>onA (λm=>okPs 1000 l/\al m<=10000/\l.length=3/\K (.tup [dA (if crV (imgs l m)=0 then dz else cenR (imgs l m) m),.one (.lit (.int .i64 (if crV (imgs l m)=0 then 8 else 0)))])) b) a
 | _=>False
theorem qR (a b:AV) (K:AV->Prop):qL [a,b] K=(onPs (λl=>onA (λm=>okPs 1000 l/\al m<=10000/\l.length=3/\K (.tup [dA (if crV (imgs l m)=0 then dz else cenR (imgs l m) m),.one (.lit (.int .i64 (if crV (imgs l m)=0 then 8 else 0)))])) b) a):=propext Iff.rfl
@[congr] theorem vbr {K:AV->Prop} {l l' : List AV} (h:l=l'):qL l K=qL l' K:=by subst h;rfl
attribute [go_sem] qR
attribute [go_sem ↓] qR
def uL (l:List AV) (K:AV->Prop):Prop:=
 match l with
 | [a,b]=>onPs (λl=>onA (λm=>okPs 1000 l/\al m<=10000/\l.length=3/\K (.tup [dA (if crV (imgsB l m)=0 then dz else movR (imgsB l m) m),.one (.lit (.int .i64 (if crV (imgsB l m)=0 then 8 else 0)))])) b) a
 | _=>False
theorem XO (a b:AV) (K:AV->Prop):uL [a,b] K=(onPs (λl=>onA (λm=>okPs 1000 l/\al m<=10000/\l.length=3/\K (.tup [dA (if crV (imgsB l m)=0 then dz else movR (imgsB l m) m),.one (.lit (.int .i64 (if crV (imgsB l m)=0 then 8 else 0)))])) b) a):=propext Iff.rfl
@[congr] theorem jbr {K:AV->Prop} {l l' : List AV} (h:l=l'):uL l K=uL l' K:=by subst h;rfl
attribute [go_sem] XO
attribute [go_sem ↓] XO
def XH (tE:Nat) (l:List AV) (K:AV->Prop):Prop:=
 match l with
 | [a,b]=>onPs (λl=>onA (λm=>okPs 1000 l/\al m<=10000/\K (.tup [dqA (if movC l m=0 then movQ (imgsB l m) (av m) else d0),errV tE (movC l m)])) b) a
 | _=>False
theorem uN (tE:Nat) (a b:AV) (K:AV->Prop):XH tE [a,b] K=(onPs (λl=>onA (λm=>okPs 1000 l/\al m<=10000/\K (.tup [dqA (if movC l m=0 then movQ (imgsB l m) (av m) else d0),errV tE (movC l m)])) b) a):=propext Iff.rfl
@[congr] theorem Ybr (tE:Nat) {K:AV->Prop} {l l' : List AV} (h:l=l'):XH tE l K=XH tE l' K:=by subst h;rfl
attribute [go_sem] uN
attribute [go_sem ↓] uN
def vI (l:List AV) (K:AV->Prop):Prop:=
 match l with
 | [a,b]=>onPs (λl=>onDy (λd=>okPs 1000 l/\dl d<=100000/\l.length<=1000/\K (.one (.lit (.bool (psnB l d))))) b) a
 | _=>False
theorem yQ (a b:AV) (K:AV->Prop):vI [a,b] K=(onPs (λl=>onDy (λd=>okPs 1000 l/\dl d<=100000/\l.length<=1000/\K (.one (.lit (.bool (psnB l d))))) b) a):=propext Iff.rfl
@[congr] theorem qbs {K:AV->Prop} {l l' : List AV} (h:l=l'):vI l K=vI l' K:=by subst h;rfl
attribute [go_sem] yQ
attribute [go_sem ↓] yQ
def qaf (l:List AV) (K:AV->Prop):Prop:=
 match l with
 | [a]=>onDy (λd=>dl d<=100000/\K (.one (.lit (.bool (dvld d))))) a
 | _=>False
theorem Uas (a:AV) (K:AV->Prop):qaf [a] K=(onDy (λd=>dl d<=100000/\K (.one (.lit (.bool (dvld d))))) a):=propext Iff.rfl
@[congr] theorem XbG {K:AV->Prop} {l l' : List AV} (h:l=l'):qaf l K=qaf l' K:=by subst h;rfl
attribute [go_sem] Uas
attribute [go_sem ↓] Uas
def YL (l:List AV) (K:AV->Prop):Prop:=
 match l with
 | [a]=>onDy (λd=>dl d<=4294967296/\K (.one (.lit (.bool (sA d.1 && (sA d.2.1 && sR 4 d.2.2)))))) a
 | _=>False
theorem jN (a:AV) (K:AV->Prop):YL [a] K=(onDy (λd=>dl d<=4294967296/\K (.one (.lit (.bool (sA d.1 && (sA d.2.1 && sR 4 d.2.2)))))) a):=propext Iff.rfl
@[congr] theorem Vbr {K:AV->Prop} {l l' : List AV} (h:l=l'):YL l K=YL l' K:=by subst h;rfl
attribute [go_sem] jN
attribute [go_sem ↓] jN
def QX (l:List AV) (K:AV->Prop):Prop:=
 match l with
 | [a,b]=>onDy (λd=>onDy (λe=>dl d<=4294967296/\K (.one (.lit (.bool (decide (d=e)))))) b) a
 | _=>False
theorem Q5 (a b:AV) (K:AV->Prop):QX [a,b] K=(onDy (λd=>onDy (λe=>dl d<=4294967296/\K (.one (.lit (.bool (decide (d=e)))))) b) a):=propext Iff.rfl
@[congr] theorem zbu {K:AV->Prop} {l l' : List AV} (h:l=l'):QX l K=QX l' K:=by subst h;rfl
attribute [go_sem] Q5
attribute [go_sem ↓] Q5
end Go.Abs
end
section
namespace Go.Num
open Go.Abs
abbrev CpQ:=V2×V2×Rat×Rat×Rat×Rat×Rat
def c0:CpQ:=((0,0),(0,0),0,0,0,0,0)
def timesQ (a b:V2):V2:=(a.1*b.1-a.2*b.2,a.1*b.2+a.2*b.1)
def barQ (a:V2):V2:=(a.1,-a.2)
def lnkC (A B:List V2) (m n:V2):Nat:=if m=n then 8 else if crV A=0 then 8 else if crV B=0 then 8 else if ciV A=ciV B then 8 else 0
def lnkQ (A B:List V2) (m n:V2):CpQ:=(ciV A,ciV B,sqQ (subQ (pt 0 A) (ciV A)),sqQ (subQ n m),sqQ (subQ (pt 0 B) (ciV B)),-(m.1*(subQ n m).1+m.2*(subQ n m).2) / sqQ (subQ n m),(m.1*(subQ n m).2-m.2*(subQ n m).1) / sqQ (subQ n m))
def lkC (l:List Ps) (m n:Arc):Nat:=if chkC l [m,n]≠0 then chkC l [m,n] else lnkC (imgs l m) (imgs l n) (av m) (av n)
end Go.Num
namespace Go.Abs
open Go.Num
variable {P:Program} {Γ:Nat->Spec}
def cqC (c:CpQ):List C:=[cb (rcan c.1.1),cn (rcan c.1.1),cd (rcan c.1.1),cb (rcan c.1.2),cn (rcan c.1.2),cd (rcan c.1.2),cb (rcan c.2.1.1),cn (rcan c.2.1.1),cd (rcan c.2.1.1),cb (rcan c.2.1.2),cn (rcan c.2.1.2),cd (rcan c.2.1.2),cb (rcan c.2.2.1),cn (rcan c.2.2.1),cd (rcan c.2.2.1),cb (rcan c.2.2.2.1),cn (rcan c.2.2.2.1),cd (rcan c.2.2.2.1),cb (rcan c.2.2.2.2.1),cn (rcan c.2.2.2.2.1),cd (rcan c.2.2.2.2.1),cb (rcan c.2.2.2.2.2.1),cn (rcan c.2.2.2.2.2.1),cd (rcan c.2.2.2.2.2.1),cb (rcan c.2.2.2.2.2.2),cn (rcan c.2.2.2.2.2.2),cd (rcan c.2.2.2.2.2.2)]
def cqA (c:CpQ):AV:=.agg (cqC c)
def cl (c:Cp):Nat:=max (al c.1) (max (al c.2.1) (max (rl c.2.2.1) (max (rl c.2.2.2.1) (max (rl c.2.2.2.2.1) (max (rl c.2.2.2.2.2.1) (rl c.2.2.2.2.2.2))))))
def uk (l:List AV) (K:AV->Prop):Prop:=
 match l with
 | [a,b]=>onA (λp=>onA (λq=>al p<=100000000/\al q<=100000000/\K (pQ (timesQ (av p) (av q)))) b) a
 | _=>False
theorem Yaa (a b:AV) (K:AV->Prop):uk [a,b] K=(onA (λp=>onA (λq=>al p<=100000000/\al q<=100000000/\K (pQ (timesQ (av p) (av q)))) b) a):=propext Iff.rfl
@[congr] theorem qbC {K:AV->Prop} {l l' : List AV} (h:l=l'):uk l K=uk l' K:=by subst h;rfl
attribute [go_sem] Yaa
attribute [go_sem ↓] Yaa
theorem WJ:Good uk:=Va λas=>by
 unfold uk
 split
 .exact (ku λ_=>(ku λ_=>(.and λ_=>(.and λ_=>(.ret _)))))
 .exact .of λK hk=>hk.elim
def uD (l:List AV) (K:AV->Prop):Prop:=
 match l with
 | [a]=>onA (λp=>al p<=100000000/\vldR p.1=true/\K (pQ (barQ (av p)))) a
 | _=>False
theorem xa3 (a:AV) (K:AV->Prop):uD [a] K=(onA (λp=>al p<=100000000/\vldR p.1=true/\K (pQ (barQ (av p)))) a):=propext Iff.rfl
@[congr] theorem QbM {K:AV->Prop} {l l' : List AV} (h:l=l'):uD l K=uD l' K:=by subst h;rfl
attribute [go_sem] xa3
attribute [go_sem ↓] xa3
theorem WaS:Good uD:=Va λas=>by
 unfold uD
 split
 .exact (ku λ_=>(.and λ_=>(.and λ_=>(.ret _))))
 .exact .of λK hk=>hk.elim
def Wai (tE:Nat) (l:List AV) (K:AV->Prop):Prop:=
 match l with
 | [a,b,c]=>onPs (λl=>onA (λm=>onA (λn=>okPs 1000 l/\al m<=10000/\al n<=10000/\K (.tup [cqA (if lkC l m n=0 then lnkQ (imgs l m) (imgs l n) (av m) (av n) else c0),errV tE (lkC l m n)])) c) b) a
 | _=>False
theorem Xal (tE:Nat) (a b c:AV) (K:AV->Prop):Wai tE [a,b,c] K=(onPs (λl=>onA (λm=>onA (λn=>okPs 1000 l/\al m<=10000/\al n<=10000/\K (.tup [cqA (if lkC l m n=0 then lnkQ (imgs l m) (imgs l n) (av m) (av n) else c0),errV tE (lkC l m n)])) c) b) a):=propext Iff.rfl
@[congr] theorem kbG (tE:Nat) {K:AV->Prop} {l l' : List AV} (h:l=l'):Wai tE l K=Wai tE l' K:=by subst h;rfl
attribute [go_sem] Xal
attribute [go_sem ↓] Xal
def qak (l:List AV) (K:AV->Prop):Prop:=
 match l with
 | [a,b,c]=>onPs (λl=>onA (λm=>onA (λn=>okPs 1000 l/\al m<=10000/\al n<=10000/\l.length=3/\K (.tup [cqA (if lnkC (imgs l m) (imgs l n) (av m) (av n)=0 then lnkQ (imgs l m) (imgs l n) (av m) (av n) else c0),.one (.lit (.int .i64 (lnkC (imgs l m) (imgs l n) (av m) (av n):Nat)))])) c) b) a
 | _=>False
theorem qav (a b c:AV) (K:AV->Prop):qak [a,b,c] K=(onPs (λl=>onA (λm=>onA (λn=>okPs 1000 l/\al m<=10000/\al n<=10000/\l.length=3/\K (.tup [cqA (if lnkC (imgs l m) (imgs l n) (av m) (av n)=0 then lnkQ (imgs l m) (imgs l n) (av m) (av n) else c0),.one (.lit (.int .i64 (lnkC (imgs l m) (imgs l n) (av m) (av n):Nat)))])) c) b) a):=propext Iff.rfl
@[congr] theorem wbF {K:AV->Prop} {l l' : List AV} (h:l=l'):qak l K=qak l' K:=by subst h;rfl
attribute [go_sem] qav
attribute [go_sem ↓] qav
def jg (f0 f1 f2:Nat):AC:=(.seq (.ops false [.u 2 (.box 6 (.t 0)),.u 3 (.box 6 (.t 1)),.u 4 (.alloc [(.lit (.bool false)),.emp,.emp,(.lit (.bool false)),.emp,.emp])])
 (.fg [2,3,4] (.seq (.ops true [.u 5 (.fa 0 (.t 2)),.u 6 (.ld none 3 true (.t 5)),.u 7 (.fa 0 (.t 3)),.u 8 (.ld none 3 true (.t 7)),.u 9 (.call f0 [(.t 6),(.t 8)]),.u 10 (.fa 3 (.t 2)),.u 11 (.ld none 3 true (.t 10)),.u 12 (.fa 3 (.t 3)),.u 13 (.ld none 3 true (.t 12)),.u 14 (.call f0 [(.t 11),(.t 13)]),.u 15 (.call f1 [(.t 9),(.t 14)]),.u 16 (.fa 0 (.t 2)),.u 17 (.ld none 3 true (.t 16)),.u 18 (.fa 3 (.t 3)),.u 19 (.ld none 3 true (.t 18)),.u 20 (.call f0 [(.t 17),(.t 19)]),.u 21 (.fa 3 (.t 2)),.u 22 (.ld none 3 true (.t 21)),.u 23 (.fa 0 (.t 3)),.u 24 (.ld none 3 true (.t 23)),.u 25 (.call f0 [(.t 22),(.t 24)]),.u 26 (.call f2 [(.t 20),(.t 25)]),.u 27 (.build [.x 3 (.t 15),.x 3 (.t 26)]),.n (.st none 6 (.t 4) (.t 27))])
 .ret)))
def xj (f0:Nat):AC:=(.seq (.ops false [.u 1 (.box 6 (.t 0)),.u 2 (.alloc [(.lit (.bool false)),.emp,.emp,(.lit (.bool false)),.emp,.emp])])
 (.fg [1,2] (.seq (.ops true [.u 3 (.fa 0 (.t 1)),.u 4 (.ld none 3 true (.t 3)),.u 5 (.fa 3 (.t 1)),.u 6 (.ld none 3 true (.t 5)),.u 7 (.call f0 [(.t 6)]),.u 8 (.build [.x 3 (.t 4),.x 3 (.t 7)]),.n (.st none 6 (.t 2) (.t 8))])
 .ret)))
theorem W7 (hΓ:Holds P Γ) {f fm fs fa:Nat} (hm:Γ fm=.dat false Wk) (hs:Γ fs=.dat false Zt) (ha:Γ fa=.dat false kn) (hc:check P f=some (28,(jg fm fs fa).strip,[.cell 4 6 true])):Sound P f (.dat false uk):=by
 refine ja hc WJ hΓ (λargs K hcl hfi hG=>?_)
 match args,hG with
 | [a,b],hG=>
  obtain ⟨p,rfl,hp,q,rfl,hq,hl,hl',hK⟩:=hG
  refine ⟨by simp,?_⟩
  obtain ⟨l1,l2⟩:=al1 hl
  obtain ⟨l3,l4⟩:=al1 hl'
  have r1:=Jg hp.1
  have r2:=Jg hp.2
  have r3:=Jg hq.1
  have r4:=Jg hq.2
  have m1:=wd (rv p.1) (rv q.1)
  have m2:=wd (rv p.2) (rv q.2)
  have m3:=wd (rv p.1) (rv q.2)
  have m4:=wd (rv p.2) (rv q.1)
  have p1:=hp.1
  have p2:=hp.2
  have q1:=hq.1
  have q2:=hq.2
  have e:timesQ (av p) (av q)=(rv p.1*rv q.1-rv p.2*rv q.2,rv p.1*rv q.2+rv p.2*rv q.1):=rfl
  rw [e]at hK
  simp only [go_sem,jg,hm,hs,ha,Vn]
  repeat (first | (refine And.intro (by omega) ?_) | (refine And.intro (by assumption) ?_) | (refine And.intro rfl ?_) | (refine And.intro ⟨rfl,by omega⟩ ?_) | (refine And.intro ⟨rfl,by omega,by omega⟩ ?_) | (intro _))
  exact hK
theorem VaB (hΓ:Holds P Γ) {f fn:Nat} (hn:Γ fn=.dat false Vu) (hc:check P f=some (9,(xj fn).strip,[.cell 2 6 true])):Sound P f (.dat false uD):=by
 refine ja hc WaS hΓ (λargs K hcl hfi hG=>?_)
 match args,hG with
 | [a],hG=>
  obtain ⟨p,rfl,hp,hl,hv,hK⟩:=hG
  refine ⟨by simp,?_⟩
  obtain ⟨l1,l2⟩:=al1 hl
  have p2:=hp.2
  have e:pQ (barQ (av p))=.agg [cb p.1,cn p.1,cd p.1,cb (rcan (-rv p.2)),cn (rcan (-rv p.2)),cd (rcan (-rv p.2))]:=by
   rw [QaJ]
   have:rcan (barQ (av p)).1=p.1:=Je hp.1 hv
   rw [this];rfl
  rw [e]at hK
  simp only [go_sem,xj,hn,Vn]
  repeat (first | (refine And.intro (by omega) ?_) | (refine And.intro (by assumption) ?_) | (refine And.intro rfl ?_) | (refine And.intro ⟨rfl,by omega⟩ ?_) | (refine And.intro ⟨rfl,by omega,by omega⟩ ?_) | (intro _))
  exact hK
end Go.Abs
end
section
namespace Go.Num
open Go.Abs
theorem Wbh {m:Arc} (hw:WLA m) (h:avld m=true):(rcan (av m).1,rcan (av m).2)=m:=by
 unfold avld at h
 rw [Bool.and_eq_true]at h
 exact Prod.ext (Je hw.1 h.1) (Je hw.2 h.2)
end Go.Num
namespace Go.Abs
open Go.Num
variable {P:Program} {Γ:Nat->Spec}
def kW (l:List AV) (K:AV->Prop):Prop:=
 match l with
 | [a,b]=>onPs (λl=>onA (λm=>okPs 1048576 l/\al m<=1048576/\K (.one (.lit (.bool true)))) b) a
 | _=>False
theorem uad (a b:AV) (K:AV->Prop):kW [a,b] K=(onPs (λl=>onA (λm=>okPs 1048576 l/\al m<=1048576/\K (.one (.lit (.bool true)))) b) a):=propext Iff.rfl
@[congr] theorem kbE {K:AV->Prop} {l l' : List AV} (h:l=l'):kW l K=kW l' K:=by subst h;rfl
attribute [go_sem] uad
attribute [go_sem ↓] uad
end Go.Abs
end
section
namespace Go.Num
open Go.Abs
abbrev Cp5:=R×R×R×R×R
instance decC5:DecidableEq Cp5:=λa b=>decidable_of_iff (a.1=b.1/\a.2.1=b.2.1/\a.2.2.1=b.2.2.1/\a.2.2.2.1=b.2.2.2.1/\a.2.2.2.2=b.2.2.2.2) ⟨λ⟨h1,h2,h3,h4,h5⟩=>Prod.ext h1 (Prod.ext h2 (Prod.ext h3 (Prod.ext h4 h5))),λh=>by subst h;exact ⟨rfl,rfl,rfl,rfl,rfl⟩⟩
instance decCp:DecidableEq Cp:=λa b=>decidable_of_iff (a.1=b.1/\a.2.1=b.2.1/\(a.2.2:Cp5)=b.2.2) ⟨λ⟨h1,h2,h3⟩=>Prod.ext h1 (Prod.ext h2 h3),λh=>by subst h;exact ⟨rfl,rfl,rfl⟩⟩
def canC (X:CpQ):Cp:=((rcan X.1.1,rcan X.1.2),(rcan X.2.1.1,rcan X.2.1.2),rcan X.2.2.1,rcan X.2.2.2.1,rcan X.2.2.2.2.1,rcan X.2.2.2.2.2.1,rcan X.2.2.2.2.2.2)
theorem ybc (X:CpQ):cl (canC X)=max (zq X.1) (max (zq X.2.1) (max (rz X.2.2.1) (max (rz X.2.2.2.1) (max (rz X.2.2.2.2.1) (max (rz X.2.2.2.2.2.1) (rz X.2.2.2.2.2.2)))))):=rfl
end Go.Num
namespace Go.Abs
open Go.Num
variable {P:Program} {Γ:Nat->Spec}
def cpC (c:Cp):List C:=[cb c.1.1,cn c.1.1,cd c.1.1,cb c.1.2,cn c.1.2,cd c.1.2,cb c.2.1.1,cn c.2.1.1,cd c.2.1.1,cb c.2.1.2,cn c.2.1.2,cd c.2.1.2,cb c.2.2.1,cn c.2.2.1,cd c.2.2.1,cb c.2.2.2.1,cn c.2.2.2.1,cd c.2.2.2.1,cb c.2.2.2.2.1,cn c.2.2.2.2.1,cd c.2.2.2.2.1,cb c.2.2.2.2.2.1,cn c.2.2.2.2.2.1,cd c.2.2.2.2.2.1,cb c.2.2.2.2.2.2,cn c.2.2.2.2.2.2,cd c.2.2.2.2.2.2]
def cpA (c:Cp):AV:=.agg (cpC c)
theorem YM {x y:R} (h1:cb x=cb y) (h2:cn x=cn y) (h3:cd x=cd y):x=y:=ju _ _ (by simp only [rA];rw [h1,h2,h3])
theorem ZaK (x y:Cp) (h:cpA x=cpA y):x=y:=by
 simp only [cpA,cpC,AV.agg.injEq,List.cons.injEq,and_true]at h
 obtain ⟨a1,a2,a3,b1,b2,b3,c1,c2,c3,d1,d2,d3,e1,e2,e3,f1,f2,f3,g1,g2,g3,h1,h2,h3,i1,i2,i3⟩:=h
 exact Prod.ext (Prod.ext (YM a1 a2 a3) (YM b1 b2 b3)) (Prod.ext (Prod.ext (YM c1 c2 c3) (YM d1 d2 d3)) (Prod.ext (YM e1 e2 e3) (Prod.ext (YM f1 f2 f3) (Prod.ext (YM g1 g2 g3) (Prod.ext (YM h1 h2 h3) (YM i1 i2 i3))))))
def onCp (k:Cp->Prop) (a:AV):Prop:=onE cpA (λc=>WLC c/\k c) a
@[congr] theorem ubQ {k:Cp->Prop} {a a' : AV} (h:a=a'):onCp k a=onCp k a':=by subst h;rfl
theorem Zbc (k:Cp->Prop) (a1 a2 a3 b1 b2 b3 c1 c2 c3 d1 d2 d3 e1 e2 e3 f1 f2 f3 g1 g2 g3 h1 h2 h3 i1 i2 i3:C):onCp k (.agg [a1,a2,a3,b1,b2,b3,c1,c2,c3,d1,d2,d3,e1,e2,e3,f1,f2,f3,g1,g2,g3,h1,h2,h3,i1,i2,i3]) =
  onO (λa=>onO (λb=>onO (λc=>onO (λd=>onO (λe=>onO (λf=>onO (λg=>onO (λh=>onO (λi=>WLC ((a,b),(c,d),e,f,g,h,i)/\k ((a,b),(c,d),e,f,g,h,i)) (dR i1 i2 i3)) (dR h1 h2 h3)) (dR g1 g2 g3)) (dR f1 f2 f3)) (dR e1 e2 e3)) (dR d1 d2 d3)) (dR c1 c2 c3)) (dR b1 b2 b3)) (dR a1 a2 a3):=by
 refine propext ⟨λ⟨t,h,hh⟩=>?_,λh=>?_⟩
 .simp only [cpA,cpC,AV.agg.injEq,List.cons.injEq,and_true]at h
  obtain ⟨rfl,rfl,rfl,rfl,rfl,rfl,rfl,rfl,rfl,rfl,rfl,rfl,rfl,rfl,rfl,rfl,rfl,rfl,rfl,rfl,rfl,rfl,rfl,rfl,rfl,rfl,rfl⟩:=h
  simp only [dR_e,WI];exact hh
 .obtain ⟨a,ha,q1⟩:=kb.1 h
  obtain ⟨b,hb,q2⟩:=kb.1 q1
  obtain ⟨c,hc,q3⟩:=kb.1 q2
  obtain ⟨d,hd,q4⟩:=kb.1 q3
  obtain ⟨e,he,q5⟩:=kb.1 q4
  obtain ⟨f,hf,q6⟩:=kb.1 q5
  obtain ⟨g,hg,q7⟩:=kb.1 q6
  obtain ⟨hh,hhh,q8⟩:=kb.1 q7
  obtain ⟨i,hi,q9⟩:=kb.1 q8
  obtain ⟨rfl,rfl,rfl⟩:=wb.1 ha
  obtain ⟨rfl,rfl,rfl⟩:=wb.1 hb
  obtain ⟨rfl,rfl,rfl⟩:=wb.1 hc
  obtain ⟨rfl,rfl,rfl⟩:=wb.1 hd
  obtain ⟨rfl,rfl,rfl⟩:=wb.1 he
  obtain ⟨rfl,rfl,rfl⟩:=wb.1 hf
  obtain ⟨rfl,rfl,rfl⟩:=wb.1 hg
  obtain ⟨rfl,rfl,rfl⟩:=wb.1 hhh
  obtain ⟨rfl,rfl,rfl⟩:=wb.1 hi
  exact ⟨((a,b),(c,d),e,f,g,hh,i),rfl,q9⟩
theorem yh {β:Type} {T:Cp->(β->Prop)->Prop} (h:∀x,GoodT (T x)) {a:AV}:GoodT λK=>onCp (λx=>T x K) a:=
 UG (e:=cpA) (T:=λp K=>WLC p/\T p K) ZaK λp=>GoodT.and (c:=WLC p) (T:=T p) λ_=>h p
attribute [go_sem] Zbc
attribute [go_sem ↓] Zbc
def Qs (l:List AV) (K:AV->Prop):Prop:=
 match l with
 | [a,b]=>onCp (λc=>onCp (λd=>cl c<=4294967296/\K (.one (.lit (.bool (decide (c=d)))))) b) a
 | _=>False
theorem jac (a b:AV) (K:AV->Prop):Qs [a,b] K=(onCp (λc=>onCp (λd=>cl c<=4294967296/\K (.one (.lit (.bool (decide (c=d)))))) b) a):=propext Iff.rfl
@[congr] theorem wbB {K:AV->Prop} {l l' : List AV} (h:l=l'):Qs l K=Qs l' K:=by subst h;rfl
attribute [go_sem] jac
attribute [go_sem ↓] jac
theorem kak:Good Qs:=Va λas=>by
 unfold Qs
 split
 .exact (yh λ_=>(yh λ_=>(.and λ_=>(.ret _))))
 .exact .of λK hk=>hk.elim
def VC (l:List AV) (K:AV->Prop):Prop:=
 match l with
 | [a,b,c]=>onPs (λl=>onDy (λd=>onA (λn=>okPs 1048576 l/\dl d<=1048576/\al n<=1048576/\K (.one (.lit (.bool true)))) c) b) a
 | _=>False
theorem yG (a b c:AV) (K:AV->Prop):VC [a,b,c] K=(onPs (λl=>onDy (λd=>onA (λn=>okPs 1048576 l/\dl d<=1048576/\al n<=1048576/\K (.one (.lit (.bool true)))) c) b) a):=propext Iff.rfl
@[congr] theorem ybh {K:AV->Prop} {l l' : List AV} (h:l=l'):VC l K=VC l' K:=by subst h;rfl
attribute [go_sem] yG
attribute [go_sem ↓] yG
def vc (f0 f1:Nat):AC:=(.seq (.ops false [.u 2 (.box 27 (.t 0)),.u 3 (.box 27 (.t 1)),.m 4 .fa])
 (.fg [2,3] (.seq (.ops false [.u 5 (.fa 0 (.t 2)),.u 6 (.ld none 6 true (.t 5)),.u 7 (.fa 0 (.t 3)),.u 8 (.ld none 6 true (.t 7)),.u 9 (.call f0 [(.t 6),(.t 8)]),.m 10 (.t 9),.w 11 10 true (.fa 6 (.t 2)),.w 12 10 true (.ld none 6 true (.t 11)),.w 13 10 true (.fa 6 (.t 3)),.w 14 10 true (.ld none 6 true (.t 13)),.w 15 10 true (.call f0 [(.t 12),(.t 14)]),.u 16 (.pick (.t 10) (.t 15) .fa),.m 17 (.t 16),.w 18 17 true (.fa 12 (.t 2)),.w 19 17 true (.ld none 3 true (.t 18)),.w 20 17 true (.fa 15 (.t 2)),.w 21 17 true (.ld none 3 true (.t 20)),.w 22 17 true (.fa 18 (.t 2)),.w 23 17 true (.ld none 3 true (.t 22)),.w 24 17 true (.fa 21 (.t 2)),.w 25 17 true (.ld none 3 true (.t 24)),.w 26 17 true (.fa 24 (.t 2)),.w 27 17 true (.ld none 3 true (.t 26)),.w 28 17 true (.row 3 [[.x 3 (.t 19)],[.x 3 (.t 21)],[.x 3 (.t 23)],[.x 3 (.t 25)],[.x 3 (.t 27)]]),.w 29 17 true (.fa 12 (.t 3)),.w 30 17 true (.ld none 3 true (.t 29)),.w 31 17 true (.fa 15 (.t 3)),.w 32 17 true (.ld none 3 true (.t 31)),.w 33 17 true (.fa 18 (.t 3)),.w 34 17 true (.ld none 3 true (.t 33)),.w 35 17 true (.fa 21 (.t 3)),.w 36 17 true (.ld none 3 true (.t 35)),.w 37 17 true (.fa 24 (.t 3)),.w 38 17 true (.ld none 3 true (.t 37)),.w 39 17 true (.row 3 [[.x 3 (.t 30)],[.x 3 (.t 32)],[.x 3 (.t 34)],[.x 3 (.t 36)],[.x 3 (.t 38)]]),.w 40 17 true (.call f1 [(.t 28),(.t 39)]),.u 41 (.pick (.t 17) (.t 40) .fa),.m 4 (.t 41)])
 .ret)))
theorem vac (hΓ:Holds P Γ) {f fs fr:Nat} (hs:Γ fs=.dat true kw) (hr:Γ fr=.dat true uy) (hc:check P f=some (42,(vc fs fr).strip,[.tmp 4])):Sound P f (.dat true Qs):=by
 refine ja hc kak hΓ (λargs K hcl hfi hG=>?_)
 match args,hG with
 | [a,b],hG=>
  obtain ⟨⟨o,q,x1,x2,x3,x4,x5⟩,rfl,⟨wo,wq,w1,w2,w3,w4,w5⟩,⟨o',q',y1,y2,y3,y4,y5⟩,rfl,⟨wo',wq',v1,v2,v3,v4,v5⟩,hl,hK⟩:=hG
  refine ⟨by simp,?_⟩
  unfold cl at hl
  simp only [Nat.max_le]at hl
  obtain ⟨l1,l2,l3,l4,l5,l6,l7⟩:=hl
  simp only at wo wq w1 w2 w3 w4 w5 wo' wq' v1 v2 v3 v4 v5
  have hr5:okRs 4294967296 [x1,x2,x3,x4,x5]:=λx hx=>by
   simp only [List.mem_cons,List.not_mem_nil,or_false]at hx
   rcases hx with rfl | rfl | rfl | rfl | rfl
   .exact ⟨w1,l3⟩
   .exact ⟨w2,l4⟩
   .exact ⟨w3,l5⟩
   .exact ⟨w4,l6⟩
   .exact ⟨w5,l7⟩
  have e:decide ((o,q,x1,x2,x3,x4,x5)=(o',q',y1,y2,y3,y4,y5))=(decide (o=o') && (decide (q=q') && decide ([x1,x2,x3,x4,x5]=[y1,y2,y3,y4,y5]))):=by
   rw [<-Bool.decide_and,<-Bool.decide_and,decide_eq_decide];simp only [Prod.mk.injEq,List.cons.injEq,and_true]
  rw [e]at hK
  cases h1:decide (o=o') with
  | false=>
   rw [h1]at hK
   simp only [go_sem,vc,hs,hr,cpA,cpC,yb,h1]
   repeat (first | (refine And.intro (by omega) ?_) | (refine And.intro (by assumption) ?_) | (refine And.intro rfl ?_) | (refine And.intro ⟨rfl,by omega⟩ ?_) | (refine And.intro ⟨rfl,by omega,by omega⟩ ?_) | (intro _))
   exact hK
  | true=>
   cases h2:decide (q=q') with
   | false=>
    rw [h1,h2]at hK
    simp only [go_sem,vc,hs,hr,cpA,cpC,yb,h1,h2]
    repeat (first | (refine And.intro (by omega) ?_) | (refine And.intro (by assumption) ?_) | (refine And.intro rfl ?_) | (refine And.intro ⟨rfl,by omega⟩ ?_) | (refine And.intro ⟨rfl,by omega,by omega⟩ ?_) | (intro _))
    exact hK
   | true=>
    rw [h1,h2,Bool.true_and,Bool.true_and]at hK
    simp only [go_sem,vc,hs,hr,cpA,cpC,yb,h1,h2]
    repeat (first | (refine And.intro (by omega) ?_) | (refine And.intro (by assumption) ?_) | (refine And.intro rfl ?_) | (refine And.intro ⟨rfl,by omega⟩ ?_) | (refine And.intro ⟨rfl,by omega,by omega⟩ ?_) | (intro _))
    exact ⟨⟨w1,w2,w3,w4,w5⟩,⟨v1,v2,v3,v4,v5⟩,hr5,hK⟩
end Go.Abs
end
