/-
  Parts of the proof, merged: PoseF, PoseG, PoseH, PoseI, PoseJ, PoseK.
-/
import Derived.Test.YtjggkdaangghfaaGreatDoorM7
set_option linter.unusedVariables false
set_option linter.unusedSimpArgs false
set_option maxRecDepth 100000
section
namespace Go.Num
open Go.Abs
def pt (i:Nat) (A:List V2):V2:=A.getD i (0,0)
def ciV (A:List V2):V2:=ciQ (pt 0 A) (subQ (pt 1 A) (pt 0 A)) (subQ (pt 2 A) (pt 0 A))
def crV (A:List V2):Rat:=crossQ (subQ (pt 1 A) (pt 0 A)) (subQ (pt 2 A) (pt 0 A))
def othV (A:List V2):V2:=if pt 0 A=pt 1 A then pt 2 A else pt 1 A
def lnC (A:List V2):Nat:=if pt 0 A=othV A then 8 else if crV A≠0 then 21 else 0
def lnA (A:List V2):Rat:=if lnC A=0 then (pt 0 A).2-(othV A).2 else 0
def lnB (A:List V2):Rat:=if lnC A=0 then (othV A).1-(pt 0 A).1 else 0
def lnK (A:List V2):Rat:=if lnC A=0 then ((pt 0 A).2-(othV A).2)*(pt 0 A).1+((othV A).1-(pt 0 A).1)*(pt 0 A).2 else 0
abbrev DyQ:=V2×V2×Rat
def dl (d:Dy):Nat:=max (al d.1) (max (al d.2.1) (rl d.2.2))
def dvld (d:Dy):Bool:=avld d.1 && (avld d.2.1 && vldR d.2.2)
def d0:DyQ:=((0,0),(0,0),0)
def cenC (l:List Ps) (m:Arc):Nat:=if chkC l [m]≠0 then chkC l [m] else if crV (imgs l m)=0 then 8 else 0
def cenQ (A:List V2) (m:V2):DyQ:=(ciV A,m,sqQ (subQ (pt 0 A) (ciV A)))
def lineC (l:List Ps) (m:Arc):Nat:=if chkC l [m]≠0 then chkC l [m] else lnC (imgs l m)
def psnC (l:List Ps) (d:Dy):Nat:=if plchk l≠0 then plchk l else if dvld d then 0 else 2
def psnB (l:List Ps) (d:Dy):Bool:=(imgs l d.2.1).all λx=>decide (sqQ (subQ x (av d.1))=rv d.2.2)
end Go.Num
namespace Go.Abs
open Go.Num
variable {P:Program} {Γ:Nat->Spec}
def dqA (d:DyQ):AV:=.agg [cb (rcan d.1.1),cn (rcan d.1.1),cd (rcan d.1.1),cb (rcan d.1.2),cn (rcan d.1.2),cd (rcan d.1.2),cb (rcan d.2.1.1),cn (rcan d.2.1.1),cd (rcan d.2.1.1),cb (rcan d.2.1.2),cn (rcan d.2.1.2),cd (rcan d.2.1.2),cb (rcan d.2.2),cn (rcan d.2.2),cd (rcan d.2.2)]
theorem jbe (d:DyQ):dqA d=.agg [cb (rcan d.1.1),cn (rcan d.1.1),cd (rcan d.1.1),cb (rcan d.1.2),cn (rcan d.1.2),cd (rcan d.1.2),cb (rcan d.2.1.1),cn (rcan d.2.1.1),cd (rcan d.2.1.1),cb (rcan d.2.1.2),cn (rcan d.2.1.2),cd (rcan d.2.1.2),cb (rcan d.2.2),cn (rcan d.2.2),cd (rcan d.2.2)]:=eq_of_heq (HEq.refl _)
attribute [go_sem] jbe
attribute [go_sem ↓] jbe
def wae (tE:Nat) (l:List AV) (K:AV->Prop):Prop:=
 match l with
 | [a,b]=>onPs (λl=>onA (λm=>okPs 1000 l/\al m<=10000/\K (.tup [rQ (if lineC l m=0 then lnA (imgs l m) else 0),rQ (if lineC l m=0 then lnB (imgs l m) else 0),rQ (if lineC l m=0 then lnK (imgs l m) else 0),errV tE (lineC l m)])) b) a
 | _=>False
theorem Xau (tE:Nat) (a b:AV) (K:AV->Prop):wae tE [a,b] K=(onPs (λl=>onA (λm=>okPs 1000 l/\al m<=10000/\K (.tup [rQ (if lineC l m=0 then lnA (imgs l m) else 0),rQ (if lineC l m=0 then lnB (imgs l m) else 0),rQ (if lineC l m=0 then lnK (imgs l m) else 0),errV tE (lineC l m)])) b) a):=propext Iff.rfl
@[congr] theorem UbH (tE:Nat) {K:AV->Prop} {l l' : List AV} (h:l=l'):wae tE l K=wae tE l' K:=by subst h;rfl
attribute [go_sem] Xau
attribute [go_sem ↓] Xau
def wah (l:List AV) (K:AV->Prop):Prop:=
 match l with
 | [a,b]=>onPs (λl=>onA (λm=>okPs 1000 l/\al m<=10000/\l.length=3/\K (.tup [rQ (lnA (imgs l m)),rQ (lnB (imgs l m)),rQ (lnK (imgs l m)),.one (.lit (.int .i64 (lnC (imgs l m):Nat)))])) b) a
 | _=>False
theorem Jau (a b:AV) (K:AV->Prop):wah [a,b] K=(onPs (λl=>onA (λm=>okPs 1000 l/\al m<=10000/\l.length=3/\K (.tup [rQ (lnA (imgs l m)),rQ (lnB (imgs l m)),rQ (lnK (imgs l m)),.one (.lit (.int .i64 (lnC (imgs l m):Nat)))])) b) a):=propext Iff.rfl
@[congr] theorem wbH {K:AV->Prop} {l l' : List AV} (h:l=l'):wah l K=wah l' K:=by subst h;rfl
attribute [go_sem] Jau
attribute [go_sem ↓] Jau
def vL (tE:Nat) (l:List AV) (K:AV->Prop):Prop:=
 match l with
 | [a,b]=>onPs (λl=>onA (λm=>okPs 1000 l/\al m<=10000/\K (.tup [dqA (if cenC l m=0 then cenQ (imgs l m) (av m) else d0),errV tE (cenC l m)])) b) a
 | _=>False
theorem zO (tE:Nat) (a b:AV) (K:AV->Prop):vL tE [a,b] K=(onPs (λl=>onA (λm=>okPs 1000 l/\al m<=10000/\K (.tup [dqA (if cenC l m=0 then cenQ (imgs l m) (av m) else d0),errV tE (cenC l m)])) b) a):=propext Iff.rfl
@[congr] theorem Qbr (tE:Nat) {K:AV->Prop} {l l' : List AV} (h:l=l'):vL tE l K=vL tE l' K:=by subst h;rfl
attribute [go_sem] zO
attribute [go_sem ↓] zO
def YK (tE:Nat) (l:List AV) (K:AV->Prop):Prop:=
 match l with
 | [a,b]=>onPs (λl=>onDy (λd=>okPs 1000 l/\dl d<=100000/\K (.tup [.one (.lit (.bool (decide (psnC l d=0) && psnB l d))),errV tE (psnC l d)])) b) a
 | _=>False
theorem xR (tE:Nat) (a b:AV) (K:AV->Prop):YK tE [a,b] K=(onPs (λl=>onDy (λd=>okPs 1000 l/\dl d<=100000/\K (.tup [.one (.lit (.bool (decide (psnC l d=0) && psnB l d))),errV tE (psnC l d)])) b) a):=propext Iff.rfl
@[congr] theorem qbr (tE:Nat) {K:AV->Prop} {l l' : List AV} (h:l=l'):YK tE l K=YK tE l' K:=by subst h;rfl
attribute [go_sem] xR
attribute [go_sem ↓] xR
theorem yaj (hΓ:Holds P Γ) {f fp fm fc:Nat} (hp:Γ fp=.dat false xd) (hm:Γ fm=.dat false yu) (hc' : Γ fc=.dat true Uy) (hc:check P f=some (26,(qu fp fm fc).strip,[.tmp 4])):Sound P f (.dat true Qm):=by
 refine Va hc Zag hΓ (λargs K hcl hfi hG=>?_)
 match args,hG with
 | [a,b],hG=>
  obtain ⟨x,rfl,hx,y,rfl,hy,hl,hl',hK⟩:=hG
  refine ⟨by simp,?_⟩
  simp only [go_sem,qu,hp,hm,hc',hx,hy]
  have n1:=xC hx
  have d1:=JF hx
  have n2:=xC hy
  have d2:=JF hy
  rw [<-jaX]
  exact ⟨by omega,by omega,by omega,by omega,by omega,by omega,hK⟩
end Go.Abs
end
section
namespace Go.Num
open Go.Abs
def exPs:List Ps:=[((rcan 0,false),(rcan 0,rcan 0)),((rcan 0,false),(rcan 2,rcan 0)),((rcan 0,true),(rcan 2,rcan 2))]
def o2:Arc:=(rcan 0,rcan 0)
theorem rz_2:rz 2<=2:=by
 have zt:=vba 2
 have zt2:zs 2<=2:=zY (by decide)
 have e2:(((2:Int)):Rat)=2:=rfl
 rw [e2]at zt
 omega
end Go.Num
namespace Go.Abs
open Go.Num
variable {P:Program} {Γ:Nat->Spec}
def vaY (l:List AV) (K:AV->Prop):Prop:=
 match l with
 | []=>K (psA exPs)
 | _=>False
theorem xaN (K:AV->Prop):vaY [] K=(K (psA exPs)):=propext Iff.rfl
@[congr] theorem QbS {K:AV->Prop} {l l' : List AV} (h:l=l'):vaY l K=vaY l' K:=by subst h;rfl
attribute [go_sem] xaN
attribute [go_sem ↓] xaN
def Xai (l:List AV) (K:AV->Prop):Prop:=
 match l with
 | []=>K (.one (.lit (.bool true)))
 | _=>False
theorem Qay (K:AV->Prop):Xai [] K=(K (.one (.lit (.bool true)))):=propext Iff.rfl
@[congr] theorem kbF {K:AV->Prop} {l l' : List AV} (h:l=l'):Xai l K=Xai l' K:=by subst h;rfl
attribute [go_sem] Qay
attribute [go_sem ↓] Qay
def wX (l:List AV) (K:AV->Prop):Prop:=
 match l with
 | [a,b]=>onPs (λl=>onA (λm=>okPs 1048576 l/\al m<=1048576/\K (.one (.lit (.bool true)))) b) a
 | _=>False
theorem Vaa (a b:AV) (K:AV->Prop):wX [a,b] K=(onPs (λl=>onA (λm=>okPs 1048576 l/\al m<=1048576/\K (.one (.lit (.bool true)))) b) a):=propext Iff.rfl
@[congr] theorem kbw {K:AV->Prop} {l l' : List AV} (h:l=l'):wX l K=wX l' K:=by subst h;rfl
attribute [go_sem] Vaa
attribute [go_sem ↓] Vaa
theorem kaw {m:Arc} (h:sA m=true):al m<=2:=by
 simp only [sA,Bool.and_eq_true]at h
 exact Nat.max_le.2 ⟨uJ h.1,uJ h.2⟩
end Go.Abs
end
section
namespace Go.Num
open Go.Abs
instance decAR:DecidableEq (Arc×R):=instDecidableEqProd
instance decDy:DecidableEq Dy:=instDecidableEqProd
def dz:Dy:=(((false,[],[]),(false,[],[])),((false,[],[]),(false,[],[])),(false,[],[]))
def cenR (A:List V2) (m:Arc):Dy:=(acan (ciV A),m,rcan (sqQ (subQ (pt 0 A) (ciV A))))
def movR (A:List V2) (m:Arc):Dy:=(m,acan (ciV A),rcan (sqQ (subQ (pt 0 A) (ciV A))))
def imgsB (l:List Ps) (o:Arc):List V2:=l.map λp=>appQ (invQ (pv p)) (av o)
def movC (l:List Ps) (o:Arc):Nat:=if chkC l [o]≠0 then chkC l [o] else if crV (imgsB l o)=0 then 8 else 0
def movQ (A:List V2) (o:V2):DyQ:=(o,ciV A,sqQ (subQ (pt 0 A) (ciV A)))
end Go.Num
namespace Go.Abs
open Go.Num
variable {P:Program} {Γ:Nat->Spec}
theorem qbL {h h' : Nat->HB} {z:Nat} {b:Bool} {es:List (List C)} (hc:CleanR es):okB h h' (some ⟨es,z,b⟩) (some ⟨es,z,b⟩):=⟨⟨rfl,rfl⟩,.inl ⟨rfl,hc⟩⟩
def QK (l:List AV) (K:AV->Prop):Prop:=
 match l with
 | [a,b]=>onPs (λl=>onA (λm=>okPs 1000 l/\al m<=10000/\l.length=3/\K (.tup [dA (if crV (imgs l m)=0 then dz else cenR (imgs l m) m),.one (.lit (.int .i64 (if crV (imgs l m)=0 then 8 else 0)))])) b) a
 | _=>False
theorem XM (a b:AV) (K:AV->Prop):QK [a,b] K=(onPs (λl=>onA (λm=>okPs 1000 l/\al m<=10000/\l.length=3/\K (.tup [dA (if crV (imgs l m)=0 then dz else cenR (imgs l m) m),.one (.lit (.int .i64 (if crV (imgs l m)=0 then 8 else 0)))])) b) a):=propext Iff.rfl
@[congr] theorem Jbr {K:AV->Prop} {l l' : List AV} (h:l=l'):QK l K=QK l' K:=by subst h;rfl
attribute [go_sem] XM
attribute [go_sem ↓] XM
def QJ (l:List AV) (K:AV->Prop):Prop:=
 match l with
 | [a,b]=>onPs (λl=>onA (λm=>okPs 1000 l/\al m<=10000/\l.length=3/\K (.tup [dA (if crV (imgsB l m)=0 then dz else movR (imgsB l m) m),.one (.lit (.int .i64 (if crV (imgsB l m)=0 then 8 else 0)))])) b) a
 | _=>False
theorem zN (a b:AV) (K:AV->Prop):QJ [a,b] K=(onPs (λl=>onA (λm=>okPs 1000 l/\al m<=10000/\l.length=3/\K (.tup [dA (if crV (imgsB l m)=0 then dz else movR (imgsB l m) m),.one (.lit (.int .i64 (if crV (imgsB l m)=0 then 8 else 0)))])) b) a):=propext Iff.rfl
@[congr] theorem wbq {K:AV->Prop} {l l' : List AV} (h:l=l'):QJ l K=QJ l' K:=by subst h;rfl
attribute [go_sem] zN
attribute [go_sem ↓] zN
def JI (tE:Nat) (l:List AV) (K:AV->Prop):Prop:=
 match l with
 | [a,b]=>onPs (λl=>onA (λm=>okPs 1000 l/\al m<=10000/\K (.tup [dqA (if movC l m=0 then movQ (imgsB l m) (av m) else d0),errV tE (movC l m)])) b) a
 | _=>False
theorem QN (tE:Nat) (a b:AV) (K:AV->Prop):JI tE [a,b] K=(onPs (λl=>onA (λm=>okPs 1000 l/\al m<=10000/\K (.tup [dqA (if movC l m=0 then movQ (imgsB l m) (av m) else d0),errV tE (movC l m)])) b) a):=propext Iff.rfl
@[congr] theorem vbr (tE:Nat) {K:AV->Prop} {l l' : List AV} (h:l=l'):JI tE l K=JI tE l' K:=by subst h;rfl
attribute [go_sem] QN
attribute [go_sem ↓] QN
def zM (l:List AV) (K:AV->Prop):Prop:=
 match l with
 | [a,b]=>onPs (λl=>onDy (λd=>okPs 1000 l/\dl d<=100000/\l.length<=1000/\K (.one (.lit (.bool (psnB l d))))) b) a
 | _=>False
theorem VO (a b:AV) (K:AV->Prop):zM [a,b] K=(onPs (λl=>onDy (λd=>okPs 1000 l/\dl d<=100000/\l.length<=1000/\K (.one (.lit (.bool (psnB l d))))) b) a):=propext Iff.rfl
@[congr] theorem Ubq {K:AV->Prop} {l l' : List AV} (h:l=l'):zM l K=zM l' K:=by subst h;rfl
attribute [go_sem] VO
attribute [go_sem ↓] VO
def Xag (l:List AV) (K:AV->Prop):Prop:=
 match l with
 | [a]=>onDy (λd=>dl d<=100000/\K (.one (.lit (.bool (dvld d))))) a
 | _=>False
theorem Uaw (a:AV) (K:AV->Prop):Xag [a] K=(onDy (λd=>dl d<=100000/\K (.one (.lit (.bool (dvld d))))) a):=propext Iff.rfl
@[congr] theorem wbF {K:AV->Prop} {l l' : List AV} (h:l=l'):Xag l K=Xag l' K:=by subst h;rfl
attribute [go_sem] Uaw
attribute [go_sem ↓] Uaw
def kK (l:List AV) (K:AV->Prop):Prop:=
 match l with
 | [a]=>onDy (λd=>dl d<=4294967296/\K (.one (.lit (.bool (sA d.1 && (sA d.2.1 && sR 4 d.2.2)))))) a
 | _=>False
theorem uO (a:AV) (K:AV->Prop):kK [a] K=(onDy (λd=>dl d<=4294967296/\K (.one (.lit (.bool (sA d.1 && (sA d.2.1 && sR 4 d.2.2)))))) a):=propext Iff.rfl
@[congr] theorem Ybq {K:AV->Prop} {l l' : List AV} (h:l=l'):kK l K=kK l' K:=by subst h;rfl
attribute [go_sem] uO
attribute [go_sem ↓] uO
def yU (l:List AV) (K:AV->Prop):Prop:=
 match l with
 | [a,b]=>onDy (λd=>onDy (λe=>dl d<=4294967296/\K (.one (.lit (.bool (decide (d=e)))))) b) a
 | _=>False
theorem X5 (a b:AV) (K:AV->Prop):yU [a,b] K=(onDy (λd=>onDy (λe=>dl d<=4294967296/\K (.one (.lit (.bool (decide (d=e)))))) b) a):=propext Iff.rfl
@[congr] theorem Wbw {K:AV->Prop} {l l' : List AV} (h:l=l'):yU l K=yU l' K:=by subst h;rfl
attribute [go_sem] X5
attribute [go_sem ↓] X5
end Go.Abs
end
section
namespace Go.Num
open Go.Abs
abbrev CpQ:=V2×V2×Rat×Rat×Rat×Rat×Rat
def c0:CpQ:=((0,0),(0,0),0,0,0,0,0)
def timesQ (a b:V2):V2:=(a.1*b.1-a.2*b.2,a.1*b.2+a.2*b.1)
def barQ (a:V2):V2:=(a.1,-a.2)
def lnkC (A B:List V2) (m n:V2):Nat:=if m=n then 8 else if crV A=0 then 8 else if crV B=0 then 8 else if ciV A=ciV B then 8 else 0
def lnkQ (A B:List V2) (m n:V2):CpQ:=(ciV A,ciV B,sqQ (subQ (pt 0 A) (ciV A)),sqQ (subQ n m),sqQ (subQ (pt 0 B) (ciV B)),-(m.1*(subQ n m).1+m.2*(subQ n m).2) / sqQ (subQ n m),(m.1*(subQ n m).2-m.2*(subQ n m).1) / sqQ (subQ n m))
def lkC (l:List Ps) (m n:Arc):Nat:=if chkC l [m,n]≠0 then chkC l [m,n] else lnkC (imgs l m) (imgs l n) (av m) (av n)
end Go.Num
namespace Go.Abs
open Go.Num
variable {P:Program} {Γ:Nat->Spec}
def cqC (c:CpQ):List C:=[cb (rcan c.1.1),cn (rcan c.1.1),cd (rcan c.1.1),cb (rcan c.1.2),cn (rcan c.1.2),cd (rcan c.1.2),cb (rcan c.2.1.1),cn (rcan c.2.1.1),cd (rcan c.2.1.1),cb (rcan c.2.1.2),cn (rcan c.2.1.2),cd (rcan c.2.1.2),cb (rcan c.2.2.1),cn (rcan c.2.2.1),cd (rcan c.2.2.1),cb (rcan c.2.2.2.1),cn (rcan c.2.2.2.1),cd (rcan c.2.2.2.1),cb (rcan c.2.2.2.2.1),cn (rcan c.2.2.2.2.1),cd (rcan c.2.2.2.2.1),cb (rcan c.2.2.2.2.2.1),cn (rcan c.2.2.2.2.2.1),cd (rcan c.2.2.2.2.2.1),cb (rcan c.2.2.2.2.2.2),cn (rcan c.2.2.2.2.2.2),cd (rcan c.2.2.2.2.2.2)]
def cqA (c:CpQ):AV:=.agg (cqC c)
def cl (c:Cp):Nat:=max (al c.1) (max (al c.2.1) (max (rl c.2.2.1) (max (rl c.2.2.2.1) (max (rl c.2.2.2.2.1) (max (rl c.2.2.2.2.2.1) (rl c.2.2.2.2.2.2))))))
def qo (l:List AV) (K:AV->Prop):Prop:=
 match l with
 | [a,b]=>onA (λp=>onA (λq=>al p<=100000000/\al q<=100000000/\K (pQ (timesQ (av p) (av q)))) b) a
 | _=>False
theorem xab (a b:AV) (K:AV->Prop):qo [a,b] K=(onA (λp=>onA (λq=>al p<=100000000/\al q<=100000000/\K (pQ (timesQ (av p) (av q)))) b) a):=propext Iff.rfl
@[congr] theorem Vbt {K:AV->Prop} {l l' : List AV} (h:l=l'):qo l K=qo l' K:=by subst h;rfl
attribute [go_sem] xab
attribute [go_sem ↓] xab
theorem Qak:Good qo:=ka λas=>by
 unfold qo
 split
 .exact (xo λ_=>(xo λ_=>(.and λ_=>(.and λ_=>(.ret _)))))
 .exact .of λK hk=>hk.elim
def jaT (l:List AV) (K:AV->Prop):Prop:=
 match l with
 | [a]=>onA (λp=>al p<=100000000/\vldR p.1=true/\K (pQ (barQ (av p)))) a
 | _=>False
theorem UaX (a:AV) (K:AV->Prop):jaT [a] K=(onA (λp=>al p<=100000000/\vldR p.1=true/\K (pQ (barQ (av p)))) a):=propext Iff.rfl
@[congr] theorem kbK {K:AV->Prop} {l l' : List AV} (h:l=l'):jaT l K=jaT l' K:=by subst h;rfl
attribute [go_sem] UaX
attribute [go_sem ↓] UaX
def kai (tE:Nat) (l:List AV) (K:AV->Prop):Prop:=
 match l with
 | [a,b,c]=>onPs (λl=>onA (λm=>onA (λn=>okPs 1000 l/\al m<=10000/\al n<=10000/\K (.tup [cqA (if lkC l m n=0 then lnkQ (imgs l m) (imgs l n) (av m) (av n) else c0),errV tE (lkC l m n)])) c) b) a
 | _=>False
theorem Uas (tE:Nat) (a b c:AV) (K:AV->Prop):kai tE [a,b,c] K=(onPs (λl=>onA (λm=>onA (λn=>okPs 1000 l/\al m<=10000/\al n<=10000/\K (.tup [cqA (if lkC l m n=0 then lnkQ (imgs l m) (imgs l n) (av m) (av n) else c0),errV tE (lkC l m n)])) c) b) a):=propext Iff.rfl
@[congr] theorem ZbH (tE:Nat) {K:AV->Prop} {l l' : List AV} (h:l=l'):kai tE l K=kai tE l' K:=by subst h;rfl
attribute [go_sem] Uas
attribute [go_sem ↓] Uas
def qae (l:List AV) (K:AV->Prop):Prop:=
 match l with
 | [a,b,c]=>onPs (λl=>onA (λm=>onA (λn=>okPs 1000 l/\al m<=10000/\al n<=10000/\l.length=3/\K (.tup [cqA (if lnkC (imgs l m) (imgs l n) (av m) (av n)=0 then lnkQ (imgs l m) (imgs l n) (av m) (av n) else c0),.one (.lit (.int .i64 (lnkC (imgs l m) (imgs l n) (av m) (av n):Nat)))])) c) b) a
 | _=>False
theorem uaz (a b c:AV) (K:AV->Prop):qae [a,b,c] K=(onPs (λl=>onA (λm=>onA (λn=>okPs 1000 l/\al m<=10000/\al n<=10000/\l.length=3/\K (.tup [cqA (if lnkC (imgs l m) (imgs l n) (av m) (av n)=0 then lnkQ (imgs l m) (imgs l n) (av m) (av n) else c0),.one (.lit (.int .i64 (lnkC (imgs l m) (imgs l n) (av m) (av n):Nat)))])) c) b) a):=propext Iff.rfl
@[congr] theorem kbH {K:AV->Prop} {l l' : List AV} (h:l=l'):qae l K=qae l' K:=by subst h;rfl
attribute [go_sem] uaz
attribute [go_sem ↓] uaz
end Go.Abs
end
section
namespace Go.Num
open Go.Abs
theorem Vav {m:Arc} (hw:WLA m) (h:avld m=true):(rcan (av m).1,rcan (av m).2)=m:=by
 unfold avld at h
 rw [Bool.and_eq_true]at h
 exact Prod.ext (Yf hw.1 h.1) (Yf hw.2 h.2)
end Go.Num
namespace Go.Abs
open Go.Num
variable {P:Program} {Γ:Nat->Spec}
def XT (l:List AV) (K:AV->Prop):Prop:=
 match l with
 | [a,b]=>onPs (λl=>onA (λm=>okPs 1048576 l/\al m<=1048576/\K (.one (.lit (.bool true)))) b) a
 | _=>False
theorem U6 (a b:AV) (K:AV->Prop):XT [a,b] K=(onPs (λl=>onA (λm=>okPs 1048576 l/\al m<=1048576/\K (.one (.lit (.bool true)))) b) a):=propext Iff.rfl
@[congr] theorem ZbC {K:AV->Prop} {l l' : List AV} (h:l=l'):XT l K=XT l' K:=by subst h;rfl
attribute [go_sem] U6
attribute [go_sem ↓] U6
end Go.Abs
end
section
namespace Go.Num
open Go.Abs
abbrev Cp5:=R×R×R×R×R
instance decC5:DecidableEq Cp5:=λa b=>decidable_of_iff (a.1=b.1/\a.2.1=b.2.1/\a.2.2.1=b.2.2.1/\a.2.2.2.1=b.2.2.2.1/\a.2.2.2.2=b.2.2.2.2) ⟨λ⟨h1,h2,h3,h4,h5⟩=>Prod.ext h1 (Prod.ext h2 (Prod.ext h3 (Prod.ext h4 h5))),λh=>by subst h;exact ⟨rfl,rfl,rfl,rfl,rfl⟩⟩
instance decCp:DecidableEq Cp:=λa b=>decidable_of_iff (a.1=b.1/\a.2.1=b.2.1/\(a.2.2:Cp5)=b.2.2) ⟨λ⟨h1,h2,h3⟩=>Prod.ext h1 (Prod.ext h2 h3),λh=>by subst h;exact ⟨rfl,rfl,rfl⟩⟩
def canC (X:CpQ):Cp:=((rcan X.1.1,rcan X.1.2),(rcan X.2.1.1,rcan X.2.1.2),rcan X.2.2.1,rcan X.2.2.2.1,rcan X.2.2.2.2.1,rcan X.2.2.2.2.2.1,rcan X.2.2.2.2.2.2)
theorem Vbs (X:CpQ):cl (canC X)=max (zq X.1) (max (zq X.2.1) (max (rz X.2.2.1) (max (rz X.2.2.2.1) (max (rz X.2.2.2.2.1) (max (rz X.2.2.2.2.2.1) (rz X.2.2.2.2.2.2)))))):=rfl
end Go.Num
namespace Go.Abs
open Go.Num
variable {P:Program} {Γ:Nat->Spec}
def cpC (c:Cp):List C:=[cb c.1.1,cn c.1.1,cd c.1.1,cb c.1.2,cn c.1.2,cd c.1.2,cb c.2.1.1,cn c.2.1.1,cd c.2.1.1,cb c.2.1.2,cn c.2.1.2,cd c.2.1.2,cb c.2.2.1,cn c.2.2.1,cd c.2.2.1,cb c.2.2.2.1,cn c.2.2.2.1,cd c.2.2.2.1,cb c.2.2.2.2.1,cn c.2.2.2.2.1,cd c.2.2.2.2.1,cb c.2.2.2.2.2.1,cn c.2.2.2.2.2.1,cd c.2.2.2.2.2.1,cb c.2.2.2.2.2.2,cn c.2.2.2.2.2.2,cd c.2.2.2.2.2.2]
def cpA (c:Cp):AV:=.agg (cpC c)
theorem QM {x y:R} (h1:cb x=cb y) (h2:cn x=cn y) (h3:cd x=cd y):x=y:=Vs _ _ (by simp only [rA];rw [h1,h2,h3])
theorem JaQ (x y:Cp) (h:cpA x=cpA y):x=y:=by
 simp only [cpA,cpC,AV.agg.injEq,List.cons.injEq,and_true]at h
 obtain ⟨a1,a2,a3,b1,b2,b3,c1,c2,c3,d1,d2,d3,e1,e2,e3,f1,f2,f3,g1,g2,g3,h1,h2,h3,i1,i2,i3⟩:=h
 exact Prod.ext (Prod.ext (QM a1 a2 a3) (QM b1 b2 b3)) (Prod.ext (Prod.ext (QM c1 c2 c3) (QM d1 d2 d3)) (Prod.ext (QM e1 e2 e3) (Prod.ext (QM f1 f2 f3) (Prod.ext (QM g1 g2 g3) (Prod.ext (QM h1 h2 h3) (QM i1 i2 i3))))))
def onCp (k:Cp->Prop) (a:AV):Prop:=onE cpA (λc=>WLC c/\k c) a
@[congr] theorem zbL {k:Cp->Prop} {a a' : AV} (h:a=a'):onCp k a=onCp k a':=by subst h;rfl
theorem jbd (k:Cp->Prop) (a1 a2 a3 b1 b2 b3 c1 c2 c3 d1 d2 d3 e1 e2 e3 f1 f2 f3 g1 g2 g3 h1 h2 h3 i1 i2 i3:C):onCp k (.agg [a1,a2,a3,b1,b2,b3,c1,c2,c3,d1,d2,d3,e1,e2,e3,f1,f2,f3,g1,g2,g3,h1,h2,h3,i1,i2,i3]) =
  onO (λa=>onO (λb=>onO (λc=>onO (λd=>onO (λe=>onO (λf=>onO (λg=>onO (λh=>onO (λi=>WLC ((a,b),(c,d),e,f,g,h,i)/\k ((a,b),(c,d),e,f,g,h,i)) (dR i1 i2 i3)) (dR h1 h2 h3)) (dR g1 g2 g3)) (dR f1 f2 f3)) (dR e1 e2 e3)) (dR d1 d2 d3)) (dR c1 c2 c3)) (dR b1 b2 b3)) (dR a1 a2 a3):=by
 refine propext ⟨λ⟨t,h,hh⟩=>?_,λh=>?_⟩
 .simp only [cpA,cpC,AV.agg.injEq,List.cons.injEq,and_true]at h
  obtain ⟨rfl,rfl,rfl,rfl,rfl,rfl,rfl,rfl,rfl,rfl,rfl,rfl,rfl,rfl,rfl,rfl,rfl,rfl,rfl,rfl,rfl,rfl,rfl,rfl,rfl,rfl,rfl⟩:=h
  simp only [dR_e,xI];exact hh
 .obtain ⟨a,ha,q1⟩:=Xb.1 h
  obtain ⟨b,hb,q2⟩:=Xb.1 q1
  obtain ⟨c,hc,q3⟩:=Xb.1 q2
  obtain ⟨d,hd,q4⟩:=Xb.1 q3
  obtain ⟨e,he,q5⟩:=Xb.1 q4
  obtain ⟨f,hf,q6⟩:=Xb.1 q5
  obtain ⟨g,hg,q7⟩:=Xb.1 q6
  obtain ⟨hh,hhh,q8⟩:=Xb.1 q7
  obtain ⟨i,hi,q9⟩:=Xb.1 q8
  obtain ⟨rfl,rfl,rfl⟩:=ub.1 ha
  obtain ⟨rfl,rfl,rfl⟩:=ub.1 hb
  obtain ⟨rfl,rfl,rfl⟩:=ub.1 hc
  obtain ⟨rfl,rfl,rfl⟩:=ub.1 hd
  obtain ⟨rfl,rfl,rfl⟩:=ub.1 he
  obtain ⟨rfl,rfl,rfl⟩:=ub.1 hf
  obtain ⟨rfl,rfl,rfl⟩:=ub.1 hg
  obtain ⟨rfl,rfl,rfl⟩:=ub.1 hhh
  obtain ⟨rfl,rfl,rfl⟩:=ub.1 hi
  exact ⟨((a,b),(c,d),e,f,g,hh,i),rfl,q9⟩
theorem Yj {β:Type} {T:Cp->(β->Prop)->Prop} (h:∀x,GoodT (T x)) {a:AV}:GoodT λK=>onCp (λx=>T x K) a:=
 YG (e:=cpA) (T:=λp K=>WLC p/\T p K) JaQ λp=>GoodT.and (c:=WLC p) (T:=T p) λ_=>h p
attribute [go_sem] jbd
attribute [go_sem ↓] jbd
def UU (l:List AV) (K:AV->Prop):Prop:=
 match l with
 | [a,b]=>onCp (λc=>onCp (λd=>cl c<=4294967296/\K (.one (.lit (.bool (decide (c=d)))))) b) a
 | _=>False
theorem vab (a b:AV) (K:AV->Prop):UU [a,b] K=(onCp (λc=>onCp (λd=>cl c<=4294967296/\K (.one (.lit (.bool (decide (c=d)))))) b) a):=propext Iff.rfl
@[congr] theorem Jbt {K:AV->Prop} {l l' : List AV} (h:l=l'):UU l K=UU l' K:=by subst h;rfl
attribute [go_sem] vab
attribute [go_sem ↓] vab
def jC (l:List AV) (K:AV->Prop):Prop:=
 match l with
 | [a,b,c]=>onPs (λl=>onDy (λd=>onA (λn=>okPs 1048576 l/\dl d<=1048576/\al n<=1048576/\K (.one (.lit (.bool true)))) c) b) a
 | _=>False
theorem vG (a b c:AV) (K:AV->Prop):jC [a,b,c] K=(onPs (λl=>onDy (λd=>onA (λn=>okPs 1048576 l/\dl d<=1048576/\al n<=1048576/\K (.one (.lit (.bool true)))) c) b) a):=propext Iff.rfl
@[congr] theorem Xbc {K:AV->Prop} {l l' : List AV} (h:l=l'):jC l K=jC l' K:=by subst h;rfl
attribute [go_sem] vG
attribute [go_sem ↓] vG
end Go.Abs
end
