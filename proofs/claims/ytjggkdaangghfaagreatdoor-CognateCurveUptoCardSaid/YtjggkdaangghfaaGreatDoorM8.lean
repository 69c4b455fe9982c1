/-
  Parts of the proof, merged: PoseF, PoseG, PoseH, PoseI, PoseJ, PoseK.
-/
import Derived.Test.YtjggkdaangghfaaGreatDoorM7
set_option linter.unusedVariables false
set_option linter.unusedSimpArgs false
set_option maxRecDepth 100000
section
namespace Go.Num
open Go.Abs
def pt (i:Nat) (A:List V2):V2:=A.getD i (0,0)
def ciV (A:List V2):V2:=ciQ (pt 0 A) (subQ (pt 1 A) (pt 0 A)) (subQ (pt 2 A) (pt 0 A))
def crV (A:List V2):Rat:=crossQ (subQ (pt 1 A) (pt 0 A)) (subQ (pt 2 A) (pt 0 A))
def othV (A:List V2):V2:=if pt 0 A=pt 1 A then pt 2 A else pt 1 A
def lnC (A:List V2):Nat:=if pt 0 A=othV A then 8 else if crV A≠0 then 21 else 0
def lnA (A:List V2):Rat:=if lnC A=0 then (pt 0 A).2-(othV A).2 else 0
def lnB (A:List V2):Rat:=if lnC A=0 then (othV A).1-(pt 0 A).1 else 0
def lnK (A:List V2):Rat:=if lnC A=0 then ((pt 0 A).2-(othV A).2)*(pt 0 A).1+((othV A).1-(pt 0 A).1)*(pt 0 A).2 else 0
abbrev DyQ:=V2×V2×Rat
def dl (d:Dy):Nat:=max (al d.1) (max (al d.2.1) (rl d.2.2))
def dvld (d:Dy):Bool:=avld d.1 && (avld d.2.1 && vldR d.2.2)
def d0:DyQ:=((0,0),(0,0),0)
def cenC (l:List Ps) (m:Arc):Nat:=if chkC l [m]≠0 then chkC l [m] else if crV (imgs l m)=0 then 8 else 0
def cenQ (A:List V2) (m:V2):DyQ:=(ciV A,m,sqQ (subQ (pt 0 A) (ciV A)))
def lineC (l:List Ps) (m:Arc):Nat:=if chkC l [m]≠0 then chkC l [m] else lnC (imgs l m)
def psnC (l:List Ps) (d:Dy):Nat:=if plchk l≠0 then plchk l else if dvld d then 0 else 2
def psnB (l:List Ps) (d:Dy):Bool:=(imgs l d.2.1).all λx=>decide (sqQ (subQ x (av d.1))=rv d.2.2)
end Go.Num
namespace Go.Abs
open Go.Num
variable {P:Program} {Γ:Nat->Spec}
def dqA (d:DyQ):AV:=.agg [cb (rcan d.1.1),cn (rcan d.1.1),cd (rcan d.1.1),cb (rcan d.1.2),cn (rcan d.1.2),cd (rcan d.1.2),cb (rcan d.2.1.1),cn (rcan d.2.1.1),cd (rcan d.2.1.1),cb (rcan d.2.1.2),cn (rcan d.2.1.2),cd (rcan d.2.1.2),cb (rcan d.2.2),cn (rcan d.2.2),cd (rcan d.2.2)]
theorem ja7 (d:DyQ):dqA d=.agg [cb (rcan d.1.1),cn (rcan d.1.1),cd (rcan d.1.1),cb (rcan d.1.2),cn (rcan d.1.2),cd (rcan d.1.2),cb (rcan d.2.1.1),cn (rcan d.2.1.1),cd (rcan d.2.1.1),cb (rcan d.2.1.2),cn (rcan d.2.1.2),cd (rcan d.2.1.2),cb (rcan d.2.2),cn (rcan d.2.2),cd (rcan d.2.2)]:=eq_of_heq (HEq.refl _)
attribute [go_sem] ja7
attribute [go_sem ↓] ja7
def Zaf (tE:Nat) (l:List AV) (K:AV->Prop):Prop:=
 match l with
 | [a,b]=>onPs (λl=>onA (λm=>okPs 1000 l/\al m<=10000/\K (.tup [rQ (if lineC l m=0 then lnA (imgs l m) else 0),rQ (if lineC l m=0 then lnB (imgs l m) else 0),rQ (if lineC l m=0 then lnK (imgs l m) else 0),errV tE (lineC l m)])) b) a
 | _=>False
theorem zai (tE:Nat) (a b:AV) (K:AV->Prop):Zaf tE [a,b] K=(onPs (λl=>onA (λm=>okPs 1000 l/\al m<=10000/\K (.tup [rQ (if lineC l m=0 then lnA (imgs l m) else 0),rQ (if lineC l m=0 then lnB (imgs l m) else 0),rQ (if lineC l m=0 then lnK (imgs l m) else 0),errV tE (lineC l m)])) b) a):=propext Iff.rfl
@[congr] theorem xbB (tE:Nat) {K:AV->Prop} {l l' : List AV} (h:l=l'):Zaf tE l K=Zaf tE l' K:=by subst h;rfl
attribute [go_sem] zai
attribute [go_sem ↓] zai
def xaf (l:List AV) (K:AV->Prop):Prop:=
 match l with
 | [a,b]=>onPs (λl=>onA (λm=>okPs 1000 l/\al m<=10000/\l.length=3/\K (.tup [rQ (lnA (imgs l m)),rQ (lnB (imgs l m)),rQ (lnK (imgs l m)),.one (.lit (.int .i64 (lnC (imgs l m):Nat)))])) b) a
 | _=>False
theorem Jak (a b:AV) (K:AV->Prop):xaf [a,b] K=(onPs (λl=>onA (λm=>okPs 1000 l/\al m<=10000/\l.length=3/\K (.tup [rQ (lnA (imgs l m)),rQ (lnB (imgs l m)),rQ (lnK (imgs l m)),.one (.lit (.int .i64 (lnC (imgs l m):Nat)))])) b) a):=propext Iff.rfl
@[congr] theorem zbB {K:AV->Prop} {l l' : List AV} (h:l=l'):xaf l K=xaf l' K:=by subst h;rfl
attribute [go_sem] Jak
attribute [go_sem ↓] Jak
def QH (tE:Nat) (l:List AV) (K:AV->Prop):Prop:=
 match l with
 | [a,b]=>onPs (λl=>onA (λm=>okPs 1000 l/\al m<=10000/\K (.tup [dqA (if cenC l m=0 then cenQ (imgs l m) (av m) else d0),errV tE (cenC l m)])) b) a
 | _=>False
theorem wJ (tE:Nat) (a b:AV) (K:AV->Prop):QH tE [a,b] K=(onPs (λl=>onA (λm=>okPs 1000 l/\al m<=10000/\K (.tup [dqA (if cenC l m=0 then cenQ (imgs l m) (av m) else d0),errV tE (cenC l m)])) b) a):=propext Iff.rfl
@[congr] theorem Qbn (tE:Nat) {K:AV->Prop} {l l' : List AV} (h:l=l'):QH tE l K=QH tE l' K:=by subst h;rfl
attribute [go_sem] wJ
attribute [go_sem ↓] wJ
def UE (tE:Nat) (l:List AV) (K:AV->Prop):Prop:=
 match l with
 | [a,b]=>onPs (λl=>onDy (λd=>okPs 1000 l/\dl d<=100000/\K (.tup [.one (.lit (.bool (decide (psnC l d=0) && psnB l d))),errV tE (psnC l d)])) b) a
 | _=>False
theorem wL (tE:Nat) (a b:AV) (K:AV->Prop):UE tE [a,b] K=(onPs (λl=>onDy (λd=>okPs 1000 l/\dl d<=100000/\K (.tup [.one (.lit (.bool (decide (psnC l d=0) && psnB l d))),errV tE (psnC l d)])) b) a):=propext Iff.rfl
@[congr] theorem ubm (tE:Nat) {K:AV->Prop} {l l' : List AV} (h:l=l'):UE tE l K=UE tE l' K:=by subst h;rfl
attribute [go_sem] wL
attribute [go_sem ↓] wL
theorem jaa (hΓ:Holds P Γ) {f fp fm fc:Nat} (hp:Γ fp=.dat false Xe) (hm:Γ fm=.dat false vw) (hc' : Γ fc=.dat true Zx) (hc:check P f=some (26,(xq fp fm fc).strip,[.tmp 4])):Sound P f (.dat true ul):=by
 refine va hc vab hΓ (λargs K hcl hfi hG=>?_)
 match args,hG with
 | [a,b],hG=>
  obtain ⟨x,rfl,hx,y,rfl,hy,hl,hl',hK⟩:=hG
  refine ⟨by simp,?_⟩
  simp only [go_sem,xq,hp,hm,hc',hx,hy]
  have n1:=JA hx
  have d1:=zC hx
  have n2:=JA hy
  have d2:=zC hy
  rw [<-xaV]
  exact ⟨by omega,by omega,by omega,by omega,by omega,by omega,hK⟩
end Go.Abs
end
section
namespace Go.Num
open Go.Abs
def exPs:List Ps:=[((rcan 0,false),(rcan 0,rcan 0)),((rcan 0,false),(rcan 2,rcan 0)),((rcan 0,true),(rcan 2,rcan 2))]
def o2:Arc:=(rcan 0,rcan 0)
theorem rz_2:rz 2<=2:=by
 have zt:=xa9 2
 have zt2:zs 2<=2:=yZ (by decide)
 have e2:(((2:Int)):Rat)=2:=rfl
 rw [e2]at zt
 omega
end Go.Num
namespace Go.Abs
open Go.Num
variable {P:Program} {Γ:Nat->Spec}
def ZaY (l:List AV) (K:AV->Prop):Prop:=
 match l with
 | []=>K (psA exPs)
 | _=>False
theorem XaB (K:AV->Prop):ZaY [] K=(K (psA exPs)):=propext Iff.rfl
@[congr] theorem xbN {K:AV->Prop} {l l' : List AV} (h:l=l'):ZaY l K=ZaY l' K:=by subst h;rfl
attribute [go_sem] XaB
attribute [go_sem ↓] XaB
def yac (l:List AV) (K:AV->Prop):Prop:=
 match l with
 | []=>K (.one (.lit (.bool true)))
 | _=>False
theorem jas (K:AV->Prop):yac [] K=(K (.one (.lit (.bool true)))):=propext Iff.rfl
@[congr] theorem zbE {K:AV->Prop} {l l' : List AV} (h:l=l'):yac l K=yac l' K:=by subst h;rfl
attribute [go_sem] jas
attribute [go_sem ↓] jas
def jS (l:List AV) (K:AV->Prop):Prop:=
 match l with
 | [a,b]=>onPs (λl=>onA (λm=>okPs 1048576 l/\al m<=1048576/\K (.one (.lit (.bool true)))) b) a
 | _=>False
theorem Y5 (a b:AV) (K:AV->Prop):jS [a,b] K=(onPs (λl=>onA (λm=>okPs 1048576 l/\al m<=1048576/\K (.one (.lit (.bool true)))) b) a):=propext Iff.rfl
@[congr] theorem Wbq {K:AV->Prop} {l l' : List AV} (h:l=l'):jS l K=jS l' K:=by subst h;rfl
attribute [go_sem] Y5
attribute [go_sem ↓] Y5
end Go.Abs
end
section
namespace Go.Num
open Go.Abs
instance decAR:DecidableEq (Arc×R):=instDecidableEqProd
instance decDy:DecidableEq Dy:=instDecidableEqProd
def dz:Dy:=(((false,[],[]),(false,[],[])),((false,[],[]),(false,[],[])),(false,[],[]))
def cenR (A:List V2) (m:Arc):Dy:=(acan (ciV A),m,rcan (sqQ (subQ (pt 0 A) (ciV A))))
def movR (A:List V2) (m:Arc):Dy:=(m,acan (ciV A),rcan (sqQ (subQ (pt 0 A) (ciV A))))
def imgsB (l:List Ps) (o:Arc):List V2:=l.map λp=>appQ (invQ (pv p)) (av o)
def movC (l:List Ps) (o:Arc):Nat:=if chkC l [o]≠0 then chkC l [o] else if crV (imgsB l o)=0 then 8 else 0
def movQ (A:List V2) (o:V2):DyQ:=(o,ciV A,sqQ (subQ (pt 0 A) (ciV A)))
end Go.Num
namespace Go.Abs
open Go.Num
variable {P:Program} {Γ:Nat->Spec}
theorem xbM {h h' : Nat->HB} {z:Nat} {b:Bool} {es:List (List C)} (hc:CleanR es):okB h h' (some ⟨es,z,b⟩) (some ⟨es,z,b⟩):=⟨⟨rfl,rfl⟩,.inl ⟨rfl,hc⟩⟩
def uF (l:List AV) (K:AV->Prop):Prop:=
 match l with
 | [a,b]=>onPs (λl=>onA (λm=>okPs 1000 l/\al m<=10000/\l.length=3/\K (.tup [dA (if crV (imgs l m)=0 then dz else cenR (imgs l m) m),.one (.lit (.int .i64 (if crV (imgs l m)=0 then 8 else 0)))])) b) a
 | _=>False
theorem jK (a b:AV) (K:AV->Prop):uF [a,b] K=(onPs (λl=>onA (λm=>okPs 1000 l/\al m<=10000/\l.length=3/\K (.tup [dA (if crV (imgs l m)=0 then dz else cenR (imgs l m) m),.one (.lit (.int .i64 (if crV (imgs l m)=0 then 8 else 0)))])) b) a):=propext Iff.rfl
@[congr] theorem wbn {K:AV->Prop} {l l' : List AV} (h:l=l'):uF l K=uF l' K:=by subst h;rfl
attribute [go_sem] jK
attribute [go_sem ↓] jK
def ZI (l:List AV) (K:AV->Prop):Prop:=
 match l with
 | [a,b]=>onPs (λl=>onA (λm=>okPs 1000 l/\al m<=10000/\l.length=3/\K (.tup [dA (if crV (imgsB l m)=0 then dz else movR (imgsB l m) m),.one (.lit (.int .i64 (if crV (imgsB l m)=0 then 8 else 0)))])) b) a
 | _=>False
theorem UM (a b:AV) (K:AV->Prop):ZI [a,b] K=(onPs (λl=>onA (λm=>okPs 1000 l/\al m<=10000/\l.length=3/\K (.tup [dA (if crV (imgsB l m)=0 then dz else movR (imgsB l m) m),.one (.lit (.int .i64 (if crV (imgsB l m)=0 then 8 else 0)))])) b) a):=propext Iff.rfl
@[congr] theorem zbn {K:AV->Prop} {l l' : List AV} (h:l=l'):ZI l K=ZI l' K:=by subst h;rfl
attribute [go_sem] UM
attribute [go_sem ↓] UM
def XH (tE:Nat) (l:List AV) (K:AV->Prop):Prop:=
 match l with
 | [a,b]=>onPs (λl=>onA (λm=>okPs 1000 l/\al m<=10000/\K (.tup [dqA (if movC l m=0 then movQ (imgsB l m) (av m) else d0),errV tE (movC l m)])) b) a
 | _=>False
theorem qO (tE:Nat) (a b:AV) (K:AV->Prop):XH tE [a,b] K=(onPs (λl=>onA (λm=>okPs 1000 l/\al m<=10000/\K (.tup [dqA (if movC l m=0 then movQ (imgsB l m) (av m) else d0),errV tE (movC l m)])) b) a):=propext Iff.rfl
@[congr] theorem jbn (tE:Nat) {K:AV->Prop} {l l' : List AV} (h:l=l'):XH tE l K=XH tE l' K:=by subst h;rfl
attribute [go_sem] qO
attribute [go_sem ↓] qO
def vH (l:List AV) (K:AV->Prop):Prop:=
 match l with
 | [a,b]=>onPs (λl=>onDy (λd=>okPs 1000 l/\dl d<=100000/\l.length<=1000/\K (.one (.lit (.bool (psnB l d))))) b) a
 | _=>False
theorem ZM (a b:AV) (K:AV->Prop):vH [a,b] K=(onPs (λl=>onDy (λd=>okPs 1000 l/\dl d<=100000/\l.length<=1000/\K (.one (.lit (.bool (psnB l d))))) b) a):=propext Iff.rfl
@[congr] theorem Ubm {K:AV->Prop} {l l' : List AV} (h:l=l'):vH l K=vH l' K:=by subst h;rfl
attribute [go_sem] ZM
attribute [go_sem ↓] ZM
def xad (l:List AV) (K:AV->Prop):Prop:=
 match l with
 | [a]=>onDy (λd=>dl d<=100000/\K (.one (.lit (.bool (dvld d))))) a
 | _=>False
theorem Vaj (a:AV) (K:AV->Prop):xad [a] K=(onDy (λd=>dl d<=100000/\K (.one (.lit (.bool (dvld d))))) a):=propext Iff.rfl
@[congr] theorem vbD {K:AV->Prop} {l l' : List AV} (h:l=l'):xad l K=xad l' K:=by subst h;rfl
attribute [go_sem] Vaj
attribute [go_sem ↓] Vaj
def yF (l:List AV) (K:AV->Prop):Prop:=
 match l with
 | [a]=>onDy (λd=>dl d<=4294967296/\K (.one (.lit (.bool (sA d.1 && (sA d.2.1 && sR 4 d.2.2)))))) a
 | _=>False
theorem uK (a:AV) (K:AV->Prop):yF [a] K=(onDy (λd=>dl d<=4294967296/\K (.one (.lit (.bool (sA d.1 && (sA d.2.1 && sR 4 d.2.2)))))) a):=propext Iff.rfl
@[congr] theorem Ybm {K:AV->Prop} {l l' : List AV} (h:l=l'):yF l K=yF l' K:=by subst h;rfl
attribute [go_sem] uK
attribute [go_sem ↓] uK
def yR (l:List AV) (K:AV->Prop):Prop:=
 match l with
 | [a,b]=>onDy (λd=>onDy (λe=>dl d<=4294967296/\K (.one (.lit (.bool (decide (d=e)))))) b) a
 | _=>False
theorem yW (a b:AV) (K:AV->Prop):yR [a,b] K=(onDy (λd=>onDy (λe=>dl d<=4294967296/\K (.one (.lit (.bool (decide (d=e)))))) b) a):=propext Iff.rfl
@[congr] theorem vby {K:AV->Prop} {l l' : List AV} (h:l=l'):yR l K=yR l' K:=by subst h;rfl
attribute [go_sem] yW
attribute [go_sem ↓] yW
end Go.Abs
end
section
namespace Go.Num
open Go.Abs
abbrev CpQ:=V2×V2×Rat×Rat×Rat×Rat×Rat
def c0:CpQ:=((0,0),(0,0),0,0,0,0,0)
def timesQ (a b:V2):V2:=(a.1*b.1-a.2*b.2,a.1*b.2+a.2*b.1)
def barQ (a:V2):V2:=(a.1,-a.2)
def lnkC (A B:List V2) (m n:V2):Nat:=if m=n then 8 else if crV A=0 then 8 else if crV B=0 then 8 else if ciV A=ciV B then 8 else 0
def lnkQ (A B:List V2) (m n:V2):CpQ:=(ciV A,ciV B,sqQ (subQ (pt 0 A) (ciV A)),sqQ (subQ n m),sqQ (subQ (pt 0 B) (ciV B)),-(m.1*(subQ n m).1+m.2*(subQ n m).2) / sqQ (subQ n m),(m.1*(subQ n m).2-m.2*(subQ n m).1) / sqQ (subQ n m))
def lkC (l:List Ps) (m n:Arc):Nat:=if chkC l [m,n]≠0 then chkC l [m,n] else lnkC (imgs l m) (imgs l n) (av m) (av n)
end Go.Num
namespace Go.Abs
open Go.Num
variable {P:Program} {Γ:Nat->Spec}
def cqC (c:CpQ):List C:=[cb (rcan c.1.1),cn (rcan c.1.1),cd (rcan c.1.1),cb (rcan c.1.2),cn (rcan c.1.2),cd (rcan c.1.2),cb (rcan c.2.1.1),cn (rcan c.2.1.1),cd (rcan c.2.1.1),cb (rcan c.2.1.2),cn (rcan c.2.1.2),cd (rcan c.2.1.2),cb (rcan c.2.2.1),cn (rcan c.2.2.1),cd (rcan c.2.2.1),cb (rcan c.2.2.2.1),cn (rcan c.2.2.2.1),cd (rcan c.2.2.2.1),cb (rcan c.2.2.2.2.1),cn (rcan c.2.2.2.2.1),cd (rcan c.2.2.2.2.1),cb (rcan c.2.2.2.2.2.1),cn (rcan c.2.2.2.2.2.1),cd (rcan c.2.2.2.2.2.1),cb (rcan c.2.2.2.2.2.2),cn (rcan c.2.2.2.2.2.2),cd (rcan c.2.2.2.2.2.2)]
def cqA (c:CpQ):AV:=.agg (cqC c)
def cl (c:Cp):Nat:=max (al c.1) (max (al c.2.1) (max (rl c.2.2.1) (max (rl c.2.2.2.1) (max (rl c.2.2.2.2.1) (max (rl c.2.2.2.2.2.1) (rl c.2.2.2.2.2.2))))))
def Zo (l:List AV) (K:AV->Prop):Prop:=
 match l with
 | [a,b]=>onA (λp=>onA (λq=>al p<=100000000/\al q<=100000000/\K (pQ (timesQ (av p) (av q)))) b) a
 | _=>False
theorem Z3 (a b:AV) (K:AV->Prop):Zo [a,b] K=(onA (λp=>onA (λq=>al p<=100000000/\al q<=100000000/\K (pQ (timesQ (av p) (av q)))) b) a):=propext Iff.rfl
@[congr] theorem wbz {K:AV->Prop} {l l' : List AV} (h:l=l'):Zo l K=Zo l' K:=by subst h;rfl
attribute [go_sem] Z3
attribute [go_sem ↓] Z3
theorem Wad:Good Zo:=Va λas=>by
 unfold Zo
 split
 .exact (QD λ_=>(QD λ_=>(.and λ_=>(.and λ_=>(.ret _)))))
 .exact .of λK hk=>hk.elim
def yaR (l:List AV) (K:AV->Prop):Prop:=
 match l with
 | [a]=>onA (λp=>al p<=100000000/\vldR p.1=true/\K (pQ (barQ (av p)))) a
 | _=>False
theorem UaK (a:AV) (K:AV->Prop):yaR [a] K=(onA (λp=>al p<=100000000/\vldR p.1=true/\K (pQ (barQ (av p)))) a):=propext Iff.rfl
@[congr] theorem WbH {K:AV->Prop} {l l' : List AV} (h:l=l'):yaR l K=yaR l' K:=by subst h;rfl
attribute [go_sem] UaK
attribute [go_sem ↓] UaK
def Vag (tE:Nat) (l:List AV) (K:AV->Prop):Prop:=
 match l with
 | [a,b,c]=>onPs (λl=>onA (λm=>onA (λn=>okPs 1000 l/\al m<=10000/\al n<=10000/\K (.tup [cqA (if lkC l m n=0 then lnkQ (imgs l m) (imgs l n) (av m) (av n) else c0),errV tE (lkC l m n)])) c) b) a
 | _=>False
theorem wau (tE:Nat) (a b c:AV) (K:AV->Prop):Vag tE [a,b,c] K=(onPs (λl=>onA (λm=>onA (λn=>okPs 1000 l/\al m<=10000/\al n<=10000/\K (.tup [cqA (if lkC l m n=0 then lnkQ (imgs l m) (imgs l n) (av m) (av n) else c0),errV tE (lkC l m n)])) c) b) a):=propext Iff.rfl
@[congr] theorem wbA (tE:Nat) {K:AV->Prop} {l l' : List AV} (h:l=l'):Vag tE l K=Vag tE l' K:=by subst h;rfl
attribute [go_sem] wau
attribute [go_sem ↓] wau
def uaa (l:List AV) (K:AV->Prop):Prop:=
 match l with
 | [a,b,c]=>onPs (λl=>onA (λm=>onA (λn=>okPs 1000 l/\al m<=10000/\al n<=10000/\l.length=3/\K (.tup [cqA (if lnkC (imgs l m) (imgs l n) (av m) (av n)=0 then lnkQ (imgs l m) (imgs l n) (av m) (av n) else c0),.one (.lit (.int .i64 (lnkC (imgs l m) (imgs l n) (av m) (av n):Nat)))])) c) b) a
 | _=>False
theorem Yao (a b c:AV) (K:AV->Prop):uaa [a,b,c] K=(onPs (λl=>onA (λm=>onA (λn=>okPs 1000 l/\al m<=10000/\al n<=10000/\l.length=3/\K (.tup [cqA (if lnkC (imgs l m) (imgs l n) (av m) (av n)=0 then lnkQ (imgs l m) (imgs l n) (av m) (av n) else c0),.one (.lit (.int .i64 (lnkC (imgs l m) (imgs l n) (av m) (av n):Nat)))])) c) b) a):=propext Iff.rfl
@[congr] theorem kbD {K:AV->Prop} {l l' : List AV} (h:l=l'):uaa l K=uaa l' K:=by subst h;rfl
attribute [go_sem] Yao
attribute [go_sem ↓] Yao
end Go.Abs
end
section
namespace Go.Num
open Go.Abs
end Go.Num
namespace Go.Abs
open Go.Num
variable {P:Program} {Γ:Nat->Spec}
def kO (l:List AV) (K:AV->Prop):Prop:=
 match l with
 | [a,b]=>onPs (λl=>onA (λm=>okPs 1048576 l/\al m<=1048576/\K (.one (.lit (.bool true)))) b) a
 | _=>False
theorem J7 (a b:AV) (K:AV->Prop):kO [a,b] K=(onPs (λl=>onA (λm=>okPs 1048576 l/\al m<=1048576/\K (.one (.lit (.bool true)))) b) a):=propext Iff.rfl
@[congr] theorem jby {K:AV->Prop} {l l' : List AV} (h:l=l'):kO l K=kO l' K:=by subst h;rfl
attribute [go_sem] J7
attribute [go_sem ↓] J7
end Go.Abs
end
section
namespace Go.Num
open Go.Abs
abbrev Cp5:=R×R×R×R×R
instance decC5:DecidableEq Cp5:=λa b=>decidable_of_iff (a.1=b.1/\a.2.1=b.2.1/\a.2.2.1=b.2.2.1/\a.2.2.2.1=b.2.2.2.1/\a.2.2.2.2=b.2.2.2.2) ⟨λ⟨h1,h2,h3,h4,h5⟩=>Prod.ext h1 (Prod.ext h2 (Prod.ext h3 (Prod.ext h4 h5))),λh=>by subst h;exact ⟨rfl,rfl,rfl,rfl,rfl⟩⟩
instance decCp:DecidableEq Cp:=λa b=>decidable_of_iff (a.1=b.1/\a.2.1=b.2.1/\(a.2.2:Cp5)=b.2.2) ⟨λ⟨h1,h2,h3⟩=>Prod.ext h1 (Prod.ext h2 h3),λh=>by subst h;exact ⟨rfl,rfl,rfl⟩⟩
def canC (X:CpQ):Cp:=((rcan X.1.1,rcan X.1.2),(rcan X.2.1.1,rcan X.2.1.2),rcan X.2.2.1,rcan X.2.2.2.1,rcan X.2.2.2.2.1,rcan X.2.2.2.2.2.1,rcan X.2.2.2.2.2.2)
theorem Ybt (X:CpQ):cl (canC X)=max (zq X.1) (max (zq X.2.1) (max (rz X.2.2.1) (max (rz X.2.2.2.1) (max (rz X.2.2.2.2.1) (max (rz X.2.2.2.2.2.1) (rz X.2.2.2.2.2.2)))))):=rfl
end Go.Num
namespace Go.Abs
open Go.Num
variable {P:Program} {Γ:Nat->Spec}
def cpC (c:Cp):List C:=[cb c.1.1,cn c.1.1,cd c.1.1,cb c.1.2,cn c.1.2,cd c.1.2,cb c.2.1.1,cn c.2.1.1,cd c.2.1.1,cb c.2.1.2,cn c.2.1.2,cd c.2.1.2,cb c.2.2.1,cn c.2.2.1,cd c.2.2.1,cb c.2.2.2.1,cn c.2.2.2.1,cd c.2.2.2.1,cb c.2.2.2.2.1,cn c.2.2.2.2.1,cd c.2.2.2.2.1,cb c.2.2.2.2.2.1,cn c.2.2.2.2.2.1,cd c.2.2.2.2.2.1,cb c.2.2.2.2.2.2,cn c.2.2.2.2.2.2,cd c.2.2.2.2.2.2]
def cpA (c:Cp):AV:=.agg (cpC c)
theorem zJ {x y:R} (h1:cb x=cb y) (h2:cn x=cn y) (h3:cd x=cd y):x=y:=Qq _ _ (by simp only [rA];rw [h1,h2,h3])
theorem WaC (x y:Cp) (h:cpA x=cpA y):x=y:=by
 simp only [cpA,cpC,AV.agg.injEq,List.cons.injEq,and_true]at h
 obtain ⟨a1,a2,a3,b1,b2,b3,c1,c2,c3,d1,d2,d3,e1,e2,e3,f1,f2,f3,g1,g2,g3,h1,h2,h3,i1,i2,i3⟩:=h
 exact Prod.ext (Prod.ext (zJ a1 a2 a3) (zJ b1 b2 b3)) (Prod.ext (Prod.ext (zJ c1 c2 c3) (zJ d1 d2 d3)) (Prod.ext (zJ e1 e2 e3) (Prod.ext (zJ f1 f2 f3) (Prod.ext (zJ g1 g2 g3) (Prod.ext (zJ h1 h2 h3) (zJ i1 i2 i3))))))
def onCp (k:Cp->Prop) (a:AV):Prop:=onE cpA (λc=>WLC c/\k c) a
@[congr] theorem zbJ {k:Cp->Prop} {a a' : AV} (h:a=a'):onCp k a=onCp k a':=by subst h;rfl
theorem vbb (k:Cp->Prop) (a1 a2 a3 b1 b2 b3 c1 c2 c3 d1 d2 d3 e1 e2 e3 f1 f2 f3 g1 g2 g3 h1 h2 h3 i1 i2 i3:C):onCp k (.agg [a1,a2,a3,b1,b2,b3,c1,c2,c3,d1,d2,d3,e1,e2,e3,f1,f2,f3,g1,g2,g3,h1,h2,h3,i1,i2,i3]) =
  onO (λa=>onO (λb=>onO (λc=>onO (λd=>onO (λe=>onO (λf=>onO (λg=>onO (λh=>onO (λi=>WLC ((a,b),(c,d),e,f,g,h,i)/\k ((a,b),(c,d),e,f,g,h,i)) (dR i1 i2 i3)) (dR h1 h2 h3)) (dR g1 g2 g3)) (dR f1 f2 f3)) (dR e1 e2 e3)) (dR d1 d2 d3)) (dR c1 c2 c3)) (dR b1 b2 b3)) (dR a1 a2 a3):=by
 refine propext ⟨λ⟨t,h,hh⟩=>?_,λh=>?_⟩
 .simp only [cpA,cpC,AV.agg.injEq,List.cons.injEq,and_true]at h
  obtain ⟨rfl,rfl,rfl,rfl,rfl,rfl,rfl,rfl,rfl,rfl,rfl,rfl,rfl,rfl,rfl,rfl,rfl,rfl,rfl,rfl,rfl,rfl,rfl,rfl,rfl,rfl,rfl⟩:=h
  simp only [dR_e,jF];exact hh
 .obtain ⟨a,ha,q1⟩:=kb.1 h
  obtain ⟨b,hb,q2⟩:=kb.1 q1
  obtain ⟨c,hc,q3⟩:=kb.1 q2
  obtain ⟨d,hd,q4⟩:=kb.1 q3
  obtain ⟨e,he,q5⟩:=kb.1 q4
  obtain ⟨f,hf,q6⟩:=kb.1 q5
  obtain ⟨g,hg,q7⟩:=kb.1 q6
  obtain ⟨hh,hhh,q8⟩:=kb.1 q7
  obtain ⟨i,hi,q9⟩:=kb.1 q8
  obtain ⟨rfl,rfl,rfl⟩:=wb.1 ha
  obtain ⟨rfl,rfl,rfl⟩:=wb.1 hb
  obtain ⟨rfl,rfl,rfl⟩:=wb.1 hc
  obtain ⟨rfl,rfl,rfl⟩:=wb.1 hd
  obtain ⟨rfl,rfl,rfl⟩:=wb.1 he
  obtain ⟨rfl,rfl,rfl⟩:=wb.1 hf
  obtain ⟨rfl,rfl,rfl⟩:=wb.1 hg
  obtain ⟨rfl,rfl,rfl⟩:=wb.1 hhh
  obtain ⟨rfl,rfl,rfl⟩:=wb.1 hi
  exact ⟨((a,b),(c,d),e,f,g,hh,i),rfl,q9⟩
theorem Vm {β:Type} {T:Cp->(β->Prop)->Prop} (h:∀x,GoodT (T x)) {a:AV}:GoodT λK=>onCp (λx=>T x K) a:=
 zE (e:=cpA) (T:=λp K=>WLC p/\T p K) WaC λp=>GoodT.and (c:=WLC p) (T:=T p) λ_=>h p
attribute [go_sem] vbb
attribute [go_sem ↓] vbb
def YS (l:List AV) (K:AV->Prop):Prop:=
 match l with
 | [a,b]=>onCp (λc=>onCp (λd=>cl c<=4294967296/\K (.one (.lit (.bool (decide (c=d)))))) b) a
 | _=>False
theorem qU (a b:AV) (K:AV->Prop):YS [a,b] K=(onCp (λc=>onCp (λd=>cl c<=4294967296/\K (.one (.lit (.bool (decide (c=d)))))) b) a):=propext Iff.rfl
@[congr] theorem zbu {K:AV->Prop} {l l' : List AV} (h:l=l'):YS l K=YS l' K:=by subst h;rfl
attribute [go_sem] qU
attribute [go_sem ↓] qU
def Uy (l:List AV) (K:AV->Prop):Prop:=
 match l with
 | [a,b,c]=>onPs (λl=>onDy (λd=>onA (λn=>okPs 1048576 l/\dl d<=1048576/\al n<=1048576/\K (.one (.lit (.bool true)))) c) b) a
 | _=>False
theorem yD (a b c:AV) (K:AV->Prop):Uy [a,b,c] K=(onPs (λl=>onDy (λd=>onA (λn=>okPs 1048576 l/\dl d<=1048576/\al n<=1048576/\K (.one (.lit (.bool true)))) c) b) a):=propext Iff.rfl
@[congr] theorem ua8 {K:AV->Prop} {l l' : List AV} (h:l=l'):Uy l K=Uy l' K:=by subst h;rfl
attribute [go_sem] yD
attribute [go_sem ↓] yD
end Go.Abs
end
