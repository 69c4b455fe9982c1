/-
  Parts of the proof, merged: PolyE, PolyF, PolyG, PolyH, PolyI, CoupP, CoupQ, PoseI, PoseK, CoupA.
-/
import Derived.Test.YtfichbefnpcdeaaGreatM9
set_option linter.unusedVariables false
set_option linter.unusedSimpArgs false
set_option linter.unnecessarySimpa false
set_option maxRecDepth 100000
section
namespace Go.Num
open Go.Abs
structure OutM (l:List Mo) (k:Nat) (o:BQ):Prop where
 str:StrM o
 ins:InQ o
 cf:∀i j,cf o i j=cf ((l.take k).map mv) i j
 sz:sz o<=sz ((l.take k).map mv)
 len:o.length<=k
 le:∀t∈o,∀x∈l.drop k,kq t<=kM x
end Go.Num
namespace Go.Abs
open Go.Num
variable {P:Program} {Γ:Nat->Spec}
end Go.Abs
end
section
namespace Go.Num
open Go.Abs
def chk2(p q:List Mo):Nat:=if chkB p≠0 then chkB p else chkB q
end Go.Num
namespace Go.Abs
open Go.Num
variable {P:Program} {Γ:Nat->Spec}
end Go.Abs
end
section
namespace Go.Num
open Go.Abs
end Go.Num
namespace Go.Abs
open Go.Num
variable {P:Program} {Γ:Nat->Spec}
def onM2f(k:List Mo->List Mo->Prop)(a:AV):Prop:=∃p q,a=.one (.full [[ms p],[ms q]])/\((∀x∈p,WLM x)/\(∀x∈q,WLM x))/\k p q
@[congr] theorem ybi{k:List Mo->List Mo->Prop}{a a'}(h:a=a'):onM2f k a=onM2f k a':=by subst h;rfl
theorem waq(k:List Mo->List Mo->Prop)(p q:List Mo):onM2f k (.one (.full [[.slice (p.map mC)],[.slice (q.map mC)]]))=(((∀x∈p,WLM x)/\(∀x∈q,WLM x))/\k p q):=by
 refine propext ⟨λ⟨x,y,h,h1,h2⟩=>?_,λh=>⟨p,q,rfl,h⟩⟩;simp only [ms,AV.one.injEq,C.full.injEq,List.cons.injEq,C.slice.injEq,and_true]at h;obtain⟨e1,e2⟩:=h;have:=Qi e1;have:=Qi e2
 subst_vars;exact⟨h1,h2⟩
attribute [go_sem,go_sem ↓] waq
end Go.Abs
end
section
namespace Go.Num
open Go.Abs
end Go.Num
namespace Go.Abs
open Go.Num
variable {P:Program} {Γ:Nat->Spec}
end Go.Abs
end
section
namespace Go.Num
open Go.Abs
end Go.Num
namespace Go.Abs
open Go.Num
variable {P:Program} {Γ:Nat->Spec}
end Go.Abs
end
section
namespace Go.Num
abbrev CpR:=V2×V2×Rat×Rat×Rat×Rat×Rat
structure CB (c:CpR):Prop where
 o1:rz c.1.1<=4000
 o2:rz c.1.2<=4000
 q1:rz c.2.1.1<=4000
 q2:rz c.2.1.2<=4000
 a2:rz c.2.2.1<=4000
 b2:rz c.2.2.2.1<=4000
 c2:rz c.2.2.2.2.1<=4000
 u:rz c.2.2.2.2.2.1<=4000
 v:rz c.2.2.2.2.2.2<=4000
def lxB(o:V2):BQ×BQ:=(linB false o.1,linB true o.2)
def timB(v:BQ×BQ)(u w:Rat):BQ×BQ:=(subB (sclB u v.1) (sclB w v.2),addB (sclB u v.2) (sclB w v.1))
def nrmB(v:BQ×BQ):BQ:=addB (mulB v.1 v.1) (mulB v.2 v.2)
def cRe(c:CpR):Rat:=1-c.2.2.2.2.2.1
def cAl(c:CpR):BQ×BQ:=timB (lxB c.1) c.2.2.2.2.2.1 (-c.2.2.2.2.2.2)
def cBe(c:CpR):BQ×BQ:=timB (lxB c.2.1) (cRe c) c.2.2.2.2.2.2
def cFi(c:CpR):Rat:=sqQ (c.2.2.2.2.2.1,c.2.2.2.2.2.2)*c.2.2.2.1-c.2.2.1
def cSe(c:CpR):Rat:=c.2.2.2.2.1-sqQ (cRe c,c.2.2.2.2.2.2)*c.2.2.2.1
def cE(c:CpR):BQ:=addB (nrmB (lxB c.1)) (conB (cFi c))
def cF(c:CpR):BQ:=subB (conB (cSe c)) (nrmB (lxB c.2.1))
def cX(c:CpR):BQ:=subB (mulB (cE c) (cBe c).2) (mulB (cF c) (cAl c).2)
def cY(c:CpR):BQ:=subB (mulB (cF c) (cAl c).1) (mulB (cE c) (cBe c).1)
def cNo(c:CpR):BQ:=nrmB (cX c,cY c)
theorem PB.nrm{v:BQ×BQ}{d s:Nat}(h1:PB d s v.1)(h2:PB d s v.2)(hd:d+d<=24):PB (d+d) (4*(tri (d+1)*s)) (nrmB v):=
 ((h1.mul h1 hd).add (h2.mul h2 hd)).mono (Nat.le_refl _) (by omega)
end Go.Num
end
section
namespace Go.Num
def hldQ(c:CpR)(a b:V2):Prop:=sqQ (subQ a c.1)=c.2.2.1/\sqQ (subQ b c.2.1)=c.2.2.2.2.1/\sqQ (subQ a b)=c.2.2.2.1
end Go.Num
end
section
namespace Go.Num
open Go.Abs
abbrev CpQ:=V2×V2×Rat×Rat×Rat×Rat×Rat
def c0:CpQ:=((0,0),(0,0),0,0,0,0,0)
def barQ(a:V2):V2:=(a.1,-a.2)
end Go.Num
namespace Go.Abs
open Go.Num
variable {P:Program} {Γ:Nat->Spec}
def cl(c:Cp):Nat:=max (al c.1) (max (al c.2.1) (max (rl c.2.2.1) (max (rl c.2.2.2.1) (max (rl c.2.2.2.2.1) (max (rl c.2.2.2.2.2.1) (rl c.2.2.2.2.2.2))))))
end Go.Abs
end
section
namespace Go.Num
open Go.Abs
abbrev Cp5:=R×R×R×R×R
instance decC5:DecidableEq Cp5:=λa b=>decidable_of_iff (a.1=b.1/\a.2.1=b.2.1/\a.2.2.1=b.2.2.1/\a.2.2.2.1=b.2.2.2.1/\a.2.2.2.2=b.2.2.2.2) ⟨λ⟨h1,h2,h3,h4,h5⟩=>Prod.ext h1 (Prod.ext h2 (Prod.ext h3 (Prod.ext h4 h5))),λh=>by subst h;exact⟨rfl,rfl,rfl,rfl,rfl⟩⟩
instance decCp:DecidableEq Cp:=λa b=>decidable_of_iff (a.1=b.1/\a.2.1=b.2.1/\(a.2.2:Cp5)=b.2.2) ⟨λ⟨h1,h2,h3⟩=>Prod.ext h1 (Prod.ext h2 h3),λh=>by subst h;exact⟨rfl,rfl,rfl⟩⟩
end Go.Num
namespace Go.Abs
open Go.Num
variable {P:Program} {Γ:Nat->Spec}
def cpC(c:Cp):List C:=[cb c.1.1,cn c.1.1,cd c.1.1,cb c.1.2,cn c.1.2,cd c.1.2,cb c.2.1.1,cn c.2.1.1,cd c.2.1.1,cb c.2.1.2,cn c.2.1.2,cd c.2.1.2,cb c.2.2.1,cn c.2.2.1,cd c.2.2.1,cb c.2.2.2.1,cn c.2.2.2.1,cd c.2.2.2.1,cb c.2.2.2.2.1,cn c.2.2.2.2.1,cd c.2.2.2.2.1,cb c.2.2.2.2.2.1,cn c.2.2.2.2.2.1,cd c.2.2.2.2.2.1,cb c.2.2.2.2.2.2,cn c.2.2.2.2.2.2,cd c.2.2.2.2.2.2]
def cpA(c:Cp):AV:=.agg (cpC c)
def onCp(k:Cp->Prop)(a:AV):Prop:=onE cpA (λc=>WLC c/\k c) a
@[congr] theorem xbi{k:Cp->Prop}{a a'}(h:a=a'):onCp k a=onCp k a':=by subst h;rfl
theorem vaU(k:Cp->Prop)(a1 a2 a3 b1 b2 b3 c1 c2 c3 d1 d2 d3 e1 e2 e3 f1 f2 f3 g1 g2 g3 h1 h2 h3 i1 i2 i3:C):onCp k (.agg [a1,a2,a3,b1,b2,b3,c1,c2,c3,d1,d2,d3,e1,e2,e3,f1,f2,f3,g1,g2,g3,h1,h2,h3,i1,i2,i3]) =
  onO (λa=>onO (λb=>onO (λc=>onO (λd=>onO (λe=>onO (λf=>onO (λg=>onO (λh=>onO (λi=>WLC ((a,b),(c,d),e,f,g,h,i)/\k ((a,b),(c,d),e,f,g,h,i)) (dR i1 i2 i3)) (dR h1 h2 h3)) (dR g1 g2 g3)) (dR f1 f2 f3)) (dR e1 e2 e3)) (dR d1 d2 d3)) (dR c1 c2 c3)) (dR b1 b2 b3)) (dR a1 a2 a3):=by
 refine propext ⟨λ⟨t,h,hh⟩=>?_,λh=>?_⟩
 .simp only [cpA,cpC,AV.agg.injEq,List.cons.injEq,and_true]at h;obtain⟨rfl,rfl,rfl,rfl,rfl,rfl,rfl,rfl,rfl,rfl,rfl,rfl,rfl,rfl,rfl,rfl,rfl,rfl,rfl,rfl,rfl,rfl,rfl,rfl,rfl,rfl,rfl⟩:=h;simp only [dR_e,WE];exact hh
 .obtain⟨a,ha,q1⟩:=Jb.1 h;obtain⟨b,hb,q2⟩:=Jb.1 q1;obtain⟨c,hc,q3⟩:=Jb.1 q2;obtain⟨d,hd,q4⟩:=Jb.1 q3;obtain⟨e,he,q5⟩:=Jb.1 q4;obtain⟨f,hf,q6⟩:=Jb.1 q5;obtain⟨g,hg,q7⟩:=Jb.1 q6;obtain⟨hh,hhh,q8⟩:=Jb.1 q7;obtain⟨i,hi,q9⟩:=Jb.1 q8;obtain⟨rfl,rfl,rfl⟩:=Wb.1 ha;obtain⟨rfl,rfl,rfl⟩:=Wb.1 hb;obtain⟨rfl,rfl,rfl⟩:=Wb.1 hc;obtain⟨rfl,rfl,rfl⟩:=Wb.1 hd;obtain⟨rfl,rfl,rfl⟩:=Wb.1 he;obtain⟨rfl,rfl,rfl⟩:=Wb.1 hf;obtain⟨rfl,rfl,rfl⟩:=Wb.1 hg;obtain⟨rfl,rfl,rfl⟩:=Wb.1 hhh;obtain⟨rfl,rfl,rfl⟩:=Wb.1 hi;exact⟨((a,b),(c,d),e,f,g,hh,i),rfl,q9⟩
attribute [go_sem,go_sem ↓] vaU
end Go.Abs
end
section
namespace Go.Num
open Go.Abs
theorem za4{p q:BQ}(h:mcs p=mcs q):p=q:=by rw [<-Jap p,h,Jap]
theorem vap{p:BQ}(hp:Canon p){d:Nat}(hd:Deg d p):degB p<=d:=by
 unfold degB;cases hl:p.getLast? with
 | none=>simp only;omega
 | some u=>exact hd u (List.mem_of_getLast? hl)
theorem PB.dd{d s e t:Nat}{p q:BQ}(hp:PB d s p)(hq:PB e t q)(h:d+e<=24):degB p+degB q<=24:=by
 have h1:=vap hp.canon hp.deg;have h2:=vap hq.canon hq.deg;omega
end Go.Num
namespace Go.Abs
open Go.Num
variable {P:Program} {Γ:Nat->Spec}
def bC(p:BQ):C:=.slice ((mcs p).map mC)
def onB(k:BQ->Prop)(a:AV):Prop:=∃p,a=.one (bC p)/\Canon p/\k p
@[congr] theorem Ybn{k:BQ->Prop}{a a'}(h:a=a'):onB k a=onB k a':=by subst h;rfl
theorem vJ{p q:BQ}(h:bC p=bC q):p=q:=by
 simp only [bC,C.slice.injEq]at h;exact za4 (Qi h)
theorem zbm(k:BQ->Prop)(p:BQ):onB k (.one (bC p))=(Canon p/\k p):=by
 refine propext ⟨λ⟨x,h,h1,h2⟩=>?_,λh=>⟨p,rfl,h⟩⟩;simp only [AV.one.injEq]at h;have:=vJ h;subst this;exact⟨h1,h2⟩
theorem xba(k:BQ->Prop)(p:BQ):onB k (.one (.slice ((mcs p).map mC)))=(Canon p/\k p):=zbm k p
def onV(k:BQ×BQ->Prop)(a:AV):Prop:=∃p q,a=.agg [bC p,bC q]/\(Canon p/\Canon q)/\k (p,q)
@[congr] theorem Jbn{k:BQ×BQ->Prop}{a a'}(h:a=a'):onV k a=onV k a':=by subst h;rfl
theorem xbj(k:BQ×BQ->Prop)(p q:BQ):onV k (.agg [bC p,bC q])=((Canon p/\Canon q)/\k (p,q)):=by
 refine propext ⟨λ⟨x,y,h,h1,h2⟩=>?_,λh=>⟨p,q,rfl,h⟩⟩;simp only [AV.agg.injEq,List.cons.injEq,and_true]at h;obtain⟨e1,e2⟩:=h;have:=vJ e1;have:=vJ e2
 subst_vars;exact⟨h1,h2⟩
theorem ube(k:BQ×BQ->Prop)(p q:BQ):onV k (.agg [.slice ((mcs p).map mC),.slice ((mcs q).map mC)])=((Canon p/\Canon q)/\k (p,q)):=xbj k p q
theorem Vbh(p:BQ):bC p=.slice ((mcs p).map mC):=eq_of_heq (HEq.refl _)
attribute [go_sem,go_sem ↓] xba ube Vbh
end Go.Abs
end
