/-
  Parts of the proof, merged: PoseF, PoseG, PoseH, PoseI, PoseJ, PoseK, CoupA.
-/
import Derived.Test.YthoibmokhnoccaaGreatDoorM8
set_option linter.unusedVariables false
set_option linter.unusedSimpArgs false
set_option maxRecDepth 100000
section
namespace Go.Num
open Go.Abs
abbrev DyQ:=V2×V2×Rat
def d0:DyQ:=((0,0),(0,0),0)
end Go.Num
namespace Go.Abs
open Go.Num
variable {P:Program} {Γ:Nat->Spec}
def dqA(d:DyQ):AV:=.agg [cb (rcan d.1.1),cn (rcan d.1.1),cd (rcan d.1.1),cb (rcan d.1.2),cn (rcan d.1.2),cd (rcan d.1.2),cb (rcan d.2.1.1),cn (rcan d.2.1.1),cd (rcan d.2.1.1),cb (rcan d.2.1.2),cn (rcan d.2.1.2),cd (rcan d.2.1.2),cb (rcan d.2.2),cn (rcan d.2.2),cd (rcan d.2.2)]
theorem Xa5(d:DyQ):dqA d=.agg [cb (rcan d.1.1),cn (rcan d.1.1),cd (rcan d.1.1),cb (rcan d.1.2),cn (rcan d.1.2),cd (rcan d.1.2),cb (rcan d.2.1.1),cn (rcan d.2.1.1),cd (rcan d.2.1.1),cb (rcan d.2.1.2),cn (rcan d.2.1.2),cd (rcan d.2.1.2),cb (rcan d.2.2),cn (rcan d.2.2),cd (rcan d.2.2)]:=eq_of_heq (HEq.refl _)
attribute [go_sem,go_sem ↓] Xa5
end Go.Abs
end
section
namespace Go.Num
open Go.Abs
def o2:Arc:=(rcan 0,rcan 0)
end Go.Num
namespace Go.Abs
open Go.Num
variable {P:Program} {Γ:Nat->Spec}
end Go.Abs
end
section
namespace Go.Num
open Go.Abs
instance decAR:DecidableEq (Arc×R):=instDecidableEqProd
instance decDy:DecidableEq Dy:=instDecidableEqProd
end Go.Num
namespace Go.Abs
open Go.Num
variable {P:Program} {Γ:Nat->Spec}
end Go.Abs
end
section
namespace Go.Num
open Go.Abs
abbrev CpQ:=V2×V2×Rat×Rat×Rat×Rat×Rat
def c0:CpQ:=((0,0),(0,0),0,0,0,0,0)
end Go.Num
namespace Go.Abs
open Go.Num
variable {P:Program} {Γ:Nat->Spec}
end Go.Abs
end
section
namespace Go.Num
open Go.Abs
end Go.Num
namespace Go.Abs
open Go.Num
variable {P:Program} {Γ:Nat->Spec}
end Go.Abs
end
section
namespace Go.Num
open Go.Abs
abbrev Cp5:=R×R×R×R×R
instance decC5:DecidableEq Cp5:=λa b=>decidable_of_iff (a.1=b.1/\a.2.1=b.2.1/\a.2.2.1=b.2.2.1/\a.2.2.2.1=b.2.2.2.1/\a.2.2.2.2=b.2.2.2.2) ⟨λ⟨h1,h2,h3,h4,h5⟩=>Prod.ext h1 (Prod.ext h2 (Prod.ext h3 (Prod.ext h4 h5))),λh=>by subst h;exact⟨rfl,rfl,rfl,rfl,rfl⟩⟩
instance decCp:DecidableEq Cp:=λa b=>decidable_of_iff (a.1=b.1/\a.2.1=b.2.1/\(a.2.2:Cp5)=b.2.2) ⟨λ⟨h1,h2,h3⟩=>Prod.ext h1 (Prod.ext h2 h3),λh=>by subst h;exact⟨rfl,rfl,rfl⟩⟩
end Go.Num
namespace Go.Abs
open Go.Num
variable {P:Program} {Γ:Nat->Spec}
def cpC(c:Cp):List C:=[cb c.1.1,cn c.1.1,cd c.1.1,cb c.1.2,cn c.1.2,cd c.1.2,cb c.2.1.1,cn c.2.1.1,cd c.2.1.1,cb c.2.1.2,cn c.2.1.2,cd c.2.1.2,cb c.2.2.1,cn c.2.2.1,cd c.2.2.1,cb c.2.2.2.1,cn c.2.2.2.1,cd c.2.2.2.1,cb c.2.2.2.2.1,cn c.2.2.2.2.1,cd c.2.2.2.2.1,cb c.2.2.2.2.2.1,cn c.2.2.2.2.2.1,cd c.2.2.2.2.2.1,cb c.2.2.2.2.2.2,cn c.2.2.2.2.2.2,cd c.2.2.2.2.2.2]
def cpA(c:Cp):AV:=.agg (cpC c)
def onCp(k:Cp->Prop)(a:AV):Prop:=onE cpA (λc=>WLC c/\k c) a
@[congr] theorem wbv{k:Cp->Prop}{a a'}(h:a=a'):onCp k a=onCp k a':=by subst h;rfl
theorem Ja0(k:Cp->Prop)(a1 a2 a3 b1 b2 b3 c1 c2 c3 d1 d2 d3 e1 e2 e3 f1 f2 f3 g1 g2 g3 h1 h2 h3 i1 i2 i3:C):onCp k (.agg [a1,a2,a3,b1,b2,b3,c1,c2,c3,d1,d2,d3,e1,e2,e3,f1,f2,f3,g1,g2,g3,h1,h2,h3,i1,i2,i3]) =
  onO (λa=>onO (λb=>onO (λc=>onO (λd=>onO (λe=>onO (λf=>onO (λg=>onO (λh=>onO (λi=>WLC ((a,b),(c,d),e,f,g,h,i)/\k ((a,b),(c,d),e,f,g,h,i)) (dR i1 i2 i3)) (dR h1 h2 h3)) (dR g1 g2 g3)) (dR f1 f2 f3)) (dR e1 e2 e3)) (dR d1 d2 d3)) (dR c1 c2 c3)) (dR b1 b2 b3)) (dR a1 a2 a3):=by
 refine propext ⟨λ⟨t,h,hh⟩=>?_,λh=>?_⟩
 .simp only [cpA,cpC,AV.agg.injEq,List.cons.injEq,and_true]at h;obtain⟨rfl,rfl,rfl,rfl,rfl,rfl,rfl,rfl,rfl,rfl,rfl,rfl,rfl,rfl,rfl,rfl,rfl,rfl,rfl,rfl,rfl,rfl,rfl,rfl,rfl,rfl,rfl⟩:=h;simp only [dR_e,qJ];exact hh
 .obtain⟨a,ha,q1⟩:=kb.1 h;obtain⟨b,hb,q2⟩:=kb.1 q1;obtain⟨c,hc,q3⟩:=kb.1 q2;obtain⟨d,hd,q4⟩:=kb.1 q3;obtain⟨e,he,q5⟩:=kb.1 q4;obtain⟨f,hf,q6⟩:=kb.1 q5;obtain⟨g,hg,q7⟩:=kb.1 q6;obtain⟨hh,hhh,q8⟩:=kb.1 q7;obtain⟨i,hi,q9⟩:=kb.1 q8;obtain⟨rfl,rfl,rfl⟩:=Wb.1 ha;obtain⟨rfl,rfl,rfl⟩:=Wb.1 hb;obtain⟨rfl,rfl,rfl⟩:=Wb.1 hc;obtain⟨rfl,rfl,rfl⟩:=Wb.1 hd;obtain⟨rfl,rfl,rfl⟩:=Wb.1 he;obtain⟨rfl,rfl,rfl⟩:=Wb.1 hf;obtain⟨rfl,rfl,rfl⟩:=Wb.1 hg;obtain⟨rfl,rfl,rfl⟩:=Wb.1 hhh;obtain⟨rfl,rfl,rfl⟩:=Wb.1 hi;exact⟨((a,b),(c,d),e,f,g,hh,i),rfl,q9⟩
attribute [go_sem,go_sem ↓] Ja0
end Go.Abs
end
section
namespace Go.Num
open Go.Abs
theorem ya8{p q:BQ}(h:mcs p=mcs q):p=q:=by rw [<-kr p,h,kr]
theorem JaV{p q:BQ}(hp:Canon p)(hq:Canon q):chk2 (mcs p) (mcs q)=0:=by unfold chk2;rw [J7 hp,if_neg (by decide),J7 hq]
theorem qaU{p q:BQ}(hp:Canon p)(hq:Canon q)(hd:degB p+degB q<=24):mulC (mcs p) (mcs q)=0:=by
 unfold mulC;rw [JaV hp hq,if_neg (by decide),yd,yd,if_neg (by omega)]
theorem VaP{p:BQ}(hp:Canon p){d:Nat}(hd:Deg d p):degB p<=d:=by
 unfold degB;cases hl:p.getLast? with
 | none=>simp only;omega
 | some u=>exact hd u (List.mem_of_getLast? hl)
end Go.Num
namespace Go.Abs
open Go.Num
variable {P:Program} {Γ:Nat->Spec}
def bC(p:BQ):C:=.slice ((mcs p).map mC)
def onB(k:BQ->Prop)(a:AV):Prop:=∃p,a=.one (bC p)/\Canon p/\k p
@[congr] theorem kbw{k:BQ->Prop}{a a'}(h:a=a'):onB k a=onB k a':=by subst h;rfl
theorem XK{p q:BQ}(h:bC p=bC q):p=q:=by
 simp only [bC,C.slice.injEq]at h;exact ya8 (jm h)
theorem kbt(k:BQ->Prop)(p:BQ):onB k (.one (bC p))=(Canon p/\k p):=by
 refine propext ⟨λ⟨x,h,h1,h2⟩=>?_,λh=>⟨p,rfl,h⟩⟩;simp only [AV.one.injEq]at h;have:=XK h;subst this;exact⟨h1,h2⟩
theorem Xbq(k:BQ->Prop)(p:BQ):onB k (.one (.slice ((mcs p).map mC)))=(Canon p/\k p):=kbt k p
def onV(k:BQ×BQ->Prop)(a:AV):Prop:=∃p q,a=.agg [bC p,bC q]/\(Canon p/\Canon q)/\k (p,q)
@[congr] theorem Wbw{k:BQ×BQ->Prop}{a a'}(h:a=a'):onV k a=onV k a':=by subst h;rfl
theorem jbv(k:BQ×BQ->Prop)(p q:BQ):onV k (.agg [bC p,bC q])=((Canon p/\Canon q)/\k (p,q)):=by
 refine propext ⟨λ⟨x,y,h,h1,h2⟩=>?_,λh=>⟨p,q,rfl,h⟩⟩;simp only [AV.agg.injEq,List.cons.injEq,and_true]at h;obtain⟨e1,e2⟩:=h;have:=XK e1;have:=XK e2
 subst_vars;exact⟨h1,h2⟩
theorem Ubp(k:BQ×BQ->Prop)(p q:BQ):onV k (.agg [.slice ((mcs p).map mC),.slice ((mcs q).map mC)])=((Canon p/\Canon q)/\k (p,q)):=jbv k p q
theorem Qbr(p:BQ):bC p=.slice ((mcs p).map mC):=eq_of_heq (HEq.refl _)
attribute [go_sem,go_sem ↓] Xbq Ubp Qbr
end Go.Abs
end
