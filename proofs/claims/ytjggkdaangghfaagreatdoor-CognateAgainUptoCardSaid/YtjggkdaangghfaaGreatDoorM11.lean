/-
  Parts of the proof, merged: CoupL, CoupR, CogP, CogA, CogB, CogR, CogC, CogT, CogD, CogF, IntC, IntD, IntE, IntF.
-/
import Derived.Test.YtjggkdaangghfaaGreatDoorM10
set_option linter.unusedVariables false
set_option linter.unusedSimpArgs false
set_option maxRecDepth 100000
section
namespace Go.Num
open Go.Abs
def riC (c:Cp) (p:Arc):Nat:=if wV (cpv c) (av p)≠0 then 21 else if wM (cpv c) (av p)=0 then 15 else 0
def reQ (c:CpR):V2:=subQ (1,0) (cW c)
theorem cl_w {c:Cp} {b:Nat} (h:cl c<=b):al c.2.2.2.2.2<=b:=by
 unfold cl at h
 simp only [Nat.max_le]at h
 exact Nat.max_le.2 ⟨h.2.2.2.2.2.1,h.2.2.2.2.2.2⟩
theorem Ubx {c:Cp} (h:cchk c=0):vldR c.2.2.1=true/\vldR c.2.2.2.1=true/\vldR c.2.2.2.2.1=true/\vldR c.2.2.2.2.2.1=true/\vldR c.2.2.2.2.2.2=true:=by
 obtain ⟨_,_,h5,_,_⟩:=xaX h
 simpa [cps5] using h5
end Go.Num
namespace Go.Abs
open Go.Num
variable {P:Program} {Γ:Nat->Spec}
def JH (l:List AV) (K:AV->Prop):Prop:=
 match l with
 | [c]=>onCp (λc=>K (aA (c.2.2.2.2.2.1,c.2.2.2.2.2.2))) c
 | _=>False
theorem qba (c:AV) (K:AV->Prop):JH [c] K=(onCp (λc=>K (aA (c.2.2.2.2.2.1,c.2.2.2.2.2.2))) c):=propext Iff.rfl
@[congr] theorem zbP {K:AV->Prop} {l l' : List AV} (h:l=l'):JH l K=JH l' K:=by subst h;rfl
attribute [go_sem] qba
attribute [go_sem ↓] qba
theorem wa3:Good JH:=Va λas=>by
 unfold JH
 split
 .exact (Vk λ_=>(.ret _))
 .exact .of λK hk=>hk.elim
def Qy (l:List AV) (K:AV->Prop):Prop:=
 match l with
 | [c]=>onCp (λc=>cl c<=100000000/\K (pQ (reQ (cpv c)))) c
 | _=>False
theorem waQ (c:AV) (K:AV->Prop):Qy [c] K=(onCp (λc=>cl c<=100000000/\K (pQ (reQ (cpv c)))) c):=propext Iff.rfl
@[congr] theorem kbO {K:AV->Prop} {l l' : List AV} (h:l=l'):Qy l K=Qy l' K:=by subst h;rfl
attribute [go_sem] waQ
attribute [go_sem ↓] waQ
theorem kaD:Good Qy:=Va λas=>by
 unfold Qy
 split
 .exact (Vk λ_=>(.and λ_=>(.ret _)))
 .exact .of λK hk=>hk.elim
def yaH (l:List AV) (K:AV->Prop):Prop:=
 match l with
 | [c,p]=>onCp (λc=>onA (λp=>cl c<=1000/\al p<=1000/\cchk c=0/\K (.tup [pQ (wN (cpv c) (av p)),rQ (wM (cpv c) (av p))])) p) c
 | _=>False
theorem YaM (c p:AV) (K:AV->Prop):yaH [c,p] K=(onCp (λc=>onA (λp=>cl c<=1000/\al p<=1000/\cchk c=0/\K (.tup [pQ (wN (cpv c) (av p)),rQ (wM (cpv c) (av p))])) p) c):=propext Iff.rfl
@[congr] theorem zbF {K:AV->Prop} {l l' : List AV} (h:l=l'):yaH l K=yaH l' K:=by subst h;rfl
attribute [go_sem] YaM
attribute [go_sem ↓] YaM
def YaR (l:List AV) (K:AV->Prop):Prop:=
 match l with
 | [c,p]=>onCp (λc=>onA (λp=>cl c<=1000/\al p<=1000/\cchk c=0/\K (rQ (wV (cpv c) (av p)))) p) c
 | _=>False
theorem VaI (c p:AV) (K:AV->Prop):YaR [c,p] K=(onCp (λc=>onA (λp=>cl c<=1000/\al p<=1000/\cchk c=0/\K (rQ (wV (cpv c) (av p)))) p) c):=propext Iff.rfl
@[congr] theorem YbL {K:AV->Prop} {l l' : List AV} (h:l=l'):YaR l K=YaR l' K:=by subst h;rfl
attribute [go_sem] VaI
attribute [go_sem ↓] VaI
def uaG (l:List AV) (K:AV->Prop):Prop:=
 match l with
 | [c,p]=>onCp (λc=>onA (λp=>cl c<=1000/\al p<=1000/\cchk c=0/\K (.tup [pQ (if riC c p=0 then endA (cpv c) (av p) (zL (cpv c) (av p)) else (0,0)),pQ (if riC c p=0 then endB (cpv c) (av p) (zL (cpv c) (av p)) else (0,0)),.one (.lit (.int .i64 (riC c p:Nat)))])) p) c
 | _=>False
theorem XaE (c p:AV) (K:AV->Prop):uaG [c,p] K=(onCp (λc=>onA (λp=>cl c<=1000/\al p<=1000/\cchk c=0/\K (.tup [pQ (if riC c p=0 then endA (cpv c) (av p) (zL (cpv c) (av p)) else (0,0)),pQ (if riC c p=0 then endB (cpv c) (av p) (zL (cpv c) (av p)) else (0,0)),.one (.lit (.int .i64 (riC c p:Nat)))])) p) c):=propext Iff.rfl
@[congr] theorem UbN {K:AV->Prop} {l l' : List AV} (h:l=l'):uaG l K=uaG l' K:=by subst h;rfl
attribute [go_sem] XaE
attribute [go_sem ↓] XaE
def xaN (l:List AV) (K:AV->Prop):Prop:=
 match l with
 | [c,a,b]=>onCp (λc=>onA (λa=>onA (λb=>cl c<=10000/\al a<=10000/\al b<=10000/\K (pQ (ptQ (cpv c) (av a) (av b)))) b) a) c
 | _=>False
theorem uaT (c a b:AV) (K:AV->Prop):xaN [c,a,b] K=(onCp (λc=>onA (λa=>onA (λb=>cl c<=10000/\al a<=10000/\al b<=10000/\K (pQ (ptQ (cpv c) (av a) (av b)))) b) a) c):=propext Iff.rfl
@[congr] theorem qbO {K:AV->Prop} {l l' : List AV} (h:l=l'):xaN l K=xaN l' K:=by subst h;rfl
attribute [go_sem] uaT
attribute [go_sem ↓] uaT
def yaX (l:List AV) (K:AV->Prop):Prop:=
 match l with
 | [c,a,b]=>onCp (λc=>onA (λa=>onA (λb=>cl c<=10000/\al a<=10000/\al b<=10000/\K (.one (.lit (.bool (decide (hldQ (cpv c) (av a) (av b))))))) b) a) c
 | _=>False
theorem UaH (c a b:AV) (K:AV->Prop):yaX [c,a,b] K=(onCp (λc=>onA (λa=>onA (λb=>cl c<=10000/\al a<=10000/\al b<=10000/\K (.one (.lit (.bool (decide (hldQ (cpv c) (av a) (av b))))))) b) a) c):=propext Iff.rfl
@[congr] theorem vbL {K:AV->Prop} {l l' : List AV} (h:l=l'):yaX l K=yaX l' K:=by subst h;rfl
attribute [go_sem] UaH
attribute [go_sem ↓] UaH
def yk:AC:=(.seq (.ops false [.u 1 (.box 27 (.t 0)),.u 2 (.alloc [(.lit (.bool false)),.emp,.emp,(.lit (.bool false)),.emp,.emp])])
 (.fg [1,2] (.seq (.ops false [.u 3 (.fa 21 (.t 1)),.u 4 (.ld none 3 true (.t 3)),.u 5 (.fa 24 (.t 1)),.u 6 (.ld none 3 true (.t 5)),.u 7 (.build [.x 3 (.t 4),.x 3 (.t 6)]),.n (.st none 6 (.t 2) (.t 7))])
 .ret)))
def Zh (f0 f1 f2:Nat):AC:=(.seq (.ops false [.u 1 (.box 27 (.t 0)),.u 2 (.alloc [(.lit (.bool false)),.emp,.emp,(.lit (.bool false)),.emp,.emp])])
 (.fg [1,2] (.seq (.ops true [.u 3 (.call f0 [(.i 1)]),.u 4 (.build [.x 3 (.t 3),.z [(.lit (.bool false)),.emp,.emp]]),.u 5 (.ld none 27 true (.t 1)),.u 6 (.call f1 [(.t 5)]),.u 7 (.call f2 [(.t 4),(.t 6)]),.n (.st none 6 (.t 2) (.t 7))])
 .ret)))
theorem QaP (hΓ:Holds P Γ) {f:Nat} (hc:check P f=some (8,yk.strip,[.cell 2 6 true])):Sound P f (.dat false JH):=by
 refine va hc wa3 hΓ (λargs K hcl hfi hG=>?_)
 match args,hG with
 | [a],hG=>
  obtain ⟨c,rfl,hw,hK⟩:=hG
  refine ⟨by simp,?_⟩
  simp only [go_sem,yk,cpA,cpC]
  exact hK
theorem yaw (hΓ:Holds P Γ) {f fo fw fs:Nat} (ho:Γ fo=.dat false xw) (hw' : Γ fw=.dat false JH) (hs:Γ fs=.dat false Ur) (hc:check P f=some (8,(Zh fo fw fs).strip,[.cell 2 6 true])):Sound P f (.dat false Qy):=by
 refine va hc kaD hΓ (λargs K hcl hfi hG=>?_)
 match args,hG with
 | [a],hG=>
  obtain ⟨c,rfl,hw,hl,hK⟩:=hG
  refine ⟨by simp,?_⟩
  have i1:((1:Int):Rat)=1:=rfl
  have w4:=hw.2.2.2.2.2.1
  have w5:=hw.2.2.2.2.2.2
  have b1:=rz_1
  have l6:al c.2.2.2.2.2<=100000000:=Nat.le_trans (cl_w hl) (by decide)
  have wW:WLA c.2.2.2.2.2:=⟨w4,w5⟩
  have wO:WLA (rcan 1,rcan 0):=uy (1,0)
  have lO:al (rcan 1,rcan 0)<=100000000:=Nat.max_le.2 ⟨Nat.le_trans b1 (by decide),Nat.le_trans (Nat.le_of_eq rz_0) (by decide)⟩
  have aO:av (rcan 1,rcan 0)=(1,0):=JaA (1,0)
  have aW:av c.2.2.2.2.2=cW (cpv c):=rfl
  simp only [go_sem,Zh,ho,hw',hs,cpA,cpC,i1,Zw,Vc,aO,aW]
  repeat (first | (refine And.intro (by with_reducible assumption) ?_) | (refine And.intro (Nat.le_trans (by with_reducible assumption) (by decide)) ?_) | (refine And.intro (by decide) ?_))
  exact hK
end Go.Abs
end
section
namespace Go.Num
open Go.Abs
theorem xbG {c:Cp} (wc:WLC c) (h:cchk c=0):canC (cpv c)=c:=by
 obtain ⟨o1,o2,h5,_,_⟩:=xaX h
 obtain ⟨v1,v2,v3,v4,v5⟩:=Ubx h
 obtain ⟨wo,wq,w1,w2,w3,w4,w5⟩:=wc
 have e1:=Zbb wo o1
 have e2:=Zbb wq o2
 have r1:=Ye w1 v1
 have r2:=Ye w2 v2
 have r3:=Ye w3 v3
 have r4:=Ye w4 v4
 have r5:=Ye w5 v5
 unfold canC cpv
 simp only [e1,e2,r1,r2,r3,r4,r5]
end Go.Num
namespace Go.Abs
open Go.Num
variable {P:Program} {Γ:Nat->Spec}
theorem vbr (p:Ps):poA p=.agg (pC p):=eq_of_heq (HEq.refl _)
theorem xaG (p:Ps):(pC p).take 10=pC p:=List.take_of_length_le (Nat.le_of_eq (jaR p))
theorem QaN (p:Ps):(pC p).drop 0=pC p:=eq_of_heq (HEq.refl _)
theorem Vbc (k:List Ps->Prop) (p:Ps):onPs k (.one (.slice [pC p]))=((∀x∈[p],WLP x)/\k [p]):=kaS k [p]
attribute [go_sem] vbr xaG QaN Vbc
attribute [go_sem ↓] vbr xaG QaN Vbc
def waB (l:List AV) (K:AV->Prop):Prop:=
 match l with
 | [c,g]=>onCp (λc=>onPo (λg=>cl c<=1000/\pl g<=1000/\cchk c=0/\K (cqR (movQ38 (cpv c) (pv g)))) g) c
 | _=>False
theorem QaU (c g:AV) (K:AV->Prop):waB [c,g] K=(onCp (λc=>onPo (λg=>cl c<=1000/\pl g<=1000/\cchk c=0/\K (cqR (movQ38 (cpv c) (pv g)))) g) c):=propext Iff.rfl
@[congr] theorem ybM {K:AV->Prop} {l l' : List AV} (h:l=l'):waB l K=waB l' K:=by subst h;rfl
attribute [go_sem] QaU
attribute [go_sem ↓] QaU
def xaB (l:List AV) (K:AV->Prop):Prop:=
 match l with
 | [c,k]=>onCp (λc=>onR (λk=>cl c<=1000/\rl k<=1000/\cchk c=0/\K (cqR (sclQ38 (cpv c) (rv k)))) k) c
 | _=>False
theorem UaL (c k:AV) (K:AV->Prop):xaB [c,k] K=(onCp (λc=>onR (λk=>cl c<=1000/\rl k<=1000/\cchk c=0/\K (cqR (sclQ38 (cpv c) (rv k)))) k) c):=propext Iff.rfl
@[congr] theorem jbN {K:AV->Prop} {l l' : List AV} (h:l=l'):xaB l K=xaB l' K:=by subst h;rfl
attribute [go_sem] UaL
attribute [go_sem ↓] UaL
end Go.Abs
end
section
namespace Go.Num
def rsQ (c:CpR):V2:=subQ (1,0) (cW c)
def foQ (c:CpR):V2:=addQ c.1 (timesQ (cW c) (subQ c.2.1 c.1))
def ovQ (w:V2):V2:=(w.1 / sqQ w,-w.2 / sqQ w)
def simQ (c:CpR) (o k:V2) (a b d:Rat):CpR:=(o,foQ c,sqQ k*a,sqQ k*b,sqQ k*d,(ovQ k).1,(ovQ k).2)
def fiQ (c:CpR):CpR:=simQ c c.1 (cW c) c.2.2.2.1 c.2.2.1 c.2.2.2.2.1
def seQ (c:CpR):CpR:=simQ c c.2.1 (rsQ c) c.2.2.2.1 c.2.2.2.2.1 c.2.2.1
def swQ (c:CpR):CpR:=(c.2.1,c.1,c.2.2.2.2.1,c.2.2.2.1,c.2.2.1,(rsQ c).1,(rsQ c).2)
theorem Jby (c:CpR):rsQ (swQ c)=cW c:=by
 unfold rsQ swQ cW rsQ subQ cW;exact Prod.ext (by simp only;grind) (by simp only;grind)
theorem w_sw (c:CpR):cW (swQ c)=rsQ c:=rfl
theorem kbF (c:CpR):swQ (swQ c)=c:=by
 have h:=Jby c
 have e:swQ (swQ c)=(c.1,c.2.1,c.2.2.1,c.2.2.2.1,c.2.2.2.2.1,(rsQ (swQ c)).1,(rsQ (swQ c)).2):=rfl
 rw [e,h];rfl
theorem kbE (c:CpR):foQ (swQ c)=foQ c:=by
 unfold foQ;rw [w_sw]
 unfold rsQ swQ cW addQ timesQ subQ;exact Prod.ext (by simp only;grind) (by simp only;grind)
theorem xbg (c:CpR):fiQ (swQ c)=seQ c:=by
 unfold fiQ seQ simQ;rw [kbE,w_sw];rfl
theorem QbI (c:CpR):seQ (swQ c)=fiQ c:=by rw [<-xbg,kbF]
theorem ov_j {w:V2} (h:sqQ w≠0):∃j,sqQ w*j=1/\ovQ w=(j*w.1,j * -w.2):=by
 refine ⟨(sqQ w)⁻¹,Rat.mul_inv_cancel _ h,?_⟩
 unfold ovQ
 rw [Rat.div_def,Rat.div_def,Rat.mul_comm,Rat.mul_comm (-w.2)]
theorem zbN {w:V2} (h:sqQ w≠0):sqQ w*sqQ (ovQ w)=1:=by
 obtain ⟨j,hj,e⟩:=ov_j h
 have h1:sqQ (ovQ w)=sqQ w*(j*j):=by rw [e];unfold sqQ;simp only;grind
 rw [h1]
 grind
theorem rob1 (k j u v:Rat) (hk:k=u*u+v*v) (hj:k*j=1) (z1 z2 s1 s2:Rat) :
  k*(z1*(j*u)-z2*(-(j * -v)))=z1*u-z2*v/\k*(z2*(j*u)+z1*(-(j * -v)))=z2*u+z1*v/\
  k*(s1*(1-j*u)-s2*(j * -v))=s1*(k-u)+s2*v/\k*(s2*(1-j*u)+s1*(j * -v))=s2*(k-u)-s1*v:=by
 have h1:∀x,k*(j*x)=x:=λx=>by grind
 refine ⟨?_,?_,?_,?_⟩
 .have:=h1 (z1*u);have:=h1 (z2*v);grind
 .have:=h1 (z2*u);have:=h1 (z1*v);grind
 .have:=h1 (s1*u);have:=h1 (s2*v);grind
 .have:=h1 (s2*u);have:=h1 (s1*v);grind
theorem rob2 (z1 z2 d1 d2 u v A B C:Rat) :
  let k:=u*u+v*v
  let G:=z1*z1+z2*z2
  let h:=k*B-A
  let s1:=z1-(u*d1-v*d2)
  let s2:=z2-(u*d2+v*d1)
  let Q1:=z1*u+z2*v
  let Q2:=z2*u-z1*v
  let P1:=(z1-d1)*(1-u)-(z2-d2)*v
  let P2:=(z2-d2)*(1-u)+(z1-d1)*v
  let r:=(1-u)*(1-u)+v*v
  let F:=C-r*B-((z1-d1)*(z1-d1)+(z2-d2)*(z2-d2))
  let F':=k*C-(s1*s1+s2*s2)-r*A
  let R:=P1*Q1+P2*Q2
  (G-h)*(s1*(1-u)-s2*v)+F' * z1=(G-h)*(u*P1-v*P2)+(k*F-2*R)*z1/\
  (G-h)*(s2*(1-u)+s1*v)+F' * z2=(G-h)*(u*P2+v*P1)+(k*F-2*R)*z2:=by
 intro k G h s1 s2 Q1 Q2 P1 P2 r F F' R
 constructor <;> grind
theorem rob3 (z1 z2 u v h F P1 P2:Rat) :
  let k:=u*u+v*v
  let G:=z1*z1+z2*z2
  let Q1:=z1*u+z2*v
  let Q2:=z2*u-z1*v
  let R:=P1*Q1+P2*Q2
  let M:=Q1*P2-Q2*P1
  let Y1:=(G-h)*(u*P1-v*P2)+(k*F-2*R)*z1
  let Y2:=(G-h)*(u*P2+v*P1)+(k*F-2*R)*z2
  let X1:=(G+h)*P1-F*Q1
  let X2:=(G+h)*P2-F*Q2
  Y1*Y1+Y2*Y2=k*(X1*X1+X2*X2)-4*(M*M)*h:=by
 intro k G Q1 Q2 R M Y1 Y2 X1 X2
 have p0:k*G=Q1*Q1+Q2*Q2:=by grind
 have p1:(u*P1-v*P2)*z1+(u*P2+v*P1)*z2=R:=by grind
 have p2:(u*P1-v*P2)*(u*P1-v*P2)+(u*P2+v*P1)*(u*P2+v*P1)=k*(P1*P1+P2*P2):=by grind
 have p3:M*M=(P1*P1+P2*P2)*(k*G)-R*R:=by rw [p0];grind
 have y:Y1*Y1+Y2*Y2=(G-h)*(G-h)*(k*(P1*P1+P2*P2))+(k*F-2*R)*(k*F-2*R)*G+2*(G-h)*(k*F-2*R)*R:=by
  rw [<-p2,<-p1];clear_value k R;grind
 have x:X1*X1+X2*X2=(G+h)*(G+h)*(P1*P1+P2*P2)+F*F*(k*G)-2*(G+h)*F*R:=by
  rw [p0];clear_value k G;grind
 rw [y,x,p3]
 clear_value k G R
 grind
theorem rob4 {k j u v:Rat} (A:Rat) (hk:u*u+v*v=k) (hj:k*j=1):(j*u*(j*u)+j * -v*(j * -v))*(k*A)=A/\
  ((1-j*u)*(1-j*u)+j * -v*(j * -v))*(k*A)=((1-u)*(1-u)+v*v)*A:=by
 constructor
 .have:(j*u*(j*u)+j * -v*(j * -v))*(k*A)=j*j*(u*u+v*v)*(k*A):=by grind
  rw [this,hk]
  have:j*j*k*(k*A)=k*j*(k*j)*A:=by grind
  rw [this,hj];grind
 .have:((1-j*u)*(1-j*u)+j * -v*(j * -v))*(k*A)=k*A-2*(k*j)*u*A+k*j*j*(u*u+v*v)*A:=by grind
  rw [this,hk]
  have:k*A-2*(k*j)*u*A+k*j*j*k*A=k*A-2*(k*j)*u*A+k*j*(k*j)*A:=by grind
  rw [this,hj,<-hk];grind
theorem rob5 {k u v z1 z2 d1 d2 s1 s2:Rat} (hk:u*u+v*v=k) (hs1:z1-(u*d1-v*d2)=s1) (hs2:z2-(u*d2+v*d1)=s2) :
  (z1*u-z2*v)*(s2*(k-u)-s1*v)-(z2*u+z1*v)*(s1*(k-u)+s2*v) = -(k*((z1*u+z2*v)*((z2-d2)*(1-u)+(z1-d1)*v)-(z2*u-z1*v)*((z1-d1)*(1-u)-(z2-d2)*v))):=by
 rw [<-hs1,<-hs2,<-hk];grind
theorem qbq (a b c:Rat):a-b-c=a-c-b:=by grind
theorem zbr (a b c:Rat):a+(b-c)=a-(c-b):=by grind
theorem kcan {k x y:Rat} (hk:k≠0) (h:k*x=k*y):x=y:=by
 have h1:k*(x-y)=0:=by grind
 have:=(Rat.mul_eq_zero.1 h1).resolve_left hk
 grind
theorem rob6 {k u v A B e f E F a1 a2 b1 b2 z1 z2 s1 s2 P1 P2 Q1 Q2:Rat} (hk0:k≠0) (hk:u*u+v*v=k)
  (r1:k*a1=z1*u-z2*v) (r2:k*a2=z2*u+z1*v) (r3:k*b1=s1*(k-u)+s2*v) (r4:k*b2=s2*(k-u)-s1*v)
  (eM:(z1*u-z2*v)*(s2*(k-u)-s1*v)-(z2*u+z1*v)*(s1*(k-u)+s2*v) = -(k*(Q1*P2-Q2*P1)))
  (y3:(e*(s1*(1-u)-s2*v)+f*z1)*(e*(s1*(1-u)-s2*v)+f*z1)+(e*(s2*(1-u)+s1*v)+f*z2)*(e*(s2*(1-u)+s1*v)+f*z2) =
   k*((E*P1-F*Q1)*(E*P1-F*Q1)+(E*P2-F*Q2)*(E*P2-F*Q2))-4*((Q1*P2-Q2*P1)*(Q1*P2-Q2*P1))*(k*B-A)) :
  (e*b2-f*a2)*(e*b2-f*a2)+(f*a1-e*b1)*(f*a1-e*b1)-4*(k*A)*((a1*b2-a2*b1)*(a1*b2-a2*b1)) =
  (E*P2-F*Q2)*(E*P2-F*Q2)+(F*Q1-E*P1)*(F*Q1-E*P1)-4*B*((Q1*P2-Q2*P1)*(Q1*P2-Q2*P1)):=by
 have hm:k*(a1*b2-a2*b1) = -(Q1*P2-Q2*P1):=by
  refine kcan hk0 ?_
  have:k*(k*(a1*b2-a2*b1))=(k*a1)*(k*b2)-(k*a2)*(k*b1):=by clear y3 eM r1 r2 r3 r4;grind
  rw [this,r1,r2,r3,r4,eM];clear y3 eM r1 r2 r3 r4 this;grind
 clear eM
 have n1:k*(e*b2-f*a2) = -(u*(e*(s2*(1-u)+s1*v)+f*z2)+v*(e*(s1*(1-u)-s2*v)+f*z1)):=by
  have:k*(e*b2-f*a2)=e*(k*b2)-f*(k*a2):=by clear y3 hm r1 r2 r3 r4;grind
  rw [this,r2,r4,<-hk];clear y3 hm r1 r2 r3 r4 this;grind
 have n2:k*(f*a1-e*b1)=u*(e*(s1*(1-u)-s2*v)+f*z1)-v*(e*(s2*(1-u)+s1*v)+f*z2):=by
  have:k*(f*a1-e*b1)=f*(k*a1)-e*(k*b1):=by clear y3 hm n1 r1 r2 r3 r4;grind
  rw [this,r1,r3,<-hk];clear y3 hm n1 r1 r2 r3 r4 this;grind
 clear r1 r2 r3 r4
 generalize e*(s1*(1-u)-s2*v)+f*z1=Y1 at *
 generalize e*(s2*(1-u)+s1*v)+f*z2=Y2 at *
 generalize e*b2-f*a2=N1 at *
 generalize f*a1-e*b1=N2 at *
 generalize a1*b2-a2*b1=m at *
 generalize Q1*P2-Q2*P1=M at *
 have hx:F*Q1-E*P1 = -(E*P1-F*Q1):=by clear y3 hm n1 n2;grind
 rw [hx]
 generalize E*P1-F*Q1=X1 at *
 generalize E*P2-F*Q2=X2 at *
 clear hx
 have k1:k*k*(N1*N1+N2*N2)=k*(Y1*Y1+Y2*Y2):=by
  have:k*k*(N1*N1+N2*N2)=(k*N1)*(k*N1)+(k*N2)*(k*N2):=by clear y3 hm n1 n2;grind
  rw [this,n1,n2,<-hk];clear y3 hm n1 n2;grind
 have k2:k*k*(m*m)=M*M:=by
  have:k*k*(m*m)=(k*m)*(k*m):=by clear y3 hm n1 n2 k1;grind
  rw [this,hm];clear y3 hm n1 n2 k1;grind
 refine kcan hk0 (kcan hk0 ?_)
 have:k*(k*(N1*N1+N2*N2-4*(k*A)*(m*m)))=k*k*(N1*N1+N2*N2)-4*(k*A)*(k*k*(m*m)):=by clear y3 hm n1 n2 k1 k2;grind
 rw [this,k1,k2,y3];clear y3 hm n1 n2 k1 k2 this;grind
theorem UbK (c:CpR) (p:V2) (hk0:sqQ (cW c)≠0):wV (fiQ c) p=wV c p:=by
 obtain ⟨j,hj,ho⟩:=ov_j hk0
 obtain ⟨⟨o1,o2⟩,⟨q1,q2⟩,A,B,C,u,v⟩:=c
 obtain ⟨x,y⟩:=p
 have eW:cW ((o1,o2),(q1,q2),A,B,C,u,v)=(u,v):=rfl
 rw [eW]at hk0 hj ho
 have ek:sqQ (u,v)=u*u+v*v:=rfl
 rw [ek]at hk0 hj
 obtain ⟨k,hk⟩:∃k,u*u+v*v=k:=⟨_,rfl⟩
 rw [hk]at hk0 hj ek
 have e0:fiQ ((o1,o2),(q1,q2),A,B,C,u,v)=((o1,o2),foQ ((o1,o2),(q1,q2),A,B,C,u,v),k*B,k*A,k*C,j*u,j * -v):=by
  unfold fiQ simQ;rw [eW,ho,ek]
 rw [e0]
 obtain ⟨z1,hz1⟩:∃z,x-o1=z:=⟨_,rfl⟩
 obtain ⟨z2,hz2⟩:∃z,y-o2=z:=⟨_,rfl⟩
 obtain ⟨d1,hd1⟩:∃z,q1-o1=z:=⟨_,rfl⟩
 obtain ⟨d2,hd2⟩:∃z,q2-o2=z:=⟨_,rfl⟩
 have ef:foQ ((o1,o2),(q1,q2),A,B,C,u,v)=(o1+(u*d1-v*d2),o2+(u*d2+v*d1)):=by
  unfold foQ addQ timesQ subQ cW;simp only;rw [hd1,hd2]
 rw [ef]
 have f1:x-(o1+(u*d1-v*d2))=z1-(u*d1-v*d2):=by rw [<-hz1];grind
 have f2:y-(o2+(u*d2+v*d1))=z2-(u*d2+v*d1):=by rw [<-hz2];grind
 have g1:x-q1=z1-d1:=by rw [<-hz1,<-hd1];grind
 have g2:y-q2=z2-d2:=by rw [<-hz2,<-hd2];grind
 unfold wV wN wM wE wF wAl wBe cFi cSe cRe timQ sqQ subQ
 simp only [hz1,hz2,f1,f2,g1,g2]
 obtain ⟨s1,hs1⟩:∃z,z1-(u*d1-v*d2)=z:=⟨_,rfl⟩
 obtain ⟨s2,hs2⟩:∃z,z2-(u*d2+v*d1)=z:=⟨_,rfl⟩
 rw [hs1,hs2]
 obtain ⟨r1,r2,r3,r4⟩:=rob1 k j u v hk.symm hj z1 z2 s1 s2
 have y12:=rob2 z1 z2 d1 d2 u v A B C
 simp only [hs1,hs2,hk]at y12
 have y3:=rob3 z1 z2 u v (k*B-A) (C-((1-u)*(1-u)+v*v)*B-((z1-d1)*(z1-d1)+(z2-d2)*(z2-d2))) ((z1-d1)*(1-u)-(z2-d2)*v) ((z2-d2)*(1-u)+(z1-d1)*v)
 simp only [hk]at y3
 obtain ⟨eE,eF⟩:=rob4 A hk hj
 have eQ1:z1*u-z2 * -v=z1*u+z2*v:=by rw [Rat.mul_neg,Rat.sub_eq_add_neg,Rat.neg_neg]
 have eQ2:z2*u+z1 * -v=z2*u-z1*v:=by rw [Rat.mul_neg,Rat.sub_eq_add_neg]
 have eM:=rob5 hk hs1 hs2
 have hf' : k*C-((1-u)*(1-u)+v*v)*A-(s1*s1+s2*s2)=k*C-(s1*s1+s2*s2)-((1-u)*(1-u)+v*v)*A:=qbq _ _ _
 have he' : z1*z1+z2*z2+(A-k*B)=z1*z1+z2*z2-(k*B-A):=zbr _ _ _
 rw [eE,eF,eQ1,eQ2,hk,he',hf']
 rw [<-y12.1,<-y12.2]at y3
 exact rob6 hk0 hk r1 r2 r3 r4 eM y3
end Go.Num
end
section
namespace Go.Num
open Go.Abs
theorem ja8 (a b:V2):zq (timesQ a b)<=2*zq a+2*zq b+6:=by
 have a1:=zq_1 a
 have a2:=zq_2 a
 have b1:=zq_1 b
 have b2:=zq_2 b
 have m1:=Je a.1 b.1
 have m2:=Je a.2 b.2
 have m3:=Je a.1 b.2
 have m4:=Je a.2 b.1
 have s1:=QD (a.1*b.1) (a.2*b.2)
 have s2:=ZD (a.1*b.2) (a.2*b.1)
 exact Nat.max_le.2 ⟨by show rz (a.1*b.1-a.2*b.2)<=_;omega,by show rz (a.1*b.2+a.2*b.1)<=_;omega⟩
theorem UbL (a:V2):zq (ovQ a)<=5*zq a+8:=by
 have a1:=zq_1 a
 have a2:=zq_2 a
 have s:=W1 a
 have d1:=Ua9 a.1 (sqQ a)
 have d2:=Ua9 (-a.2) (sqQ a)
 rw [jy]at d2
 exact Nat.max_le.2 ⟨by show rz (a.1 / sqQ a)<=_;omega,by show rz (-a.2 / sqQ a)<=_;omega⟩
theorem ubI {c:CpR} {b:Nat} (h:CB' b c):zq (foQ c)<=7*b+12:=by
 obtain ⟨h1,h2,h3,h4,h5,h6,h7⟩:=h
 have w:zq (cW c)<=b:=Nat.max_le.2 ⟨h6,h7⟩
 have s:=Jak c.2.1 c.1
 have t:=ja8 (cW c) (subQ c.2.1 c.1)
 have u:=Wbu c.1 (timesQ (cW c) (subQ c.2.1 c.1))
 unfold foQ;omega
theorem Vbl {c:CpR} {b:Nat} (h:CB' b c):zq (rsQ c)<=b+4:=by
 obtain ⟨h1,h2,h3,h4,h5,h6,h7⟩:=h
 have w:zq (cW c)<=b:=Nat.max_le.2 ⟨h6,h7⟩
 have s:=Jak (1,0) (cW c)
 have e:zq (1,0)=1:=by decide +kernel
 unfold rsQ;omega
theorem Vbn (a:V2):addQ a (0,0)=a:=by unfold addQ;exact Prod.ext (by simp only;grind) (by simp only;grind)
theorem qbp (a b c d:Rat):a*b+c*d=c*d+a*b:=Rat.add_comm _ _
end Go.Num
namespace Go.Abs
open Go.Num
variable {P:Program} {Γ:Nat->Spec}
def Xx (l:List AV) (K:AV->Prop):Prop:=
 match l with
 | [a]=>onA (λp=>al p<=100000000/\K (pQ (av p))) a
 | _=>False
theorem zaB (a:AV) (K:AV->Prop):Xx [a] K=(onA (λp=>al p<=100000000/\K (pQ (av p))) a):=propext Iff.rfl
@[congr] theorem xbE {K:AV->Prop} {l l' : List AV} (h:l=l'):Xx l K=Xx l' K:=by subst h;rfl
attribute [go_sem] zaB
attribute [go_sem ↓] zaB
theorem kaV:Good Xx:=Va λas=>by
 unfold Xx
 split
 .exact (qz λ_=>(.and λ_=>(.ret _)))
 .exact .of λK hk=>hk.elim
def xA (tE:Nat) (l:List AV) (K:AV->Prop):Prop:=
 match l with
 | [a]=>onA (λp=>al p<=100000000/\K (.tup [pQ (if sqQ (av p)=0 then (0,0) else ovQ (av p)),errV tE (if sqQ (av p)=0 then 8 else 0)])) a
 | _=>False
theorem zaX (tE:Nat) (a:AV) (K:AV->Prop):xA tE [a] K=(onA (λp=>al p<=100000000/\K (.tup [pQ (if sqQ (av p)=0 then (0,0) else ovQ (av p)),errV tE (if sqQ (av p)=0 then 8 else 0)])) a):=propext Iff.rfl
@[congr] theorem xbJ (tE:Nat) {K:AV->Prop} {l l' : List AV} (h:l=l'):xA tE l K=xA tE l' K:=by subst h;rfl
attribute [go_sem] zaX
attribute [go_sem ↓] zaX
theorem XaQ (tE:Nat):Good (xA tE):=Va λas=>by
 unfold xA
 split
 .exact (qz λ_=>(.and λ_=>(.ret _)))
 .exact .of λK hk=>hk.elim
def Vy (l:List AV) (K:AV->Prop):Prop:=
 match l with
 | [c]=>onCp (λc=>cl c<=1000000/\K (pQ (foQ (cpv c)))) c
 | _=>False
theorem uaE (c:AV) (K:AV->Prop):Vy [c] K=(onCp (λc=>cl c<=1000000/\K (pQ (foQ (cpv c)))) c):=propext Iff.rfl
@[congr] theorem xbL {K:AV->Prop} {l l' : List AV} (h:l=l'):Vy l K=Vy l' K:=by subst h;rfl
attribute [go_sem] uaE
attribute [go_sem ↓] uaE
theorem vaH:Good Vy:=Va λas=>by
 unfold Vy
 split
 .exact (Vk λ_=>(.and λ_=>(.ret _)))
 .exact .of λK hk=>hk.elim
def jv (l:List AV) (K:AV->Prop):Prop:=
 match l with
 | [c]=>onCp (λc=>cl c<=100000000/\K (cpA (canC (cpv c)))) c
 | _=>False
theorem jau (c:AV) (K:AV->Prop):jv [c] K=(onCp (λc=>cl c<=100000000/\K (cpA (canC (cpv c)))) c):=propext Iff.rfl
@[congr] theorem xbB {K:AV->Prop} {l l' : List AV} (h:l=l'):jv l K=jv l' K:=by subst h;rfl
attribute [go_sem] jau
attribute [go_sem ↓] jau
theorem Jay:Good jv:=Va λas=>by
 unfold jv
 split
 .exact (Vk λ_=>(.and λ_=>(.ret _)))
 .exact .of λK hk=>hk.elim
def Jn (f0:Nat):AC:=(.seq (.ops false [.u 1 (.box 6 (.t 0)),.u 2 (.alloc [(.lit (.bool false)),.emp,.emp,(.lit (.bool false)),.emp,.emp])])
 (.fg [1,2] (.seq (.ops false [.u 3 (.ld none 6 true (.t 1)),.u 4 (.build [.z [(.lit (.bool false)),.emp,.emp,(.lit (.bool false)),.emp,.emp]]),.u 5 (.call f0 [(.t 3),(.t 4)]),.n (.st none 6 (.t 2) (.t 5))])
 .ret)))
def Xm (f0 f1 f2:Nat):AC:=(.seq (.ops false [.u 2 (.box 6 (.t 0)),.u 3 (.box 6 (.t 1)),.u 4 (.alloc [(.lit (.bool false)),.emp,.emp,(.lit (.bool false)),.emp,.emp])])
 (.fg [2,3,4] (.seq (.ops true [.u 5 (.fa 0 (.t 2)),.u 6 (.ld none 3 true (.t 5)),.u 7 (.fa 0 (.t 3)),.u 8 (.ld none 3 true (.t 7)),.u 9 (.call f0 [(.t 6),(.t 8)]),.u 10 (.fa 3 (.t 2)),.u 11 (.ld none 3 true (.t 10)),.u 12 (.fa 3 (.t 3)),.u 13 (.ld none 3 true (.t 12)),.u 14 (.call f0 [(.t 11),(.t 13)]),.u 15 (.call f1 [(.t 9),(.t 14)]),.u 16 (.fa 3 (.t 2)),.u 17 (.ld none 3 true (.t 16)),.u 18 (.fa 0 (.t 3)),.u 19 (.ld none 3 true (.t 18)),.u 20 (.call f0 [(.t 17),(.t 19)]),.u 21 (.fa 0 (.t 2)),.u 22 (.ld none 3 true (.t 21)),.u 23 (.fa 3 (.t 3)),.u 24 (.ld none 3 true (.t 23)),.u 25 (.call f0 [(.t 22),(.t 24)]),.u 26 (.call f2 [(.t 20),(.t 25)]),.u 27 (.build [.x 3 (.t 15),.x 3 (.t 26)]),.n (.st none 6 (.t 4) (.t 27))])
 .ret)))
def Uf (f0 f1 f2:Nat):AC:=(.seq (.ops false [.u 1 (.box 6 (.t 0)),.u 2 (.alloc [(.lit (.bool false)),.emp,.emp,(.lit (.bool false)),.emp,.emp]),.m 3 (.c (.one (.lit .nilIface)))])
 (.fg [1,2] (.seq (.ops false [.u 8 (.ld none 6 true (.t 1)),.u 9 (.call f0 [(.t 8)]),.u 4 (.alloc [(.lit (.bool false)),.emp,.emp]),.n (.st none 3 (.t 4) (.t 9))])
 (.fg [1,2,4] (.seq (.ops false [.u 11 (.fa 0 (.t 1)),.u 12 (.ld none 3 true (.t 11)),.u 13 (.ld none 3 true (.t 4)),.u 14 (.call f1 [(.t 12),(.t 13)]),.m 10 (.t 14),.u 15 (.ext 0 (.t 10)),.u 16 (.ext 1 (.t 10)),.u 5 (.alloc [(.lit (.bool false)),.emp,.emp]),.n (.st none 3 (.t 5) (.t 15)),.m 6 (.t 16)])
 (.fg [1,2,4,5,6] (.seq (.seq (.ops false [.m 17 (.t 6),.u 18 (.binn .neq (.t 17) (.c (.one (.lit .nilIface))))])
 (.fg [1,2,4,5,6,18] (.cond (.t 18) (.seq (.ops false [.u 19 (.build [.z [(.lit (.bool false)),.emp,.emp,(.lit (.bool false)),.emp,.emp]]),.m 20 (.t 6),.n (.st none 6 (.t 2) (.t 19)),.m 3 (.t 20)])
 .ret) .skip)))
 (.fg [1,2,4,5] (.seq (.ops true [.u 22 (.fa 3 (.t 1)),.u 23 (.ld none 3 true (.t 22)),.u 24 (.call f2 [(.t 23)]),.u 25 (.ld none 3 true (.t 4)),.u 26 (.call f1 [(.t 24),(.t 25)]),.m 21 (.t 26),.u 27 (.ext 0 (.t 21)),.u 28 (.ext 1 (.t 21)),.u 7 (.alloc [(.lit (.bool false)),.emp,.emp]),.n (.st none 3 (.t 7) (.t 27)),.m 6 (.t 28)])
 (.fg [2,5,6,7] (.seq (.ops false [.u 29 (.ld none 3 true (.t 5)),.u 30 (.ld none 3 true (.t 7)),.u 31 (.build [.x 3 (.t 29),.x 3 (.t 30)]),.m 32 (.t 6),.n (.st none 6 (.t 2) (.t 31)),.m 3 (.t 32)])
 .ret)))))))))))
def kn (f0 f1 f2 f3:Nat):AC:=(.seq (.ops false [.u 1 (.box 27 (.t 0)),.u 2 (.alloc [(.lit (.bool false)),.emp,.emp,(.lit (.bool false)),.emp,.emp])])
 (.fg [1,2] (.seq (.ops true [.u 3 (.fa 0 (.t 1)),.u 4 (.ld none 6 true (.t 3)),.u 5 (.ld none 27 true (.t 1)),.u 6 (.call f0 [(.t 5)]),.u 7 (.fa 6 (.t 1)),.u 8 (.ld none 6 true (.t 7)),.u 9 (.fa 0 (.t 1)),.u 10 (.ld none 6 true (.t 9)),.u 11 (.call f1 [(.t 8),(.t 10)]),.u 12 (.call f2 [(.t 6),(.t 11)]),.u 13 (.call f3 [(.t 4),(.t 12)]),.n (.st none 6 (.t 2) (.t 13))])
 .ret)))
def Vl (f0 f1:Nat):AC:=(.seq (.ops false [.u 1 (.box 27 (.t 0)),.u 2 (.alloc [(.lit (.bool false)),.emp,.emp,(.lit (.bool false)),.emp,.emp,(.lit (.bool false)),.emp,.emp,(.lit (.bool false)),.emp,.emp,(.lit (.bool false)),.emp,.emp,(.lit (.bool false)),.emp,.emp,(.lit (.bool false)),.emp,.emp,(.lit (.bool false)),.emp,.emp,(.lit (.bool false)),.emp,.emp])])
 (.fg [1,2] (.seq (.ops false [.u 4 (.build [.z [(.lit (.bool false)),.emp,.emp]]),.u 3 (.alloc [(.lit (.bool false)),.emp,.emp]),.n (.st none 3 (.t 3) (.t 4))])
 (.fg [1,2,3] (.seq (.ops true [.u 5 (.fa 0 (.t 1)),.u 6 (.ld none 6 true (.t 5)),.u 7 (.call f0 [(.t 6)]),.u 8 (.fa 6 (.t 1)),.u 9 (.ld none 6 true (.t 8)),.u 10 (.call f0 [(.t 9)]),.u 11 (.fa 12 (.t 1)),.u 12 (.ld none 3 true (.t 11)),.u 13 (.ld none 3 true (.t 3)),.u 14 (.call f1 [(.t 12),(.t 13)]),.u 15 (.fa 15 (.t 1)),.u 16 (.ld none 3 true (.t 15)),.u 17 (.ld none 3 true (.t 3)),.u 18 (.call f1 [(.t 16),(.t 17)]),.u 19 (.fa 18 (.t 1)),.u 20 (.ld none 3 true (.t 19)),.u 21 (.ld none 3 true (.t 3)),.u 22 (.call f1 [(.t 20),(.t 21)]),.u 23 (.fa 21 (.t 1)),.u 24 (.ld none 3 true (.t 23)),.u 25 (.ld none 3 true (.t 3)),.u 26 (.call f1 [(.t 24),(.t 25)]),.u 27 (.fa 24 (.t 1)),.u 28 (.ld none 3 true (.t 27)),.u 29 (.ld none 3 true (.t 3)),.u 30 (.call f1 [(.t 28),(.t 29)]),.u 31 (.build [.x 6 (.t 7),.x 6 (.t 10),.x 3 (.t 14),.x 3 (.t 18),.x 3 (.t 22),.x 3 (.t 26),.x 3 (.t 30)]),.n (.st none 27 (.t 2) (.t 31))])
 .ret)))))
theorem jav (hΓ:Holds P Γ) {f fa:Nat} (ha:Γ fa=.dat false Us) (hc:check P f=some (6,(Jn fa).strip,[.cell 2 6 true])):Sound P f (.dat false Xx):=by
 refine va hc kaV hΓ (λargs K hcl hfi hG=>?_)
 match args,hG with
 | [a],hG=>
  obtain ⟨p,rfl,wp,hl,hK⟩:=hG
  refine ⟨by simp,?_⟩
  have zz:WLA (rcan 0,rcan 0):=uy (0,0)
  have z0:al (rcan 0,rcan 0)<=100000000:=Nat.max_le.2 ⟨Nat.le_trans (Nat.le_of_eq rz_0) (by decide),Nat.le_trans (Nat.le_of_eq rz_0) (by decide)⟩
  have e0:av (rcan 0,rcan 0)=(0,0):=JaA (0,0)
  simp only [go_sem,Jn,ha,Zw,Vc,e0,Vbn]
  repeat (first | (refine And.intro (by with_reducible assumption) ?_) | (refine And.intro (Nat.le_trans (by with_reducible assumption) (by decide)) ?_) | (refine And.intro (by decide) ?_))
  exact hK
theorem uP (hΓ:Holds P Γ) {f fm fs fa:Nat} (hm:Γ fm=.dat false Wn) (hs:Γ fs=.dat false jx) (ha:Γ fa=.dat false Qp) (hc:check P f=some (28,(Xm fm fs fa).strip,[.cell 4 6 true])):Sound P f (.dat false qp):=by
 refine va hc Zaa hΓ (λargs K hcl hfi hG=>?_)
 match args,hG with
 | [a,b],hG=>
  obtain ⟨p,rfl,wp,q,rfl,wq,hl,hl2,hK⟩:=hG
  refine ⟨by simp,?_⟩
  have w1:=wp.1
  have w2:=wp.2
  have w3:=wq.1
  have w4:=wq.2
  have l1:=(Nat.max_le.1 hl).1
  have l2:=(Nat.max_le.1 hl).2
  have l3:=(Nat.max_le.1 hl2).1
  have l4:=(Nat.max_le.1 hl2).2
  have r1:=jj w1
  have r2:=jj w2
  have r3:=jj w3
  have r4:=jj w4
  have m1:=Nat.le_trans (Je (rv p.1) (rv q.1)) (by omega:_<=1000000000)
  have m2:=Nat.le_trans (Je (rv p.2) (rv q.2)) (by omega:_<=1000000000)
  have m3:=Nat.le_trans (Je (rv p.2) (rv q.1)) (by omega:_<=1000000000)
  have m4:=Nat.le_trans (Je (rv p.1) (rv q.2)) (by omega:_<=1000000000)
  have e:pQ (timesQ (av p) (av q))=pQ (rv p.1*rv q.1-rv p.2*rv q.2,rv p.2*rv q.1+rv p.1*rv q.2):=by
   unfold timesQ av;rw [qbp]
  rw [e]at hK
  simp only [go_sem,Xm,hm,hs,ha,Zw,Xb]
  repeat (first | (refine And.intro (by with_reducible assumption) ?_) | (refine And.intro (Nat.le_trans (by with_reducible assumption) (by decide)) ?_) | (refine And.intro (by decide) ?_))
  exact hK
theorem xax (hΓ:Holds P Γ) {f fq fd fn tE:Nat} (hq:Γ fq=.dat false WI) (hd:Γ fd=.dat false (ku tE)) (hn:Γ fn=.dat false qw) (hc:check P f=some (33,(Uf fq fd fn).strip,[.cell 2 6 true,.tmp 3])):Sound P f (.dat false (xA tE)):=by
 refine va hc (XaQ tE) hΓ (λargs K hcl hfi hG=>?_)
 match args,hG with
 | [a],hG=>
  obtain ⟨p,rfl,wp,hl,hK⟩:=hG
  refine ⟨by simp,?_⟩
  have w1:=wp.1
  have w2:=wp.2
  have l1:=(Nat.max_le.1 hl).1
  have l2:=(Nat.max_le.1 hl).2
  have r1:=jj w1
  have r2:=jj w2
  have s:=W1 (av p)
  have z:=Wav wp
  obtain ⟨n,hn0⟩:∃n,sqQ (av p)=n:=⟨_,rfl⟩
  rw [hn0]at s
  have s1:=Nat.le_trans s (by omega:_<=4294967296)
  have s2:rz (-rv p.2)<=4294967296:=by rw [jy];omega
  have eo:ovQ (av p)=(rv p.1 / n,-rv p.2 / n):=by unfold ovQ;rw [hn0];rfl
  rw [eo,hn0]at hK
  by_cases h0:n=0
  .have e8:=Qc tE (by decide:(8:Nat)≠0)
   rw [if_pos h0,if_pos h0,e8,UaZ,jc]at hK
   simp only [go_sem,Uf,hq,hd,Zw,Vc,hn0,Xb,if_pos h0,e8]
   repeat (first | (refine And.intro (by with_reducible assumption) ?_) | (refine And.intro (Nat.le_trans (by with_reducible assumption) (by decide)) ?_) | (refine And.intro (by decide) ?_))
   exact hK
  .have e0:=qc tE
   rw [if_neg h0,if_neg h0,e0]at hK
   simp only [go_sem,Uf,hq,hd,hn,Zw,Vc,hn0,Xb,if_neg h0,e0]
   repeat (first | (refine And.intro (by with_reducible assumption) ?_) | (refine And.intro (Nat.le_trans (by with_reducible assumption) (by decide)) ?_) | (refine And.intro (by decide) ?_))
   exact hK
theorem WaA (hΓ:Holds P Γ) {f fw fs ft fa:Nat} (hw' : Γ fw=.dat false JH) (hs:Γ fs=.dat false Ur) (ht:Γ ft=.dat false qp) (ha:Γ fa=.dat false Us) (hc:check P f=some (14,(kn fw fs ft fa).strip,[.cell 2 6 true])):Sound P f (.dat false Vy):=by
 refine va hc vaH hΓ (λargs K hcl hfi hG=>?_)
 match args,hG with
 | [a],hG=>
  obtain ⟨c,rfl,hw,hl,hK⟩:=hG
  refine ⟨by simp,?_⟩
  have wW:WLA c.2.2.2.2.2:=⟨hw.2.2.2.2.2.1,hw.2.2.2.2.2.2⟩
  have l6:al c.2.2.2.2.2<=100000000:=Nat.le_trans (cl_w hl) (by decide)
  have hB:=Xbl hw hl
  have wo:=hw.1
  have wQ:=hw.2.1
  have lo:al c.1<=100000000:=Nat.le_trans (Nat.le_max_left _ _) (Nat.le_trans hl (by decide))
  have lq:al c.2.1<=100000000:=Nat.le_trans (Nat.le_max_left _ _) (Nat.le_trans (Nat.le_max_right _ _) (Nat.le_trans hl (by decide)))
  obtain ⟨D,hD⟩:∃D,subQ (av c.2.1) (av c.1)=D:=⟨_,rfl⟩
  obtain ⟨T,hT⟩:∃T,timesQ (av c.2.2.2.2.2) D=T:=⟨_,rfl⟩
  have z1:al (rcan D.1,rcan D.2)<=100000000:=by
   have:=Jak (av c.2.1) (av c.1)
   rw [hD]at this
   have e1:zq (av c.1)<=1000000:=hB.1
   have e2:zq (av c.2.1)<=1000000:=hB.2.1
   exact Nat.le_trans this (by omega)
  have z2:al (rcan T.1,rcan T.2)<=100000000:=by
   have:=ja8 (av c.2.2.2.2.2) D
   rw [hT]at this
   have e3:=Jak (av c.2.1) (av c.1)
   rw [hD]at e3
   have e1:zq (av c.1)<=1000000:=hB.1
   have e2:zq (av c.2.1)<=1000000:=hB.2.1
   have e4:zq (av c.2.2.2.2.2)<=1000000:=Nat.max_le.2 ⟨hB.2.2.2.2.2.1,hB.2.2.2.2.2.2⟩
   exact Nat.le_trans this (by omega)
  have wD:WLA (rcan D.1,rcan D.2):=uy D
  have wT:WLA (rcan T.1,rcan T.2):=uy T
  have ef:foQ (cpv c)=addQ (av c.1) T:=by rw [<-hT,<-hD];rfl
  rw [ef]at hK
  simp only [go_sem,kn,hw',hs,ht,ha,cpA,cpC,aA,Zw,Vc,hD,JaA,hT]
  repeat (first | (refine And.intro (by with_reducible assumption) ?_) | (refine And.intro (Nat.le_trans (by with_reducible assumption) (by decide)) ?_) | (refine And.intro (by decide) ?_))
  exact hK
theorem Waf (hΓ:Holds P Γ) {f fc fa:Nat} (hcl' : Γ fc=.dat false Xx) (ha:Γ fa=.dat false Qp) (hc:check P f=some (32,(Vl fc fa).strip,[.cell 2 27 true])):Sound P f (.dat false jv):=by
 refine va hc Jay hΓ (λargs K hcl hfi hG=>?_)
 match args,hG with
 | [a],hG=>
  obtain ⟨c,rfl,hw,hl,hK⟩:=hG
  refine ⟨by simp,?_⟩
  obtain ⟨wo,wQ,w1,w2,w3,w4,w5⟩:=id hw
  have hl0:=hl
  unfold cl at hl0
  simp only [Nat.max_le]at hl0
  obtain ⟨l1,l2,l3,l4,l5,l6,l7⟩:=hl0
  have lz:rz 0<=4294967296:=Nat.le_trans (Nat.le_of_eq rz_0) (by decide)
  have m1:∀x:Rat,x+0=x:=λx=>by grind
  simp only [go_sem,Vl,hcl',ha,cpA,cpC,Zw,rA,Vc,Xb,m1]
  repeat (first | (refine And.intro (by with_reducible assumption) ?_) | (refine And.intro (Nat.le_trans (by with_reducible assumption) (by decide)) ?_) | (refine And.intro (by decide) ?_))
  exact hK
end Go.Abs
end
section
namespace Go.Num
open Go.Abs
def wC (w:V2):Nat:=if sqQ w=0 then 8 else 0
def fiC (c:Cp):Nat:=if cchk c≠0 then cchk c else wC (cW (cpv c))
def seC (c:Cp):Nat:=if cchk c≠0 then cchk c else wC (rsQ (cpv c))
def alC (c:Cp):Nat:=if fiC c≠0 then fiC c else seC c
def alL (c:Cp):List CpR:=if alC c=0 then [cpv c,fiQ (cpv c),seQ (cpv c)] else []
theorem wC_0 {w:V2}:wC w=0↔sqQ w≠0:=by
 unfold wC;split
 .rename_i h;simp [h]
 .rename_i h;simp [h]
theorem xbK {c:Cp} (h:cchk c≠0):fiC c=cchk c:=if_pos h
theorem XbH {c:Cp} (h:cchk c≠0):seC c=cchk c:=if_pos h
theorem Jaz {c:Cp} (h:cchk c=0):fiC c=wC (cW (cpv c)):=by unfold fiC;rw [if_neg (by omega)]
theorem wa4 {c:Cp} (h:cchk c=0):seC c=wC (rsQ (cpv c)):=by unfold seC;rw [if_neg (by omega)]
theorem Wba {c:CpR} {o k:V2} {x y z:Rat} {b:Nat} (h:CB' b c) (ho:zq o<=b) (hk:zq k<=b+4) (h1:rz x<=b) (h2:rz y<=b) (h3:rz z<=b):CB' (7*b+40) (simQ c o k x y z):=by
 have f:=ubI h
 have s:=W1 k
 have v:=UbL k
 have m1:=Je (sqQ k) x
 have m2:=Je (sqQ k) y
 have m3:=Je (sqQ k) z
 have v1:=zq_1 (ovQ k)
 have v2:=zq_2 (ovQ k)
 exact ⟨by show zq o<=_;omega,by show zq (foQ c)<=_;omega,by show rz (sqQ k*x)<=_;omega,by show rz (sqQ k*y)<=_;omega,by show rz (sqQ k*z)<=_;omega,by show rz (ovQ k).1<=_;omega,by show rz (ovQ k).2<=_;omega⟩
theorem Ubw {c:CpR} {b:Nat} (h:CB' b c):CB' (7*b+40) (fiQ c):=
 Wba h h.1 (Nat.le_trans (Nat.max_le.2 ⟨h.2.2.2.2.2.1,h.2.2.2.2.2.2⟩) (by omega)) h.2.2.2.1 h.2.2.1 h.2.2.2.2.1
theorem vbK {c:CpR} {b:Nat} (h:CB' b c):CB' (7*b+40) (seQ c):=
 Wba h h.2.1 (Vbl h) h.2.2.2.1 h.2.2.2.2.1 h.2.2.1
theorem xbx {c:CpR} {b:Nat} (h:CB' b c):CB' (b+4) (swQ c):=by
 have r:=Vbl h
 have v1:=zq_1 (rsQ c)
 have v2:=zq_2 (rsQ c)
 obtain ⟨h1,h2,h3,h4,h5,h6,h7⟩:=h
 exact ⟨by show zq c.2.1<=_;omega,by show zq c.1<=_;omega,by show rz c.2.2.2.2.1<=_;omega,by show rz c.2.2.2.1<=_;omega,by show rz c.2.2.1<=_;omega,by show rz (rsQ c).1<=_;omega,by show rz (rsQ c).2<=_;omega⟩
end Go.Num
namespace Go.Abs
open Go.Num
variable {P:Program} {Γ:Nat->Spec}
def Ux (tE:Nat) (l:List AV) (K:AV->Prop):Prop:=
 match l with
 | [c,o,k,x,y,z]=>onCp (λc=>onA (λo=>onA (λk=>onR (λx=>onR (λy=>onR (λz=>cl c<=1000000/\al o<=1000000/\al k<=1000000/\rl x<=1000000/\rl y<=1000000/\rl z<=1000000/\K (.tup [cqR (if wC (av k)=0 then simQ (cpv c) (av o) (av k) (rv x) (rv y) (rv z) else z27),errV tE (wC (av k))])) z) y) x) k) o) c
 | _=>False
theorem UaK (tE:Nat) (c o k x y z:AV) (K:AV->Prop):Ux tE [c,o,k,x,y,z] K=(onCp (λc=>onA (λo=>onA (λk=>onR (λx=>onR (λy=>onR (λz=>cl c<=1000000/\al o<=1000000/\al k<=1000000/\rl x<=1000000/\rl y<=1000000/\rl z<=1000000/\K (.tup [cqR (if wC (av k)=0 then simQ (cpv c) (av o) (av k) (rv x) (rv y) (rv z) else z27),errV tE (wC (av k))])) z) y) x) k) o) c):=propext Iff.rfl
@[congr] theorem kbJ (tE:Nat) {K:AV->Prop} {l l' : List AV} (h:l=l'):Ux tE l K=Ux tE l' K:=by subst h;rfl
attribute [go_sem] UaK
attribute [go_sem ↓] UaK
theorem VaE (tE:Nat):Good (Ux tE):=Va λas=>by
 unfold Ux
 split
 .exact (Vk λ_=>(qz λ_=>(qz λ_=>(Xh λ_=>(Xh λ_=>(Xh λ_=>(.and λ_=>(.and λ_=>(.and λ_=>(.and λ_=>(.and λ_=>(.and λ_=>(.ret _)))))))))))))
 .exact .of λK hk=>hk.elim
def wI (tE:Nat) (l:List AV) (K:AV->Prop):Prop:=
 match l with
 | [c]=>onCp (λc=>cl c<=100000/\K (.tup [cqR (if fiC c=0 then fiQ (cpv c) else z27),errV tE (fiC c)])) c
 | _=>False
theorem jbc (tE:Nat) (c:AV) (K:AV->Prop):wI tE [c] K=(onCp (λc=>cl c<=100000/\K (.tup [cqR (if fiC c=0 then fiQ (cpv c) else z27),errV tE (fiC c)])) c):=propext Iff.rfl
@[congr] theorem YbO (tE:Nat) {K:AV->Prop} {l l' : List AV} (h:l=l'):wI tE l K=wI tE l' K:=by subst h;rfl
attribute [go_sem] jbc
attribute [go_sem ↓] jbc
theorem va4 (tE:Nat):Good (wI tE):=Va λas=>by
 unfold wI
 split
 .exact (Vk λ_=>(.and λ_=>(.ret _)))
 .exact .of λK hk=>hk.elim
def UP (tE:Nat) (l:List AV) (K:AV->Prop):Prop:=
 match l with
 | [c]=>onCp (λc=>cl c<=100000/\K (.tup [cqR (if seC c=0 then seQ (cpv c) else z27),errV tE (seC c)])) c
 | _=>False
theorem ya7 (tE:Nat) (c:AV) (K:AV->Prop):UP tE [c] K=(onCp (λc=>cl c<=100000/\K (.tup [cqR (if seC c=0 then seQ (cpv c) else z27),errV tE (seC c)])) c):=propext Iff.rfl
@[congr] theorem ybP (tE:Nat) {K:AV->Prop} {l l' : List AV} (h:l=l'):UP tE l K=UP tE l' K:=by subst h;rfl
attribute [go_sem] ya7
attribute [go_sem ↓] ya7
theorem wa2 (tE:Nat):Good (UP tE):=Va λas=>by
 unfold UP
 split
 .exact (Vk λ_=>(.and λ_=>(.ret _)))
 .exact .of λK hk=>hk.elim
def jR (tE:Nat) (l:List AV) (K:AV->Prop):Prop:=
 match l with
 | [c]=>onCp (λc=>cl c<=100000/\K (.tup [pQ (if cchk c=0 then foQ (cpv c) else (0,0)),errV tE (cchk c)])) c
 | _=>False
theorem Qa7 (tE:Nat) (c:AV) (K:AV->Prop):jR tE [c] K=(onCp (λc=>cl c<=100000/\K (.tup [pQ (if cchk c=0 then foQ (cpv c) else (0,0)),errV tE (cchk c)])) c):=propext Iff.rfl
@[congr] theorem jbP (tE:Nat) {K:AV->Prop} {l l' : List AV} (h:l=l'):jR tE l K=jR tE l' K:=by subst h;rfl
attribute [go_sem] Qa7
attribute [go_sem ↓] Qa7
theorem va3 (tE:Nat):Good (jR tE):=Va λas=>by
 unfold jR
 split
 .exact (Vk λ_=>(.and λ_=>(.ret _)))
 .exact .of λK hk=>hk.elim
def YO (tE:Nat) (l:List AV) (K:AV->Prop):Prop:=
 match l with
 | [c]=>onCp (λc=>cl c<=100000/\K (.tup [cqR (if cchk c=0 then swQ (cpv c) else z27),errV tE (cchk c)])) c
 | _=>False
theorem ua5 (tE:Nat) (c:AV) (K:AV->Prop):YO tE [c] K=(onCp (λc=>cl c<=100000/\K (.tup [cqR (if cchk c=0 then swQ (cpv c) else z27),errV tE (cchk c)])) c):=propext Iff.rfl
@[congr] theorem UbP (tE:Nat) {K:AV->Prop} {l l' : List AV} (h:l=l'):YO tE l K=YO tE l' K:=by subst h;rfl
attribute [go_sem] ua5
attribute [go_sem ↓] ua5
theorem ua0 (tE:Nat):Good (YO tE):=Va λas=>by
 unfold YO
 split
 .exact (Vk λ_=>(.and λ_=>(.ret _)))
 .exact .of λK hk=>hk.elim
def waW (tE:Nat) (l:List AV) (K:AV->Prop):Prop:=
 match l with
 | [c]=>onCp (λc=>cl c<=10000/\K (.tup [.one (.slice ((alL c).map λX=>cpC (canC X))),errV tE (alC c)])) c
 | _=>False
theorem waH (tE:Nat) (c:AV) (K:AV->Prop):waW tE [c] K=(onCp (λc=>cl c<=10000/\K (.tup [.one (.slice ((alL c).map λX=>cpC (canC X))),errV tE (alC c)])) c):=propext Iff.rfl
@[congr] theorem wbE (tE:Nat) {K:AV->Prop} {l l' : List AV} (h:l=l'):waW tE l K=waW tE l' K:=by subst h;rfl
attribute [go_sem] waH
attribute [go_sem ↓] waH
def zg (f0 f1 f2 f3 f4:Nat):AC:=(.seq (.ops false [.u 6 (.box 27 (.t 0)),.u 7 (.box 6 (.t 1)),.u 8 (.box 6 (.t 2)),.u 9 (.box 3 (.t 3)),.u 10 (.box 3 (.t 4)),.u 11 (.box 3 (.t 5)),.u 12 (.alloc [(.lit (.bool false)),.emp,.emp,(.lit (.bool false)),.emp,.emp,(.lit (.bool false)),.emp,.emp,(.lit (.bool false)),.emp,.emp,(.lit (.bool false)),.emp,.emp,(.lit (.bool false)),.emp,.emp,(.lit (.bool false)),.emp,.emp,(.lit (.bool false)),.emp,.emp,(.lit (.bool false)),.emp,.emp]),.m 13 (.c (.one (.lit .nilIface)))])
 (.fg [6,7,8,9,10,11,12] (.seq (.ops false [.u 18 (.ld none 6 true (.t 8)),.u 19 (.call f0 [(.t 18)]),.m 17 (.t 19),.u 20 (.ext 0 (.t 17)),.u 21 (.ext 1 (.t 17)),.u 14 (.alloc [(.lit (.bool false)),.emp,.emp,(.lit (.bool false)),.emp,.emp]),.n (.st none 6 (.t 14) (.t 20)),.m 15 (.t 21)])
 (.fg [6,7,8,9,10,11,12,14,15] (.seq (.seq (.ops false [.m 22 (.t 15),.u 23 (.binn .neq (.t 22) (.c (.one (.lit .nilIface))))])
 (.fg [6,7,8,9,10,11,12,14,15,23] (.cond (.t 23) (.seq (.ops false [.u 24 (.build [.z [(.lit (.bool false)),.emp,.emp,(.lit (.bool false)),.emp,.emp,(.lit (.bool false)),.emp,.emp,(.lit (.bool false)),.emp,.emp,(.lit (.bool false)),.emp,.emp,(.lit (.bool false)),.emp,.emp,(.lit (.bool false)),.emp,.emp,(.lit (.bool false)),.emp,.emp,(.lit (.bool false)),.emp,.emp]]),.m 25 (.t 15),.n (.st none 27 (.t 12) (.t 24)),.m 13 (.t 25)])
 .ret) .skip)))
 (.fg [6,7,8,9,10,11,12,14] (.seq (.ops false [.u 26 (.ld none 6 true (.t 8)),.u 27 (.call f1 [(.t 26)]),.u 16 (.alloc [(.lit (.bool false)),.emp,.emp]),.n (.st none 3 (.t 16) (.t 27))])
 (.fg [6,7,9,10,11,12,14,16] (.seq (.ops true [.u 28 (.ld none 6 true (.t 7)),.u 29 (.call f2 [(.t 28)]),.u 30 (.ld none 27 true (.t 6)),.u 31 (.call f3 [(.t 30)]),.u 32 (.ld none 3 true (.t 16)),.u 33 (.ld none 3 true (.t 9)),.u 34 (.call f4 [(.t 32),(.t 33)]),.u 35 (.ld none 3 true (.t 16)),.u 36 (.ld none 3 true (.t 10)),.u 37 (.call f4 [(.t 35),(.t 36)]),.u 38 (.ld none 3 true (.t 16)),.u 39 (.ld none 3 true (.t 11)),.u 40 (.call f4 [(.t 38),(.t 39)]),.u 41 (.fa 0 (.t 14)),.u 42 (.ld none 3 true (.t 41)),.u 43 (.fa 3 (.t 14)),.u 44 (.ld none 3 true (.t 43)),.u 45 (.build [.x 6 (.t 29),.x 6 (.t 31),.x 3 (.t 34),.x 3 (.t 37),.x 3 (.t 40),.x 3 (.t 42),.x 3 (.t 44)]),.n (.st none 27 (.t 12) (.t 45)),.m 13 (.c (.one (.lit .nilIface)))])
 .ret)))))))))
def qj (f0 f1 f2:Nat):AC:=(.seq (.ops false [.u 1 (.box 27 (.t 0)),.u 2 (.alloc [(.lit (.bool false)),.emp,.emp,(.lit (.bool false)),.emp,.emp,(.lit (.bool false)),.emp,.emp,(.lit (.bool false)),.emp,.emp,(.lit (.bool false)),.emp,.emp,(.lit (.bool false)),.emp,.emp,(.lit (.bool false)),.emp,.emp,(.lit (.bool false)),.emp,.emp,(.lit (.bool false)),.emp,.emp]),.m 3 (.c (.one (.lit .nilIface)))])
 (.fg [1,2] (.seq (.seq (.ops false [.u 5 (.ld none 27 true (.t 1)),.u 6 (.call f0 [(.t 5)]),.m 4 (.t 6)])
 (.fg [1,2,4] (.seq (.ops false [.m 7 (.t 4),.u 8 (.binn .neq (.t 7) (.c (.one (.lit .nilIface))))])
 (.fg [1,2,4,8] (.cond (.t 8) (.seq (.ops false [.u 9 (.build [.z [(.lit (.bool false)),.emp,.emp,(.lit (.bool false)),.emp,.emp,(.lit (.bool false)),.emp,.emp,(.lit (.bool false)),.emp,.emp,(.lit (.bool false)),.emp,.emp,(.lit (.bool false)),.emp,.emp,(.lit (.bool false)),.emp,.emp,(.lit (.bool false)),.emp,.emp,(.lit (.bool false)),.emp,.emp]]),.m 10 (.t 4),.n (.st none 27 (.t 2) (.t 9)),.m 3 (.t 10)])
 .ret) .skip)))))
 (.fg [1,2] (.seq (.ops true [.u 11 (.ld none 27 true (.t 1)),.u 12 (.fa 0 (.t 1)),.u 13 (.ld none 6 true (.t 12)),.u 14 (.ld none 27 true (.t 1)),.u 15 (.call f1 [(.t 14)]),.u 16 (.fa 15 (.t 1)),.u 17 (.ld none 3 true (.t 16)),.u 18 (.fa 12 (.t 1)),.u 19 (.ld none 3 true (.t 18)),.u 20 (.fa 18 (.t 1)),.u 21 (.ld none 3 true (.t 20)),.u 22 (.call f2 [(.t 11),(.t 13),(.t 15),(.t 17),(.t 19),(.t 21)]),.u 23 (.ext 0 (.t 22)),.u 24 (.ext 1 (.t 22)),.n (.st none 27 (.t 2) (.t 23)),.m 3 (.t 24)])
 .ret)))))
def Vh (f0 f1 f2:Nat):AC:=(.seq (.ops false [.u 1 (.box 27 (.t 0)),.u 2 (.alloc [(.lit (.bool false)),.emp,.emp,(.lit (.bool false)),.emp,.emp,(.lit (.bool false)),.emp,.emp,(.lit (.bool false)),.emp,.emp,(.lit (.bool false)),.emp,.emp,(.lit (.bool false)),.emp,.emp,(.lit (.bool false)),.emp,.emp,(.lit (.bool false)),.emp,.emp,(.lit (.bool false)),.emp,.emp]),.m 3 (.c (.one (.lit .nilIface)))])
 (.fg [1,2] (.seq (.seq (.ops false [.u 5 (.ld none 27 true (.t 1)),.u 6 (.call f0 [(.t 5)]),.m 4 (.t 6)])
 (.fg [1,2,4] (.seq (.ops false [.m 7 (.t 4),.u 8 (.binn .neq (.t 7) (.c (.one (.lit .nilIface))))])
 (.fg [1,2,4,8] (.cond (.t 8) (.seq (.ops false [.u 9 (.build [.z [(.lit (.bool false)),.emp,.emp,(.lit (.bool false)),.emp,.emp,(.lit (.bool false)),.emp,.emp,(.lit (.bool false)),.emp,.emp,(.lit (.bool false)),.emp,.emp,(.lit (.bool false)),.emp,.emp,(.lit (.bool false)),.emp,.emp,(.lit (.bool false)),.emp,.emp,(.lit (.bool false)),.emp,.emp]]),.m 10 (.t 4),.n (.st none 27 (.t 2) (.t 9)),.m 3 (.t 10)])
 .ret) .skip)))))
 (.fg [1,2] (.seq (.ops true [.u 11 (.ld none 27 true (.t 1)),.u 12 (.fa 6 (.t 1)),.u 13 (.ld none 6 true (.t 12)),.u 14 (.ld none 27 true (.t 1)),.u 15 (.call f1 [(.t 14)]),.u 16 (.fa 15 (.t 1)),.u 17 (.ld none 3 true (.t 16)),.u 18 (.fa 18 (.t 1)),.u 19 (.ld none 3 true (.t 18)),.u 20 (.fa 12 (.t 1)),.u 21 (.ld none 3 true (.t 20)),.u 22 (.call f2 [(.t 11),(.t 13),(.t 15),(.t 17),(.t 19),(.t 21)]),.u 23 (.ext 0 (.t 22)),.u 24 (.ext 1 (.t 22)),.n (.st none 27 (.t 2) (.t 23)),.m 3 (.t 24)])
 .ret)))))
def zj (f0 f1:Nat):AC:=(.seq (.ops false [.u 1 (.box 27 (.t 0)),.u 2 (.alloc [(.lit (.bool false)),.emp,.emp,(.lit (.bool false)),.emp,.emp]),.m 3 (.c (.one (.lit .nilIface)))])
 (.fg [1,2] (.seq (.seq (.ops false [.u 5 (.ld none 27 true (.t 1)),.u 6 (.call f0 [(.t 5)]),.m 4 (.t 6)])
 (.fg [1,2,4] (.seq (.ops false [.m 7 (.t 4),.u 8 (.binn .neq (.t 7) (.c (.one (.lit .nilIface))))])
 (.fg [1,2,4,8] (.cond (.t 8) (.seq (.ops false [.u 9 (.build [.z [(.lit (.bool false)),.emp,.emp,(.lit (.bool false)),.emp,.emp]]),.m 10 (.t 4),.n (.st none 6 (.t 2) (.t 9)),.m 3 (.t 10)])
 .ret) .skip)))))
 (.fg [1,2] (.seq (.ops false [.u 11 (.ld none 27 true (.t 1)),.u 12 (.call f1 [(.t 11)]),.n (.st none 6 (.t 2) (.t 12)),.m 3 (.c (.one (.lit .nilIface)))])
 .ret)))))
def Uj (f0 f1 f2:Nat):AC:=(.seq (.ops false [.u 1 (.box 27 (.t 0)),.u 2 (.alloc [(.lit (.bool false)),.emp,.emp,(.lit (.bool false)),.emp,.emp,(.lit (.bool false)),.emp,.emp,(.lit (.bool false)),.emp,.emp,(.lit (.bool false)),.emp,.emp,(.lit (.bool false)),.emp,.emp,(.lit (.bool false)),.emp,.emp,(.lit (.bool false)),.emp,.emp,(.lit (.bool false)),.emp,.emp]),.m 3 (.c (.one (.lit .nilIface)))])
 (.fg [1,2] (.seq (.seq (.ops false [.u 7 (.ld none 27 true (.t 1)),.u 8 (.call f0 [(.t 7)]),.m 4 (.t 8)])
 (.fg [1,2,4] (.seq (.ops false [.m 9 (.t 4),.u 10 (.binn .neq (.t 9) (.c (.one (.lit .nilIface))))])
 (.fg [1,2,4,10] (.cond (.t 10) (.seq (.ops false [.u 11 (.build [.z [(.lit (.bool false)),.emp,.emp,(.lit (.bool false)),.emp,.emp,(.lit (.bool false)),.emp,.emp,(.lit (.bool false)),.emp,.emp,(.lit (.bool false)),.emp,.emp,(.lit (.bool false)),.emp,.emp,(.lit (.bool false)),.emp,.emp,(.lit (.bool false)),.emp,.emp,(.lit (.bool false)),.emp,.emp]]),.m 12 (.t 4),.n (.st none 27 (.t 2) (.t 11)),.m 3 (.t 12)])
 .ret) .skip)))))
 (.fg [1,2] (.seq (.ops false [.u 13 (.ld none 27 true (.t 1)),.u 14 (.call f1 [(.t 13)]),.u 5 (.alloc [(.lit (.bool false)),.emp,.emp,(.lit (.bool false)),.emp,.emp,(.lit (.bool false)),.emp,.emp,(.lit (.bool false)),.emp,.emp,(.lit (.bool false)),.emp,.emp,(.lit (.bool false)),.emp,.emp,(.lit (.bool false)),.emp,.emp,(.lit (.bool false)),.emp,.emp,(.lit (.bool false)),.emp,.emp]),.n (.st none 27 (.t 5) (.t 14))])
 (.fg [1,2,5] (.seq (.ops false [.u 15 (.fa 6 (.t 5)),.u 16 (.ld none 6 true (.t 15)),.u 17 (.fa 0 (.t 5)),.u 18 (.ld none 6 true (.t 17)),.u 19 (.fa 0 (.t 5)),.n (.st none 6 (.t 19) (.t 16)),.u 20 (.fa 6 (.t 5)),.n (.st none 6 (.t 20) (.t 18))])
 (.fg [1,2,5] (.seq (.ops false [.u 21 (.fa 18 (.t 5)),.u 22 (.ld none 3 true (.t 21)),.u 23 (.fa 12 (.t 5)),.u 24 (.ld none 3 true (.t 23)),.u 25 (.fa 12 (.t 5)),.n (.st none 3 (.t 25) (.t 22)),.u 26 (.fa 18 (.t 5)),.n (.st none 3 (.t 26) (.t 24))])
 (.fg [1,2,5] (.seq (.ops false [.u 27 (.ld none 27 true (.t 1)),.u 28 (.call f2 [(.t 27)]),.u 6 (.alloc [(.lit (.bool false)),.emp,.emp,(.lit (.bool false)),.emp,.emp]),.n (.st none 6 (.t 6) (.t 28))])
 (.fg [2,5,6] (.seq (.ops true [.u 29 (.fa 0 (.t 6)),.u 30 (.ld (some 6) 3 true (.t 29)),.u 31 (.fa 3 (.t 6)),.u 32 (.ld (some 6) 3 true (.t 31)),.u 33 (.fa 21 (.t 5)),.n (.st (some 5) 3 (.t 33) (.t 30)),.u 34 (.fa 24 (.t 5)),.n (.st (some 5) 3 (.t 34) (.t 32))])
 (.fg [2,5] (.seq (.ops false [.u 35 (.ld none 27 true (.t 5)),.n (.st none 27 (.t 2) (.t 35)),.m 3 (.c (.one (.lit .nilIface)))])
 .ret)))))))))))))))
theorem VaA (hΓ:Holds P Γ) {f fi fq fc ff fm tE:Nat} (hi:Γ fi=.dat false (xA tE)) (hq:Γ fq=.dat false WI) (hcl' : Γ fc=.dat false Xx) (hf:Γ ff=.dat false Vy) (hm:Γ fm=.dat false Wn) (hc:check P f=some (46,(zg fi fq fc ff fm).strip,[.cell 12 27 true,.tmp 13])):Sound P f (.dat false (Ux tE)):=by
 refine va hc (VaE tE) hΓ (λargs K hcl hfi hG=>?_)
 match args,hG with
 | [a,b,d,e,g,h],hG=>
  obtain ⟨c,rfl,hw,o,rfl,wo,k,rfl,wk,x,rfl,wx,y,rfl,wy,z,rfl,wz,hl,lo,lk,lx,ly,lz,hK⟩:=hG
  refine ⟨by simp,?_⟩
  have lo2:al o<=100000000:=Nat.le_trans lo (by decide)
  have lk2:al k<=100000000:=Nat.le_trans lk (by decide)
  have s:=W1 (av k)
  have zk:=Wav wk
  by_cases h0:sqQ (av k)=0
  .have ew:wC (av k)=8:=if_pos h0
   have e8:=Qc tE (by decide:(8:Nat)≠0)
   rw [ew,if_neg (by decide),e8]at hK
   unfold cqR z27 at hK
   simp only [jc]at hK
   have ip:∀{α:Type} (x y:α),(if sqQ (av k)=0 then x else y)=x:=λx y=>if_pos h0
   simp only [go_sem,zg,hi,cpA,cpC,Zw,rA,Vc,ip,e8]
   repeat (first | (refine And.intro (by with_reducible assumption) ?_) | (refine And.intro (Nat.le_trans (by with_reducible assumption) (by decide)) ?_) | (refine And.intro (by decide) ?_))
   exact hK
  .have ew:wC (av k)=0:=if_neg h0
   have e0:=qc tE
   rw [ew,if_pos rfl,e0]at hK
   obtain ⟨n,hn⟩:∃n,sqQ (av k)=n:=⟨_,rfl⟩
   rw [hn]at s h0
   have ip:∀{α:Type} (x y:α),(if n=0 then x else y)=y:=λx y=>if_neg h0
   have zn:=Nat.le_trans s (by omega:_<=10000000)
   have es:simQ (cpv c) (av o) (av k) (rv x) (rv y) (rv z)=(av o,foQ (cpv c),n*rv x,n*rv y,n*rv z,(ovQ (av k)).1,(ovQ (av k)).2):=by unfold simQ;rw [hn]
   rw [es]at hK
   simp only [go_sem,zg,hi,hq,hcl',hf,hm,cpA,cpC,Zw,rA,Vc,ip,e0,hn,Xb]
   repeat (first | (refine And.intro (by with_reducible assumption) ?_) | (refine And.intro (Nat.le_trans (by with_reducible assumption) (by decide)) ?_) | (refine And.intro (by decide) ?_))
   exact hK
theorem XaR (hΓ:Holds P Γ) {f fk fr fs tE:Nat} (hk:Γ fk=.dat false (yr tE)) (hr:Γ fr=.dat false JH) (hs:Γ fs=.dat false (Ux tE)) (hc:check P f=some (25,(qj fk fr fs).strip,[.cell 2 27 true,.tmp 3])):Sound P f (.dat false (wI tE)):=by
 refine va hc (va4 tE) hΓ (λargs K hcl hfi hG=>?_)
 match args,hG with
 | [a],hG=>
  obtain ⟨c,rfl,hw,hl,hK⟩:=hG
  refine ⟨by simp,?_⟩
  have hl2:cl c<=100000000:=Nat.le_trans hl (by decide)
  have hl3:cl c<=1000000:=Nat.le_trans hl (by decide)
  by_cases h0:cchk c=0
  .have e0:=qc tE
   obtain ⟨wo,wQ,w1,w2,w3,w4,w5⟩:=id hw
   have hl0:=hl3
   unfold cl at hl0
   simp only [Nat.max_le]at hl0
   obtain ⟨l1,l2,l3,l4,l5,l6,l7⟩:=hl0
   have wW:WLA c.2.2.2.2.2:=⟨w4,w5⟩
   have lW:al c.2.2.2.2.2<=1000000:=cl_w hl3
   have aW:av c.2.2.2.2.2=cW (cpv c):=rfl
   have ef:simQ (cpv c) (av c.1) (cW (cpv c)) (rv c.2.2.2.1) (rv c.2.2.1) (rv c.2.2.2.2.1)=fiQ (cpv c):=rfl
   obtain ⟨X,hX⟩:∃X,(if wC (cW (cpv c))=0 then fiQ (cpv c) else z27)=X:=⟨_,rfl⟩
   rw [Jaz h0,hX]at hK
   simp only [go_sem,qj,hk,hr,hs,cpA,cpC,aA,Zw,rA,Vc,h0,e0,aW,ef,hX,cqR]
   repeat (first | (refine And.intro (by with_reducible assumption) ?_) | (refine And.intro (Nat.le_trans (by with_reducible assumption) (by decide)) ?_) | (refine And.intro (by decide) ?_))
   exact hK
  .have e1:=Qc tE h0
   rw [xbK h0,if_neg h0,e1]at hK
   unfold cqR z27 at hK
   simp only [jc]at hK
   simp only [go_sem,qj,hk,cpA,cpC,Vc,e1]
   repeat (first | (refine And.intro (by with_reducible assumption) ?_) | (refine And.intro (Nat.le_trans (by with_reducible assumption) (by decide)) ?_) | (refine And.intro (by decide) ?_))
   exact hK
theorem ZaJ (hΓ:Holds P Γ) {f fk fr fs tE:Nat} (hk:Γ fk=.dat false (yr tE)) (hr:Γ fr=.dat false Qy) (hs:Γ fs=.dat false (Ux tE)) (hc:check P f=some (25,(Vh fk fr fs).strip,[.cell 2 27 true,.tmp 3])):Sound P f (.dat false (UP tE)):=by
 refine va hc (wa2 tE) hΓ (λargs K hcl hfi hG=>?_)
 match args,hG with
 | [a],hG=>
  obtain ⟨c,rfl,hw,hl,hK⟩:=hG
  refine ⟨by simp,?_⟩
  have hl2:cl c<=100000000:=Nat.le_trans hl (by decide)
  have hl3:cl c<=1000000:=Nat.le_trans hl (by decide)
  by_cases h0:cchk c=0
  .have e0:=qc tE
   obtain ⟨wo,wQ,w1,w2,w3,w4,w5⟩:=id hw
   have hl0:=hl3
   unfold cl at hl0
   simp only [Nat.max_le]at hl0
   obtain ⟨l1,l2,l3,l4,l5,l6,l7⟩:=hl0
   obtain ⟨R,hR⟩:∃R,reQ (cpv c)=R:=⟨_,rfl⟩
   have zr:=Vbl (Xbl hw hl)
   have hR' : rsQ (cpv c)=R:=hR
   rw [hR']at zr
   have wW:WLA (rcan R.1,rcan R.2):=uy R
   have lW:al (rcan R.1,rcan R.2)<=1000000:=Nat.le_trans zr (by decide)
   have ef:simQ (cpv c) (av c.2.1) R (rv c.2.2.2.1) (rv c.2.2.2.2.1) (rv c.2.2.1)=seQ (cpv c):=by rw [<-hR];rfl
   obtain ⟨X,hX⟩:∃X,(if wC R=0 then seQ (cpv c) else z27)=X:=⟨_,rfl⟩
   rw [wa4 h0,hR',hX]at hK
   simp only [go_sem,Vh,hk,hr,hs,cpA,cpC,aA,Zw,rA,Vc,h0,e0,hR,JaA,ef,hX,cqR]
   repeat (first | (refine And.intro (by with_reducible assumption) ?_) | (refine And.intro (Nat.le_trans (by with_reducible assumption) (by decide)) ?_) | (refine And.intro (by decide) ?_))
   exact hK
  .have e1:=Qc tE h0
   rw [XbH h0,if_neg h0,e1]at hK
   unfold cqR z27 at hK
   simp only [jc]at hK
   simp only [go_sem,Vh,hk,cpA,cpC,Vc,e1]
   repeat (first | (refine And.intro (by with_reducible assumption) ?_) | (refine And.intro (Nat.le_trans (by with_reducible assumption) (by decide)) ?_) | (refine And.intro (by decide) ?_))
   exact hK
theorem vaB (hΓ:Holds P Γ) {f fk ff tE:Nat} (hk:Γ fk=.dat false (yr tE)) (hf:Γ ff=.dat false Vy) (hc:check P f=some (13,(zj fk ff).strip,[.cell 2 6 true,.tmp 3])):Sound P f (.dat false (jR tE)):=by
 refine va hc (va3 tE) hΓ (λargs K hcl hfi hG=>?_)
 match args,hG with
 | [a],hG=>
  obtain ⟨c,rfl,hw,hl,hK⟩:=hG
  refine ⟨by simp,?_⟩
  have hl2:cl c<=100000000:=Nat.le_trans hl (by decide)
  have hl3:cl c<=1000000:=Nat.le_trans hl (by decide)
  by_cases h0:cchk c=0
  .have e0:=qc tE
   rw [h0,if_pos rfl,e0]at hK
   simp only [go_sem,zj,hk,hf,cpA,cpC,Vc,h0,e0]
   repeat (first | (refine And.intro (by with_reducible assumption) ?_) | (refine And.intro (Nat.le_trans (by with_reducible assumption) (by decide)) ?_) | (refine And.intro (by decide) ?_))
   exact hK
  .have e1:=Qc tE h0
   rw [if_neg h0,e1,UaZ,jc]at hK
   simp only [go_sem,zj,hk,cpA,cpC,Vc,e1]
   repeat (first | (refine And.intro (by with_reducible assumption) ?_) | (refine And.intro (Nat.le_trans (by with_reducible assumption) (by decide)) ?_) | (refine And.intro (by decide) ?_))
   exact hK
theorem uaP (hΓ:Holds P Γ) {f fk fc fr tE:Nat} (hk:Γ fk=.dat false (yr tE)) (hcp:Γ fc=.dat false jv) (hr:Γ fr=.dat false Qy) (hc:check P f=some (36,(Uj fk fc fr).strip,[.cell 2 27 true,.tmp 3])):Sound P f (.dat false (YO tE)):=by
 refine va hc (ua0 tE) hΓ (λargs K hcl hfi hG=>?_)
 match args,hG with
 | [a],hG=>
  obtain ⟨c,rfl,hw,hl,hK⟩:=hG
  refine ⟨by simp,?_⟩
  have hl2:cl c<=100000000:=Nat.le_trans hl (by decide)
  by_cases h0:cchk c=0
  .have e0:=qc tE
   rw [h0,if_pos rfl,e0]at hK
   obtain ⟨R,hR⟩:∃R,reQ (cpv c)=R:=⟨_,rfl⟩
   have es:swQ (cpv c)=(av c.2.1,av c.1,rv c.2.2.2.2.1,rv c.2.2.2.1,rv c.2.2.1,R.1,R.2):=by rw [<-hR];rfl
   rw [es]at hK
   simp only [go_sem,Uj,hk,hcp,hr,cpA,cpC,Vc,h0,e0,hR,canC]
   repeat (first | (refine And.intro (by with_reducible assumption) ?_) | (refine And.intro (Nat.le_trans (by with_reducible assumption) (by decide)) ?_) | (refine And.intro (by decide) ?_))
   exact hK
  .have e1:=Qc tE h0
   rw [if_neg h0,e1]at hK
   unfold cqR z27 at hK
   simp only [jc]at hK
   simp only [go_sem,Uj,hk,cpA,cpC,Vc,e1]
   repeat (first | (refine And.intro (by with_reducible assumption) ?_) | (refine And.intro (Nat.le_trans (by with_reducible assumption) (by decide)) ?_) | (refine And.intro (by decide) ?_))
   exact hK
end Go.Abs
end
section
namespace Go.Num
theorem v2e {a b:V2} (h1:a.1=b.1) (h2:a.2=b.2):a=b:=Prod.ext h1 h2
theorem wZ (a b:V2):timesQ a b=timesQ b a:=by unfold timesQ;exact v2e (by simp only;grind) (by simp only;grind)
theorem YaZ (a b c:V2):timesQ (timesQ a b) c=timesQ a (timesQ b c):=by unfold timesQ;exact v2e (by simp only;grind) (by simp only;grind)
theorem uaf (a:V2):timesQ a (1,0)=a:=by unfold timesQ;exact v2e (by simp only;grind) (by simp only;grind)
theorem wbL (a b c:V2):timesQ a (addQ b c)=addQ (timesQ a b) (timesQ a c):=by unfold timesQ addQ;exact v2e (by simp only;grind) (by simp only;grind)
theorem ubJ (a b c:V2):timesQ a (subQ b c)=subQ (timesQ a b) (timesQ a c):=by unfold timesQ subQ;exact v2e (by simp only;grind) (by simp only;grind)
theorem wbw (a b:V2):sqQ (timesQ a b)=sqQ a*sqQ b:=by unfold sqQ timesQ;simp only;grind
theorem WbI:sqQ ((1:Rat),(0:Rat))=1:=by decide +kernel
theorem xH {w:V2} (h:sqQ w≠0):timesQ w (ovQ w)=(1,0):=by
 obtain ⟨j,hj,e⟩:=ov_j h
 rw [e]
 unfold timesQ
 refine v2e ?_ ?_
 .have:w.1*(j*w.1)-w.2*(j * -w.2)=sqQ w*j:=by unfold sqQ;grind
  simp only;rw [this,hj]
 .simp only;grind
theorem ne_1 {x y:V2} (h:timesQ x y=(1,0)):sqQ x≠0/\sqQ y≠0:=by
 have e:=wbw x y
 rw [h,WbI]at e
 constructor
 .intro h0;rw [h0]at e;grind
 .intro h0;rw [h0]at e;grind
theorem Xbz {x y:V2} (h:timesQ x y=(1,0)):ovQ x=y:=by
 have h1:=xH (ne_1 h).1
 have:ovQ x=timesQ (ovQ x) (timesQ x y):=by rw [h,uaf]
 rw [this,<-YaZ,wZ (ovQ x) x,h1,wZ,uaf]
theorem VbL {w:V2} (h:sqQ w≠0):ovQ (ovQ w)=w:=Xbz (by rw [wZ];exact xH h)
theorem ZbA {w:V2} (h:sqQ w≠0):sqQ (ovQ w)≠0:=(ne_1 (xH h)).2
theorem sqk {w:V2} (h:sqQ w≠0):sqQ (ovQ w)*sqQ w=1:=by rw [Rat.mul_comm];exact zbN h
theorem vbb (a b:V2):addQ a (subQ b a)=b:=by unfold addQ subQ;exact v2e (by simp only;grind) (by simp only;grind)
theorem Ubn (a b:V2):subQ (addQ a b) a=b:=by unfold addQ subQ;exact v2e (by simp only;grind) (by simp only;grind)
theorem qbx {c:CpR} (h:sqQ (cW c)≠0):foQ (fiQ c)=c.2.1:=by
 have e:foQ (fiQ c)=addQ c.1 (timesQ (ovQ (cW c)) (subQ (foQ c) c.1)):=rfl
 rw [e]
 have e2:subQ (foQ c) c.1=timesQ (cW c) (subQ c.2.1 c.1):=by unfold foQ;exact Ubn _ _
 rw [e2,<-YaZ,wZ (ovQ (cW c)),xH h,wZ,uaf,vbb]
theorem mul3 {a b:Rat} (c:Rat) (h:a*b=1):a*(b*c)=c:=by rw [<-Rat.mul_assoc,h,Rat.one_mul]
theorem Wbr {c:CpR} (h:sqQ (cW c)≠0):fiQ (fiQ c)=c:=by
 have e:fiQ (fiQ c)=(c.1,foQ (fiQ c),sqQ (ovQ (cW c))*(sqQ (cW c)*c.2.2.1),sqQ (ovQ (cW c))*(sqQ (cW c)*c.2.2.2.1),sqQ (ovQ (cW c))*(sqQ (cW c)*c.2.2.2.2.1),(ovQ (ovQ (cW c))).1,(ovQ (ovQ (cW c))).2):=rfl
 have k:=sqk h
 rw [e,qbx h,VbL h,mul3 _ k,mul3 _ k,mul3 _ k]
 rfl
theorem w_rs (c:CpR):addQ (cW c) (rsQ c)=(1,0):=by unfold rsQ;exact vbb _ _
theorem ybs {w r:V2} (h:addQ w r=(1,0)) (hw:sqQ w≠0) (hr:sqQ r≠0):addQ (ovQ w) (ovQ r)=timesQ (ovQ w) (ovQ r):=by
 have e:timesQ (ovQ w) (ovQ r)=timesQ (timesQ (ovQ w) (ovQ r)) (addQ w r):=by rw [h,uaf]
 rw [e,wbL]
 have e1:timesQ (timesQ (ovQ w) (ovQ r)) w=ovQ r:=by rw [wZ (ovQ w),YaZ,wZ (ovQ w),xH hw,uaf]
 have e2:timesQ (timesQ (ovQ w) (ovQ r)) r=ovQ w:=by rw [YaZ,wZ (ovQ r),xH hr,uaf]
 rw [e1,e2]
 unfold addQ;exact v2e (by simp only;grind) (by simp only;grind)
theorem Wa3 {i j:V2} (h:addQ i j=timesQ i j):timesQ (subQ (1,0) i) (subQ (1,0) j)=(1,0):=by
 have h1:=congrArg Prod.fst h
 have h2:=congrArg Prod.snd h
 unfold addQ timesQ at h1 h2
 simp only at h1 h2
 unfold timesQ subQ
 exact v2e (by simp only;grind) (by simp only;grind)
theorem qaM {c:CpR} (hw:sqQ (cW c)≠0) (hr:sqQ (rsQ c)≠0):timesQ (rsQ (fiQ c)) (rsQ (seQ c))=(1,0):=Wa3 (ybs (w_rs c) hw hr)
theorem Wbp {c:CpR} (hw:sqQ (cW c)≠0):timesQ (cW c) (rsQ (fiQ c))=subQ (cW c) (1,0):=by
 have e:rsQ (fiQ c)=subQ (1,0) (ovQ (cW c)):=rfl
 rw [e,ubJ,uaf,xH hw]
theorem vbl {c:CpR} (hw:sqQ (cW c)≠0):sqQ (rsQ (fiQ c))*sqQ (cW c)=sqQ (rsQ c):=by
 rw [Rat.mul_comm,<-wbw,Wbp hw]
 unfold rsQ sqQ subQ;simp only;grind
theorem mul4 {a b d:Rat} (c:Rat) (h:a*b=d):a*(b*c)=d*c:=by rw [<-Rat.mul_assoc,h]
theorem WbM {c:CpR} (hw:sqQ (cW c)≠0) (hr:sqQ (rsQ c)≠0):seQ (fiQ c)=swQ (seQ c):=by
 have e:seQ (fiQ c)=(foQ c,foQ (fiQ c),sqQ (rsQ (fiQ c))*(sqQ (cW c)*c.2.2.1),sqQ (rsQ (fiQ c))*(sqQ (cW c)*c.2.2.2.2.1),sqQ (rsQ (fiQ c))*(sqQ (cW c)*c.2.2.2.1),(ovQ (rsQ (fiQ c))).1,(ovQ (rsQ (fiQ c))).2):=rfl
 have k:=vbl hw
 rw [e,qbx hw,Xbz (qaM hw hr),mul4 _ k,mul4 _ k,mul4 _ k]
 rfl
theorem ya0 {c:CpR} (hw:sqQ (cW c)≠0) (hr:sqQ (rsQ c)≠0):sqQ (rsQ (fiQ c))≠0:=(ne_1 (qaM hw hr)).1
def en1 (c:CpR) (a b:V2):V2:=addQ c.1 (timesQ (cW c) (subQ b a))
def en2 (c:CpR) (a b:V2):V2:=subQ c.2.1 (timesQ (rsQ c) (subQ b a))
def en3 (c:CpR) (a b:V2):V2:=addQ (en1 c a b) (timesQ (cW c) (subQ a c.1))
def en4 (c:CpR) (a b:V2):V2:=addQ (en2 c a b) (timesQ (rsQ c) (subQ b c.2.1))
end Go.Num
end
section
namespace Go.Num
open Go.Abs
def enC (c:Cp) (a b:Arc):Nat:=if cchk2 c [a,b]≠0 then cchk2 c [a,b] else if hldQ (cpv c) (av a) (av b) then alC c else 21
def enL (c:CpR) (a b:V2):List V2:=[a,b,en1 c a b,en3 c a b,en2 c a b,en4 c a b]
def enR (c:Cp) (a b:Arc):List V2:=if enC c a b=0 then enL (cpv c) (av a) (av b) else []
def smC (c d:Cp):Nat:=if cchk c≠0 then cchk c else cchk d
theorem zbl {α:Type} {l m:List α} {k:Nat} {x y:α} (hx:l[k]?=some x) (hy:m[k]?=some y):(l.take (k+1)=m.take (k+1))↔(l.take k=m.take k/\x=y):=by
 rw [List.take_add_one,List.take_add_one,hx,hy]
 simp only [Option.toList_some]
 constructor
 .intro h
  have h1:=List.append_inj' h rfl
  exact ⟨h1.1,by simpa using h1.2⟩
 .rintro ⟨h1,h2⟩;rw [h1,h2]
theorem getM {p:BQ} {k:Nat} (h:k<p.length):∃u,p[k]?=some u/\(mcs p).getD k mo0=mcan u/\u∈p:=by
 refine ⟨p[k],List.getElem?_eq_getElem h,?_,List.getElem_mem h⟩
 unfold mcs
 rw [List.getD_eq_getElem?_getD,List.getElem?_map,List.getElem?_eq_getElem h]
 rfl
theorem YaP (p:BQ):(mcs p).length=p.length:=by unfold mcs;rw [List.length_map]
theorem Zbp {p:BQ} {u:MQ} (h:u∈p) {b:Nat} (hb:sz p<=b):rz u.2.2<=b:=Nat.le_trans (XaS h) hb
end Go.Num
namespace Go.Abs
open Go.Num
variable {P:Program} {Γ:Nat->Spec}
def zaP (tE:Nat) (l:List AV) (K:AV->Prop):Prop:=
 match l with
 | [c,a,b]=>onCp (λc=>onA (λa=>onA (λb=>cl c<=1000/\al a<=1000/\al b<=1000/\K (.tup [.one (.slice ((enR c a b).map λp=>aC (rcan p.1,rcan p.2))),errV tE (enC c a b)])) b) a) c
 | _=>False
theorem QaV (tE:Nat) (c a b:AV) (K:AV->Prop):zaP tE [c,a,b] K=(onCp (λc=>onA (λa=>onA (λb=>cl c<=1000/\al a<=1000/\al b<=1000/\K (.tup [.one (.slice ((enR c a b).map λp=>aC (rcan p.1,rcan p.2))),errV tE (enC c a b)])) b) a) c):=propext Iff.rfl
@[congr] theorem VbG (tE:Nat) {K:AV->Prop} {l l' : List AV} (h:l=l'):zaP tE l K=zaP tE l' K:=by subst h;rfl
attribute [go_sem] QaV
attribute [go_sem ↓] QaV
def VB (tE:Nat) (l:List AV) (K:AV->Prop):Prop:=
 match l with
 | [c,d]=>onCp (λc=>onCp (λd=>cl c<=1000/\cl d<=1000/\K (.tup [.one (.lit (.bool (decide (smC c d=0) && decide (cCur (cpv c)=cCur (cpv d))))),errV tE (smC c d)])) d) c
 | _=>False
theorem ZaP (tE:Nat) (c d:AV) (K:AV->Prop):VB tE [c,d] K=(onCp (λc=>onCp (λd=>cl c<=1000/\cl d<=1000/\K (.tup [.one (.lit (.bool (decide (smC c d=0) && decide (cCur (cpv c)=cCur (cpv d))))),errV tE (smC c d)])) d) c):=propext Iff.rfl
@[congr] theorem UbF (tE:Nat) {K:AV->Prop} {l l' : List AV} (h:l=l'):VB tE l K=VB tE l' K:=by subst h;rfl
attribute [go_sem] ZaP
attribute [go_sem ↓] ZaP
theorem uaF (tE:Nat):Good (VB tE):=Va λas=>by
 unfold VB
 split
 .exact (Vk λ_=>(Vk λ_=>(.and λ_=>(.and λ_=>(.ret _)))))
 .exact .of λK hk=>hk.elim
def jg (f0 f1:Nat):AC:=(.seq (.ops false [.u 2 (.box 27 (.t 0)),.u 3 (.box 27 (.t 1)),.m 4 .fa,.m 5 (.c (.one (.lit .nilIface)))])
 (.fg [2,3] (.seq (.ops false [.u 11 (.ld none 27 true (.t 2)),.u 12 (.call f0 [(.t 11)]),.m 10 (.t 12),.u 13 (.ext 0 (.t 10)),.u 14 (.ext 1 (.t 10)),.m 6 (.t 13),.m 7 (.t 14)])
 (.fg [3,6,7] (.seq (.seq (.ops false [.m 15 (.t 7),.u 16 (.binn .neq (.t 15) (.c (.one (.lit .nilIface))))])
 (.fg [3,6,7,16] (.cond (.t 16) (.seq (.ops false [.m 17 (.t 7),.m 4 .fa,.m 5 (.t 17)])
 .ret) .skip)))
 (.fg [3,6] (.seq (.ops false [.u 19 (.ld none 27 true (.t 3)),.u 20 (.call f0 [(.t 19)]),.m 18 (.t 20),.u 21 (.ext 0 (.t 18)),.u 22 (.ext 1 (.t 18)),.m 8 (.t 21),.m 7 (.t 22)])
 (.fg [6,7,8] (.seq (.seq (.ops false [.m 23 (.t 7),.u 24 (.binn .neq (.t 23) (.c (.one (.lit .nilIface))))])
 (.fg [6,7,8,24] (.cond (.t 24) (.seq (.ops false [.m 25 (.t 7),.m 4 .fa,.m 5 (.t 25)])
 .ret) .skip)))
 (.fg [6,8] (.seq (.seq (.ops false [.m 26 (.t 6),.u 27 (.len (.t 26)),.m 28 (.t 8),.u 29 (.len (.t 28)),.u 30 (.bin .neq (.t 27) (.t 29))])
 (.fg [6,8,30] (.cond (.t 30) (.seq (.ops false [.m 4 .fa,.m 5 (.c (.one (.lit .nilIface)))])
 .ret) .skip)))
 (.fg [6,8] (.seq (.seq (.ops false [.m 31 (.t 6),.u 32 (.len (.t 31)),.m 33 (.i 0)])
 (.fg [6,8,32,33] (.block 0 (.loop (.seq (.ops false [.u 34 (.bin .lss (.t 33) (.t 32))])
 (.fg [6,8,32,33,34] (.seq (.cond (.t 34) .skip (.exit 0))
 (.fg [6,8,32,33] (.seq (.block 1 (.seq (.ops false [.m 35 (.t 33),.m 9 (.t 35)])
 (.fg [6,8,9,32,33] (.seq (.ops true [.m 36 (.t 6),.m 37 (.t 9),.u 38 (.idx 5 (.t 36) (.t 37)),.u 39 (.fa 0 (.t 38)),.u 40 (.ld none 1 false (.t 39)),.m 41 (.t 8),.m 42 (.t 9),.u 43 (.idx 5 (.t 41) (.t 42)),.u 44 (.fa 0 (.t 43)),.u 45 (.ld none 1 false (.t 44)),.u 46 (.bin .neq (.t 40) (.t 45)),.m 47 (.t 46),.w 48 47 false (.mv (.t 6)),.w 49 47 false (.mv (.t 9)),.w 50 47 false (.idx 5 (.t 48) (.t 49)),.w 51 47 false (.fa 1 (.t 50)),.w 52 47 false (.ld none 1 false (.t 51)),.w 53 47 false (.mv (.t 8)),.w 54 47 false (.mv (.t 9)),.w 55 47 false (.idx 5 (.t 53) (.t 54)),.w 56 47 false (.fa 1 (.t 55)),.w 57 47 false (.ld none 1 false (.t 56)),.w 58 47 false (.bin .neq (.t 52) (.t 57)),.u 59 (.pick (.t 47) .tr (.t 58)),.m 60 (.t 59),.w 61 60 false (.mv (.t 6)),.w 62 60 false (.mv (.t 9)),.w 63 60 false (.idx 5 (.t 61) (.t 62)),.w 64 60 false (.fa 2 (.t 63)),.w 65 60 false (.ld none 3 true (.t 64)),.w 66 60 false (.mv (.t 8)),.w 67 60 false (.mv (.t 9)),.w 68 60 false (.idx 5 (.t 66) (.t 67)),.w 69 60 false (.fa 2 (.t 68)),.w 70 60 false (.ld none 3 true (.t 69)),.w 71 60 false (.call f1 [(.t 65),(.t 70)]),.w 72 60 false (.bin .neq (.t 71) (.i 0)),.u 73 (.pick (.t 60) .tr (.t 72))])
 (.fg [6,8,32,33,73] (.cond (.t 73) (.seq (.ops false [.m 4 .fa,.m 5 (.c (.one (.lit .nilIface)))])
 .ret) .skip))))))
 (.fg [6,8,32,33] (.ops false [.u 74 (.bin .add (.t 33) (.i 1)),.m 33 (.t 74)])))))))))))
 (.fg [] (.seq (.ops false [.m 4 .tr,.m 5 (.c (.one (.lit .nilIface)))])
 .ret)))))))))))))))
set_option maxHeartbeats 1000000 in
theorem Vax (hΓ:Holds P Γ) {f fv fq tE:Nat} (hv:Γ fv=.dat false (JA tE)) (hq:Γ fq=.dat true Qm) (hc:check P f=some (75,(jg fv fq).strip,[.tmp 4,.tmp 5])):Sound P f (.dat false (VB tE)):=by
 refine va hc (uaF tE) hΓ (λargs K hcl hfi hG=>?_)
 match args,hG with
 | [x,y],hG=>
  obtain ⟨c,rfl,hw,d,rfl,hw2,hl,hl2,hK⟩:=hG
  refine ⟨by simp,?_⟩
  have e0:=qc tE
  by_cases h0:cchk c=0
  case neg=>
   have es:smC c d=cchk c:=if_pos h0
   have e1:=Qc tE h0
   rw [es,e1,decide_eq_false h0,Bool.false_and]at hK
   simp only [go_sem,jg,hv,cpA,cpC,Vc,kw h0,e1]
   repeat (first | (refine And.intro (by with_reducible assumption) ?_) | (refine And.intro (Nat.le_trans (by with_reducible assumption) (by decide)) ?_) | (refine And.intro (by decide) ?_))
   exact hK
  have es:smC c d=cchk d:=by unfold smC;rw [if_neg (by omega)]
  rw [es]at hK
  have pc:=Wat (Zal hw hl)
  have i0:=uu pc.canon.ins
  by_cases h1:cchk d=0
  case neg=>
   have e1:=Qc tE h1
   rw [e1,decide_eq_false h1,Bool.false_and]at hK
   simp only [go_sem,jg,hv,cpA,cpC,Vc,h0,e0,Xq,kw h1,e1]
   repeat (first | (refine And.intro (by with_reducible assumption) ?_) | (refine And.intro (Nat.le_trans (by with_reducible assumption) (by decide)) ?_) | (refine And.intro (by decide) ?_))
   exact hK
  rw [h1,e0,decide_eq_true rfl,Bool.true_and]at hK
  have pd:=Wat (Zal hw2 hl2)
  have j0:=uu pd.canon.ins
  have lc:=QF pc.canon
  have ld:=QF pd.canon
  have sc:=pc.size
  have sd:=pd.size
  obtain ⟨p,hp⟩:∃p,cCur (cpv c)=p:=⟨_,rfl⟩
  obtain ⟨q,hq0⟩:∃q,cCur (cpv d)=q:=⟨_,rfl⟩
  rw [hp]at i0 lc sc hK
  rw [hq0]at j0 ld sd hK
  have lp:=YaP p
  have lq:=YaP q
  simp only [go_sem,jg,hv,cpA,cpC,Vc,h0,h1,e0,Xq,hp,hq0]
  repeat (first | (refine And.intro (by with_reducible assumption) ?_) | (refine And.intro (Nat.le_trans (by with_reducible assumption) (by decide)) ?_) | (refine And.intro (by decide) ?_))
  intro _ _
  refine ⟨λhlen _=>?_,λhlen=>?_⟩
  case refine_2=>
   rw [decide_eq_false (λe=>hlen (by rw [e]))]at hK
   exact hK
  rw [lp,lq]at hlen
  refine ka (λk:Nat=>⟨mkV [(6,.one (.slice ((mcs p).map mC))),(8,.one (.slice ((mcs q).map mC))),(32,.one (.lit (.int .i64 ((mcs p).length:Nat)))),(33,.one (.lit (.int .i64 k)))],mkH []⟩) (λk=>k<=p.length/\p.take k=q.take k) (λk=>p.length-k) 0 ?_ ?_ ?_
  .exact Qa (by simp [okS,okV,okC,okL,okH,okB,okE,Za,ja,za,Ja,wsA,ws]) trivial
  .exact ⟨Nat.zero_le _,rfl⟩
  .rintro k ⟨hk,htk⟩
   rw [lp]
   by_cases hlt:k<p.length
   .obtain ⟨⟨u1,u2,u3⟩,hu,hu2,hum⟩:=getM hlt
    obtain ⟨⟨v1,v2,v3⟩,hv1,hv2,hvm⟩:=getM (by omega:k<q.length)
    have hlp:k<(mcs p).length:=by omega
    have hlq:k<(mcs q).length:=by omega
    have r1:=Nat.le_trans (Zbp hum sc) (by decide:_<=1073741824)
    have r2:=Nat.le_trans (Zbp hvm sd) (by decide:_<=1073741824)
    simp only at r1 r2
    have ts:=zbl hu hv1
    have bad:¬((u1,u2,u3)=(v1,v2,v3))->K (.tup [.one (.lit (.bool false)),.one (.lit .nilIface)]):=λh=>by
     rw [decide_eq_false (λe=>h (by rw [e,hv1]at hu;simpa using hu.symm))]at hK
     exact hK
    simp only [go_sem,hlt,hlp,hlq,hq,hu2,hv2,mC,mcan,Xb]
    refine ⟨λh1=>⟨λh2=>⟨r1,r2,λh3=>⟨by omega,k+1,Qa (by simp [okS,okV,okC,okL,okH,okB,okE,Za,ja,za,Ja,wsA,ws,lp]) trivial,⟨by omega,ts.2 ⟨htk,?_⟩⟩,by omega⟩,λh3=>bad λe=>h3 ?_⟩,λh2=>bad λe=>h2 ?_⟩,λh1=>bad λe=>h1 ?_⟩
    .rw [h1,h2,Xj.1 h3]
    .simp only [Prod.mk.injEq]at e;exact Xj.2 e.2.2
    .simp only [Prod.mk.injEq]at e;exact e.2.1
    .simp only [Prod.mk.injEq]at e;exact e.1
   .have ek:k=p.length:=by omega
    rw [ek,List.take_length,hlen,List.take_length]at htk
    rw [decide_eq_true htk]at hK
    simp only [go_sem,hlt]
    exact hK
end Go.Abs
end
section
namespace Go.Num
open Go.Abs
def okT (n:Int):Prop:=n=1∨n=2∨n=4∨n=12
def tx (n:Int):ByteArray:=if n=12 then ⟨#[49,50]⟩ else if n=4 then ⟨#[52]⟩ else if n=2 then ⟨#[50]⟩ else ⟨#[49]⟩
def txR (q:Rat):ByteArray:=if q.den=1 then tx q.num else tx q.num++⟨#[47]⟩++tx (q.den:Nat)
theorem Xbp (n:Int):(tx n).size<=2:=by unfold tx;split <;> (try split) <;> (try split) <;> decide
theorem Ybk {n:Int} (h:okT n):∃m:Nat,n=m/\1<=m/\m<=12:=by
 rcases h with h | h | h | h
 .exact ⟨1,h,by decide,by decide⟩
 .exact ⟨2,h,by decide,by decide⟩
 .exact ⟨4,h,by decide,by decide⟩
 .exact ⟨12,h,by decide,by decide⟩
theorem Wby {m:Nat} (h1:1<=m) (h2:m<=12):digs m=[m]:=by rw [ko (by omega),show m / 4294967296=0 by omega,Qb,show m % 4294967296=m by omega]
end Go.Num
namespace Go.Abs
open Go.Num
variable {P:Program} {Γ:Nat->Spec}
theorem wa8 {h h' : Nat->HB} {z:Nat} {b:Bool} {w:W}:okB h h' (some ⟨[[zb w,zm w]],z,b⟩) (some ⟨[[zb w,zm w]],z,b⟩):=
 ⟨⟨rfl,rfl⟩,.inl ⟨rfl,λe he c hc=>by
  rw [List.mem_singleton.1 he]at hc
  simp only [List.mem_cons,List.not_mem_nil,or_false]at hc
  rcases hc with rfl | rfl
  .exact of_eq_true (ZP _)
  .exact of_eq_true (kS _)⟩⟩
def eJ (s:ByteArray):AV:=.one (.slice [[.lit (.string s)]])
theorem za8 (x y:ByteArray) (h:eJ x=eJ y):x=y:=by
 simp only [eJ,AV.one.injEq,C.slice.injEq,List.cons.injEq,C.lit.injEq,Value.string.injEq,and_true]at h
 exact h
def onJ (k:ByteArray->Prop) (a:AV):Prop:=onE eJ k a
@[congr] theorem WbO {k:ByteArray->Prop} {a a' : AV} (h:a=a'):onJ k a=onJ k a':=by subst h;rfl
theorem xbo (k:ByteArray->Prop) (x:ByteArray):onJ k (.one (.slice [[.lit (.string x)]]))=k x:=Jl za8 k x
theorem ubL {β:Type} {T:ByteArray->(β->Prop)->Prop} (h:∀x,GoodT (T x)) {a:AV}:GoodT λK=>onJ (λx=>T x K) a:=
 WD (e:=eJ) (T:=T) za8 h
attribute [go_sem] xbo
attribute [go_sem ↓] xbo
def Un (l:List AV) (K:AV->Prop):Prop:=
 match l with
 | [a]=>asInt (λk n=>k=.i64/\okT n/\K (.one (.lit (.string (tx n))))) a
 | _=>False
theorem vT (a:AV) (K:AV->Prop):Un [a] K=(asInt (λk n=>k=.i64/\okT n/\K (.one (.lit (.string (tx n))))) a):=propext Iff.rfl
@[congr] theorem xbu {K:AV->Prop} {l l' : List AV} (h:l=l'):Un l K=Un l' K:=by subst h;rfl
attribute [go_sem] vT
attribute [go_sem ↓] vT
theorem qad:Good Un:=Va λas=>by
 unfold Un
 split
 .exact (vc (λ_ _=>(.and λ_=>(.and λ_=>(.ret _)))) _)
 .exact .of λK hk=>hk.elim
def Wu (l:List AV) (K:AV->Prop):Prop:=
 match l with
 | [a,b]=>asInt (λk n=>k=.i64/\okT n/\asInt (λk m=>k=.i64/\m=10/\K (.one (.lit (.string (tx n))))) b) a
 | _=>False
theorem yP (a b:AV) (K:AV->Prop):Wu [a,b] K=(asInt (λk n=>k=.i64/\okT n/\asInt (λk m=>k=.i64/\m=10/\K (.one (.lit (.string (tx n))))) b) a):=propext Iff.rfl
@[congr] theorem qbC {K:AV->Prop} {l l' : List AV} (h:l=l'):Wu l K=Wu l' K:=by subst h;rfl
attribute [go_sem] yP
attribute [go_sem ↓] yP
theorem Xay:Good Wu:=Va λas=>by
 unfold Wu
 split
 .exact (vc (λ_ _=>(.and λ_=>(.and λ_=>(vc (λ_ _=>(.and λ_=>(.and λ_=>(.ret _)))) _)))) _)
 .exact .of λK hk=>hk.elim
def zl (l:List AV) (K:AV->Prop):Prop:=
 match l with
 | [a]=>asInt (λk n=>k=.i64/\okT n/\K (.one (.lit (.string (tx n))))) a
 | _=>False
theorem Val (a:AV) (K:AV->Prop):zl [a] K=(asInt (λk n=>k=.i64/\okT n/\K (.one (.lit (.string (tx n))))) a):=propext Iff.rfl
@[congr] theorem QbD {K:AV->Prop} {l l' : List AV} (h:l=l'):zl l K=zl l' K:=by subst h;rfl
attribute [go_sem] Val
attribute [go_sem ↓] Val
theorem VL:Good zl:=Va λas=>by
 unfold zl
 split
 .exact (vc (λ_ _=>(.and λ_=>(.and λ_=>(.ret _)))) _)
 .exact .of λK hk=>hk.elim
def Qv (l:List AV) (K:AV->Prop):Prop:=
 match l with
 | [a,b]=>onJ (λs=>b=.one (.lit (.string ⟨#[]⟩))/\K (.one (.lit (.string s)))) a
 | _=>False
theorem Uar (a b:AV) (K:AV->Prop):Qv [a,b] K=(onJ (λs=>b=.one (.lit (.string ⟨#[]⟩))/\K (.one (.lit (.string s)))) a):=propext Iff.rfl
@[congr] theorem YbB {K:AV->Prop} {l l' : List AV} (h:l=l'):Qv l K=Qv l' K:=by subst h;rfl
attribute [go_sem] Uar
attribute [go_sem ↓] Uar
theorem Xav:Good Qv:=Va λas=>by
 unfold Qv
 split
 .exact (ubL λ_=>(.and λ_=>(.ret _)))
 .exact .of λK hk=>hk.elim
def jo (l:List AV) (K:AV->Prop):Prop:=
 match l with
 | [a]=>onW (λw=>okT (zv w)/\K (.one (.lit (.string (tx (zv w)))))) a
 | _=>False
theorem J1 (a:AV) (K:AV->Prop):jo [a] K=(onW (λw=>okT (zv w)/\K (.one (.lit (.string (tx (zv w)))))) a):=propext Iff.rfl
@[congr] theorem Ybx {K:AV->Prop} {l l' : List AV} (h:l=l'):jo l K=jo l' K:=by subst h;rfl
attribute [go_sem] J1
attribute [go_sem ↓] J1
theorem V9:Good jo:=Va λas=>by
 unfold jo
 split
 .exact (qn λ_=>(.and λ_=>(.ret _)))
 .exact .of λK hk=>hk.elim
def Xn (l:List AV) (K:AV->Prop):Prop:=
 match l with
 | [a]=>onR (λx=>okT (rv x).num/\okT ((rv x).den:Nat)/\rl x<=4294967296/\K (.one (.lit (.string (txR (rv x)))))) a
 | _=>False
theorem XV (a:AV) (K:AV->Prop):Xn [a] K=(onR (λx=>okT (rv x).num/\okT ((rv x).den:Nat)/\rl x<=4294967296/\K (.one (.lit (.string (txR (rv x)))))) a):=propext Iff.rfl
@[congr] theorem kbz {K:AV->Prop} {l l' : List AV} (h:l=l'):Xn l K=Xn l' K:=by subst h;rfl
attribute [go_sem] XV
attribute [go_sem ↓] XV
theorem kac:Good Xn:=Va λas=>by
 unfold Xn
 split
 .exact (Xh λ_=>(.and λ_=>(.and λ_=>(.and λ_=>(.ret _)))))
 .exact .of λK hk=>hk.elim
theorem xV (hΓ:Holds P Γ) {f:Nat} (hc:check P f=some (15,(Jb).strip,[.tmp 2])):Sound P f (.dat false Un):=by
 refine va hc qad hΓ (λargs K hcl hfi hG=>?_)
 match args,hG with
 | [a],hG=>
  obtain ⟨k,n,rfl,rfl,hn,hK⟩:=Ua hG
  refine ⟨by simp,?_⟩
  rcases hn with rfl | rfl | rfl | rfl
  .simp only [go_sem,Jb]
   exact ⟨λ_=>⟨by decide,⟨by decide,by decide,by decide⟩,hK⟩,λh=>absurd (by decide) h⟩
  .simp only [go_sem,Jb]
   exact ⟨λ_=>⟨by decide,⟨by decide,by decide,by decide⟩,hK⟩,λh=>absurd (by decide) h⟩
  .simp only [go_sem,Jb]
   exact ⟨λ_=>⟨by decide,⟨by decide,by decide,by decide⟩,hK⟩,λh=>absurd (by decide) h⟩
  .simp only [go_sem,Jb]
   exact ⟨λh=>absurd h (by decide),λ_=>⟨by decide,by decide,by decide,⟨by decide,by decide,by decide⟩,hK⟩⟩
theorem zae (hΓ:Holds P Γ) {f fs fn fb fi:Nat} (hs:Γ fs=.dat false Un) (hc:check P f=some (54,(Yc fs fn fb fi).strip,[.tmp 4])):Sound P f (.dat false Wu):=by
 refine va hc Xay hΓ (λargs K hcl hfi hG=>?_)
 match args,hG with
 | [a,b],hG=>
  rw [yP]at hG
  obtain ⟨k,n,rfl,rfl,hn,hG'⟩:=Ua hG
  obtain ⟨k',n',rfl,rfl,rfl,hK⟩:=Ua hG'
  clear hG hG'
  refine ⟨by simp,?_⟩
  have a1:(0:Int)<=n:=by rcases hn with rfl | rfl | rfl | rfl <;> decide
  have a2:n<100:=by rcases hn with rfl | rfl | rfl | rfl <;> decide
  simp only [go_sem,Yc,hs,a1,a2,hn]
  exact hK
theorem vaa (hΓ:Holds P Γ) {f fs:Nat} (hs:Γ fs=.dat false Wu) (hc:check P f=some (5,(ve fs).strip,[.tmp 2])):Sound P f (.dat false zl):=by
 refine va hc VL hΓ (λargs K hcl hfi hG=>?_)
 match args,hG with
 | [a],hG=>
  obtain ⟨k,n,rfl,rfl,hn,hK⟩:=Ua hG
  refine ⟨by simp,?_⟩
  simp only [go_sem,ve,hs,hn]
  exact hK
theorem jY (hΓ:Holds P Γ) {f fs:Nat} (hs:Γ fs=.dat false zl) (hc:check P f=some (5,(Qq fs).strip,[.tmp 2])):Sound P f (.dat false zl):=by
 refine va hc VL hΓ (λargs K hcl hfi hG=>?_)
 match args,hG with
 | [a],hG=>
  obtain ⟨k,n,rfl,rfl,hn,hK⟩:=Ua hG
  refine ⟨by simp,?_⟩
  simp only [go_sem,Qq,hs,hn]
  exact hK
theorem zaf (hΓ:Holds P Γ) {f fg fw fs:Nat} (hc:check P f=some (75,(Wq fg fw fs).strip,[.tmp 4])):Sound P f (.dat false Qv):=by
 refine va hc Xav hΓ (λargs K hcl hfi hG=>?_)
 match args,hG with
 | [a,b],hG=>
  obtain ⟨s,rfl,rfl,hK⟩:=hG
  refine ⟨by simp,?_⟩
  simp only [go_sem,Wq,eJ]
  exact ⟨λ_=>⟨by decide,hK⟩,λh=>absurd rfl h⟩
theorem UY (hΓ:Holds P Γ) {f fm fs fi fr fj fn:Nat} (hm:Γ fm=.dat false ji) (hs:Γ fs=.dat false Ys) (hi:Γ fi=.dat false zl) (hj:Γ fj=.dat false Qv) (hn:Γ fn=.dat true Wf) (hc:check P f=some (44,(uq fm fs fi fr fj fn).strip,[.tmp 2])):Sound P f (.dat false jo):=by
  refine va hc V9 hΓ (λargs K hcl hfi hG=>?_)
  match args,hG with
  | [a],hG=>
    obtain ⟨w,rfl,hw,h1,hK⟩:=hG
    refine ⟨by simp,?_⟩
    obtain ⟨m,hm1,m1,m2⟩:=Ybk h1
    rw [hm1]at h1 hK
    have d1:digs m=[m]:=Wby m1 m2
    have d0:=Qb
    have v1 : val [m] / 1000000000 = 0 := by have : val [m] = m := by simp [val]
                                             omega
    have v2 : val [m] % 1000000000 = m := by have : val [m] = m := by simp [val]
                                             omega
    have n0:¬((m:Int)<0):=by omega
    have w1:WL [m]:=yb.2 ⟨by omega,Yb⟩
    simp only [go_sem,uq,hm,hs,hi,hj,hn,hw,hm1,Int.natAbs_natCast,d1]
    refine ka (λk:Nat=>if k=0 then ⟨mkV [(1,.one (.ptr 1 1 0 0)),(3,wsA [m]),(4,.one .emp)],mkH [(1,⟨1,some ⟨[[zb w,zm w]],2,true⟩⟩)]⟩ else ⟨mkV [(1,.one (.ptr 1 1 0 0)),(3,wsA []),(4,.one (.full [[.lit (.string (tx m))]]))],mkH [(1,⟨1,some ⟨[[zb w,zm w]],2,true⟩⟩)]⟩) (λ_=>True) (λk=>1-k) 0 ?_ trivial ?_
    . rw [if_pos rfl];exact Qa (by simp [okS,okV,okC,okL,okH,okB,okE,Za,ja,za,Ja,wsA,ws,wc]) ⟨wa8,trivial⟩
    . intro k _
      by_cases hk:k=0
      . subst hk
        rw [if_pos rfl]
        simp only [go_sem,hs,hi,v1,v2,d0,h1]
        refine ⟨w1,by decide,by decide,by omega,λe he=>by simp at he,1,?_,by decide⟩
        rw [if_neg (by decide)]
        exact Qa (by simp [okS,okV,okC,okL,okH,okB,okE,Za,ja,za,Ja,wsA,ws,wc]) ⟨wa8,trivial⟩
      . rw [if_neg hk]
        simp only [go_sem,hj,hn,hw,hm1,n0]
        exact hK
theorem J3 (hΓ:Holds P Γ) {f fp fo fc ft:Nat} (hp:Γ fp=.dat false xe) (ho:Γ fo=.dat false Zq) (hc' : Γ fc=.dat true uw) (ht:Γ ft=.dat false jo) (hc:check P f=some (22,(Qj fp fo fc ft).strip,[.tmp 2])):Sound P f (.dat false Xn):=by
 refine va hc kac hΓ (λargs K hcl hfi hG=>?_)
 match args,hG with
 | [a],hG=>
  obtain ⟨x,rfl,hx,h1,h2,hl,hK⟩:=hG
  refine ⟨by simp,?_⟩
  obtain ⟨q,hq⟩:∃q,rv x=q:=⟨_,rfl⟩
  rw [hq]at h1 h2 hK
  unfold txR at hK
  have e1:ordI ((q.den:Nat):Int) 1=0↔q.den=1:=by unfold ordI;split <;> (try split) <;> omega
  by_cases hd:q.den=1
  .rw [if_pos hd]at hK
   simp only [go_sem,Qj,hp,ho,hc',ht,hx,hq]
   exact ⟨hl,λ_=>⟨h1,hK⟩,λh=>absurd (e1.2 hd) h⟩
  .rw [if_neg hd]at hK
   simp only [go_sem,Qj,hp,ho,hc',ht,hx,hq]
   have z1:=Xbp q.num
   have z2:=Xbp (q.den:Nat)
   have z3:(ByteArray.mk #[47]).size=1:=rfl
   exact ⟨hl,λh=>absurd (e1.1 h) hd,λ_=>⟨h1,by omega,h2,by rw [ByteArray.size_append];omega,hK⟩⟩
end Go.Abs
end
section
namespace Go.Num
open Go.Abs
theorem ZbG (w:V2):0<=sqQ w:=by
 have h:∀x:Rat,0<=x*x:=λx=>by
  rcases Rat.le_total (a:=0) (b:=x) with h | h
  .exact Rat.mul_nonneg h h
  .have h2:0<=-x:=by grind
   have:=Rat.mul_nonneg h2 h2
   grind
 unfold sqQ
 have h1:=h w.1
 have h2:=h w.2
 grind
theorem Zbs {w:V2} (h:sqQ w≠0):0<sqQ w:=by have:=ZbG w;grind
theorem jbw {w:V2} (h:sqQ w=0):w=(0,0):=by
 have hh:∀x:Rat,0<=x*x:=λx=>by
  rcases Rat.le_total (a:=0) (b:=x) with h | h
  .exact Rat.mul_nonneg h h
  .have h2:0<=-x:=by grind
   have:=Rat.mul_nonneg h2 h2
   grind
 unfold sqQ at h
 have h1:=hh w.1
 have h2:=hh w.2
 have e1:w.1*w.1=0:=by grind
 have e2:w.2*w.2=0:=by grind
 have f1:w.1=0:=by rcases Rat.mul_eq_zero.1 e1 with h | h <;> exact h
 have f2:w.2=0:=by rcases Rat.mul_eq_zero.1 e2 with h | h <;> exact h
 exact Prod.ext f1 f2
theorem Ybw (a b:V2):sqQ (timesQ a b)=sqQ a*sqQ b:=by unfold sqQ timesQ;simp only;grind
theorem cchkC {X:CpR} (h1:0<X.2.2.1) (h2:0<X.2.2.2.1) (h3:0<X.2.2.2.2.1) (h4:X.1≠X.2.1):cchk (canC X)=0:=by
 have a1:avld (canC X).1=true:=Qbb X.1
 have a2:avld (canC X).2.1=true:=Qbb X.2.1
 have a3:(cps5 (canC X)).all vldR=true:=by simp [cps5,canC,Xf]
 have a4:(cps3 (canC X)).all gt0R=true:=by simp [cps3,canC,gt0R,Xb,h1,h2,h3]
 have a5:av (canC X).1≠av (canC X).2.1:=by
  have e1:av (canC X).1=X.1:=JaA X.1
  have e2:av (canC X).2.1=X.2.1:=JaA X.2.1
  rw [e1,e2];exact h4
 unfold cchk
 rw [if_neg (by simp [a1,a2]),if_neg (by simp [a3]),if_neg (by simp [a4]),if_neg a5]
theorem cchkG {c:Cp} (h:cchk c=0):0<(cpv c).2.2.1/\0<(cpv c).2.2.2.1/\0<(cpv c).2.2.2.2.1/\(cpv c).1≠(cpv c).2.1:=by
 obtain ⟨_,_,_,h4,h5⟩:=xaX h
 simp only [cps3,gt0R,List.all_cons,List.all_nil,Bool.and_true,Bool.and_eq_true,decide_eq_true_eq]at h4
 exact ⟨h4.1,h4.2.1,h4.2.2,h5⟩
def okQ (c:CpR):Prop:=0<c.2.2.1/\0<c.2.2.2.1/\0<c.2.2.2.2.1/\c.1≠c.2.1
theorem ja7 {c:Cp} (h:cchk c=0):okQ (cpv c):=cchkG h
theorem uF {X:CpR} (h:okQ X):cchk (canC X)=0:=cchkC h.1 h.2.1 h.2.2.1 h.2.2.2
theorem qas {c:CpR} (h:okQ c) (hw:sqQ (cW c)≠0):okQ (fiQ c):=by
 obtain ⟨h1,h2,h3,h4⟩:=h
 have p:=Zbs hw
 refine ⟨Rat.mul_pos p h2,Rat.mul_pos p h1,Rat.mul_pos p h3,λe=>?_⟩
 have e' : c.1=addQ c.1 (timesQ (cW c) (subQ c.2.1 c.1)):=e
 have t:timesQ (cW c) (subQ c.2.1 c.1)=(0,0):=by
  obtain ⟨T,hT⟩:∃T,timesQ (cW c) (subQ c.2.1 c.1)=T:=⟨_,rfl⟩
  rw [hT]at e' ⊢
  unfold addQ at e'
  have e1:=congrArg Prod.fst e'
  have e2:=congrArg Prod.snd e'
  simp only at e1 e2
  exact Prod.ext (by simp only;grind) (by simp only;grind)
 have s:=Ybw (cW c) (subQ c.2.1 c.1)
 rw [t]at s
 have s0:sqQ ((0:Rat),(0:Rat))=0:=by decide +kernel
 rw [s0]at s
 have s1:=(Rat.mul_eq_zero.1 s.symm).resolve_left hw
 have s2:=jbw s1
 unfold subQ at s2
 have e1:=congrArg Prod.fst s2
 have e2:=congrArg Prod.snd s2
 simp only at e1 e2
 exact h4 (Prod.ext (by grind) (by grind))
theorem wa5 {c:CpR} (h:okQ c):okQ (swQ c):=⟨h.2.2.1,h.2.1,h.1,λe=>h.2.2.2 e.symm⟩
theorem zbp {c:CpR} (h:okQ c) (hw:sqQ (rsQ c)≠0):okQ (seQ c):=by
 rw [<-xbg];exact qas (wa5 h) hw
theorem cb_B {c:CpR} {b:Nat} (h:CB' b c) (hb:b<=1000):CB c:=by
 obtain ⟨h1,h2,h3,h4,h5,h6,h7⟩:=h
 have a1:=zq_1 c.1
 have a2:=zq_2 c.1
 have a3:=zq_1 c.2.1
 have a4:=zq_2 c.2.1
 exact ⟨by omega,by omega,by omega,by omega,by omega,by omega,by omega,by omega,by omega⟩
theorem cl_B {c:CpR} {b:Nat} (h:CB' b c):cl (canC c)<=b:=by
 obtain ⟨h1,h2,h3,h4,h5,h6,h7⟩:=h
 rw [Xba]
 simp only [Nat.max_le]
 exact ⟨h1,h2,h3,h4,h5,h6,h7⟩
theorem zx (c:CpR):WLC (canC c):=⟨uy _,uy _,Yd _,Yd _,Yd _,Yd _,Yd _⟩
theorem zbm {c d:CpR} (hc:CB c) (hd:CB d) (h:∀p,wV c p=wV d p):cCur c=cCur d:=
 qa5 (Wat hc).canon (Wat hd).canon λx y=>by
  have h1:=va5 hc (x,y)
  have h2:=va5 hd (x,y)
  simp only at h1 h2
  rw [h1,h2,h]
theorem ubs {c:CpR} (hc:CB c) (hd:CB (fiQ c)) (hw:sqQ (cW c)≠0):cCur (fiQ c)=cCur c:=zbm hd hc λp=>UbK c p hw
theorem ex_w:sqQ (cW exQ)≠0:=by decide +kernel
theorem Vbu:fiQ exQ=((0,0),(2,0),4,1 / 4,1 / 4,2,0):=by decide +kernel
theorem JbL:foQ exQ=(2,0):=by decide +kernel
theorem Vbf:CB' 16 exQ:=by unfold CB';decide +kernel
theorem waT:CB' 200 (fiQ exQ):=by
 have:=Ubw Vbf
 obtain ⟨h1,h2,h3,h4,h5,h6,h7⟩:=this
 exact ⟨by omega,by omega,by omega,by omega,by omega,by omega,by omega⟩
end Go.Num
namespace Go.Abs
open Go.Num
variable {P:Program} {Γ:Nat->Spec}
def Ju (l:List AV) (K:AV->Prop):Prop:=
 match l with
 | []=>K (.one (.lit (.bool true)))
 | _=>False
theorem Qak (K:AV->Prop):Ju [] K=(K (.one (.lit (.bool true)))):=propext Iff.rfl
@[congr] theorem JbA {K:AV->Prop} {l l' : List AV} (h:l=l'):Ju l K=Ju l' K:=by subst h;rfl
attribute [go_sem] Qak
attribute [go_sem ↓] Qak
theorem qaz:Good Ju:=Va λas=>by
 unfold Ju
 split
 .exact (.ret _)
 .exact .of λK hk=>hk.elim
def Qd (f0 f1 f2 f3 f4:Nat):List AO:=[.m 23 (.t 2),.u 24 (.binn .eql (.t 23) (.c (.one (.lit .nilIface)))),.m 25 (.t 24),.w 26 25 true (.mv (.t 4)),.w 27 25 true (.binn .eql (.t 26) (.c (.one (.lit .nilIface)))),.u 28 (.pick (.t 25) (.t 27) .fa),.m 29 (.t 28),.w 30 29 true (.mv (.t 6)),.w 31 29 true (.binn .eql (.t 30) (.c (.one (.lit .nilIface)))),.u 32 (.pick (.t 29) (.t 31) .fa),.m 33 (.t 32),.w 34 33 true (.mv (.t 5))]
theorem Wm {f0 f1 f2 f3 f4:Nat} (Γ:Nat->Spec) (dr:Bool) (Q:S->Prop) (s:S):wpL Γ dr Q (Qd f0 f1 f2 f3 f4) s=wpL Γ dr Q [.m 23 (.t 2),.u 24 (.binn .eql (.t 23) (.c (.one (.lit .nilIface)))),.m 25 (.t 24),.w 26 25 true (.mv (.t 4)),.w 27 25 true (.binn .eql (.t 26) (.c (.one (.lit .nilIface)))),.u 28 (.pick (.t 25) (.t 27) .fa),.m 29 (.t 28),.w 30 29 true (.mv (.t 6)),.w 31 29 true (.binn .eql (.t 30) (.c (.one (.lit .nilIface)))),.u 32 (.pick (.t 29) (.t 31) .fa),.m 33 (.t 32),.w 34 33 true (.mv (.t 5))] s:=eq_of_heq (HEq.refl _)
def Zd (f0 f1 f2 f3 f4:Nat):List AO:=[.u 35 (.pick (.t 33) (.t 34) .fa),.m 36 (.t 35),.w 37 36 true (.fa 0 (.t 1)),.w 38 36 true (.ld none 3 true (.t 37)),.w 39 36 true (.call f4 [(.t 38)]),.w 40 36 true (.sop 1 [(.t 39),(.c (.one (.lit (.string ⟨#[50]⟩))))]),.u 41 (.pick (.t 36) (.t 40) .fa),.m 42 (.t 41),.w 43 42 true (.fa 12 (.t 3)),.w 44 42 true (.ld none 3 true (.t 43)),.w 45 42 true (.call f4 [(.t 44)]),.w 46 42 true (.sop 1 [(.t 45),(.c (.one (.lit (.string ⟨#[52]⟩))))])]
theorem Vm {f0 f1 f2 f3 f4:Nat} (Γ:Nat->Spec) (dr:Bool) (Q:S->Prop) (s:S):wpL Γ dr Q (Zd f0 f1 f2 f3 f4) s=wpL Γ dr Q [.u 35 (.pick (.t 33) (.t 34) .fa),.m 36 (.t 35),.w 37 36 true (.fa 0 (.t 1)),.w 38 36 true (.ld none 3 true (.t 37)),.w 39 36 true (.call f4 [(.t 38)]),.w 40 36 true (.sop 1 [(.t 39),(.c (.one (.lit (.string ⟨#[50]⟩))))]),.u 41 (.pick (.t 36) (.t 40) .fa),.m 42 (.t 41),.w 43 42 true (.fa 12 (.t 3)),.w 44 42 true (.ld none 3 true (.t 43)),.w 45 42 true (.call f4 [(.t 44)]),.w 46 42 true (.sop 1 [(.t 45),(.c (.one (.lit (.string ⟨#[52]⟩))))])] s:=eq_of_heq (HEq.refl _)
def uc (f0 f1 f2 f3 f4:Nat):List AO:=[.u 47 (.pick (.t 42) (.t 46) .fa),.m 48 (.t 47),.w 49 48 true (.fa 15 (.t 3)),.w 50 48 true (.ld none 3 true (.t 49)),.w 51 48 true (.call f4 [(.t 50)]),.w 52 48 true (.sop 1 [(.t 51),(.c (.one (.lit (.string ⟨#[49,47,52]⟩))))]),.u 53 (.pick (.t 48) (.t 52) .fa),.m 54 (.t 53),.w 55 54 true (.fa 21 (.t 3)),.w 56 54 true (.ld none 3 true (.t 55)),.w 57 54 true (.call f4 [(.t 56)]),.w 58 54 true (.sop 1 [(.t 57),(.c (.one (.lit (.string ⟨#[50]⟩))))])]
theorem vm {f0 f1 f2 f3 f4:Nat} (Γ:Nat->Spec) (dr:Bool) (Q:S->Prop) (s:S):wpL Γ dr Q (uc f0 f1 f2 f3 f4) s=wpL Γ dr Q [.u 47 (.pick (.t 42) (.t 46) .fa),.m 48 (.t 47),.w 49 48 true (.fa 15 (.t 3)),.w 50 48 true (.ld none 3 true (.t 49)),.w 51 48 true (.call f4 [(.t 50)]),.w 52 48 true (.sop 1 [(.t 51),(.c (.one (.lit (.string ⟨#[49,47,52]⟩))))]),.u 53 (.pick (.t 48) (.t 52) .fa),.m 54 (.t 53),.w 55 54 true (.fa 21 (.t 3)),.w 56 54 true (.ld none 3 true (.t 55)),.w 57 54 true (.call f4 [(.t 56)]),.w 58 54 true (.sop 1 [(.t 57),(.c (.one (.lit (.string ⟨#[50]⟩))))])] s:=eq_of_heq (HEq.refl _)
def jd (f0 f1 f2 f3 f4:Nat):List AO:=[.u 59 (.pick (.t 54) (.t 58) .fa),.m 0 (.t 59)]
theorem wm {f0 f1 f2 f3 f4:Nat} (Γ:Nat->Spec) (dr:Bool) (Q:S->Prop) (s:S):wpL Γ dr Q (jd f0 f1 f2 f3 f4) s=wpL Γ dr Q [.u 59 (.pick (.t 54) (.t 58) .fa),.m 0 (.t 59)] s:=eq_of_heq (HEq.refl _)
def vi (f0 f1 f2 f3 f4:Nat):AC:=(.seq (.ops false (Qd f0 f1 f2 f3 f4++(Zd f0 f1 f2 f3 f4++(uc f0 f1 f2 f3 f4++(jd f0 f1 f2 f3 f4)))))
 .ret)
theorem Yq {f0 f1 f2 f3 f4:Nat} (Γ:Nat->Spec) (Q:Ex->S->Prop) (s:S):wpA Γ (vi f0 f1 f2 f3 f4) Q s=wpA Γ (.seq (.ops false (Qd f0 f1 f2 f3 f4++(Zd f0 f1 f2 f3 f4++(uc f0 f1 f2 f3 f4++(jd f0 f1 f2 f3 f4)))))
 .ret) Q s:=eq_of_heq (HEq.refl _)
def kf (f0 f1 f2 f3 f4:Nat):AC:=(.seq (.ops false [.m 0 .fa])
 (.fg [] (.seq (.ops false [.u 8 (.call f0 []),.u 9 (.call f1 [(.t 8)]),.m 7 (.t 9),.u 10 (.ext 0 (.t 7)),.u 11 (.ext 1 (.t 7)),.u 1 (.alloc [(.lit (.bool false)),.emp,.emp,(.lit (.bool false)),.emp,.emp]),.n (.st none 6 (.t 1) (.t 10)),.m 2 (.t 11)])
 (.fg [1,2] (.seq (.ops false [.u 13 (.call f0 []),.u 14 (.call f2 [(.t 13)]),.m 12 (.t 14),.u 15 (.ext 0 (.t 12)),.u 16 (.ext 1 (.t 12)),.u 3 (.alloc [(.lit (.bool false)),.emp,.emp,(.lit (.bool false)),.emp,.emp,(.lit (.bool false)),.emp,.emp,(.lit (.bool false)),.emp,.emp,(.lit (.bool false)),.emp,.emp,(.lit (.bool false)),.emp,.emp,(.lit (.bool false)),.emp,.emp,(.lit (.bool false)),.emp,.emp,(.lit (.bool false)),.emp,.emp]),.n (.st none 27 (.t 3) (.t 15)),.m 4 (.t 16)])
 (.fg [1,2,3,4] (.seq (.ops true [.u 18 (.call f0 []),.u 19 (.ld none 27 true (.t 3)),.u 20 (.call f3 [(.t 18),(.t 19)]),.m 17 (.t 20),.u 21 (.ext 0 (.t 17)),.u 22 (.ext 1 (.t 17)),.m 5 (.t 21),.m 6 (.t 22)])
 (.fg [1,2,3,4,5,6] (vi f0 f1 f2 f3 f4)))))))))
set_option maxHeartbeats 2000000 in
theorem wad (hΓ:Holds P Γ) {f fe ff fi fs ft tE:Nat} (he:Γ fe=.dat false zy) (hf:Γ ff=.dat false (jR tE)) (hi:Γ fi=.dat false (wI tE)) (hs:Γ fs=.dat false (VB tE)) (ht:Γ ft=.dat false Xn) (hc:check P f=some (60,(kf fe ff fi fs ft).strip,[.tmp 0])):Sound P f (.dat true Ju):=by
 refine va hc qaz hΓ (λargs K hcl hfi hG=>?_)
 match args,hG with
 | [],hK=>
  refine ⟨by simp,?_⟩
  have kE:=Ybg
  have wE:=zx exQ
  have lE:=cl_B Vbf
  have vE:=qx exQ
  obtain ⟨E,hE⟩:∃E,canC exQ=E:=⟨_,rfl⟩
  have eE:cqR exQ=cpA E:=by rw [<-hE];rfl
  rw [hE]at kE wE lE vE
  have kF:=uF (qas (by have:=ja7 kE;rw [vE]at this;exact this) ex_w)
  have wF:=zx (fiQ exQ)
  have lF:=cl_B waT
  have vF:=qx (fiQ exQ)
  have hcur:cCur (fiQ exQ)=cCur exQ:=ubs (cb_B Vbf (by decide)) (cb_B waT (by decide)) ex_w
  obtain ⟨Y,hY⟩:∃Y,fiQ exQ=Y:=⟨_,rfl⟩
  rw [hY]at kF wF lF vF hcur
  rw [Vbu]at hY
  obtain ⟨F,hF⟩:∃F,canC Y=F:=⟨_,rfl⟩
  have eF:cqR Y=cpA F:=by rw [<-hF];rfl
  rw [hF]at kF wF lF vF
  have cE:fiC E=0:=by rw [Jaz kE,vE];exact wC_0.2 ex_w
  have sE:smC E F=0:=by unfold smC;rw [if_neg (by omega)];exact kF
  have l1:cl E<=100000:=Nat.le_trans lE (by decide)
  have l2:cl E<=1000:=Nat.le_trans lE (by decide)
  have l3:cl F<=1000:=Nat.le_trans lF (by decide)
  have dc:=decide_eq_true hcur.symm
  have g0:decide (0=0)=true:=rfl
  have e0:=qc tE
  have a2:rv F.2.2.1=4:=by rw [<-hF,<-hY];exact Xb _
  have b2:rv F.2.2.2.1=1 / 4:=by rw [<-hF,<-hY];exact Xb _
  have u2:rv F.2.2.2.2.2.1=2:=by rw [<-hF,<-hY];exact Xb _
  have hYY:fiQ exQ=Y:=by rw [Vbu,hY]
  have t2:txR 2=⟨#[50]⟩:=by decide +kernel
  have t4:txR 4=⟨#[52]⟩:=by decide +kernel
  have tq:txR (1 / 4)=⟨#[49,47,52]⟩:=by decide +kernel
  simp only [go_sem,kf,he,hf,hi,hs,eE,kE,vE,cE,hYY,eF,JbL,e0,cpA,cpC,Vc,sE,vF,dc,g0,Bool.true_and]
  repeat (first | (refine And.intro (by with_reducible assumption) ?_) | (refine And.intro (Nat.le_trans (by with_reducible assumption) (by decide)) ?_) | (refine And.intro (by decide) ?_))
  have wF1:=wF.2.2.1
  have wF2:=wF.2.2.2.1
  have wF3:=wF.2.2.2.2.2.1
  have hl0:=lF
  unfold cl at hl0
  simp only [Nat.max_le]at hl0
  have lF1:=Nat.le_trans hl0.2.2.1 (by decide:_<=4294967296)
  have lF2:=Nat.le_trans hl0.2.2.2.1 (by decide:_<=4294967296)
  have lF3:=Nat.le_trans hl0.2.2.2.2.2.1 (by decide:_<=4294967296)
  have l22:rz 2<=4294967296:=Nat.le_trans rz_2 (by decide)
  have k1:okT (Rat.num 2):=Or.inr (Or.inl rfl)
  have k2:okT ((Rat.den 2:Nat):Int):=Or.inl rfl
  have k3:okT (Rat.num 4):=Or.inr (Or.inr (Or.inl rfl))
  have k4:okT ((Rat.den 4:Nat):Int):=Or.inl rfl
  have k5:okT (Rat.num (1 / 4)):=Or.inl (by decide +kernel)
  have k6:okT ((Rat.den (1 / 4):Nat):Int):=Or.inr (Or.inr (Or.inl (by decide +kernel)))
  rw [Yq,Qbn,vao,vao,vao]
  rw [Wm]
  simp only [go_sem]
  rw [Vm]
  have bb:∀l:List UInt8,(l == l)=true:=λl=>beq_self_eq_true l
  simp only [go_sem,ht,Xb,t2,t4,tq,a2,b2,u2,bb]
  repeat (first | (refine And.intro (by with_reducible assumption) ?_) | (refine And.intro (Nat.le_trans (by with_reducible assumption) (by decide)) ?_) | (refine And.intro (by decide) ?_))
  rw [vm]
  simp only [go_sem,ht,Xb,t2,t4,tq,a2,b2,u2,bb]
  repeat (first | (refine And.intro (by with_reducible assumption) ?_) | (refine And.intro (Nat.le_trans (by with_reducible assumption) (by decide)) ?_) | (refine And.intro (by decide) ?_))
  rw [wm]
  simp only [go_sem,ht,Xb,t2,t4,tq,a2,b2,u2,bb]
  exact hK
end Go.Abs
end
section
namespace Go.Num
open Go.Abs
theorem wbp (X:CpR):cqR X=cpA (canC X):=rfl
theorem wbb:cl (canC z27)<=0:=by rw [Xba];unfold z27 zq;simp only [rz_0];decide
end Go.Num
namespace Go.Abs
open Go.Num
variable {P:Program} {Γ:Nat->Spec}
theorem qby (c:Cp):cpA c=.agg (cpC c):=eq_of_heq (HEq.refl _)
theorem yba (k:Cp->Prop) (c:Cp):onCp k (.agg (cpC c))=(WLC c/\k c):=Jl qaD (λc=>WLC c/\k c) c
theorem Q9 (c:Cp):(cpC c).length=27:=eq_of_heq (HEq.refl _)
theorem uau (c:Cp):(cpC c).take 27=cpC c:=List.take_of_length_le (Nat.le_of_eq (Q9 c))
theorem jas (c:Cp):(cpC c).drop 0=cpC c:=eq_of_heq (HEq.refl _)
theorem jaV (h:Nat->HB) (c:Cp):(cpC c).map (datC h)=cpC c:=eq_of_heq (HEq.refl _)
theorem QaC (c:Cp):(cpC c).flatMap ownC=[]:=eq_of_heq (HEq.refl _)
attribute [go_sem] qby yba Q9 uau jas jaV QaC
attribute [go_sem ↓] qby yba Q9 uau jas jaV QaC
def qk (l:List AV) (K:AV->Prop):Prop:=
 match l with
 | [c]=>onCp (λc=>cl c<=1048576/\K (.one (.lit (.bool true)))) c
 | _=>False
theorem kL (c:AV) (K:AV->Prop):qk [c] K=(onCp (λc=>cl c<=1048576/\K (.one (.lit (.bool true)))) c):=propext Iff.rfl
@[congr] theorem Ubm {K:AV->Prop} {l l' : List AV} (h:l=l'):qk l K=qk l' K:=by subst h;rfl
attribute [go_sem] kL
attribute [go_sem ↓] kL
theorem ZZ:Good qk:=Va λas=>by
 unfold qk
 split
 .exact (Vk λ_=>(.and λ_=>(.ret _)))
 .exact .of λK hk=>hk.elim
def jb (f0 f1 f2 f3 f4 f5 f6 f7:Nat):AC:=(.seq (.ops false [.u 1 (.box 27 (.t 0)),.m 2 .fa])
 (.fg [1] (.seq (.seq (.ops false [.u 19 (.call f0 []),.u 20 (.un .not (.t 19)),.m 21 (.t 20),.w 22 21 false (.ld none 27 true (.t 1)),.w 23 21 false (.call f1 [(.t 22)]),.w 24 21 false (.un .not (.t 23)),.u 25 (.pick (.t 21) .tr (.t 24)),.m 26 (.t 25),.w 27 26 false (.ld none 27 true (.t 1)),.w 28 26 false (.call f2 [(.t 27)]),.w 29 26 false (.binn .neq (.t 28) (.c (.one (.lit .nilIface)))),.u 30 (.pick (.t 26) .tr (.t 29))])
 (.fg [1,30] (.cond (.t 30) (.seq (.ops false [.u 31 (.call f0 []),.m 2 (.t 31)])
 .ret) .skip)))
 (.fg [1] (.seq (.ops false [.u 33 (.ld none 27 true (.t 1)),.u 34 (.call f3 [(.t 33)]),.m 32 (.t 34),.u 35 (.ext 0 (.t 32)),.u 36 (.ext 1 (.t 32)),.u 3 (.alloc [(.lit (.bool false)),.emp,.emp,(.lit (.bool false)),.emp,.emp,(.lit (.bool false)),.emp,.emp,(.lit (.bool false)),.emp,.emp,(.lit (.bool false)),.emp,.emp,(.lit (.bool false)),.emp,.emp,(.lit (.bool false)),.emp,.emp,(.lit (.bool false)),.emp,.emp,(.lit (.bool false)),.emp,.emp]),.n (.st none 27 (.t 3) (.t 35)),.m 4 (.t 36)])
 (.fg [1,3,4] (.seq (.ops false [.u 38 (.ld none 27 true (.t 1)),.u 39 (.call f4 [(.t 38)]),.m 37 (.t 39),.u 40 (.ext 0 (.t 37)),.u 41 (.ext 1 (.t 37)),.u 5 (.alloc [(.lit (.bool false)),.emp,.emp,(.lit (.bool false)),.emp,.emp,(.lit (.bool false)),.emp,.emp,(.lit (.bool false)),.emp,.emp,(.lit (.bool false)),.emp,.emp,(.lit (.bool false)),.emp,.emp,(.lit (.bool false)),.emp,.emp,(.lit (.bool false)),.emp,.emp,(.lit (.bool false)),.emp,.emp]),.n (.st none 27 (.t 5) (.t 40)),.m 6 (.t 41)])
 (.fg [1,3,4,5,6] (.seq (.ops false [.u 43 (.ld none 27 true (.t 1)),.u 44 (.call f5 [(.t 43)]),.m 42 (.t 44),.u 45 (.ext 0 (.t 42)),.u 46 (.ext 1 (.t 42)),.u 7 (.alloc [(.lit (.bool false)),.emp,.emp,(.lit (.bool false)),.emp,.emp,(.lit (.bool false)),.emp,.emp,(.lit (.bool false)),.emp,.emp,(.lit (.bool false)),.emp,.emp,(.lit (.bool false)),.emp,.emp,(.lit (.bool false)),.emp,.emp,(.lit (.bool false)),.emp,.emp,(.lit (.bool false)),.emp,.emp]),.n (.st none 27 (.t 7) (.t 45)),.m 8 (.t 46)])
 (.fg [1,3,4,5,6,7,8] (.seq (.seq (.ops false [.m 47 (.t 8),.u 48 (.binn .neq (.t 47) (.c (.one (.lit .nilIface))))])
 (.fg [1,3,4,5,6,7,48] (.cond (.t 48) (.seq (.ops false [.m 2 .fa])
 .ret) .skip)))
 (.fg [1,3,4,5,6,7] (.seq (.ops false [.u 50 (.ld none 27 true (.t 7)),.u 51 (.call f3 [(.t 50)]),.m 49 (.t 51),.u 52 (.ext 0 (.t 49)),.u 53 (.ext 1 (.t 49)),.u 9 (.alloc [(.lit (.bool false)),.emp,.emp,(.lit (.bool false)),.emp,.emp,(.lit (.bool false)),.emp,.emp,(.lit (.bool false)),.emp,.emp,(.lit (.bool false)),.emp,.emp,(.lit (.bool false)),.emp,.emp,(.lit (.bool false)),.emp,.emp,(.lit (.bool false)),.emp,.emp,(.lit (.bool false)),.emp,.emp]),.n (.st none 27 (.t 9) (.t 52)),.m 10 (.t 53)])
 (.fg [1,3,4,5,6,7,9,10] (.seq (.ops false [.u 55 (.ld none 27 true (.t 7)),.u 56 (.call f4 [(.t 55)]),.m 54 (.t 56),.u 57 (.ext 0 (.t 54)),.u 58 (.ext 1 (.t 54)),.u 11 (.alloc [(.lit (.bool false)),.emp,.emp,(.lit (.bool false)),.emp,.emp,(.lit (.bool false)),.emp,.emp,(.lit (.bool false)),.emp,.emp,(.lit (.bool false)),.emp,.emp,(.lit (.bool false)),.emp,.emp,(.lit (.bool false)),.emp,.emp,(.lit (.bool false)),.emp,.emp,(.lit (.bool false)),.emp,.emp]),.n (.st none 27 (.t 11) (.t 57)),.m 12 (.t 58)])
 (.fg [1,3,4,5,6,9,10,11,12] (.seq (.seq (.ops false [.m 59 (.t 10),.u 60 (.call f6 [(.t 59)]),.m 61 (.t 6),.u 62 (.call f6 [(.t 61)]),.u 63 (.bin .neq (.t 60) (.t 62)),.m 64 (.t 63),.w 65 64 false (.mv (.t 12)),.w 66 64 false (.call f6 [(.t 65)]),.w 67 64 false (.mv (.t 4)),.w 68 64 false (.call f6 [(.t 67)]),.w 69 64 false (.bin .neq (.t 66) (.t 68)),.u 70 (.pick (.t 64) .tr (.t 69)),.m 71 (.t 70),.w 72 71 false (.ld none 27 true (.t 9)),.w 73 71 false (.ld none 27 true (.t 5)),.w 74 71 false (.call f7 [(.t 72),(.t 73)]),.w 75 71 false (.un .not (.t 74)),.u 76 (.pick (.t 71) .tr (.t 75)),.m 77 (.t 76),.w 78 77 false (.ld none 27 true (.t 11)),.w 79 77 false (.ld none 27 true (.t 3)),.w 80 77 false (.call f7 [(.t 78),(.t 79)]),.w 81 77 false (.un .not (.t 80)),.u 82 (.pick (.t 77) .tr (.t 81))])
 (.fg [1,3,4,5,6,82] (.cond (.t 82) (.seq (.ops false [.m 2 .fa])
 .ret) .skip)))
 (.fg [1,3,4,5,6] (.seq (.seq (.ops false [.m 83 (.t 4),.u 84 (.binn .eql (.t 83) (.c (.one (.lit .nilIface))))])
 (.fg [1,3,4,5,6,84] (.cond (.t 84) (.seq (.ops false [.u 86 (.ld none 27 true (.t 3)),.u 87 (.call f3 [(.t 86)]),.m 85 (.t 87),.u 88 (.ext 0 (.t 85)),.u 89 (.ext 1 (.t 85)),.u 13 (.alloc [(.lit (.bool false)),.emp,.emp,(.lit (.bool false)),.emp,.emp,(.lit (.bool false)),.emp,.emp,(.lit (.bool false)),.emp,.emp,(.lit (.bool false)),.emp,.emp,(.lit (.bool false)),.emp,.emp,(.lit (.bool false)),.emp,.emp,(.lit (.bool false)),.emp,.emp,(.lit (.bool false)),.emp,.emp]),.n (.st none 27 (.t 13) (.t 88)),.m 14 (.t 89)])
 (.fg [1,3,4,5,6,13,14] (.seq (.ops false [.m 90 (.t 14),.u 91 (.binn .neq (.t 90) (.c (.one (.lit .nilIface)))),.m 92 (.t 91),.w 93 92 false (.ld none 27 true (.t 13)),.w 94 92 false (.ld none 27 true (.t 1)),.w 95 92 false (.call f7 [(.t 93),(.t 94)]),.w 96 92 false (.un .not (.t 95)),.u 97 (.pick (.t 92) .tr (.t 96))])
 (.fg [3,4,5,6,97] (.cond (.t 97) (.seq (.ops false [.m 2 .fa])
 .ret) .skip))))) .skip)))
 (.fg [3,4,5,6] (.seq (.seq (.ops false [.m 98 (.t 4),.u 99 (.binn .neq (.t 98) (.c (.one (.lit .nilIface)))),.m 100 (.t 99),.w 101 100 false (.mv (.t 6)),.w 102 100 false (.binn .neq (.t 101) (.c (.one (.lit .nilIface)))),.u 103 (.pick (.t 100) .tr (.t 102))])
 (.fg [3,5,103] (.cond (.t 103) (.seq (.ops false [.m 2 .tr])
 .ret) .skip)))
 (.fg [3,5] (.seq (.ops false [.u 105 (.ld none 27 true (.t 3)),.u 106 (.call f4 [(.t 105)]),.m 104 (.t 106),.u 107 (.ext 0 (.t 104)),.u 108 (.ext 1 (.t 104)),.u 15 (.alloc [(.lit (.bool false)),.emp,.emp,(.lit (.bool false)),.emp,.emp,(.lit (.bool false)),.emp,.emp,(.lit (.bool false)),.emp,.emp,(.lit (.bool false)),.emp,.emp,(.lit (.bool false)),.emp,.emp,(.lit (.bool false)),.emp,.emp,(.lit (.bool false)),.emp,.emp,(.lit (.bool false)),.emp,.emp]),.n (.st none 27 (.t 15) (.t 107)),.m 16 (.t 108)])
 (.fg [5,15,16] (.seq (.ops false [.u 110 (.ld none 27 true (.t 5)),.u 111 (.call f5 [(.t 110)]),.m 109 (.t 111),.u 112 (.ext 0 (.t 109)),.u 113 (.ext 1 (.t 109)),.u 17 (.alloc [(.lit (.bool false)),.emp,.emp,(.lit (.bool false)),.emp,.emp,(.lit (.bool false)),.emp,.emp,(.lit (.bool false)),.emp,.emp,(.lit (.bool false)),.emp,.emp,(.lit (.bool false)),.emp,.emp,(.lit (.bool false)),.emp,.emp,(.lit (.bool false)),.emp,.emp,(.lit (.bool false)),.emp,.emp]),.n (.st none 27 (.t 17) (.t 112)),.m 18 (.t 113)])
 (.fg [15,16,17,18] (.seq (.ops false [.m 114 (.t 16),.u 115 (.binn .eql (.t 114) (.c (.one (.lit .nilIface)))),.m 116 (.t 115),.w 117 116 true (.mv (.t 18)),.w 118 116 true (.binn .eql (.t 117) (.c (.one (.lit .nilIface)))),.u 119 (.pick (.t 116) (.t 118) .fa),.m 120 (.t 119),.w 121 120 true (.ld none 27 true (.t 15)),.w 122 120 true (.ld none 27 true (.t 17)),.w 123 120 true (.call f7 [(.t 121),(.t 122)]),.u 124 (.pick (.t 120) (.t 123) .fa),.m 2 (.t 124)])
 .ret)))))))))))))))))))))))))))
set_option maxHeartbeats 4000000 in
theorem WR (hΓ:Holds P Γ) {f fw fs fk fi fe fx fn fq tE:Nat} (hw:Γ fw=.dat true Ju) (hs:Γ fs=.dat true jB) (hk:Γ fk=.dat false (yr tE)) (hi:Γ fi=.dat false (wI tE)) (he:Γ fe=.dat false (UP tE)) (hx:Γ fx=.dat false (YO tE)) (hn:Γ fn=.dat true (Uz tE)) (hq:Γ fq=.dat true yn) (hc:check P f=some (125,(jb fw fs fk fi fe fx fn fq).strip,[.tmp 2])):Sound P f (.dat true qk):=by
 refine va hc ZZ hΓ (λargs K hcl hfi hG=>?_)
 match args,hG with
 | [a],hG=>
  obtain ⟨c,rfl,hwc,hlc,hK⟩:=hG
  refine ⟨by simp,?_⟩
  have hlc1:cl c<=4294967296:=by omega
  have hlc2:cl c<=100000000:=by omega
  cases hsc:sC c with
  | false=>
   simp only [go_sem,jb,hw,hs,hsc,Vc]
   repeat (first | (refine And.intro (by with_reducible assumption) ?_) | (refine And.intro (Nat.le_trans (by with_reducible assumption) (by decide)) ?_) | (refine And.intro (by decide) ?_))
   exact hK
  | true=>
  have e0:=qc tE
  by_cases h0:cchk c=0
  case neg=>
   have e1:=Qc tE h0
   simp only [go_sem,jb,hw,hs,hk,hsc,Vc,e1]
   repeat (first | (refine And.intro (by with_reducible assumption) ?_) | (refine And.intro (Nat.le_trans (by with_reducible assumption) (by decide)) ?_) | (refine And.intro (by decide) ?_))
   exact hK
  have c2:=VbE hsc
  have hB:=Xbl hwc c2
  have hcan:=xbG hwc h0
  have ok:=ja7 h0
  obtain ⟨V,hC⟩:∃V,cpv c=V:=⟨_,rfl⟩
  rw [hC]at hB hcan ok
  have bF:=Ubw hB
  have bS:=vbK hB
  have bW:=xbx hB
  have lF:=Nat.le_trans (cl_B bF) (by decide:_<=100000)
  have lS:=Nat.le_trans (cl_B bS) (by decide:_<=100000)
  have lW:=Nat.le_trans (cl_B bW) (by decide:_<=100000)
  have wF:=zx (fiQ V)
  have wS:=zx (seQ V)
  have wW:=zx (swQ V)
  have n1:fiC c=wC (cW V):=by rw [Jaz h0,hC]
  have n2:seC c=wC (rsQ V):=by rw [wa4 h0,hC]
  have kW:=uF (wa5 ok)
  have m1:fiC (canC (swQ V))=wC (rsQ V):=by rw [Jaz kW,qx,w_sw]
  have m2:seC (canC (swQ V))=wC (cW V):=by rw [wa4 kW,qx,Jby]
  obtain ⟨w,hw0⟩:∃n,wC (cW V)=n:=⟨_,rfl⟩
  obtain ⟨r,hr0⟩:∃n,wC (rsQ V)=n:=⟨_,rfl⟩
  rw [hw0]at n1 m2
  rw [hr0]at n2 m1
  have vW:=qx (swQ V)
  have vF:=qx (fiQ V)
  have vS:=qx (seQ V)
  obtain ⟨X,hX⟩:∃X,(if w=0 then fiQ V else z27)=X:=⟨_,rfl⟩
  obtain ⟨Y,hY⟩:∃Y,(if r=0 then seQ V else z27)=Y:=⟨_,rfl⟩
  have lX:cl (canC X)<=100000:=by
   rw [<-hX];split
   .exact lF
   .exact Nat.le_trans wbb (by decide)
  have lY:cl (canC Y)<=100000:=by
   rw [<-hY];split
   .exact lS
   .exact Nat.le_trans wbb (by decide)
  have wX:=zx X
  have wY:=zx Y
  have lX2:=Nat.le_trans lX (by decide:_<=4294967296)
  have lY2:=Nat.le_trans lY (by decide:_<=4294967296)
  have lc5:cl c<=100000:=by omega
  have dd:∀x:Cp,decide (x=x)=true:=λx=>decide_eq_true rfl
  have dn:∀n:Int,decide (n=n)=true:=λn=>decide_eq_true rfl
  obtain ⟨E1,hE1⟩:∃e,errV tE w=.one (.lit e):=⟨_,rfl⟩
  obtain ⟨E2,hE2⟩:∃e,errV tE r=.one (.lit e):=⟨_,rfl⟩
  have o1:∀k,onErr tE k (.one (.lit E1))=k w:=λk=>by rw [<-hE1];exact Vz tE k w
  have o2:∀k,onErr tE k (.one (.lit E2))=k r:=λk=>by rw [<-hE2];exact Vz tE k r
  obtain ⟨X',hX'⟩:∃x,canC X=x:=⟨_,rfl⟩
  obtain ⟨Y',hY'⟩:∃x,canC Y=x:=⟨_,rfl⟩
  obtain ⟨W',hW'⟩:∃x,canC (swQ V)=x:=⟨_,rfl⟩
  rw [hX']at lX wX lX2
  rw [hY']at lY wY lY2
  rw [hW']at lW wW vW kW m1 m2
  have fW:fiQ (cpv W')=seQ V:=by rw [vW,xbg]
  have sW:seQ (cpv W')=fiQ V:=by rw [vW,QbI]
  have nW:cqR (swQ V)=cpA W':=by rw [<-hW'];rfl
  have nX:cqR X=cpA X':=by rw [<-hX'];rfl
  have nY:cqR Y=cpA Y':=by rw [<-hY'];rfl
  simp only [go_sem,jb,hw,hs,hk,hi,he,hx,hsc,Vc,h0,e0,hC,n1,n2,hX,hY,nX,nY,nW,hE1,hE2,m1,m2,fW,sW,kW]
  repeat (first | (refine And.intro (by with_reducible assumption) ?_) | (refine And.intro (Nat.le_trans (by with_reducible assumption) (by decide)) ?_) | (refine And.intro (by decide) ?_))
  by_cases hr1:r=0
  .rw [hr1,e0]at hE2
   simp only [AV.one.injEq,C.lit.injEq]at hE2
   subst hE2
   have oo:∀k,onErr tE k (.one (.lit .nilIface))=k 0:=λk=>by rw [<-e0];exact Vz tE k 0
   rw [if_pos hr1]at hY
   have rn:=wC_0.1 (hr0.trans hr1)
   have ccY:cpv Y' = seQ V:=by rw [<-hY',<-hY,vS]
   have kY:cchk Y' = 0:=by rw [<-hY',<-hY];exact uF (zbp ok rn)
   by_cases hw1:w=0
   .rw [hw1,e0]at hE1
    simp only [AV.one.injEq,C.lit.injEq]at hE1
    subst hE1
    rw [if_pos hw1]at hX
    have wn:=wC_0.1 (hw0.trans hw1)
    have ccX:cpv X' = fiQ V:=by rw [<-hX',<-hX,vF]
    have kX:cchk X' = 0:=by rw [<-hX',<-hX];exact uF (qas ok wn)
    have p1:fiC X' = 0:=by rw [Jaz kX,ccX];exact wC_0.2 (ZbA wn)
    have p2:seC X' = 0:=by rw [wa4 kX,ccX];exact wC_0.2 (ya0 wn rn)
    have p3:fiQ (cpv X')=V:=by rw [ccX,Wbr wn]
    have p4:seQ (cpv X')=swQ (seQ V):=by rw [ccX,WbM wn rn]
    have p5:swQ (cpv Y')=swQ (seQ V):=by rw [ccY]
    have p6:cqR V=cpA c:=by rw [wbp,hcan]
    obtain ⟨T,hT⟩:∃T,canC (swQ (seQ V))=T:=⟨_,rfl⟩
    have nT:cqR (swQ (seQ V))=cpA T:=by rw [<-hT];rfl
    have wT:=zx (swQ (seQ V))
    have lT:=Nat.le_trans (cl_B (xbx bS)) (by decide:_<=4294967296)
    rw [hT]at wT lT
    simp only [go_sem,hn,hq,hi,he,hx,oo,dd,dn,nX,nY,nW,Vc,p1,p2,p3,p4,p5,p6,nT,e0,kY]
    repeat (first | (refine And.intro (by with_reducible assumption) ?_) | (refine And.intro (Nat.le_trans (by with_reducible assumption) (by decide)) ?_) | (refine And.intro (by decide) ?_))
    exact hK
   .have hs1:=Qc tE hw1
    rw [hs1]at hE1
    simp only [AV.one.injEq,C.lit.injEq]at hE1
    subst hE1
    simp only [go_sem,hn,hq,hi,he,hx,oo,o1,dd,dn,Vc,e0,not_true_eq_false,false_implies,and_true]
    repeat (first | (refine And.intro (by with_reducible assumption) ?_) | (refine And.intro (Nat.le_trans (by with_reducible assumption) (by decide)) ?_) | (refine And.intro (by decide) ?_))
    exact hK
  .have hs2:=Qc tE hr1
   rw [hs2]at hE2
   simp only [AV.one.injEq,C.lit.injEq]at hE2
   subst hE2
   by_cases hw1:w=0
   .rw [hw1,e0]at hE1
    simp only [AV.one.injEq,C.lit.injEq]at hE1
    subst hE1
    have oo:∀k,onErr tE k (.one (.lit .nilIface))=k 0:=λk=>by rw [<-e0];exact Vz tE k 0
    rw [if_pos hw1]at hX
    have wn:=wC_0.1 (hw0.trans hw1)
    have ccX:cpv X' = fiQ V:=by rw [<-hX',<-hX,vF]
    have kX:cchk X' = 0:=by rw [<-hX',<-hX];exact uF (qas ok wn)
    have p1:fiC X' = 0:=by rw [Jaz kX,ccX];exact wC_0.2 (ZbA wn)
    have p3:fiQ (cpv X')=V:=by rw [ccX,Wbr wn]
    have p6:cqR V=cpA c:=by rw [wbp,hcan]
    simp only [go_sem,hn,hq,hi,he,hx,oo,o2,dd,dn,Vc,p1,p3,p6,e0,not_true_eq_false,false_implies,and_true]
    repeat (first | (refine And.intro (by with_reducible assumption) ?_) | (refine And.intro (Nat.le_trans (by with_reducible assumption) (by decide)) ?_) | (refine And.intro (by decide) ?_))
    exact hK
   .have hs1:=Qc tE hw1
    rw [hs1]at hE1
    simp only [AV.one.injEq,C.lit.injEq]at hE1
    subst hE1
    simp only [go_sem,hn,hq,hi,he,hx,o1,o2,dd,dn,Vc,e0,not_true_eq_false,false_implies,and_true]
    repeat (first | (refine And.intro (by with_reducible assumption) ?_) | (refine And.intro (Nat.le_trans (by with_reducible assumption) (by decide)) ?_) | (refine And.intro (by decide) ?_))
    exact hK
end Go.Abs
end
section
namespace Go.Abs
open Go.Num
variable {P:Program} {Γ:Nat->Spec}
def vq:AC:=(.seq (.ops false [.m 2 (.c (.one .emp))])
 (.fg [0] (.seq (.ops false [.m 4 (.t 0),.u 5 (.len (.t 4)),.m 3 (.t 5)])
 (.fg [0,3] (.seq (.block 0 (.loop (.seq (.seq (.ops false [.m 6 (.t 3),.u 7 (.bin .gtr (.t 6) (.i 0)),.m 8 (.t 7),.w 9 8 true (.mv (.t 0)),.w 10 8 true (.mv (.t 3)),.w 11 8 true (.bin .sub (.t 10) (.i 1)),.w 12 8 true (.idx 1 (.t 9) (.t 11)),.w 13 8 true (.ld none 1 false (.t 12)),.w 14 8 true (.bin .eql (.t 13) (.c (.one (.lit (.int .u32 0))))),.u 15 (.pick (.t 8) (.t 14) .fa)])
 (.fg [0,3,15] (.cond (.t 15) .skip (.exit 0))))
 (.fg [0,3] (.block 1 (.ops false [.m 16 (.t 3),.u 17 (.bin .sub (.t 16) (.i 1)),.m 3 (.t 17)]))))))
 (.fg [0,3] (.seq (.seq (.ops false [.m 18 (.t 3),.u 19 (.bin .eql (.t 18) (.i 0))])
 (.fg [0,3,19] (.cond (.t 19) (.seq (.ops false [.m 2 (.c (.one .emp))])
 .ret) .skip)))
 (.fg [0,3] (.seq (.ops false [.m 20 (.c (.one .emp)),.m 21 (.t 0),.m 22 (.t 3),.u 23 (.sl 1 (.t 21) none (some (.t 22))),.u 24 (.app0 1 (.t 20) (.t 23)),.m 2 (.t 24)])
 .ret)))))))))
def xk:AC:=(.seq (.ops false [.m 4 (.c (.one (.lit (.int .u64 0))))])
 (.fg [0,1] (.seq (.seq (.ops false [.m 5 (.t 1),.m 6 (.t 0),.u 7 (.len (.t 6)),.u 8 (.bin .lss (.t 5) (.t 7))])
 (.fg [0,1,8] (.cond (.t 8) (.seq (.ops false [.m 9 (.t 0),.m 10 (.t 1),.u 11 (.idx 1 (.t 9) (.t 10)),.u 12 (.ld none 1 false (.t 11)),.u 13 (.conv .u64 (.t 12)),.m 4 (.t 13)])
 .ret) .skip)))
 (.fg [] (.seq (.ops false [.m 4 (.c (.one (.lit (.int .u64 0))))])
 .ret)))))
def Up (f0 f1:Nat):AC:=(.seq (.ops false [.m 4 (.c (.one .emp))])
 (.fg [0,1] (.seq (.ops false [.m 8 (.t 0),.u 9 (.len (.t 8)),.m 10 (.t 1),.u 11 (.len (.t 10)),.u 12 (.max [(.t 9),(.t 11)]),.u 13 (.bin .add (.t 12) (.i 1)),.u 14 (.mk 1 [(.lit (.int .u32 0))] (.t 13) (.t 13)),.m 5 (.t 14)])
 (.fg [0,1,5] (.seq (.ops false [.m 6 (.c (.one (.lit (.int .u64 0))))])
 (.fg [0,1,5,6] (.seq (.seq (.ops false [.m 15 (.t 5),.u 16 (.len (.t 15)),.m 17 (.i 0)])
 (.fg [0,1,5,6,16,17] (.block 0 (.loop (.seq (.ops false [.u 18 (.bin .lss (.t 17) (.t 16))])
 (.fg [0,1,5,6,16,17,18] (.seq (.cond (.t 18) .skip (.exit 0))
 (.fg [0,1,5,6,16,17] (.seq (.block 1 (.seq (.ops false [.m 19 (.t 17),.m 7 (.t 19)])
 (.fg [0,1,5,6,7,16,17] (.seq (.ops false [.m 20 (.t 6),.m 21 (.t 0),.m 22 (.t 7),.u 23 (.call f0 [(.t 21),(.t 22)]),.m 24 (.t 1),.m 25 (.t 7),.u 26 (.call f0 [(.t 24),(.t 25)]),.u 27 (.bin .add (.t 23) (.t 26)),.u 28 (.bin .add (.t 20) (.t 27)),.m 6 (.t 28)])
 (.fg [0,1,5,6,7,16,17] (.seq (.ops false [.m 29 (.t 5),.m 30 (.t 7),.m 31 (.t 6),.u 32 (.conv .u32 (.t 31)),.u 33 (.idx 1 (.t 29) (.t 30)),.n (.st none 1 (.t 33) (.t 32))])
 (.fg [0,1,5,6,16,17] (.ops false [.m 34 (.t 6),.u 35 (.bin .shr (.t 34) (.c (.one (.lit (.int .u64 32))))),.m 6 (.t 35)]))))))))
 (.fg [0,1,5,6,16,17] (.ops false [.u 36 (.bin .add (.t 17) (.i 1)),.m 17 (.t 36)])))))))))))
 (.fg [5] (.seq (.ops false [.m 37 (.t 5),.u 38 (.call f1 [(.t 37)]),.m 4 (.t 38)])
 .ret)))))))))
theorem jay (hΓ:Holds P Γ) {f:Nat} (hc:check P f=some (25,vq.strip,[.tmp 2])):Sound P f (.dat false Zr):=by
 refine va hc qaT hΓ (λargs K hcl hfi hG=>?_)
 match args,hG with
 | [a],hG=>
  obtain ⟨l,rfl,hl,hlen,hK⟩:=hG
  refine ⟨by simp,?_⟩
  simp only [go_sem,vq]
  intro hmax
  refine ka (λn:Nat=>⟨mkV [(0,wsA l),(3,.one (.lit (.int .i64 n)))],mkH []⟩) (λn=>n<=l.length/\val (l.take n)=val l) id l.length ?_ ?_ ?_
  .exact Qa (by simp [okS,okV,okC,okL,okH,okB,okE,Za,ja,za,Ja,wsA,ws]) trivial
  .simp
  .rintro n ⟨hn,ht⟩
   simp only [go_sem]
   refine ⟨λh=>⟨by omega,by omega,by omega,λh0=>⟨by omega,n-1,Qa (by simp [okS,okV,okC,okL,okH,okB,okE,Za,ja,za,Ja,wsA,ws];omega) trivial,⟨by omega,?_⟩,?_⟩,λh0=>⟨λh1=>by omega,λ_=>⟨by omega,by simp;omega,?_⟩⟩⟩,λh=>⟨λh1=>?_,λh1=>by omega⟩⟩
   .rw [show ((n:Int)-1).toNat=n-1 by omega]at h0
    have:=Vb l (n-1)
    rw [show n-1+1=n by omega,h0,Nat.mul_zero,Nat.add_zero]at this
    rw [<-this];exact ht
   .simp only [id];omega
   .rw [show ((n:Int)-1).toNat=n-1 by omega]at h0
    have:=Zg (xv hl n) (JG h hn h0)
    rw [<-this,ht];exact hK
   .subst h1
    have:val l=0:=by rw [<-ht];simp [val]
    rw [this,Qb]at hK;exact hK
theorem yJ (hΓ:Holds P Γ) {f:Nat} (hc:check P f=some (14,xk.strip,[.tmp 4])):Sound P f (.dat true Wj):=by
 refine va hc waN hΓ (λargs K hcl hfi hG=>?_)
 match args,hG with
 | [a,b],hG=>
  obtain ⟨l,rfl,hl,hG⟩:=hG
  obtain ⟨k,i,rfl,rfl,hi,hK⟩:=Ua hG
  refine ⟨by simp,?_⟩
  simp only [go_sem,xk]
  intro hmax
  refine ⟨λh=>⟨hi,by omega,?_⟩,λh=>?_⟩
  .have:=vb hl i.toNat
   rw [Nat.mod_eq_of_lt (by omega)];exact hK
  .rw [List.getD_eq_getElem?_getD,List.getElem?_eq_none (by omega)]at hK;exact hK
theorem vaA (hΓ:Holds P Γ) {f fw ft:Nat} (hw:Γ fw=.dat true Wj) (ht:Γ ft=.dat false Zr) (hc:check P f=some (39,(Up fw ft).strip,[.tmp 4])):Sound P f (.dat false xq):=by
 refine va hc zX hΓ (λargs K hcl hfi hG=>?_)
 match args,hG with
 | [a,b],hG=>
  obtain ⟨x,rfl,hx,y,rfl,hy,hxl,hyl,hK⟩:=hG
  refine ⟨by simp,?_⟩
  simp only [go_sem,Up,hw,ht]
  intro h1 h2
  refine ⟨by omega,by omega,λhN=>?_⟩
  generalize hNN:max x.length y.length+1=N at hN
  refine ka (λp:List Nat×Nat=>⟨mkV [(0,wsA x),(1,wsA y),(5,.one (.own 14 1 1 0 N)),(6,.one (.lit (.int .u64 p.2))),(16,.one (.lit (.int .i64 N))),(17,.one (.lit (.int .i64 p.1.length)))],mkH [(14,⟨1,some ⟨(p.1++List.replicate (N-p.1.length) 0).map wc,1,true⟩⟩)]⟩)
   (λp=>p.1.length<=N/\WL p.1/\p.2<=1/\val p.1+4294967296 ^ p.1.length*p.2=val (x.take p.1.length)+val (y.take p.1.length)) (λp=>N-p.1.length) ([],0) ?_ ?_ ?_
  .exact Qa (by simp [okS,okV,okC,okL,okH,okB,okE,Za,ja,za,Ja,wsA,ws]) (Wh (by simp))
  .simp [Yb,val]
  .rintro ⟨o,c⟩ ⟨hoN,ho,hc1,hval⟩
   simp only at hoN ho hc1 hval
   have hlen:(o++List.replicate (N-o.length) 0).length=N:=by simp;omega
   simp only [go_sem,hw,ht,hlen]
   refine ⟨λhlt=>⟨hx,hy,hlt,hlt,by omega,by omega,?_⟩,λhge=>?_⟩
   .have g1:=vb hx o.length
    have g2:=vb hy o.length
    rw [Nat.mod_eq_of_lt (show x.getD o.length 0+y.getD o.length 0<18446744073709551616 by omega),Nat.mod_eq_of_lt (show c+(x.getD o.length 0+y.getD o.length 0)<18446744073709551616 by omega)]
    generalize hs:c+(x.getD o.length 0+y.getD o.length 0)=s
    refine ⟨(o++[s % 4294967296],s / 4294967296),Qa (by simp [okS,okV,okC,okL,okH,okB,okE,Za,ja,za,Ja,wsA,ws]) (Wh ?_),⟨by simp;omega,Wd.2 ⟨ho,yb.2 ⟨Nat.mod_lt _ (by omega),Yb⟩⟩,by simp only;omega,?_⟩,by simp;omega⟩
    .rw [show N-o.length=N-(o.length+1)+1 by omega,V8];simp
    .simp only [List.length_append,List.length_cons,List.length_nil,Nat.zero_add,Vb,Wb,Jh,Wl,Nat.mul_zero,Nat.add_zero,Nat.pow_succ]
     rw [Nat.mul_assoc,Nat.add_assoc,<-Nat.mul_add,Nat.mod_add_div,<-hs,Nat.mul_add,<-Nat.add_assoc,hval,Nat.mul_add]
     omega
   .have e:o.length=N:=by omega
    simp only [e,Nat.sub_self,List.replicate_zero,List.append_nil,Nat.le_refl,if_true,jD]
    have hv:val o=val x+val y:=by
     rw [e,Xi (by omega),Xi (by omega)]at hval
     exact Wal hx hy (by omega) (by omega) (by omega) hval
    refine ⟨ho,by omega,?_⟩
    rw [hv];exact hK
end Go.Abs
end
section
namespace Go.Abs
open Go.Num
variable {P:Program} {Γ:Nat->Spec}
def Yp (f0 f1:Nat):AC:=(.seq (.ops false [.m 4 (.c (.one .emp))])
 (.fg [0,1] (.seq (.ops false [.m 9 (.t 0),.u 10 (.len (.t 9)),.u 11 (.mk 1 [(.lit (.int .u32 0))] (.t 10) (.t 10)),.m 5 (.t 11)])
 (.fg [0,1,5] (.seq (.ops false [.m 6 (.c (.one (.lit (.int .u64 0))))])
 (.fg [0,1,5,6] (.seq (.seq (.ops false [.m 12 (.t 5),.u 13 (.len (.t 12)),.m 14 (.i 0)])
 (.fg [0,1,5,6,13,14] (.block 0 (.loop (.seq (.ops false [.u 15 (.bin .lss (.t 14) (.t 13))])
 (.fg [0,1,5,6,13,14,15] (.seq (.cond (.t 15) .skip (.exit 0))
 (.fg [0,1,5,6,13,14] (.seq (.block 1 (.seq (.ops false [.m 16 (.t 14),.m 7 (.t 16)])
 (.fg [0,1,5,6,7,13,14] (.seq (.ops true [.m 17 (.t 0),.m 18 (.t 7),.u 19 (.idx 1 (.t 17) (.t 18)),.u 20 (.ld none 1 false (.t 19)),.u 21 (.conv .u64 (.t 20)),.m 22 (.t 1),.m 23 (.t 7),.u 24 (.call f0 [(.t 22),(.t 23)]),.u 25 (.bin .sub (.t 21) (.t 24)),.m 26 (.t 6),.u 27 (.bin .sub (.t 25) (.t 26)),.m 8 (.t 27)])
 (.fg [0,1,5,7,8,13,14] (.seq (.ops false [.m 28 (.t 5),.m 29 (.t 7),.m 30 (.t 8),.u 31 (.conv .u32 (.t 30)),.u 32 (.idx 1 (.t 28) (.t 29)),.n (.st none 1 (.t 32) (.t 31))])
 (.fg [0,1,5,8,13,14] (.ops false [.m 33 (.t 8),.u 34 (.bin .shr (.t 33) (.c (.one (.lit (.int .u64 63))))),.m 6 (.t 34)]))))))))
 (.fg [0,1,5,6,13,14] (.ops false [.u 35 (.bin .add (.t 14) (.i 1)),.m 14 (.t 35)])))))))))))
 (.fg [5] (.seq (.ops false [.m 36 (.t 5),.u 37 (.call f1 [(.t 36)]),.m 4 (.t 37)])
 .ret)))))))))
def Yk:AC:=(.seq (.ops false [.m 4 (.i 0)])
 (.fg [0,1] (.seq (.seq (.ops false [.m 6 (.t 0),.u 7 (.len (.t 6)),.m 8 (.t 1),.u 9 (.len (.t 8)),.u 10 (.bin .neq (.t 7) (.t 9))])
 (.fg [0,1,10] (.cond (.t 10) (.seq (.seq (.ops false [.m 11 (.t 0),.u 12 (.len (.t 11)),.m 13 (.t 1),.u 14 (.len (.t 13)),.u 15 (.bin .lss (.t 12) (.t 14))])
 (.fg [15] (.cond (.t 15) (.seq (.ops false [.m 4 (.i (-1))])
 .ret) .skip)))
 (.fg [] (.seq (.ops false [.m 4 (.i 1)])
 .ret))) .skip)))
 (.fg [0,1] (.seq (.seq (.ops false [.m 16 (.t 0),.u 17 (.len (.t 16)),.u 18 (.bin .sub (.t 17) (.i 1)),.m 5 (.t 18)])
 (.fg [0,1,5] (.block 0 (.loop (.seq (.seq (.ops false [.m 19 (.t 5),.u 20 (.bin .geq (.t 19) (.i 0))])
 (.fg [0,1,5,20] (.cond (.t 20) .skip (.exit 0))))
 (.fg [0,1,5] (.seq (.block 1 (.seq (.ops true [.m 23 (.t 0),.m 24 (.t 5),.u 25 (.idx 1 (.t 23) (.t 24)),.u 26 (.ld none 1 false (.t 25)),.m 27 (.t 1),.m 28 (.t 5),.u 29 (.idx 1 (.t 27) (.t 28)),.u 30 (.ld none 1 false (.t 29)),.u 31 (.bin .neq (.t 26) (.t 30))])
 (.fg [0,1,5,31] (.cond (.t 31) (.seq (.seq (.ops true [.m 32 (.t 0),.m 33 (.t 5),.u 34 (.idx 1 (.t 32) (.t 33)),.u 35 (.ld none 1 false (.t 34)),.m 36 (.t 1),.m 37 (.t 5),.u 38 (.idx 1 (.t 36) (.t 37)),.u 39 (.ld none 1 false (.t 38)),.u 40 (.bin .lss (.t 35) (.t 39))])
 (.fg [40] (.cond (.t 40) (.seq (.ops false [.m 4 (.i (-1))])
 .ret) .skip)))
 (.fg [] (.seq (.ops false [.m 4 (.i 1)])
 .ret))) .skip))))
 (.fg [0,1,5] (.ops false [.m 21 (.t 5),.u 22 (.bin .sub (.t 21) (.i 1)),.m 5 (.t 22)])))))))))
 (.fg [] (.seq (.ops false [.m 4 (.i 0)])
 .ret)))))))
def Vn (f0:Nat):AC:=(.seq (.ops false [.m 4 (.c (.one .emp)),.m 5 (.c (.one (.lit (.int .u32 0))))])
 (.fg [0,1] (.seq (.ops false [.m 9 (.t 0),.u 10 (.len (.t 9)),.u 11 (.mk 1 [(.lit (.int .u32 0))] (.t 10) (.t 10)),.m 6 (.t 11)])
 (.fg [0,1,6] (.seq (.ops false [.m 7 (.c (.one (.lit (.int .u64 0))))])
 (.fg [0,1,6,7] (.seq (.seq (.ops false [.m 12 (.t 0),.u 13 (.len (.t 12)),.u 14 (.bin .sub (.t 13) (.i 1)),.m 8 (.t 14)])
 (.fg [0,1,6,7,8] (.block 0 (.loop (.seq (.seq (.ops false [.m 15 (.t 8),.u 16 (.bin .geq (.t 15) (.i 0))])
 (.fg [0,1,6,7,8,16] (.cond (.t 16) .skip (.exit 0))))
 (.fg [0,1,6,7,8] (.seq (.block 1 (.seq (.ops false [.m 19 (.t 7),.u 20 (.bin .shl (.t 19) (.c (.one (.lit (.int .u64 32))))),.m 21 (.t 0),.m 22 (.t 8),.u 23 (.idx 1 (.t 21) (.t 22)),.u 24 (.ld none 1 false (.t 23)),.u 25 (.conv .u64 (.t 24)),.u 26 (.bin .or (.t 20) (.t 25)),.m 7 (.t 26)])
 (.fg [0,1,6,7,8] (.seq (.ops false [.m 27 (.t 6),.m 28 (.t 8),.m 29 (.t 7),.m 30 (.t 1),.u 31 (.conv .u64 (.t 30)),.u 32 (.bin .quo (.t 29) (.t 31)),.u 33 (.conv .u32 (.t 32)),.u 34 (.idx 1 (.t 27) (.t 28)),.n (.st none 1 (.t 34) (.t 33))])
 (.fg [0,1,6,7,8] (.ops false [.m 35 (.t 7),.m 36 (.t 1),.u 37 (.conv .u64 (.t 36)),.u 38 (.bin .rem (.t 35) (.t 37)),.m 7 (.t 38)]))))))
 (.fg [0,1,6,7,8] (.ops false [.m 17 (.t 8),.u 18 (.bin .sub (.t 17) (.i 1)),.m 8 (.t 18)])))))))))
 (.fg [6,7] (.seq (.ops false [.m 39 (.t 6),.u 40 (.call f0 [(.t 39)]),.m 41 (.t 7),.u 42 (.conv .u32 (.t 41)),.m 4 (.t 40),.m 5 (.t 42)])
 .ret)))))))))
theorem xaz (hΓ:Holds P Γ) {f fw ft:Nat} (hw:Γ fw=.dat true Wj) (ht:Γ ft=.dat false Zr) (hc:check P f=some (38,(Yp fw ft).strip,[.tmp 4])):Sound P f (.dat false vr):=by
 refine va hc JW hΓ (λargs K hcl hfi hG=>?_)
 match args,hG with
 | [a,b],hG=>
  obtain ⟨x,rfl,hx,y,rfl,hy,hxl,hle,hK⟩:=hG
  refine ⟨by simp,?_⟩
  simp only [go_sem,Yp,hw,ht]
  intro h1
  refine ⟨by omega,λ_=>?_⟩
  generalize hN:x.length=N at h1 hxl
  refine ka (λp:List Nat×Nat=>⟨mkV [(0,wsA x),(1,wsA y),(5,.one (.own 11 1 1 0 N)),(6,.one (.lit (.int .u64 p.2))),(13,.one (.lit (.int .i64 N))),(14,.one (.lit (.int .i64 p.1.length)))],mkH [(11,⟨1,some ⟨(p.1++List.replicate (N-p.1.length) 0).map wc,1,true⟩⟩)]⟩)
   (λp=>p.1.length<=N/\WL p.1/\p.2<=1/\val p.1+val (y.take p.1.length)=val (x.take p.1.length)+4294967296 ^ p.1.length*p.2) (λp=>N-p.1.length) ([],0) ?_ ?_ ?_
  .exact Qa (by simp [okS,okV,okC,okL,okH,okB,okE,Za,ja,za,Ja,wsA,ws]) (Wh (by simp))
  .simp [Yb,val]
  .rintro ⟨o,c⟩ ⟨hoN,ho,hc1,hval⟩
   simp only at hoN ho hc1 hval
   have hlen:(o++List.replicate (N-o.length) 0).length=N:=by simp;omega
   simp only [go_sem,hw,ht,hlen]
   refine ⟨λhlt=>⟨by omega,hy,hlt,hlt,by omega,by omega,?_⟩,λhge=>?_⟩
   .have g1:=vb hx o.length
    have g2:=vb hy o.length
    rw [Nat.mod_eq_of_lt (show x.getD o.length 0<18446744073709551616 by omega)]
    obtain ⟨s1,s2⟩:=uap g1 g2 hc1
    generalize sub64 (sub64 (x.getD o.length 0) (y.getD o.length 0)) c=s at s1 s2
    refine ⟨(o++[s % 4294967296],s / 9223372036854775808),Qa (by simp [okS,okV,okC,okL,okH,okB,okE,Za,ja,za,Ja,wsA,ws]) (Wh ?_),⟨by simp;omega,Wd.2 ⟨ho,yb.2 ⟨Nat.mod_lt _ (by omega),Yb⟩⟩,s2,?_⟩,by simp;omega⟩
    .rw [show N-o.length=N-(o.length+1)+1 by omega,V8];simp
    .simp only [List.length_append,List.length_cons,List.length_nil,Nat.zero_add,Vb,Wb,Jh,Wl,Nat.mul_zero,Nat.add_zero,Nat.pow_succ]
     exact YD hval s1
   .have e:o.length=N:=by omega
    have hv:=XD ho hx (by omega) hle hval
    simp only [e,Nat.sub_self,List.replicate_zero,List.append_nil]
    refine ⟨ho,by omega,?_⟩
    rw [hv];exact hK
theorem ZR (hΓ:Holds P Γ) {f:Nat} (hc:check P f=some (41,Yk.strip,[.tmp 4])):Sound P f (.dat false Vg):=by
 refine va hc J5 hΓ (λargs K hcl hfi hG=>?_)
 match args,hG with
 | [a,b],hG=>
  obtain ⟨x,rfl,hx,y,rfl,hy,hzx,hzy,hK⟩:=hG
  refine ⟨by simp,?_⟩
  simp only [go_sem,Yk]
  intro h1 h2
  refine ⟨λhl _=>⟨by omega,?_⟩,λhne _ _=>⟨λhlt=>?_,λhge=>?_⟩⟩
  rotate_left
  .rw [XS (VF hx hzy hlt)]at hK;exact hK
  .rw [jad (VF hy hzx (by omega))]at hK;exact hK
  refine ka (λn:Nat=>⟨mkV [(0,wsA x),(1,wsA y),(5,.one (.lit (.int .i64 ((n:Int)-1))))],mkH []⟩) (λn=>n<=x.length/\x.drop n=y.drop n) id x.length ?_ ?_ ?_
  .exact Qa (by simp [okS,okV,okC,okL,okH,okB,okE,Za,ja,za,Ja,wsA,ws]) trivial
  .simp [hl]
  .rintro n ⟨hn,hd⟩
   simp only [go_sem]
   refine ⟨λh=>⟨by omega,by omega,by omega,by omega,λhe=>⟨by omega,n-1,Qa (by simp [okS,okV,okC,okL,okH,okB,okE,Za,ja,za,Ja,wsA,ws];omega) trivial,⟨by omega,?_⟩,by simp only [id];omega⟩,λhne=>?_⟩,λh=>?_⟩
   .rw [show ((n:Int)-1).toNat=n-1 by omega]at he
    rw [List.getD_eq_getElem?_getD,List.getD_eq_getElem?_getD,List.getElem?_eq_getElem (by omega),List.getElem?_eq_getElem (by omega)]at he
    have e1:=List.getElem_cons_drop (as:=x) (i:=n-1) (by omega)
    have e2:=List.getElem_cons_drop (as:=y) (i:=n-1) (by omega)
    rw [show n-1+1=n by omega]at e1 e2
    rw [<-e1,<-e2,hd]
    simp only [Option.getD_some]at he
    rw [he]
   .rw [show ((n:Int)-1).toNat=n-1 by omega]at hne ⊢
    refine ⟨by omega,by omega,by omega,by omega,λhlt=>?_,λhge=>?_⟩
    .rw [XS (Qba (i:=n-1) hx hl (by omega) (by rw [show n-1+1=n by omega];exact hd) hlt)]at hK;exact hK
    .rw [jad (Qba (i:=n-1) hy hl.symm (by omega) (by rw [show n-1+1=n by omega];exact hd.symm) (by omega))]at hK;exact hK
   .have:n=0:=by omega
    subst this
    simp only [List.drop_zero]at hd
    rw [hd,YaV]at hK;exact hK
theorem wac (hΓ:Holds P Γ) {f ft:Nat} (ht:Γ ft=.dat false Zr) (hc:check P f=some (43,(Vn ft).strip,[.tmp 4,.tmp 5])):Sound P f (.dat false Ys):=by
 refine va hc uav hΓ (λargs K hcl hfi hG=>?_)
 match args,hG with
 | [a,b],hG=>
  obtain ⟨x,rfl,hx,hG⟩:=hG
  obtain ⟨k,m,rfl,rfl,hm,hmB,hxl,hK⟩:=Ua hG
  obtain ⟨m,rfl⟩:∃n:Nat,m=n:=⟨m.toNat,by omega⟩
  simp only [Int.toNat_natCast]at hK
  refine ⟨by simp,?_⟩
  simp only [go_sem,Vn,ht]
  intro h1
  refine ⟨hxl,λ_=>⟨by omega,?_⟩⟩
  refine ka (λp:List Nat×Nat=>⟨mkV [(0,wsA x),(1,.one (.lit (.int .u32 m))),(6,.one (.own 11 1 1 0 x.length)),(7,.one (.lit (.int .u64 p.2))),(8,.one (.lit (.int .i64 ((x.length:Int)-p.1.length-1))))],mkH [(11,⟨1,some ⟨(List.replicate (x.length-p.1.length) 0++p.1).map wc,1,true⟩⟩)]⟩)
   (λp=>p.1.length<=x.length/\WL p.1/\p.2<m/\val p.1*m+p.2=val (x.drop (x.length-p.1.length))) (λp=>x.length-p.1.length) ([],0) ?_ ?_ ?_
  .exact Qa (by simp [okS,okV,okC,okL,okH,okB,okE,Za,ja,za,Ja,wsA,ws]) (Wh (by simp))
  .simp [Yb,val];omega
  .rintro ⟨q,r⟩ ⟨hq,hqw,hr,hval⟩
   simp only at hq hqw hr hval
   have hlen:(List.replicate (x.length-q.length) 0++q).length=x.length:=by simp;omega
   simp only [go_sem,ht,hlen]
   refine ⟨λh=>?_,λh=>?_⟩
   .obtain ⟨n,hn⟩:∃n,n=x.length-q.length:=⟨_,rfl⟩
    have hn0:0<n:=by omega
    have hi:((x.length:Int)-q.length-1).toNat=n-1:=by omega
    have g1:=vb hx (n-1)
    have hd:=ZF x hn0 (by omega)
    obtain ⟨s1,s2⟩:=Xa1 (by omega) hr g1
    have s3:=WaV (B:=4294967296) (a:=x.getD (n-1) 0) (by omega) (hn▸hval)
    have e1:r*4294967296 % 18446744073709551616=r*4294967296:=by omega
    have e2:x.getD (n-1) 0 % 18446744073709551616=x.getD (n-1) 0:=by omega
    have e3:m % 18446744073709551616=m:=by omega
    rw [hi,<-hn,e1,e2,e3,or32 _ _ g1]
    generalize hs:r*4294967296+x.getD (n-1) 0=s at s1 s2 s3
    rw [Nat.mod_eq_of_lt (show s / m<18446744073709551616 by omega),Nat.mod_eq_of_lt s1]
    have hm0:s % m<m:=Nat.mod_lt _ (by omega)
    refine ⟨⟨rfl,by omega⟩,by omega,by omega,⟨rfl,by omega,by omega⟩,by omega,⟨by omega,by omega⟩,by omega,by omega,by omega,(s / m::q,s % m),Qa (by simp [okS,okV,okC,okL,okH,okB,okE,Za,ja,za,Ja,wsA,ws];omega) (Wh ?_),⟨by simp;omega,yb.2 ⟨s1,hqw⟩,hm0,?_⟩,by simp;omega⟩
    .simp only [List.length_cons]
     rw [Jq q _ hn0,show x.length-(q.length+1)=n-1 by omega]
    .rw [Jh,List.length_cons,show x.length-(q.length+1)=n-1 by omega,hd];exact s3
   .have e:x.length-q.length=0:=by omega
    simp only [e,List.replicate_zero,List.nil_append,List.drop_zero]at hval ⊢
    have h1:=Nat.div_mod_unique (show 0<m by omega) (a:=val x) (c:=r) (d:=val q)
    obtain ⟨h2,h3⟩:=h1.2 ⟨by rw [<-hval,Nat.mul_comm m,Nat.add_comm],hr⟩
    rw [h2,h3]at hK
    refine ⟨hqw,by omega,?_⟩
    rw [Nat.mod_eq_of_lt (by omega)];exact hK
end Go.Abs
end
section
namespace Go.Abs
open Go.Num
variable {P:Program} {Γ:Nat->Spec}
def Xv:AC:=(.seq (.ops false [.m 4 (.c (.one .emp))])
 (.fg [0,1] (.seq (.ops false [.m 9 (.t 0),.u 10 (.len (.t 9)),.u 11 (.bin .add (.t 10) (.i 1)),.u 12 (.mk 1 [(.lit (.int .u32 0))] (.t 11) (.t 11)),.m 5 (.t 12)])
 (.fg [0,1,5] (.seq (.seq (.ops false [.m 13 (.t 0),.u 14 (.len (.t 13)),.m 15 (.i 0)])
 (.fg [1,5,13,14,15] (.block 0 (.loop (.seq (.ops false [.u 16 (.bin .lss (.t 15) (.t 14))])
 (.fg [1,5,13,14,15,16] (.seq (.cond (.t 16) .skip (.exit 0))
 (.fg [1,5,13,14,15] (.seq (.block 1 (.seq (.ops false [.m 17 (.t 15),.u 18 (.idx 1 (.t 13) (.t 15)),.u 19 (.ld none 1 false (.t 18)),.m 6 (.t 17),.m 7 (.t 19)])
 (.fg [1,5,6,7,13,14,15] (.seq (.ops false [.m 20 (.t 7),.u 21 (.conv .u64 (.t 20)),.m 22 (.t 1),.u 23 (.bin .shl (.t 21) (.t 22)),.m 8 (.t 23)])
 (.fg [1,5,6,8,13,14,15] (.seq (.ops false [.m 24 (.t 5),.m 25 (.t 6),.u 26 (.idx 1 (.t 24) (.t 25)),.u 27 (.ld none 1 false (.t 26)),.m 28 (.t 8),.u 29 (.conv .u32 (.t 28)),.u 30 (.bin .or (.t 27) (.t 29)),.u 31 (.idx 1 (.t 24) (.t 25)),.n (.st none 1 (.t 31) (.t 30))])
 (.fg [1,5,6,8,13,14,15] (.ops false [.m 32 (.t 5),.m 33 (.t 6),.u 34 (.bin .add (.t 33) (.i 1)),.m 35 (.t 8),.u 36 (.bin .shr (.t 35) (.c (.one (.lit (.int .u64 32))))),.u 37 (.conv .u32 (.t 36)),.u 38 (.idx 1 (.t 32) (.t 34)),.n (.st none 1 (.t 38) (.t 37))]))))))))
 (.fg [1,5,13,14,15] (.ops false [.u 39 (.bin .add (.t 15) (.i 1)),.m 15 (.t 39)])))))))))))
 (.fg [5] (.seq (.ops false [.m 40 (.t 5),.m 4 (.t 40)])
 .ret)))))))
def Xp (f0 f1:Nat):AC:=(.seq (.ops false [.m 4 (.c (.one .emp))])
 (.fg [0,1] (.seq (.ops false [.m 7 (.t 0),.u 8 (.len (.t 7)),.u 9 (.mk 1 [(.lit (.int .u32 0))] (.t 8) (.t 8)),.m 5 (.t 9)])
 (.fg [0,1,5] (.seq (.seq (.ops false [.m 10 (.t 0),.u 11 (.len (.t 10)),.m 12 (.i 0)])
 (.fg [0,1,5,11,12] (.block 0 (.loop (.seq (.ops false [.u 13 (.bin .lss (.t 12) (.t 11))])
 (.fg [0,1,5,11,12,13] (.seq (.cond (.t 13) .skip (.exit 0))
 (.fg [0,1,5,11,12] (.seq (.block 1 (.seq (.ops false [.m 14 (.t 12),.m 6 (.t 14)])
 (.fg [0,1,5,6,11,12] (.ops true [.m 15 (.t 5),.m 16 (.t 6),.m 17 (.t 0),.m 18 (.t 6),.u 19 (.idx 1 (.t 17) (.t 18)),.u 20 (.ld none 1 false (.t 19)),.u 21 (.conv .u64 (.t 20)),.m 22 (.t 0),.m 23 (.t 6),.u 24 (.bin .add (.t 23) (.i 1)),.u 25 (.call f0 [(.t 22),(.t 24)]),.u 26 (.bin .shl (.t 25) (.c (.one (.lit (.int .u64 32))))),.u 27 (.bin .or (.t 21) (.t 26)),.m 28 (.t 1),.u 29 (.bin .shr (.t 27) (.t 28)),.u 30 (.conv .u32 (.t 29)),.u 31 (.idx 1 (.t 15) (.t 16)),.n (.st none 1 (.t 31) (.t 30))]))))
 (.fg [0,1,5,11,12] (.ops false [.u 32 (.bin .add (.t 12) (.i 1)),.m 12 (.t 32)])))))))))))
 (.fg [5] (.seq (.ops false [.m 33 (.t 5),.u 34 (.call f1 [(.t 33)]),.m 4 (.t 34)])
 .ret)))))))
def Ym (f0:Nat):AC:=(.seq (.ops false [.m 4 (.c (.one .emp))])
 (.fg [0,1] (.seq (.ops false [.m 11 (.t 0),.u 12 (.len (.t 11)),.m 13 (.t 1),.u 14 (.len (.t 13)),.u 15 (.bin .add (.t 12) (.t 14)),.u 16 (.mk 1 [(.lit (.int .u32 0))] (.t 15) (.t 15)),.m 5 (.t 16)])
 (.fg [0,1,5] (.seq (.seq (.ops false [.m 17 (.t 0),.u 18 (.len (.t 17)),.m 19 (.i 0)])
 (.fg [1,5,17,18,19] (.block 0 (.loop (.seq (.ops false [.u 20 (.bin .lss (.t 19) (.t 18))])
 (.fg [1,5,17,18,19,20] (.seq (.cond (.t 20) .skip (.exit 0))
 (.fg [1,5,17,18,19] (.seq (.block 1 (.seq (.ops false [.m 21 (.t 19),.u 22 (.idx 1 (.t 17) (.t 19)),.u 23 (.ld none 1 false (.t 22)),.m 6 (.t 21),.m 7 (.t 23)])
 (.fg [1,5,6,7,17,18,19] (.seq (.ops false [.m 8 (.c (.one (.lit (.int .u64 0))))])
 (.fg [1,5,6,7,8,17,18,19] (.seq (.seq (.ops false [.m 24 (.t 1),.u 25 (.len (.t 24)),.m 26 (.i 0)])
 (.fg [1,5,6,7,8,17,18,19,24,25,26] (.block 2 (.loop (.seq (.ops false [.u 27 (.bin .lss (.t 26) (.t 25))])
 (.fg [1,5,6,7,8,17,18,19,24,25,26,27] (.seq (.cond (.t 27) .skip (.exit 2))
 (.fg [1,5,6,7,8,17,18,19,24,25,26] (.seq (.block 3 (.seq (.ops false [.m 28 (.t 26),.u 29 (.idx 1 (.t 24) (.t 26)),.u 30 (.ld none 1 false (.t 29)),.m 9 (.t 28),.m 10 (.t 30)])
 (.fg [1,5,6,7,8,9,10,17,18,19,24,25,26] (.seq (.ops false [.m 31 (.t 8),.m 32 (.t 7),.u 33 (.conv .u64 (.t 32)),.m 34 (.t 10),.u 35 (.conv .u64 (.t 34)),.u 36 (.bin .mul (.t 33) (.t 35)),.m 37 (.t 5),.m 38 (.t 6),.m 39 (.t 9),.u 40 (.bin .add (.t 38) (.t 39)),.u 41 (.idx 1 (.t 37) (.t 40)),.u 42 (.ld none 1 false (.t 41)),.u 43 (.conv .u64 (.t 42)),.u 44 (.bin .add (.t 36) (.t 43)),.u 45 (.bin .add (.t 31) (.t 44)),.m 8 (.t 45)])
 (.fg [1,5,6,7,8,9,17,18,19,24,25,26] (.seq (.ops false [.m 46 (.t 5),.m 47 (.t 6),.m 48 (.t 9),.u 49 (.bin .add (.t 47) (.t 48)),.m 50 (.t 8),.u 51 (.conv .u32 (.t 50)),.u 52 (.idx 1 (.t 46) (.t 49)),.n (.st none 1 (.t 52) (.t 51))])
 (.fg [1,5,6,7,8,17,18,19,24,25,26] (.ops false [.m 53 (.t 8),.u 54 (.bin .shr (.t 53) (.c (.one (.lit (.int .u64 32))))),.m 8 (.t 54)]))))))))
 (.fg [1,5,6,7,8,17,18,19,24,25,26] (.ops false [.u 55 (.bin .add (.t 26) (.i 1)),.m 26 (.t 55)])))))))))))
 (.fg [1,5,6,8,17,18,19] (.ops false [.m 56 (.t 5),.m 57 (.t 6),.m 58 (.t 1),.u 59 (.len (.t 58)),.u 60 (.bin .add (.t 57) (.t 59)),.m 61 (.t 8),.u 62 (.conv .u32 (.t 61)),.u 63 (.idx 1 (.t 56) (.t 60)),.n (.st none 1 (.t 63) (.t 62))]))))))))
 (.fg [1,5,17,18,19] (.ops false [.u 64 (.bin .add (.t 19) (.i 1)),.m 19 (.t 64)])))))))))))
 (.fg [5] (.seq (.ops false [.m 65 (.t 5),.u 66 (.call f0 [(.t 65)]),.m 4 (.t 66)])
 .ret)))))))
theorem Va0 (hΓ:Holds P Γ) {f:Nat} (hc:check P f=some (41,Xv.strip,[.tmp 4])):Sound P f (.fresh 1 up_G):=by
 refine qq hc Ybf hΓ (λargs K hcl hfi hG=>?_)
 match args,hG with
 | [a,b],hG=>
  obtain ⟨x,rfl,hx,hG⟩:=hG
  obtain ⟨k,m,rfl,rfl,hm,hmB,hxl,hK⟩:=Ua hG
  obtain ⟨m,rfl⟩:∃n:Nat,m=n:=⟨m.toNat,by omega⟩
  simp only [Int.toNat_natCast]at hK
  refine ⟨by simp,?_⟩
  simp only [go_sem,Xv]
  intro h1
  refine ⟨by omega,by omega,λ_=>?_⟩
  refine ka (λp:List Nat×Nat=>⟨mkV [(1,.one (.lit (.int .i64 m))),(5,.one (.own 12 1 1 0 (x.length+1))),(13,wsA x),(14,.one (.lit (.int .i64 x.length))),(15,.one (.lit (.int .i64 p.1.length)))],mkH [(12,⟨1,some ⟨(p.1++p.2::List.replicate (x.length-p.1.length) 0).map wc,1,true⟩⟩)]⟩)
   (λp=>p.1.length<=x.length/\WL p.1/\p.2<2 ^ m/\val p.1+4294967296 ^ p.1.length*p.2=val (x.take p.1.length)*2 ^ m) (λp=>x.length-p.1.length) ([],0) ?_ ?_ ?_
  .exact Qa (by simp [okS,okV,okC,okL,okH,okB,okE,Za,ja,za,Ja,wsA,ws]) (Wh (by simp [List.replicate_succ]))
  .simp [Yb,val];exact Nat.pow_pos (by omega)
  .rintro ⟨o,c⟩ ⟨hoN,ho,hc1,hval⟩
   simp only at hoN ho hc1 hval
   have hlen:(o++c::List.replicate (x.length-o.length) 0).length=x.length+1:=by simp;omega
   simp only [go_sem,hlen,List.length_set]
   refine ⟨λhlt=>?_,λhge=>?_⟩
   .have g1:=vb hx o.length
    obtain ⟨s1,s2,s3,s4⟩:=ybh (by omega) hc1 g1
    have e1:x.getD o.length 0 % 18446744073709551616=x.getD o.length 0:=by omega
    have hp:=YQ (show m<32 by omega)
    rw [ybu,e1,Nat.mod_eq_of_lt s1,s2,jbz]
    generalize hy:x.getD o.length 0*2 ^ m=y at s1 s2 s3 s4
    rw [Nat.mod_eq_of_lt (show y / 4294967296<4294967296 by omega)]
    refine ⟨hlt,⟨rfl,by omega⟩,by omega,by omega,⟨rfl,by omega,by omega⟩,by omega,by omega,by omega,by omega,by omega,by omega,by omega,(o++[y % 4294967296+c],y / 4294967296),Qa (by simp [okS,okV,okC,okL,okH,okB,okE,Za,ja,za,Ja,wsA,ws]) (Wh ?_),⟨by simp;omega,Wd.2 ⟨ho,yb.2 ⟨s3,Yb⟩⟩,s4,?_⟩,by simp;omega⟩
    .rw [show x.length-o.length=(x.length-(o.length+1))+1 by omega,List.replicate_succ,kbf];simp
    .simp only [List.length_append,List.length_cons,List.length_nil,Nat.zero_add,Vb,Wb,Jh,Wl,Nat.mul_zero,Nat.add_zero,Nat.pow_succ]
     rw [ubv (B:=4294967296) (x:=y) hval rfl,Nat.add_mul,<-hy,Nat.mul_assoc]
   .have e:o.length=x.length:=by omega
    have hcB:c<4294967296:=by have:=YQ (show m<32 by omega);omega
    rw [e,Xi (Nat.le_refl _)]at hval
    simp only [e,Nat.sub_self,List.replicate_zero]
    have hw:WL (o++[c]):=Wd.2 ⟨ho,yb.2 ⟨hcB,Yb⟩⟩
    have hv:val (o++[c])=val x*2 ^ m:=by rw [Wb,e];simpa [val] using hval
    have:=xy hw
    rw [hv,List.length_append,List.length_singleton,e]at this
    rw [<-this];exact hK
theorem ZaA (hΓ:Holds P Γ) {f fw ft:Nat} (hw:Γ fw=.dat true Wj) (ht:Γ ft=.dat false Zr) (hc:check P f=some (35,(Xp fw ft).strip,[.tmp 4])):Sound P f (.dat false xB):=by
 refine va hc kaR hΓ (λargs K hcl hfi hG=>?_)
 match args,hG with
 | [a,b],hG=>
  obtain ⟨x,rfl,hx,hG⟩:=hG
  obtain ⟨k,m,rfl,rfl,hm,hmB,hxl,hK⟩:=Ua hG
  obtain ⟨m,rfl⟩:∃n:Nat,m=n:=⟨m.toNat,by omega⟩
  simp only [Int.toNat_natCast]at hK
  refine ⟨by simp,?_⟩
  simp only [go_sem,Xp,hw,ht]
  intro h1
  refine ⟨by omega,λ_=>?_⟩
  refine ka (λo:List Nat=>⟨mkV [(0,wsA x),(1,.one (.lit (.int .i64 m))),(5,.one (.own 9 1 1 0 x.length)),(11,.one (.lit (.int .i64 x.length))),(12,.one (.lit (.int .i64 o.length)))],mkH [(9,⟨1,some ⟨(o++List.replicate (x.length-o.length) 0).map wc,1,true⟩⟩)]⟩)
   (λo=>o.length<=x.length/\WL o/\val o=val x / 2 ^ m % 4294967296 ^ o.length) (λo=>x.length-o.length) [] ?_ ?_ ?_
  .exact Qa (by simp [okS,okV,okC,okL,okH,okB,okE,Za,ja,za,Ja,wsA,ws]) (Wh (by simp))
  .simp [Yb,val,Nat.mod_one]
  .rintro o ⟨hoN,ho,hval⟩
   have hlen:(o++List.replicate (x.length-o.length) 0).length=x.length:=by simp;omega
   simp only [go_sem,hw,ht,hlen]
   refine ⟨λhlt=>⟨hlt,by omega,hx,⟨rfl,by omega⟩,⟨rfl,by omega,by omega⟩,by omega,hlt,hlt,by omega,?_⟩,λhge=>?_⟩
   .have g1:=vb hx o.length
    have g2:=vb hx (o.length+1)
    have e1:x.getD o.length 0 % 18446744073709551616=x.getD o.length 0:=by omega
    have e2:x.getD (o.length+1) 0*4294967296 % 18446744073709551616=x.getD (o.length+1) 0*4294967296:=by omega
    rw [e1,e2,or32' _ _ g1,show x.getD (o.length+1) 0*4294967296+x.getD o.length 0=x.getD o.length 0+4294967296*x.getD (o.length+1) 0 by omega,U0 hx (by omega)]
    generalize hv:val x / 2 ^ m / 4294967296 ^ o.length % 4294967296=v
    have hvB:v<4294967296:=by rw [<-hv];exact Nat.mod_lt _ (by omega)
    refine ⟨o++[v],Qa (by simp [okS,okV,okC,okL,okH,okB,okE,Za,ja,za,Ja,wsA,ws]) (Wh ?_),⟨by simp;omega,Wd.2 ⟨ho,yb.2 ⟨hvB,Yb⟩⟩,?_⟩,by simp;omega⟩
    .rw [show x.length-o.length=x.length-(o.length+1)+1 by omega,V8];simp
    .rw [Wb,List.length_append,List.length_singleton,kD,hv,<-hval];simp [val]
   .have e:o.length=x.length:=by omega
    have hlt:val x / 2 ^ m<4294967296 ^ x.length:=Nat.lt_of_le_of_lt (Nat.div_le_self _ _) (uk hx)
    rw [e,Nat.mod_eq_of_lt hlt]at hval
    simp only [e,Nat.sub_self,List.replicate_zero,List.append_nil]
    refine ⟨ho,by omega,?_⟩
    rw [hval];exact hK
theorem Vac (hΓ:Holds P Γ) {f ft:Nat} (ht:Γ ft=.dat false Zr) (hc:check P f=some (67,(Ym ft).strip,[.tmp 4])):Sound P f (.dat false xu):=by
 refine va hc vay hΓ (λargs K hcl hfi hG=>?_)
 match args,hG with
 | [a,b],hG=>
  obtain ⟨x,rfl,hx,y,rfl,hy,hxl,hyl,hK⟩:=hG
  refine ⟨by simp,?_⟩
  simp only [go_sem,Ym,ht]
  intro h1 h2
  refine ⟨by omega,by omega,λ_=>?_⟩
  generalize hN:x.length+y.length=N
  refine ka (λp:Nat×List Nat=>⟨mkV [(1,wsA y),(5,.one (.own 16 1 1 0 N)),(17,wsA x),(18,.one (.lit (.int .i64 x.length))),(19,.one (.lit (.int .i64 p.1)))],mkH [(16,⟨1,some ⟨p.2.map wc,1,true⟩⟩)]⟩)
   (λp=>p.1<=x.length/\WL p.2/\p.2.length=N/\val p.2=val (x.take p.1)*val y/\∀j,p.1+y.length<=j->p.2.getD j 0=0) (λp=>x.length-p.1) (0,List.replicate N 0) ?_ ?_ ?_
  .exact Qa (by simp [okS,okV,okC,okL,okH,okB,okE,Za,ja,za,Ja,wsA,ws]) (Wh (by simp))
  .simp [Va5,val,Xaf];intro j _;rw [List.getElem?_replicate];split <;> rfl
  .rintro ⟨i,o⟩ ⟨hi,ho,hoN,hval,hz⟩
   simp only at hi ho hoN hval hz
   simp only [go_sem,ht,hoN]
   refine ⟨λhlt=>⟨hlt,λ_=>?_⟩,λhge=>?_⟩
   .have g1:=vb hx i
    refine ka (λp:Nat×Nat×List Nat=>⟨mkV [(1,wsA y),(5,.one (.own 16 1 1 0 N)),(6,.one (.lit (.int .i64 i))),(7,.one (.lit (.int .u32 (x.getD i 0:Nat)))),(8,.one (.lit (.int .u64 p.2.1))),(17,wsA x),(18,.one (.lit (.int .i64 x.length))),(19,.one (.lit (.int .i64 i))),(24,wsA y),(25,.one (.lit (.int .i64 y.length))),(26,.one (.lit (.int .i64 p.1)))],mkH [(16,⟨1,some ⟨p.2.2.map wc,1,true⟩⟩)]⟩)
     (λp=>p.1<=y.length/\p.2.1<4294967296/\WL p.2.2/\p.2.2.length=N/\val p.2.2+4294967296 ^ i*4294967296 ^ p.1*p.2.1=val (x.take i)*val y+4294967296 ^ i*x.getD i 0*val (y.take p.1)/\∀j,i+y.length<=j->p.2.2.getD j 0=0) (λp=>y.length-p.1) (0,0,o) ?_ ?_ ?_
    .exact Qa (by simp [okS,okV,okC,okL,okH,okB,okE,Za,ja,za,Ja,wsA,ws]) (Wh rfl)
    .exact ⟨Nat.zero_le _,by simp,ho,hoN,by simp [val,hval],hz⟩
    .rintro ⟨k,c,o⟩ ⟨hk,hc,ho,hoN,hval,hz⟩
     simp only at hk hc ho hoN hval hz
     simp only [go_sem,ht,hoN]
     refine ⟨λhlt2=>?_,λhge2=>?_⟩
     .have g2:=vb hy k
      have g3:=vb ho (i+k)
      have s1:=Zam g1 g2 hc g3
      have e1:x.getD i 0 % 18446744073709551616=x.getD i 0:=by omega
      have e2:y.getD k 0 % 18446744073709551616=y.getD k 0:=by omega
      have e3:o.getD (i+k) 0 % 18446744073709551616=o.getD (i+k) 0:=by omega
      have hstep:=jaz hval (by omega) rfl
      rw [e1,e2,e3,Nat.mod_eq_of_lt (show x.getD i 0*y.getD k 0<18446744073709551616 by omega),Nat.mod_eq_of_lt (show x.getD i 0*y.getD k 0+o.getD (i+k) 0<18446744073709551616 by omega),Nat.mod_eq_of_lt s1]
      generalize hs:c+(x.getD i 0*y.getD k 0+o.getD (i+k) 0)=s at s1 hstep
      refine ⟨hlt2,by omega,by omega,by omega,by omega,by omega,by omega,by omega,by omega,(k+1,s / 4294967296,o.set (i+k) (s % 4294967296)),Qa (by simp [okS,okV,okC,okL,okH,okB,okE,Za,ja,za,Ja,wsA,ws]) (Wh rfl),⟨by simp only;omega,by simp only;omega,qaJ ho _ (Nat.mod_lt _ (by omega)),by simp [hoN],hstep,?_⟩,by simp only;omega⟩
      intro j hj
      simp only
      rw [Num.getD_set_ne (by omega)];exact hz j hj
     .have e:k=y.length:=by omega
      subst e
      have hend:=xaI hval (by omega) (hz _ (Nat.le_refl _))
      rw [Nat.mod_eq_of_lt hc]
      refine λ_=>⟨by omega,by omega,by omega,by omega,(i+1,o.set (i+y.length) c),Qa (by simp [okS,okV,okC,okL,okH,okB,okE,Za,ja,za,Ja,wsA,ws]) (Wh rfl),⟨by simp only;omega,qaJ ho _ hc,by simp [hoN],hend,?_⟩,by simp only;omega⟩
      intro j hj
      simp only at hj ⊢
      rw [Num.getD_set_ne (by omega)];exact hz j (by omega)
   .have e:i=x.length:=by omega
    subst e
    rw [Xi (Nat.le_refl _)]at hval
    refine ⟨ho,by omega,?_⟩
    rw [hval];exact hK
end Go.Abs
end
section
namespace Go.Abs
open Go.Num
variable {P:Program} {Γ:Nat->Spec}
def vl (f0:Nat):AC:=(.seq (.ops false [.m 6 .fa])
 (.fg [0,1,2] (.seq (.ops false [.m 7 (.c (.one (.lit (.int .u64 0)))),.m 8 (.c (.one (.lit (.int .u64 0))))])
 (.fg [0,1,2,7,8] (.seq (.seq (.ops false [.m 11 (.t 0),.u 12 (.len (.t 11)),.m 13 (.i 0)])
 (.fg [0,1,2,7,8,12,13] (.block 0 (.loop (.seq (.ops false [.u 14 (.bin .lss (.t 13) (.t 12))])
 (.fg [0,1,2,7,8,12,13,14] (.seq (.cond (.t 14) .skip (.exit 0))
 (.fg [0,1,2,7,8,12,13] (.seq (.block 1 (.seq (.ops false [.m 15 (.t 13),.m 9 (.t 15)])
 (.fg [0,1,2,7,8,9,12,13] (.seq (.ops false [.m 16 (.t 7),.m 17 (.t 2),.m 18 (.t 1),.m 19 (.t 9),.u 20 (.call f0 [(.t 18),(.t 19)]),.u 21 (.bin .mul (.t 17) (.t 20)),.u 22 (.bin .add (.t 16) (.t 21)),.m 7 (.t 22)])
 (.fg [0,1,2,7,8,9,12,13] (.seq (.ops false [.m 23 (.t 0),.m 24 (.t 9),.u 25 (.idx 1 (.t 23) (.t 24)),.u 26 (.ld none 1 false (.t 25)),.u 27 (.conv .u64 (.t 26)),.m 28 (.t 7),.u 29 (.conv .u32 (.t 28)),.u 30 (.conv .u64 (.t 29)),.u 31 (.bin .sub (.t 27) (.t 30)),.m 32 (.t 8),.u 33 (.bin .sub (.t 31) (.t 32)),.m 10 (.t 33)])
 (.fg [0,1,2,7,9,10,12,13] (.seq (.ops false [.m 34 (.t 0),.m 35 (.t 9),.m 36 (.t 10),.u 37 (.conv .u32 (.t 36)),.u 38 (.idx 1 (.t 34) (.t 35)),.n (.st none 1 (.t 38) (.t 37))])
 (.fg [0,1,2,7,10,12,13] (.seq (.ops false [.m 39 (.t 10),.u 40 (.bin .shr (.t 39) (.c (.one (.lit (.int .u64 63))))),.m 8 (.t 40)])
 (.fg [0,1,2,7,8,12,13] (.ops false [.m 41 (.t 7),.u 42 (.bin .shr (.t 41) (.c (.one (.lit (.int .u64 32))))),.m 7 (.t 42)]))))))))))))
 (.fg [0,1,2,7,8,12,13] (.ops false [.u 43 (.bin .add (.t 13) (.i 1)),.m 13 (.t 43)])))))))))))
 (.fg [8] (.seq (.ops false [.m 44 (.t 8),.u 45 (.bin .eql (.t 44) (.c (.one (.lit (.int .u64 1))))),.m 6 (.t 45)])
 .ret)))))))
def Qr (f0:Nat):AC:=(.seq (.ops false [.m 4 (.c (.one (.lit (.int .u64 0))))])
 (.fg [0,1,4] (.seq (.ops false [.m 6 (.t 0),.u 7 (.len (.t 6)),.m 8 (.i 0)])
 (.fg [0,1,4,7,8] (.block 0 (.loop (.seq (.ops false [.u 9 (.bin .lss (.t 8) (.t 7))])
 (.fg [0,1,4,7,8,9] (.seq (.cond (.t 9) .skip (.exit 0))
 (.fg [0,1,4,7,8] (.seq (.block 1 (.seq (.ops false [.m 10 (.t 8),.m 5 (.t 10)])
 (.fg [0,1,4,5,7,8] (.seq (.ops true [.m 11 (.t 4),.m 12 (.t 0),.m 13 (.t 5),.u 14 (.idx 1 (.t 12) (.t 13)),.u 15 (.ld none 1 false (.t 14)),.u 16 (.conv .u64 (.t 15)),.m 17 (.t 1),.m 18 (.t 5),.u 19 (.call f0 [(.t 17),(.t 18)]),.u 20 (.bin .add (.t 16) (.t 19)),.u 21 (.bin .add (.t 11) (.t 20)),.m 4 (.t 21)])
 (.fg [0,1,4,5,7,8] (.seq (.ops false [.m 22 (.t 0),.m 23 (.t 5),.m 24 (.t 4),.u 25 (.conv .u32 (.t 24)),.u 26 (.idx 1 (.t 22) (.t 23)),.n (.st none 1 (.t 26) (.t 25))])
 (.fg [0,1,4,7,8] (.ops false [.m 27 (.t 4),.u 28 (.bin .shr (.t 27) (.c (.one (.lit (.int .u64 32))))),.m 4 (.t 28)]))))))))
 (.fg [0,1,4,7,8] (.ops false [.u 29 (.bin .add (.t 8) (.i 1)),.m 8 (.t 29)])))))))))))))
theorem uY (hΓ:Holds P Γ) {f fw:Nat} (hw:Γ fw=.dat true Wj) (hc:check P f=some (46,(vl fw).strip,[.tmp 6])):Sound P f (.own qo):=by
 refine Qf hc hΓ (λd args h K hG=>?_)
 unfold qo at hG
 split at hG
 case h_2=>exact hG.elim
 rename_i r ver off len b n
 obtain ⟨v,rfl,hv,pre,seg,post,m,rfl,rfl,rfl,hr,hseg,hm,hvl,hlt,hsl,hK⟩:=hG
 refine ⟨[r],[⟨(pre++seg++post).map wc,1,true⟩],[.one (.own 1048576 ver 1 pre.length seg.length),wsA v,.one (.lit (.int .u64 m))],by simp,rfl,?_,?_,?_,λhfi=>⟨by simp,?_⟩⟩
 .intro i r' b h1 h2
  cases i with
  | zero=>simp only [List.getElem?_cons_zero,Option.some.injEq]at h1 h2;subst h1 h2;exact ⟨by rw [hr],rfl,of_eq_true (vd _)⟩
  | succ i=>simp at h1
 .simp [exA,exC,exB,nameOf,pinA,wsA,ws]
 .intro a ha
  simp only [List.mem_cons,List.not_mem_nil,or_false]at ha
  rcases ha with rfl | rfl | rfl
  .simp [pasA,pasC,pasB,nameOf,pinA]
  .exact .slice _ (of_eq_true (vd _))
  .exact .lit _
 simp only [go_sem,vl,hw,hr]
 intro h1
 refine ka (λp:List Nat×Nat×Nat×Nat=>⟨mkV [(0,.one (.own 1048576 ver 1 pre.length seg.length)),(1,wsA v),(2,.one (.lit (.int .u64 m))),(7,.one (.lit (.int .u64 p.2.1))),(8,.one (.lit (.int .u64 p.2.2.1))),(12,.one (.lit (.int .i64 seg.length))),(13,.one (.lit (.int .i64 p.1.length)))],
   mkH [(1048576,⟨ver,some ⟨(pre++(p.1++seg.drop p.1.length)++post).map wc,1,true⟩⟩)]⟩)
  (λp=>p.1.length<=seg.length/\WL p.1/\(p.2.1=0∨p.2.1<m)/\p.2.2.1<=1/\p.2.2.2+4294967296 ^ p.1.length*p.2.1=m*val (v.take p.1.length)/\val p.1+p.2.2.2=val (seg.take p.1.length)+4294967296 ^ p.1.length*p.2.2.1) (λp=>seg.length-p.1.length) ([],0,0,0) ?_ ?_ ?_
 .exact Qa (by simp [okS,okV,okC,okL,okH,okB,okE,Za,ja,za,Ja,wsA,ws]) (Wh (by simp))
 .simp [Yb,val]
 .rintro ⟨o,c,bw,p⟩ ⟨hoN,ho,hc1,hb1,hp1,hp2⟩
  simp only at hoN ho hc1 hb1 hp1 hp2
  have hlen:(pre++(o++seg.drop o.length)++post).length=pre.length+seg.length+post.length:=by simp;omega
  simp only [go_sem,hw,hr,hlen]
  refine ⟨λhlt2=>?_,λhge=>?_⟩
  .have g1:=vb hseg o.length
   have g2:=vb hv o.length
   obtain ⟨s1,s2⟩:=vaT hm g2 hc1
   have a1:=Qa3 (B:=4294967296) (v:=v.getD o.length 0) hp1
   have e1:m*v.getD o.length 0 % 18446744073709551616=m*v.getD o.length 0:=Nat.mod_eq_of_lt (by omega)
   have e2:seg.getD o.length 0 % 18446744073709551616=seg.getD o.length 0:=by omega
   rw [zaW _ _ _ _ hlt2,e1,e2,Nat.mod_eq_of_lt s1,vab _ _ _ _ _ hlt2]
   generalize hs:c+m*v.getD o.length 0=s at s1 s2 a1
   have e3:s % 4294967296 % 18446744073709551616=s % 4294967296:=by omega
   rw [e3]
   obtain ⟨t1,t2⟩:=uap (b:=s % 4294967296) g1 (by omega) hb1
   generalize sub64 (sub64 (seg.getD o.length 0) (s % 4294967296)) bw=d at t1 t2
   have a2:=Ya0 hp2 t1
   refine ⟨hv,hlt2,by omega,hlt2,by omega,by omega,by omega,by omega,(o++[d % 4294967296],s / 4294967296,d / 9223372036854775808,p+4294967296 ^ o.length*(s % 4294967296)),Qa (by simp [okS,okV,okC,okL,okH,okB,okE,Za,ja,za,Ja,wsA,ws]) (Wh rfl),⟨by simp;omega,Wd.2 ⟨ho,yb.2 ⟨Nat.mod_lt _ (by omega),Yb⟩⟩,s2,t2,?_,?_⟩,by simp;omega⟩
   .simp only [List.length_append,List.length_cons,List.length_nil,Nat.zero_add,Vb,Nat.pow_succ]
    exact a1
   .simp only [List.length_append,List.length_cons,List.length_nil,Nat.zero_add,Vb,Wb,Jh,Wl,Nat.mul_zero,Nat.add_zero,Nat.pow_succ]
    exact a2
  .have e:o.length=seg.length:=by omega
   rw [e]at hp1 hp2
   rw [Xi hvl]at hp1
   rw [Xi (Nat.le_refl _)]at hp2
   obtain ⟨t1,t2⟩:=Ubh ho e hp1 hlt hp2 hb1
   rw [List.drop_of_length_le (by omega),List.append_nil]
   rw [<-t1]at hK
   have:(decide ((bw:Int)=1))=decide (val seg<m*val v):=by
    rw [decide_eq_decide,<-t2];omega
   rw [this];exact hK
theorem Qav (hΓ:Holds P Γ) {f fw:Nat} (hw:Γ fw=.dat true Wj) (hc:check P f=some (30,(Qr fw).strip,[])):Sound P f (.own uA):=by
 refine Qf hc hΓ (λd args h K hG=>?_)
 unfold uA at hG
 split at hG
 case h_2=>exact hG.elim
 rename_i r ver off len b
 obtain ⟨v,rfl,hv,pre,seg,post,rfl,rfl,hr,hseg,hvl,hsl,hK⟩:=hG
 refine ⟨[r],[⟨(pre++seg++post).map wc,1,true⟩],[.one (.own 1048576 ver 1 pre.length seg.length),wsA v],by simp,rfl,?_,?_,?_,λhfi=>⟨by simp,?_⟩⟩
 .intro i r' b h1 h2
  cases i with
  | zero=>simp only [List.getElem?_cons_zero,Option.some.injEq]at h1 h2;subst h1 h2;exact ⟨by rw [hr],rfl,of_eq_true (vd _)⟩
  | succ i=>simp at h1
 .simp [exA,exC,exB,nameOf,pinA,wsA,ws]
 .intro a ha
  simp only [List.mem_cons,List.not_mem_nil,or_false]at ha
  rcases ha with rfl | rfl
  .simp [pasA,pasC,pasB,nameOf,pinA]
  .exact .slice _ (of_eq_true (vd _))
 simp only [go_sem,Qr,hw,hr]
 intro h1
 refine ka (λp:List Nat×Nat=>⟨mkV [(0,.one (.own 1048576 ver 1 pre.length seg.length)),(1,wsA v),(4,.one (.lit (.int .u64 p.2))),(7,.one (.lit (.int .i64 seg.length))),(8,.one (.lit (.int .i64 p.1.length)))],
   mkH [(1048576,⟨ver,some ⟨(pre++(p.1++seg.drop p.1.length)++post).map wc,1,true⟩⟩)]⟩)
  (λp=>p.1.length<=seg.length/\WL p.1/\p.2<=1/\val p.1+4294967296 ^ p.1.length*p.2=val (seg.take p.1.length)+val (v.take p.1.length)) (λp=>seg.length-p.1.length) ([],0) ?_ ?_ ?_
 .exact Qa (by simp [okS,okV,okC,okL,okH,okB,okE,Za,ja,za,Ja,wsA,ws]) (Wh (by simp))
 .simp [Yb,val]
 .rintro ⟨o,c⟩ ⟨hoN,ho,hc1,hp1⟩
  simp only at hoN ho hc1 hp1
  have hlen:(pre++(o++seg.drop o.length)++post).length=pre.length+seg.length+post.length:=by simp;omega
  simp only [go_sem,hw,hr,hlen]
  refine ⟨λhlt2=>?_,λhge=>?_⟩
  .have g1:=vb hseg o.length
   have g2:=vb hv o.length
   have e2:seg.getD o.length 0 % 18446744073709551616=seg.getD o.length 0:=by omega
   rw [zaW _ _ _ _ hlt2,e2,Nat.mod_eq_of_lt (show seg.getD o.length 0+v.getD o.length 0<18446744073709551616 by omega),Nat.mod_eq_of_lt (show c+(seg.getD o.length 0+v.getD o.length 0)<18446744073709551616 by omega),vab _ _ _ _ _ hlt2]
   have a1:=Ua3 (B:=4294967296) (a:=seg.getD o.length 0) (b:=v.getD o.length 0) hp1 rfl
   generalize hs:c+(seg.getD o.length 0+v.getD o.length 0)=s at a1
   refine ⟨hlt2,by omega,hv,hlt2,by omega,by omega,by omega,(o++[s % 4294967296],s / 4294967296),Qa (by simp [okS,okV,okC,okL,okH,okB,okE,Za,ja,za,Ja,wsA,ws]) (Wh rfl),⟨by simp;omega,Wd.2 ⟨ho,yb.2 ⟨Nat.mod_lt _ (by omega),Yb⟩⟩,by simp only;omega,?_⟩,by simp;omega⟩
   simp only [List.length_append,List.length_cons,List.length_nil,Nat.zero_add,Vb,Wb,Jh,Wl,Nat.mul_zero,Nat.add_zero,Nat.pow_succ]
   exact a1
  .have e:o.length=seg.length:=by omega
   rw [e,Xi hvl,Xi (Nat.le_refl _)]at hp1
   have t1:=za5 ho e hp1
   rw [List.drop_of_length_le (by omega),List.append_nil]
   rw [<-t1]at hK
   exact hK
end Go.Abs
end
