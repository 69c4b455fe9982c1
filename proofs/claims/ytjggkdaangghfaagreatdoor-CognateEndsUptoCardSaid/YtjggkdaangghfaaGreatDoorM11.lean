/-
  Parts of the proof, merged: CoupL, CoupR, CogP, CogA, CogB, CogR, CogC, CogT, CogD, CogF, CogI, IntC, IntD.
-/
import Derived.Test.YtjggkdaangghfaaGreatDoorM10
set_option linter.unusedVariables false
set_option linter.unusedSimpArgs false
set_option maxRecDepth 100000
section
namespace Go.Num
open Go.Abs
def riC (c:Cp) (p:Arc):Nat:=if wV (cpv c) (av p)≠0 then 21 else if wM (cpv c) (av p)=0 then 15 else 0
def reQ (c:CpR):V2:=subQ (1,0) (cW c)
theorem cl_w {c:Cp} {b:Nat} (h:cl c<=b):al c.2.2.2.2.2<=b:=by
 unfold cl at h
 simp only [Nat.max_le]at h
 exact Nat.max_le.2 ⟨h.2.2.2.2.2.1,h.2.2.2.2.2.2⟩
theorem ybu {c:Cp} (h:cchk c=0):vldR c.2.2.1=true/\vldR c.2.2.2.1=true/\vldR c.2.2.2.2.1=true/\vldR c.2.2.2.2.2.1=true/\vldR c.2.2.2.2.2.2=true:=by
 obtain ⟨_,_,h5,_,_⟩:=XaT h
 simpa [cps5] using h5
end Go.Num
namespace Go.Abs
open Go.Num
variable {P:Program} {Γ:Nat->Spec}
def uG (l:List AV) (K:AV->Prop):Prop:=
 match l with
 | [c]=>onCp (λc=>K (aA (c.2.2.2.2.2.1,c.2.2.2.2.2.2))) c
 | _=>False
theorem Ube (c:AV) (K:AV->Prop):uG [c] K=(onCp (λc=>K (aA (c.2.2.2.2.2.1,c.2.2.2.2.2.2))) c):=propext Iff.rfl
@[congr] theorem ZbT {K:AV->Prop} {l l' : List AV} (h:l=l'):uG l K=uG l' K:=by subst h;rfl
attribute [go_sem] Ube
attribute [go_sem ↓] Ube
theorem xa8:Good uG:=ka λas=>by
 unfold uG
 split
 .exact (Yj λ_=>(.ret _))
 .exact .of λK hk=>hk.elim
def qB (l:List AV) (K:AV->Prop):Prop:=
 match l with
 | [c]=>onCp (λc=>cl c<=100000000/\K (pQ (reQ (cpv c)))) c
 | _=>False
theorem qaQ (c:AV) (K:AV->Prop):qB [c] K=(onCp (λc=>cl c<=100000000/\K (pQ (reQ (cpv c)))) c):=propext Iff.rfl
@[congr] theorem ubI {K:AV->Prop} {l l' : List AV} (h:l=l'):qB l K=qB l' K:=by subst h;rfl
attribute [go_sem] qaQ
attribute [go_sem ↓] qaQ
theorem WaJ:Good qB:=ka λas=>by
 unfold qB
 split
 .exact (Yj λ_=>(.and λ_=>(.ret _)))
 .exact .of λK hk=>hk.elim
def xaY (l:List AV) (K:AV->Prop):Prop:=
 match l with
 | [c,p]=>onCp (λc=>onA (λp=>cl c<=1000/\al p<=1000/\cchk c=0/\K (.tup [pQ (wN (cpv c) (av p)),rQ (wM (cpv c) (av p))])) p) c
 | _=>False
theorem zaU (c p:AV) (K:AV->Prop):xaY [c,p] K=(onCp (λc=>onA (λp=>cl c<=1000/\al p<=1000/\cchk c=0/\K (.tup [pQ (wN (cpv c) (av p)),rQ (wM (cpv c) (av p))])) p) c):=propext Iff.rfl
@[congr] theorem vbQ {K:AV->Prop} {l l' : List AV} (h:l=l'):xaY l K=xaY l' K:=by subst h;rfl
attribute [go_sem] zaU
attribute [go_sem ↓] zaU
def kaQ (l:List AV) (K:AV->Prop):Prop:=
 match l with
 | [c,p]=>onCp (λc=>onA (λp=>cl c<=1000/\al p<=1000/\cchk c=0/\K (rQ (wV (cpv c) (av p)))) p) c
 | _=>False
theorem yaJ (c p:AV) (K:AV->Prop):kaQ [c,p] K=(onCp (λc=>onA (λp=>cl c<=1000/\al p<=1000/\cchk c=0/\K (rQ (wV (cpv c) (av p)))) p) c):=propext Iff.rfl
@[congr] theorem XbP {K:AV->Prop} {l l' : List AV} (h:l=l'):kaQ l K=kaQ l' K:=by subst h;rfl
attribute [go_sem] yaJ
attribute [go_sem ↓] yaJ
def Ua1 (l:List AV) (K:AV->Prop):Prop:=
 match l with
 | [c,p]=>onCp (λc=>onA (λp=>cl c<=1000/\al p<=1000/\cchk c=0/\K (.tup [pQ (if riC c p=0 then endA (cpv c) (av p) (zL (cpv c) (av p)) else (0,0)),pQ (if riC c p=0 then endB (cpv c) (av p) (zL (cpv c) (av p)) else (0,0)),.one (.lit (.int .i64 (riC c p:Nat)))])) p) c
 | _=>False
theorem VaQ (c p:AV) (K:AV->Prop):Ua1 [c,p] K=(onCp (λc=>onA (λp=>cl c<=1000/\al p<=1000/\cchk c=0/\K (.tup [pQ (if riC c p=0 then endA (cpv c) (av p) (zL (cpv c) (av p)) else (0,0)),pQ (if riC c p=0 then endB (cpv c) (av p) (zL (cpv c) (av p)) else (0,0)),.one (.lit (.int .i64 (riC c p:Nat)))])) p) c):=propext Iff.rfl
@[congr] theorem wbM {K:AV->Prop} {l l' : List AV} (h:l=l'):Ua1 l K=Ua1 l' K:=by subst h;rfl
attribute [go_sem] VaQ
attribute [go_sem ↓] VaQ
def ZaP (l:List AV) (K:AV->Prop):Prop:=
 match l with
 | [c,a,b]=>onCp (λc=>onA (λa=>onA (λb=>cl c<=10000/\al a<=10000/\al b<=10000/\K (pQ (ptQ (cpv c) (av a) (av b)))) b) a) c
 | _=>False
theorem qaZ (c a b:AV) (K:AV->Prop):ZaP [c,a,b] K=(onCp (λc=>onA (λa=>onA (λb=>cl c<=10000/\al a<=10000/\al b<=10000/\K (pQ (ptQ (cpv c) (av a) (av b)))) b) a) c):=propext Iff.rfl
@[congr] theorem ubK {K:AV->Prop} {l l' : List AV} (h:l=l'):ZaP l K=ZaP l' K:=by subst h;rfl
attribute [go_sem] qaZ
attribute [go_sem ↓] qaZ
def vaS (l:List AV) (K:AV->Prop):Prop:=
 match l with
 | [c,a,b]=>onCp (λc=>onA (λa=>onA (λb=>cl c<=10000/\al a<=10000/\al b<=10000/\K (.one (.lit (.bool (decide (hldQ (cpv c) (av a) (av b))))))) b) a) c
 | _=>False
theorem JaL (c a b:AV) (K:AV->Prop):vaS [c,a,b] K=(onCp (λc=>onA (λa=>onA (λb=>cl c<=10000/\al a<=10000/\al b<=10000/\K (.one (.lit (.bool (decide (hldQ (cpv c) (av a) (av b))))))) b) a) c):=propext Iff.rfl
@[congr] theorem wbL {K:AV->Prop} {l l' : List AV} (h:l=l'):vaS l K=vaS l' K:=by subst h;rfl
attribute [go_sem] JaL
attribute [go_sem ↓] JaL
def Ul:AC:=(.seq (.ops false [.u 1 (.box 27 (.t 0)),.u 2 (.alloc [(.lit (.bool false)),.emp,.emp,(.lit (.bool false)),.emp,.emp])])
 (.fg [1,2] (.seq (.ops false [.u 3 (.fa 21 (.t 1)),.u 4 (.ld none 3 true (.t 3)),.u 5 (.fa 24 (.t 1)),.u 6 (.ld none 3 true (.t 5)),.u 7 (.build [.x 3 (.t 4),.x 3 (.t 6)]),.n (.st none 6 (.t 2) (.t 7))])
 .ret)))
def xh (f0 f1 f2:Nat):AC:=(.seq (.ops false [.u 1 (.box 27 (.t 0)),.u 2 (.alloc [(.lit (.bool false)),.emp,.emp,(.lit (.bool false)),.emp,.emp])])
 (.fg [1,2] (.seq (.ops true [.u 3 (.call f0 [(.i 1)]),.u 4 (.build [.x 3 (.t 3),.z [(.lit (.bool false)),.emp,.emp]]),.u 5 (.ld none 27 true (.t 1)),.u 6 (.call f1 [(.t 5)]),.u 7 (.call f2 [(.t 4),(.t 6)]),.n (.st none 6 (.t 2) (.t 7))])
 .ret)))
theorem xaI (hΓ:Holds P Γ) {f:Nat} (hc:check P f=some (8,Ul.strip,[.cell 2 6 true])):Sound P f (.dat false uG):=by
 refine Va hc xa8 hΓ (λargs K hcl hfi hG=>?_)
 match args,hG with
 | [a],hG=>
  obtain ⟨c,rfl,hw,hK⟩:=hG
  refine ⟨by simp,?_⟩
  simp only [go_sem,Ul,cpA,cpC]
  exact hK
theorem WaA (hΓ:Holds P Γ) {f fo fw fs:Nat} (ho:Γ fo=.dat false yy) (hw' : Γ fw=.dat false uG) (hs:Γ fs=.dat false Yg) (hc:check P f=some (8,(xh fo fw fs).strip,[.cell 2 6 true])):Sound P f (.dat false qB):=by
 refine Va hc WaJ hΓ (λargs K hcl hfi hG=>?_)
 match args,hG with
 | [a],hG=>
  obtain ⟨c,rfl,hw,hl,hK⟩:=hG
  refine ⟨by simp,?_⟩
  have i1:((1:Int):Rat)=1:=rfl
  have w4:=hw.2.2.2.2.2.1
  have w5:=hw.2.2.2.2.2.2
  have b1:=rz_1
  have l6:al c.2.2.2.2.2<=100000000:=Nat.le_trans (cl_w hl) (by decide)
  have wW:WLA c.2.2.2.2.2:=⟨w4,w5⟩
  have wO:WLA (rcan 1,rcan 0):=vp (1,0)
  have lO:al (rcan 1,rcan 0)<=100000000:=Nat.max_le.2 ⟨Nat.le_trans b1 (by decide),Nat.le_trans (Nat.le_of_eq rz_0) (by decide)⟩
  have aO:av (rcan 1,rcan 0)=(1,0):=xG (1,0)
  have aW:av c.2.2.2.2.2=cW (cpv c):=rfl
  simp only [go_sem,xh,ho,hw',hs,cpA,cpC,i1,je,kb,aO,aW]
  repeat (first | (refine And.intro (by with_reducible assumption) ?_) | (refine And.intro (Nat.le_trans (by with_reducible assumption) (by decide)) ?_) | (refine And.intro (by decide) ?_))
  exact hK
end Go.Abs
end
section
namespace Go.Num
open Go.Abs
theorem YbN {c:Cp} (wc:WLC c) (h:cchk c=0):canC (cpv c)=c:=by
 obtain ⟨o1,o2,h5,_,_⟩:=XaT h
 obtain ⟨v1,v2,v3,v4,v5⟩:=ybu h
 obtain ⟨wo,wq,w1,w2,w3,w4,w5⟩:=wc
 have e1:=Vav wo o1
 have e2:=Vav wq o2
 have r1:=Yf w1 v1
 have r2:=Yf w2 v2
 have r3:=Yf w3 v3
 have r4:=Yf w4 v4
 have r5:=Yf w5 v5
 unfold canC cpv
 simp only [e1,e2,r1,r2,r3,r4,r5]
end Go.Num
namespace Go.Abs
open Go.Num
variable {P:Program} {Γ:Nat->Spec}
theorem Qby (p:Ps):poA p=.agg (pC p):=eq_of_heq (HEq.refl _)
theorem VaS (p:Ps):(pC p).take 10=pC p:=List.take_of_length_le (Nat.le_of_eq (jaN p))
theorem YaX (p:Ps):(pC p).drop 0=pC p:=eq_of_heq (HEq.refl _)
theorem Vbd (k:List Ps->Prop) (p:Ps):onPs k (.one (.slice [pC p]))=((∀x∈[p],WLP x)/\k [p]):=ja2 k [p]
attribute [go_sem] Qby VaS YaX Vbd
attribute [go_sem ↓] Qby VaS YaX Vbd
def zaJ (l:List AV) (K:AV->Prop):Prop:=
 match l with
 | [c,g]=>onCp (λc=>onPo (λg=>cl c<=1000/\pl g<=1000/\cchk c=0/\K (cqR (movQ38 (cpv c) (pv g)))) g) c
 | _=>False
theorem VaG (c g:AV) (K:AV->Prop):zaJ [c,g] K=(onCp (λc=>onPo (λg=>cl c<=1000/\pl g<=1000/\cchk c=0/\K (cqR (movQ38 (cpv c) (pv g)))) g) c):=propext Iff.rfl
@[congr] theorem YbL {K:AV->Prop} {l l' : List AV} (h:l=l'):zaJ l K=zaJ l' K:=by subst h;rfl
attribute [go_sem] VaG
attribute [go_sem ↓] VaG
def uaT (l:List AV) (K:AV->Prop):Prop:=
 match l with
 | [c,k]=>onCp (λc=>onR (λk=>cl c<=1000/\rl k<=1000/\cchk c=0/\K (cqR (sclQ38 (cpv c) (rv k)))) k) c
 | _=>False
theorem Va0 (c k:AV) (K:AV->Prop):uaT [c,k] K=(onCp (λc=>onR (λk=>cl c<=1000/\rl k<=1000/\cchk c=0/\K (cqR (sclQ38 (cpv c) (rv k)))) k) c):=propext Iff.rfl
@[congr] theorem qbM {K:AV->Prop} {l l' : List AV} (h:l=l'):uaT l K=uaT l' K:=by subst h;rfl
attribute [go_sem] Va0
attribute [go_sem ↓] Va0
end Go.Abs
end
section
namespace Go.Num
def rsQ (c:CpR):V2:=subQ (1,0) (cW c)
def foQ (c:CpR):V2:=addQ c.1 (timesQ (cW c) (subQ c.2.1 c.1))
def ovQ (w:V2):V2:=(w.1 / sqQ w,-w.2 / sqQ w)
def simQ (c:CpR) (o k:V2) (a b d:Rat):CpR:=(o,foQ c,sqQ k*a,sqQ k*b,sqQ k*d,(ovQ k).1,(ovQ k).2)
def fiQ (c:CpR):CpR:=simQ c c.1 (cW c) c.2.2.2.1 c.2.2.1 c.2.2.2.2.1
def seQ (c:CpR):CpR:=simQ c c.2.1 (rsQ c) c.2.2.2.1 c.2.2.2.2.1 c.2.2.1
def swQ (c:CpR):CpR:=(c.2.1,c.1,c.2.2.2.2.1,c.2.2.2.1,c.2.2.1,(rsQ c).1,(rsQ c).2)
theorem w_sw (c:CpR):cW (swQ c)=rsQ c:=rfl
theorem ybN (c:CpR):foQ (swQ c)=foQ c:=by
 unfold foQ;rw [w_sw]
 unfold rsQ swQ cW addQ timesQ subQ;exact Prod.ext (by simp only;grind) (by simp only;grind)
theorem ybQ (c:CpR):fiQ (swQ c)=seQ c:=by
 unfold fiQ seQ simQ;rw [ybN,w_sw];rfl
theorem ov_j {w:V2} (h:sqQ w≠0):∃j,sqQ w*j=1/\ovQ w=(j*w.1,j * -w.2):=by
 refine ⟨(sqQ w)⁻¹,Rat.mul_inv_cancel _ h,?_⟩
 unfold ovQ
 rw [Rat.div_def,Rat.div_def,Rat.mul_comm,Rat.mul_comm (-w.2)]
theorem rob1 (k j u v:Rat) (hk:k=u*u+v*v) (hj:k*j=1) (z1 z2 s1 s2:Rat) :
  k*(z1*(j*u)-z2*(-(j * -v)))=z1*u-z2*v/\k*(z2*(j*u)+z1*(-(j * -v)))=z2*u+z1*v/\
  k*(s1*(1-j*u)-s2*(j * -v))=s1*(k-u)+s2*v/\k*(s2*(1-j*u)+s1*(j * -v))=s2*(k-u)-s1*v:=by
 have h1:∀x,k*(j*x)=x:=λx=>by grind
 refine ⟨?_,?_,?_,?_⟩
 .have:=h1 (z1*u);have:=h1 (z2*v);grind
 .have:=h1 (z2*u);have:=h1 (z1*v);grind
 .have:=h1 (s1*u);have:=h1 (s2*v);grind
 .have:=h1 (s2*u);have:=h1 (s1*v);grind
theorem rob2 (z1 z2 d1 d2 u v A B C:Rat) :
  let k:=u*u+v*v
  let G:=z1*z1+z2*z2
  let h:=k*B-A
  let s1:=z1-(u*d1-v*d2)
  let s2:=z2-(u*d2+v*d1)
  let Q1:=z1*u+z2*v
  let Q2:=z2*u-z1*v
  let P1:=(z1-d1)*(1-u)-(z2-d2)*v
  let P2:=(z2-d2)*(1-u)+(z1-d1)*v
  let r:=(1-u)*(1-u)+v*v
  let F:=C-r*B-((z1-d1)*(z1-d1)+(z2-d2)*(z2-d2))
  let F':=k*C-(s1*s1+s2*s2)-r*A
  let R:=P1*Q1+P2*Q2
  (G-h)*(s1*(1-u)-s2*v)+F' * z1=(G-h)*(u*P1-v*P2)+(k*F-2*R)*z1/\
  (G-h)*(s2*(1-u)+s1*v)+F' * z2=(G-h)*(u*P2+v*P1)+(k*F-2*R)*z2:=by
 intro k G h s1 s2 Q1 Q2 P1 P2 r F F' R
 constructor <;> grind
theorem rob3 (z1 z2 u v h F P1 P2:Rat) :
  let k:=u*u+v*v
  let G:=z1*z1+z2*z2
  let Q1:=z1*u+z2*v
  let Q2:=z2*u-z1*v
  let R:=P1*Q1+P2*Q2
  let M:=Q1*P2-Q2*P1
  let Y1:=(G-h)*(u*P1-v*P2)+(k*F-2*R)*z1
  let Y2:=(G-h)*(u*P2+v*P1)+(k*F-2*R)*z2
  let X1:=(G+h)*P1-F*Q1
  let X2:=(G+h)*P2-F*Q2
  Y1*Y1+Y2*Y2=k*(X1*X1+X2*X2)-4*(M*M)*h:=by
 intro k G Q1 Q2 R M Y1 Y2 X1 X2
 have p0:k*G=Q1*Q1+Q2*Q2:=by grind
 have p1:(u*P1-v*P2)*z1+(u*P2+v*P1)*z2=R:=by grind
 have p2:(u*P1-v*P2)*(u*P1-v*P2)+(u*P2+v*P1)*(u*P2+v*P1)=k*(P1*P1+P2*P2):=by grind
 have p3:M*M=(P1*P1+P2*P2)*(k*G)-R*R:=by rw [p0];grind
 have y:Y1*Y1+Y2*Y2=(G-h)*(G-h)*(k*(P1*P1+P2*P2))+(k*F-2*R)*(k*F-2*R)*G+2*(G-h)*(k*F-2*R)*R:=by
  rw [<-p2,<-p1];clear_value k R;grind
 have x:X1*X1+X2*X2=(G+h)*(G+h)*(P1*P1+P2*P2)+F*F*(k*G)-2*(G+h)*F*R:=by
  rw [p0];clear_value k G;grind
 rw [y,x,p3]
 clear_value k G R
 grind
theorem rob4 {k j u v:Rat} (A:Rat) (hk:u*u+v*v=k) (hj:k*j=1):(j*u*(j*u)+j * -v*(j * -v))*(k*A)=A/\
  ((1-j*u)*(1-j*u)+j * -v*(j * -v))*(k*A)=((1-u)*(1-u)+v*v)*A:=by
 constructor
 .have:(j*u*(j*u)+j * -v*(j * -v))*(k*A)=j*j*(u*u+v*v)*(k*A):=by grind
  rw [this,hk]
  have:j*j*k*(k*A)=k*j*(k*j)*A:=by grind
  rw [this,hj];grind
 .have:((1-j*u)*(1-j*u)+j * -v*(j * -v))*(k*A)=k*A-2*(k*j)*u*A+k*j*j*(u*u+v*v)*A:=by grind
  rw [this,hk]
  have:k*A-2*(k*j)*u*A+k*j*j*k*A=k*A-2*(k*j)*u*A+k*j*(k*j)*A:=by grind
  rw [this,hj,<-hk];grind
theorem rob5 {k u v z1 z2 d1 d2 s1 s2:Rat} (hk:u*u+v*v=k) (hs1:z1-(u*d1-v*d2)=s1) (hs2:z2-(u*d2+v*d1)=s2) :
  (z1*u-z2*v)*(s2*(k-u)-s1*v)-(z2*u+z1*v)*(s1*(k-u)+s2*v) = -(k*((z1*u+z2*v)*((z2-d2)*(1-u)+(z1-d1)*v)-(z2*u-z1*v)*((z1-d1)*(1-u)-(z2-d2)*v))):=by
 rw [<-hs1,<-hs2,<-hk];grind
theorem UbC (a b c:Rat):a-b-c=a-c-b:=by grind
theorem kbs (a b c:Rat):a+(b-c)=a-(c-b):=by grind
theorem kcan {k x y:Rat} (hk:k≠0) (h:k*x=k*y):x=y:=by
 have h1:k*(x-y)=0:=by grind
 have:=(Rat.mul_eq_zero.1 h1).resolve_left hk
 grind
theorem rob6 {k u v A B e f E F a1 a2 b1 b2 z1 z2 s1 s2 P1 P2 Q1 Q2:Rat} (hk0:k≠0) (hk:u*u+v*v=k)
  (r1:k*a1=z1*u-z2*v) (r2:k*a2=z2*u+z1*v) (r3:k*b1=s1*(k-u)+s2*v) (r4:k*b2=s2*(k-u)-s1*v)
  (eM:(z1*u-z2*v)*(s2*(k-u)-s1*v)-(z2*u+z1*v)*(s1*(k-u)+s2*v) = -(k*(Q1*P2-Q2*P1)))
  (y3:(e*(s1*(1-u)-s2*v)+f*z1)*(e*(s1*(1-u)-s2*v)+f*z1)+(e*(s2*(1-u)+s1*v)+f*z2)*(e*(s2*(1-u)+s1*v)+f*z2) =
   k*((E*P1-F*Q1)*(E*P1-F*Q1)+(E*P2-F*Q2)*(E*P2-F*Q2))-4*((Q1*P2-Q2*P1)*(Q1*P2-Q2*P1))*(k*B-A)) :
  (e*b2-f*a2)*(e*b2-f*a2)+(f*a1-e*b1)*(f*a1-e*b1)-4*(k*A)*((a1*b2-a2*b1)*(a1*b2-a2*b1)) =
  (E*P2-F*Q2)*(E*P2-F*Q2)+(F*Q1-E*P1)*(F*Q1-E*P1)-4*B*((Q1*P2-Q2*P1)*(Q1*P2-Q2*P1)):=by
 have hm:k*(a1*b2-a2*b1) = -(Q1*P2-Q2*P1):=by
  refine kcan hk0 ?_
  have:k*(k*(a1*b2-a2*b1))=(k*a1)*(k*b2)-(k*a2)*(k*b1):=by clear y3 eM r1 r2 r3 r4;grind
  rw [this,r1,r2,r3,r4,eM];clear y3 eM r1 r2 r3 r4 this;grind
 clear eM
 have n1:k*(e*b2-f*a2) = -(u*(e*(s2*(1-u)+s1*v)+f*z2)+v*(e*(s1*(1-u)-s2*v)+f*z1)):=by
  have:k*(e*b2-f*a2)=e*(k*b2)-f*(k*a2):=by clear y3 hm r1 r2 r3 r4;grind
  rw [this,r2,r4,<-hk];clear y3 hm r1 r2 r3 r4 this;grind
 have n2:k*(f*a1-e*b1)=u*(e*(s1*(1-u)-s2*v)+f*z1)-v*(e*(s2*(1-u)+s1*v)+f*z2):=by
  have:k*(f*a1-e*b1)=f*(k*a1)-e*(k*b1):=by clear y3 hm n1 r1 r2 r3 r4;grind
  rw [this,r1,r3,<-hk];clear y3 hm n1 r1 r2 r3 r4 this;grind
 clear r1 r2 r3 r4
 generalize e*(s1*(1-u)-s2*v)+f*z1=Y1 at *
 generalize e*(s2*(1-u)+s1*v)+f*z2=Y2 at *
 generalize e*b2-f*a2=N1 at *
 generalize f*a1-e*b1=N2 at *
 generalize a1*b2-a2*b1=m at *
 generalize Q1*P2-Q2*P1=M at *
 have hx:F*Q1-E*P1 = -(E*P1-F*Q1):=by clear y3 hm n1 n2;grind
 rw [hx]
 generalize E*P1-F*Q1=X1 at *
 generalize E*P2-F*Q2=X2 at *
 clear hx
 have k1:k*k*(N1*N1+N2*N2)=k*(Y1*Y1+Y2*Y2):=by
  have:k*k*(N1*N1+N2*N2)=(k*N1)*(k*N1)+(k*N2)*(k*N2):=by clear y3 hm n1 n2;grind
  rw [this,n1,n2,<-hk];clear y3 hm n1 n2;grind
 have k2:k*k*(m*m)=M*M:=by
  have:k*k*(m*m)=(k*m)*(k*m):=by clear y3 hm n1 n2 k1;grind
  rw [this,hm];clear y3 hm n1 n2 k1;grind
 refine kcan hk0 (kcan hk0 ?_)
 have:k*(k*(N1*N1+N2*N2-4*(k*A)*(m*m)))=k*k*(N1*N1+N2*N2)-4*(k*A)*(k*k*(m*m)):=by clear y3 hm n1 n2 k1 k2;grind
 rw [this,k1,k2,y3];clear y3 hm n1 n2 k1 k2 this;grind
theorem kbN (c:CpR) (p:V2) (hk0:sqQ (cW c)≠0):wV (fiQ c) p=wV c p:=by
 obtain ⟨j,hj,ho⟩:=ov_j hk0
 obtain ⟨⟨o1,o2⟩,⟨q1,q2⟩,A,B,C,u,v⟩:=c
 obtain ⟨x,y⟩:=p
 have eW:cW ((o1,o2),(q1,q2),A,B,C,u,v)=(u,v):=rfl
 rw [eW]at hk0 hj ho
 have ek:sqQ (u,v)=u*u+v*v:=rfl
 rw [ek]at hk0 hj
 obtain ⟨k,hk⟩:∃k,u*u+v*v=k:=⟨_,rfl⟩
 rw [hk]at hk0 hj ek
 have e0:fiQ ((o1,o2),(q1,q2),A,B,C,u,v)=((o1,o2),foQ ((o1,o2),(q1,q2),A,B,C,u,v),k*B,k*A,k*C,j*u,j * -v):=by
  unfold fiQ simQ;rw [eW,ho,ek]
 rw [e0]
 obtain ⟨z1,hz1⟩:∃z,x-o1=z:=⟨_,rfl⟩
 obtain ⟨z2,hz2⟩:∃z,y-o2=z:=⟨_,rfl⟩
 obtain ⟨d1,hd1⟩:∃z,q1-o1=z:=⟨_,rfl⟩
 obtain ⟨d2,hd2⟩:∃z,q2-o2=z:=⟨_,rfl⟩
 have ef:foQ ((o1,o2),(q1,q2),A,B,C,u,v)=(o1+(u*d1-v*d2),o2+(u*d2+v*d1)):=by
  unfold foQ addQ timesQ subQ cW;simp only;rw [hd1,hd2]
 rw [ef]
 have f1:x-(o1+(u*d1-v*d2))=z1-(u*d1-v*d2):=by rw [<-hz1];grind
 have f2:y-(o2+(u*d2+v*d1))=z2-(u*d2+v*d1):=by rw [<-hz2];grind
 have g1:x-q1=z1-d1:=by rw [<-hz1,<-hd1];grind
 have g2:y-q2=z2-d2:=by rw [<-hz2,<-hd2];grind
 unfold wV wN wM wE wF wAl wBe cFi cSe cRe timQ sqQ subQ
 simp only [hz1,hz2,f1,f2,g1,g2]
 obtain ⟨s1,hs1⟩:∃z,z1-(u*d1-v*d2)=z:=⟨_,rfl⟩
 obtain ⟨s2,hs2⟩:∃z,z2-(u*d2+v*d1)=z:=⟨_,rfl⟩
 rw [hs1,hs2]
 obtain ⟨r1,r2,r3,r4⟩:=rob1 k j u v hk.symm hj z1 z2 s1 s2
 have y12:=rob2 z1 z2 d1 d2 u v A B C
 simp only [hs1,hs2,hk]at y12
 have y3:=rob3 z1 z2 u v (k*B-A) (C-((1-u)*(1-u)+v*v)*B-((z1-d1)*(z1-d1)+(z2-d2)*(z2-d2))) ((z1-d1)*(1-u)-(z2-d2)*v) ((z2-d2)*(1-u)+(z1-d1)*v)
 simp only [hk]at y3
 obtain ⟨eE,eF⟩:=rob4 A hk hj
 have eQ1:z1*u-z2 * -v=z1*u+z2*v:=by rw [Rat.mul_neg,Rat.sub_eq_add_neg,Rat.neg_neg]
 have eQ2:z2*u+z1 * -v=z2*u-z1*v:=by rw [Rat.mul_neg,Rat.sub_eq_add_neg]
 have eM:=rob5 hk hs1 hs2
 have hf' : k*C-((1-u)*(1-u)+v*v)*A-(s1*s1+s2*s2)=k*C-(s1*s1+s2*s2)-((1-u)*(1-u)+v*v)*A:=UbC _ _ _
 have he' : z1*z1+z2*z2+(A-k*B)=z1*z1+z2*z2-(k*B-A):=kbs _ _ _
 rw [eE,eF,eQ1,eQ2,hk,he',hf']
 rw [<-y12.1,<-y12.2]at y3
 exact rob6 hk0 hk r1 r2 r3 r4 eM y3
end Go.Num
end
section
namespace Go.Num
open Go.Abs
theorem VA (a b:V2):zq (timesQ a b)<=2*zq a+2*zq b+6:=by
 have a1:=zq_1 a
 have a2:=zq_2 a
 have b1:=zq_1 b
 have b2:=zq_2 b
 have m1:=uc a.1 b.1
 have m2:=uc a.2 b.2
 have m3:=uc a.1 b.2
 have m4:=uc a.2 b.1
 have s1:=VE (a.1*b.1) (a.2*b.2)
 have s2:=UC (a.1*b.2) (a.2*b.1)
 exact Nat.max_le.2 ⟨by show rz (a.1*b.1-a.2*b.2)<=_;omega,by show rz (a.1*b.2+a.2*b.1)<=_;omega⟩
theorem VbJ (a:V2):zq (ovQ a)<=5*zq a+8:=by
 have a1:=zq_1 a
 have a2:=zq_2 a
 have s:=XG a
 have d1:=Qbe a.1 (sqQ a)
 have d2:=Qbe (-a.2) (sqQ a)
 rw [ZB]at d2
 exact Nat.max_le.2 ⟨by show rz (a.1 / sqQ a)<=_;omega,by show rz (-a.2 / sqQ a)<=_;omega⟩
theorem wbQ {c:CpR} {b:Nat} (h:CB' b c):zq (foQ c)<=7*b+12:=by
 obtain ⟨h1,h2,h3,h4,h5,h6,h7⟩:=h
 have w:zq (cW c)<=b:=Nat.max_le.2 ⟨h6,h7⟩
 have s:=Vm c.2.1 c.1
 have t:=VA (cW c) (subQ c.2.1 c.1)
 have u:=JP c.1 (timesQ (cW c) (subQ c.2.1 c.1))
 unfold foQ;omega
theorem Va8 {c:CpR} {b:Nat} (h:CB' b c):zq (rsQ c)<=b+4:=by
 obtain ⟨h1,h2,h3,h4,h5,h6,h7⟩:=h
 have w:zq (cW c)<=b:=Nat.max_le.2 ⟨h6,h7⟩
 have s:=Vm (1,0) (cW c)
 have e:zq (1,0)=1:=by decide +kernel
 unfold rsQ;omega
theorem Qbs (a:V2):addQ a (0,0)=a:=by unfold addQ;exact Prod.ext (by simp only;grind) (by simp only;grind)
theorem Vbz (a b c d:Rat):a*b+c*d=c*d+a*b:=Rat.add_comm _ _
end Go.Num
namespace Go.Abs
open Go.Num
variable {P:Program} {Γ:Nat->Spec}
def Jz (l:List AV) (K:AV->Prop):Prop:=
 match l with
 | [a]=>onA (λp=>al p<=100000000/\K (pQ (av p))) a
 | _=>False
theorem ZaO (a:AV) (K:AV->Prop):Jz [a] K=(onA (λp=>al p<=100000000/\K (pQ (av p))) a):=propext Iff.rfl
@[congr] theorem UbQ {K:AV->Prop} {l l' : List AV} (h:l=l'):Jz l K=Jz l' K:=by subst h;rfl
attribute [go_sem] ZaO
attribute [go_sem ↓] ZaO
theorem wa1:Good Jz:=ka λas=>by
 unfold Jz
 split
 .exact (xo λ_=>(.and λ_=>(.ret _)))
 .exact .of λK hk=>hk.elim
def JE (tE:Nat) (l:List AV) (K:AV->Prop):Prop:=
 match l with
 | [a]=>onA (λp=>al p<=100000000/\K (.tup [pQ (if sqQ (av p)=0 then (0,0) else ovQ (av p)),errV tE (if sqQ (av p)=0 then 8 else 0)])) a
 | _=>False
theorem uaI (tE:Nat) (a:AV) (K:AV->Prop):JE tE [a] K=(onA (λp=>al p<=100000000/\K (.tup [pQ (if sqQ (av p)=0 then (0,0) else ovQ (av p)),errV tE (if sqQ (av p)=0 then 8 else 0)])) a):=propext Iff.rfl
@[congr] theorem QbN (tE:Nat) {K:AV->Prop} {l l' : List AV} (h:l=l'):JE tE l K=JE tE l' K:=by subst h;rfl
attribute [go_sem] uaI
attribute [go_sem ↓] uaI
theorem vaT (tE:Nat):Good (JE tE):=ka λas=>by
 unfold JE
 split
 .exact (xo λ_=>(.and λ_=>(.ret _)))
 .exact .of λK hk=>hk.elim
def jB (l:List AV) (K:AV->Prop):Prop:=
 match l with
 | [c]=>onCp (λc=>cl c<=1000000/\K (pQ (foQ (cpv c)))) c
 | _=>False
theorem VaT (c:AV) (K:AV->Prop):jB [c] K=(onCp (λc=>cl c<=1000000/\K (pQ (foQ (cpv c)))) c):=propext Iff.rfl
@[congr] theorem wbJ {K:AV->Prop} {l l' : List AV} (h:l=l'):jB l K=jB l' K:=by subst h;rfl
attribute [go_sem] VaT
attribute [go_sem ↓] VaT
theorem ja1:Good jB:=ka λas=>by
 unfold jB
 split
 .exact (Yj λ_=>(.and λ_=>(.ret _)))
 .exact .of λK hk=>hk.elim
def vy (l:List AV) (K:AV->Prop):Prop:=
 match l with
 | [c]=>onCp (λc=>cl c<=100000000/\K (cpA (canC (cpv c)))) c
 | _=>False
theorem Xan (c:AV) (K:AV->Prop):vy [c] K=(onCp (λc=>cl c<=100000000/\K (cpA (canC (cpv c)))) c):=propext Iff.rfl
@[congr] theorem YbG {K:AV->Prop} {l l' : List AV} (h:l=l'):vy l K=vy l' K:=by subst h;rfl
attribute [go_sem] Xan
attribute [go_sem ↓] Xan
theorem YaD:Good vy:=ka λas=>by
 unfold vy
 split
 .exact (Yj λ_=>(.and λ_=>(.ret _)))
 .exact .of λK hk=>hk.elim
def Up (f0:Nat):AC:=(.seq (.ops false [.u 1 (.box 6 (.t 0)),.u 2 (.alloc [(.lit (.bool false)),.emp,.emp,(.lit (.bool false)),.emp,.emp])])
 (.fg [1,2] (.seq (.ops false [.u 3 (.ld none 6 true (.t 1)),.u 4 (.build [.z [(.lit (.bool false)),.emp,.emp,(.lit (.bool false)),.emp,.emp]]),.u 5 (.call f0 [(.t 3),(.t 4)]),.n (.st none 6 (.t 2) (.t 5))])
 .ret)))
def xp (f0 f1 f2:Nat):AC:=(.seq (.ops false [.u 2 (.box 6 (.t 0)),.u 3 (.box 6 (.t 1)),.u 4 (.alloc [(.lit (.bool false)),.emp,.emp,(.lit (.bool false)),.emp,.emp])])
 (.fg [2,3,4] (.seq (.ops true [.u 5 (.fa 0 (.t 2)),.u 6 (.ld none 3 true (.t 5)),.u 7 (.fa 0 (.t 3)),.u 8 (.ld none 3 true (.t 7)),.u 9 (.call f0 [(.t 6),(.t 8)]),.u 10 (.fa 3 (.t 2)),.u 11 (.ld none 3 true (.t 10)),.u 12 (.fa 3 (.t 3)),.u 13 (.ld none 3 true (.t 12)),.u 14 (.call f0 [(.t 11),(.t 13)]),.u 15 (.call f1 [(.t 9),(.t 14)]),.u 16 (.fa 3 (.t 2)),.u 17 (.ld none 3 true (.t 16)),.u 18 (.fa 0 (.t 3)),.u 19 (.ld none 3 true (.t 18)),.u 20 (.call f0 [(.t 17),(.t 19)]),.u 21 (.fa 0 (.t 2)),.u 22 (.ld none 3 true (.t 21)),.u 23 (.fa 3 (.t 3)),.u 24 (.ld none 3 true (.t 23)),.u 25 (.call f0 [(.t 22),(.t 24)]),.u 26 (.call f2 [(.t 20),(.t 25)]),.u 27 (.build [.x 3 (.t 15),.x 3 (.t 26)]),.n (.st none 6 (.t 4) (.t 27))])
 .ret)))
def Vh (f0 f1 f2:Nat):AC:=(.seq (.ops false [.u 1 (.box 6 (.t 0)),.u 2 (.alloc [(.lit (.bool false)),.emp,.emp,(.lit (.bool false)),.emp,.emp]),.m 3 (.c (.one (.lit .nilIface)))])
 (.fg [1,2] (.seq (.ops false [.u 8 (.ld none 6 true (.t 1)),.u 9 (.call f0 [(.t 8)]),.u 4 (.alloc [(.lit (.bool false)),.emp,.emp]),.n (.st none 3 (.t 4) (.t 9))])
 (.fg [1,2,4] (.seq (.ops false [.u 11 (.fa 0 (.t 1)),.u 12 (.ld none 3 true (.t 11)),.u 13 (.ld none 3 true (.t 4)),.u 14 (.call f1 [(.t 12),(.t 13)]),.m 10 (.t 14),.u 15 (.ext 0 (.t 10)),.u 16 (.ext 1 (.t 10)),.u 5 (.alloc [(.lit (.bool false)),.emp,.emp]),.n (.st none 3 (.t 5) (.t 15)),.m 6 (.t 16)])
 (.fg [1,2,4,5,6] (.seq (.seq (.ops false [.m 17 (.t 6),.u 18 (.binn .neq (.t 17) (.c (.one (.lit .nilIface))))])
 (.fg [1,2,4,5,6,18] (.cond (.t 18) (.seq (.ops false [.u 19 (.build [.z [(.lit (.bool false)),.emp,.emp,(.lit (.bool false)),.emp,.emp]]),.m 20 (.t 6),.n (.st none 6 (.t 2) (.t 19)),.m 3 (.t 20)])
 .ret) .skip)))
 (.fg [1,2,4,5] (.seq (.ops true [.u 22 (.fa 3 (.t 1)),.u 23 (.ld none 3 true (.t 22)),.u 24 (.call f2 [(.t 23)]),.u 25 (.ld none 3 true (.t 4)),.u 26 (.call f1 [(.t 24),(.t 25)]),.m 21 (.t 26),.u 27 (.ext 0 (.t 21)),.u 28 (.ext 1 (.t 21)),.u 7 (.alloc [(.lit (.bool false)),.emp,.emp]),.n (.st none 3 (.t 7) (.t 27)),.m 6 (.t 28)])
 (.fg [2,5,6,7] (.seq (.ops false [.u 29 (.ld none 3 true (.t 5)),.u 30 (.ld none 3 true (.t 7)),.u 31 (.build [.x 3 (.t 29),.x 3 (.t 30)]),.m 32 (.t 6),.n (.st none 6 (.t 2) (.t 31)),.m 3 (.t 32)])
 .ret)))))))))))
def Qp (f0 f1 f2 f3:Nat):AC:=(.seq (.ops false [.u 1 (.box 27 (.t 0)),.u 2 (.alloc [(.lit (.bool false)),.emp,.emp,(.lit (.bool false)),.emp,.emp])])
 (.fg [1,2] (.seq (.ops true [.u 3 (.fa 0 (.t 1)),.u 4 (.ld none 6 true (.t 3)),.u 5 (.ld none 27 true (.t 1)),.u 6 (.call f0 [(.t 5)]),.u 7 (.fa 6 (.t 1)),.u 8 (.ld none 6 true (.t 7)),.u 9 (.fa 0 (.t 1)),.u 10 (.ld none 6 true (.t 9)),.u 11 (.call f1 [(.t 8),(.t 10)]),.u 12 (.call f2 [(.t 6),(.t 11)]),.u 13 (.call f3 [(.t 4),(.t 12)]),.n (.st none 6 (.t 2) (.t 13))])
 .ret)))
def yn (f0 f1:Nat):AC:=(.seq (.ops false [.u 1 (.box 27 (.t 0)),.u 2 (.alloc [(.lit (.bool false)),.emp,.emp,(.lit (.bool false)),.emp,.emp,(.lit (.bool false)),.emp,.emp,(.lit (.bool false)),.emp,.emp,(.lit (.bool false)),.emp,.emp,(.lit (.bool false)),.emp,.emp,(.lit (.bool false)),.emp,.emp,(.lit (.bool false)),.emp,.emp,(.lit (.bool false)),.emp,.emp])])
 (.fg [1,2] (.seq (.ops false [.u 4 (.build [.z [(.lit (.bool false)),.emp,.emp]]),.u 3 (.alloc [(.lit (.bool false)),.emp,.emp]),.n (.st none 3 (.t 3) (.t 4))])
 (.fg [1,2,3] (.seq (.ops true [.u 5 (.fa 0 (.t 1)),.u 6 (.ld none 6 true (.t 5)),.u 7 (.call f0 [(.t 6)]),.u 8 (.fa 6 (.t 1)),.u 9 (.ld none 6 true (.t 8)),.u 10 (.call f0 [(.t 9)]),.u 11 (.fa 12 (.t 1)),.u 12 (.ld none 3 true (.t 11)),.u 13 (.ld none 3 true (.t 3)),.u 14 (.call f1 [(.t 12),(.t 13)]),.u 15 (.fa 15 (.t 1)),.u 16 (.ld none 3 true (.t 15)),.u 17 (.ld none 3 true (.t 3)),.u 18 (.call f1 [(.t 16),(.t 17)]),.u 19 (.fa 18 (.t 1)),.u 20 (.ld none 3 true (.t 19)),.u 21 (.ld none 3 true (.t 3)),.u 22 (.call f1 [(.t 20),(.t 21)]),.u 23 (.fa 21 (.t 1)),.u 24 (.ld none 3 true (.t 23)),.u 25 (.ld none 3 true (.t 3)),.u 26 (.call f1 [(.t 24),(.t 25)]),.u 27 (.fa 24 (.t 1)),.u 28 (.ld none 3 true (.t 27)),.u 29 (.ld none 3 true (.t 3)),.u 30 (.call f1 [(.t 28),(.t 29)]),.u 31 (.build [.x 6 (.t 7),.x 6 (.t 10),.x 3 (.t 14),.x 3 (.t 18),.x 3 (.t 22),.x 3 (.t 26),.x 3 (.t 30)]),.n (.st none 27 (.t 2) (.t 31))])
 .ret)))))
theorem uaC (hΓ:Holds P Γ) {f fa:Nat} (ha:Γ fa=.dat false Yl) (hc:check P f=some (6,(Up fa).strip,[.cell 2 6 true])):Sound P f (.dat false Jz):=by
 refine Va hc wa1 hΓ (λargs K hcl hfi hG=>?_)
 match args,hG with
 | [a],hG=>
  obtain ⟨p,rfl,wp,hl,hK⟩:=hG
  refine ⟨by simp,?_⟩
  have zz:WLA (rcan 0,rcan 0):=vp (0,0)
  have z0:al (rcan 0,rcan 0)<=100000000:=Nat.max_le.2 ⟨Nat.le_trans (Nat.le_of_eq rz_0) (by decide),Nat.le_trans (Nat.le_of_eq rz_0) (by decide)⟩
  have e0:av (rcan 0,rcan 0)=(0,0):=xG (0,0)
  simp only [go_sem,Up,ha,je,kb,e0,Qbs]
  repeat (first | (refine And.intro (by with_reducible assumption) ?_) | (refine And.intro (Nat.le_trans (by with_reducible assumption) (by decide)) ?_) | (refine And.intro (by decide) ?_))
  exact hK
theorem jU (hΓ:Holds P Γ) {f fm fs fa:Nat} (hm:Γ fm=.dat false Xm) (hs:Γ fs=.dat false Vu) (ha:Γ fa=.dat false qn) (hc:check P f=some (28,(xp fm fs fa).strip,[.cell 4 6 true])):Sound P f (.dat false qo):=by
 refine Va hc Qak hΓ (λargs K hcl hfi hG=>?_)
 match args,hG with
 | [a,b],hG=>
  obtain ⟨p,rfl,wp,q,rfl,wq,hl,hl2,hK⟩:=hG
  refine ⟨by simp,?_⟩
  have w1:=wp.1
  have w2:=wp.2
  have w3:=wq.1
  have w4:=wq.2
  have l1:=(Nat.max_le.1 hl).1
  have l2:=(Nat.max_le.1 hl).2
  have l3:=(Nat.max_le.1 hl2).1
  have l4:=(Nat.max_le.1 hl2).2
  have r1:=Xf w1
  have r2:=Xf w2
  have r3:=Xf w3
  have r4:=Xf w4
  have m1:=Nat.le_trans (uc (rv p.1) (rv q.1)) (by omega:_<=1000000000)
  have m2:=Nat.le_trans (uc (rv p.2) (rv q.2)) (by omega:_<=1000000000)
  have m3:=Nat.le_trans (uc (rv p.2) (rv q.1)) (by omega:_<=1000000000)
  have m4:=Nat.le_trans (uc (rv p.1) (rv q.2)) (by omega:_<=1000000000)
  have e:pQ (timesQ (av p) (av q))=pQ (rv p.1*rv q.1-rv p.2*rv q.2,rv p.2*rv q.1+rv p.1*rv q.2):=by
   unfold timesQ av;rw [Vbz]
  rw [e]at hK
  simp only [go_sem,xp,hm,hs,ha,je,Wb]
  repeat (first | (refine And.intro (by with_reducible assumption) ?_) | (refine And.intro (Nat.le_trans (by with_reducible assumption) (by decide)) ?_) | (refine And.intro (by decide) ?_))
  exact hK
theorem zaF (hΓ:Holds P Γ) {f fq fd fn tE:Nat} (hq:Γ fq=.dat false yF) (hd:Γ fd=.dat false (jx tE)) (hn:Γ fn=.dat false ju) (hc:check P f=some (33,(Vh fq fd fn).strip,[.cell 2 6 true,.tmp 3])):Sound P f (.dat false (JE tE)):=by
 refine Va hc (vaT tE) hΓ (λargs K hcl hfi hG=>?_)
 match args,hG with
 | [a],hG=>
  obtain ⟨p,rfl,wp,hl,hK⟩:=hG
  refine ⟨by simp,?_⟩
  have w1:=wp.1
  have w2:=wp.2
  have l1:=(Nat.max_le.1 hl).1
  have l2:=(Nat.max_le.1 hl).2
  have r1:=Xf w1
  have r2:=Xf w2
  have s:=XG (av p)
  have z:=Wy wp
  obtain ⟨n,hn0⟩:∃n,sqQ (av p)=n:=⟨_,rfl⟩
  rw [hn0]at s
  have s1:=Nat.le_trans s (by omega:_<=4294967296)
  have s2:rz (-rv p.2)<=4294967296:=by rw [ZB];omega
  have eo:ovQ (av p)=(rv p.1 / n,-rv p.2 / n):=by unfold ovQ;rw [hn0];rfl
  rw [eo,hn0]at hK
  by_cases h0:n=0
  .have e8:=Zc tE (by decide:(8:Nat)≠0)
   rw [if_pos h0,if_pos h0,e8,vaW,Xc]at hK
   simp only [go_sem,Vh,hq,hd,je,kb,hn0,Wb,if_pos h0,e8]
   repeat (first | (refine And.intro (by with_reducible assumption) ?_) | (refine And.intro (Nat.le_trans (by with_reducible assumption) (by decide)) ?_) | (refine And.intro (by decide) ?_))
   exact hK
  .have e0:=zc tE
   rw [if_neg h0,if_neg h0,e0]at hK
   simp only [go_sem,Vh,hq,hd,hn,je,kb,hn0,Wb,if_neg h0,e0]
   repeat (first | (refine And.intro (by with_reducible assumption) ?_) | (refine And.intro (Nat.le_trans (by with_reducible assumption) (by decide)) ?_) | (refine And.intro (by decide) ?_))
   exact hK
theorem YaC (hΓ:Holds P Γ) {f fw fs ft fa:Nat} (hw' : Γ fw=.dat false uG) (hs:Γ fs=.dat false Yg) (ht:Γ ft=.dat false qo) (ha:Γ fa=.dat false Yl) (hc:check P f=some (14,(Qp fw fs ft fa).strip,[.cell 2 6 true])):Sound P f (.dat false jB):=by
 refine Va hc ja1 hΓ (λargs K hcl hfi hG=>?_)
 match args,hG with
 | [a],hG=>
  obtain ⟨c,rfl,hw,hl,hK⟩:=hG
  refine ⟨by simp,?_⟩
  have wW:WLA c.2.2.2.2.2:=⟨hw.2.2.2.2.2.1,hw.2.2.2.2.2.2⟩
  have l6:al c.2.2.2.2.2<=100000000:=Nat.le_trans (cl_w hl) (by decide)
  have hB:=xaZ hw hl
  have wo:=hw.1
  have wQ:=hw.2.1
  have lo:al c.1<=100000000:=Nat.le_trans (Nat.le_max_left _ _) (Nat.le_trans hl (by decide))
  have lq:al c.2.1<=100000000:=Nat.le_trans (Nat.le_max_left _ _) (Nat.le_trans (Nat.le_max_right _ _) (Nat.le_trans hl (by decide)))
  obtain ⟨D,hD⟩:∃D,subQ (av c.2.1) (av c.1)=D:=⟨_,rfl⟩
  obtain ⟨T,hT⟩:∃T,timesQ (av c.2.2.2.2.2) D=T:=⟨_,rfl⟩
  have z1:al (rcan D.1,rcan D.2)<=100000000:=by
   have:=Vm (av c.2.1) (av c.1)
   rw [hD]at this
   have e1:zq (av c.1)<=1000000:=hB.1
   have e2:zq (av c.2.1)<=1000000:=hB.2.1
   exact Nat.le_trans this (by omega)
  have z2:al (rcan T.1,rcan T.2)<=100000000:=by
   have:=VA (av c.2.2.2.2.2) D
   rw [hT]at this
   have e3:=Vm (av c.2.1) (av c.1)
   rw [hD]at e3
   have e1:zq (av c.1)<=1000000:=hB.1
   have e2:zq (av c.2.1)<=1000000:=hB.2.1
   have e4:zq (av c.2.2.2.2.2)<=1000000:=Nat.max_le.2 ⟨hB.2.2.2.2.2.1,hB.2.2.2.2.2.2⟩
   exact Nat.le_trans this (by omega)
  have wD:WLA (rcan D.1,rcan D.2):=vp D
  have wT:WLA (rcan T.1,rcan T.2):=vp T
  have ef:foQ (cpv c)=addQ (av c.1) T:=by rw [<-hT,<-hD];rfl
  rw [ef]at hK
  simp only [go_sem,Qp,hw',hs,ht,ha,cpA,cpC,aA,je,kb,hD,xG,hT]
  repeat (first | (refine And.intro (by with_reducible assumption) ?_) | (refine And.intro (Nat.le_trans (by with_reducible assumption) (by decide)) ?_) | (refine And.intro (by decide) ?_))
  exact hK
theorem vak (hΓ:Holds P Γ) {f fc fa:Nat} (hcl' : Γ fc=.dat false Jz) (ha:Γ fa=.dat false qn) (hc:check P f=some (32,(yn fc fa).strip,[.cell 2 27 true])):Sound P f (.dat false vy):=by
 refine Va hc YaD hΓ (λargs K hcl hfi hG=>?_)
 match args,hG with
 | [a],hG=>
  obtain ⟨c,rfl,hw,hl,hK⟩:=hG
  refine ⟨by simp,?_⟩
  obtain ⟨wo,wQ,w1,w2,w3,w4,w5⟩:=id hw
  have hl0:=hl
  unfold cl at hl0
  simp only [Nat.max_le]at hl0
  obtain ⟨l1,l2,l3,l4,l5,l6,l7⟩:=hl0
  have lz:rz 0<=4294967296:=Nat.le_trans (Nat.le_of_eq rz_0) (by decide)
  have m1:∀x:Rat,x+0=x:=λx=>by grind
  simp only [go_sem,yn,hcl',ha,cpA,cpC,je,rA,kb,Wb,m1]
  repeat (first | (refine And.intro (by with_reducible assumption) ?_) | (refine And.intro (Nat.le_trans (by with_reducible assumption) (by decide)) ?_) | (refine And.intro (by decide) ?_))
  exact hK
end Go.Abs
end
section
namespace Go.Num
open Go.Abs
def wC (w:V2):Nat:=if sqQ w=0 then 8 else 0
def fiC (c:Cp):Nat:=if cchk c≠0 then cchk c else wC (cW (cpv c))
def seC (c:Cp):Nat:=if cchk c≠0 then cchk c else wC (rsQ (cpv c))
def alC (c:Cp):Nat:=if fiC c≠0 then fiC c else seC c
def alL (c:Cp):List CpR:=if alC c=0 then [cpv c,fiQ (cpv c),seQ (cpv c)] else []
theorem wC_0 {w:V2}:wC w=0↔sqQ w≠0:=by
 unfold wC;split
 .rename_i h;simp [h]
 .rename_i h;simp [h]
theorem XbI {c:Cp} (h:cchk c≠0):fiC c=cchk c:=if_pos h
theorem WbO {c:Cp} (h:cchk c≠0):seC c=cchk c:=if_pos h
theorem Ya6 {c:Cp} (h:cchk c=0):fiC c=wC (cW (cpv c)):=by unfold fiC;rw [if_neg (by omega)]
theorem Ybn {c:Cp} (h:cchk c=0):seC c=wC (rsQ (cpv c)):=by unfold seC;rw [if_neg (by omega)]
theorem Ua9 {c:CpR} {o k:V2} {x y z:Rat} {b:Nat} (h:CB' b c) (ho:zq o<=b) (hk:zq k<=b+4) (h1:rz x<=b) (h2:rz y<=b) (h3:rz z<=b):CB' (7*b+40) (simQ c o k x y z):=by
 have f:=wbQ h
 have s:=XG k
 have v:=VbJ k
 have m1:=uc (sqQ k) x
 have m2:=uc (sqQ k) y
 have m3:=uc (sqQ k) z
 have v1:=zq_1 (ovQ k)
 have v2:=zq_2 (ovQ k)
 exact ⟨by show zq o<=_;omega,by show zq (foQ c)<=_;omega,by show rz (sqQ k*x)<=_;omega,by show rz (sqQ k*y)<=_;omega,by show rz (sqQ k*z)<=_;omega,by show rz (ovQ k).1<=_;omega,by show rz (ovQ k).2<=_;omega⟩
theorem jbu {c:CpR} {b:Nat} (h:CB' b c):CB' (7*b+40) (fiQ c):=
 Ua9 h h.1 (Nat.le_trans (Nat.max_le.2 ⟨h.2.2.2.2.2.1,h.2.2.2.2.2.2⟩) (by omega)) h.2.2.2.1 h.2.2.1 h.2.2.2.2.1
theorem WbJ {c:CpR} {b:Nat} (h:CB' b c):CB' (7*b+40) (seQ c):=
 Ua9 h h.2.1 (Va8 h) h.2.2.2.1 h.2.2.2.2.1 h.2.2.1
end Go.Num
namespace Go.Abs
open Go.Num
variable {P:Program} {Γ:Nat->Spec}
def vA (tE:Nat) (l:List AV) (K:AV->Prop):Prop:=
 match l with
 | [c,o,k,x,y,z]=>onCp (λc=>onA (λo=>onA (λk=>onR (λx=>onR (λy=>onR (λz=>cl c<=1000000/\al o<=1000000/\al k<=1000000/\rl x<=1000000/\rl y<=1000000/\rl z<=1000000/\K (.tup [cqR (if wC (av k)=0 then simQ (cpv c) (av o) (av k) (rv x) (rv y) (rv z) else z27),errV tE (wC (av k))])) z) y) x) k) o) c
 | _=>False
theorem ya3 (tE:Nat) (c o k x y z:AV) (K:AV->Prop):vA tE [c,o,k,x,y,z] K=(onCp (λc=>onA (λo=>onA (λk=>onR (λx=>onR (λy=>onR (λz=>cl c<=1000000/\al o<=1000000/\al k<=1000000/\rl x<=1000000/\rl y<=1000000/\rl z<=1000000/\K (.tup [cqR (if wC (av k)=0 then simQ (cpv c) (av o) (av k) (rv x) (rv y) (rv z) else z27),errV tE (wC (av k))])) z) y) x) k) o) c):=propext Iff.rfl
@[congr] theorem QbM (tE:Nat) {K:AV->Prop} {l l' : List AV} (h:l=l'):vA tE l K=vA tE l' K:=by subst h;rfl
attribute [go_sem] ya3
attribute [go_sem ↓] ya3
theorem kaT (tE:Nat):Good (vA tE):=ka λas=>by
 unfold vA
 split
 .exact (Yj λ_=>(xo λ_=>(xo λ_=>(Ji λ_=>(Ji λ_=>(Ji λ_=>(.and λ_=>(.and λ_=>(.and λ_=>(.and λ_=>(.and λ_=>(.and λ_=>(.ret _)))))))))))))
 .exact .of λK hk=>hk.elim
def VM (tE:Nat) (l:List AV) (K:AV->Prop):Prop:=
 match l with
 | [c]=>onCp (λc=>cl c<=100000/\K (.tup [cqR (if fiC c=0 then fiQ (cpv c) else z27),errV tE (fiC c)])) c
 | _=>False
theorem Ubb (tE:Nat) (c:AV) (K:AV->Prop):VM tE [c] K=(onCp (λc=>cl c<=100000/\K (.tup [cqR (if fiC c=0 then fiQ (cpv c) else z27),errV tE (fiC c)])) c):=propext Iff.rfl
@[congr] theorem wbT (tE:Nat) {K:AV->Prop} {l l' : List AV} (h:l=l'):VM tE l K=VM tE l' K:=by subst h;rfl
attribute [go_sem] Ubb
attribute [go_sem ↓] Ubb
theorem Xa6 (tE:Nat):Good (VM tE):=ka λas=>by
 unfold VM
 split
 .exact (Yj λ_=>(.and λ_=>(.ret _)))
 .exact .of λK hk=>hk.elim
def ZU (tE:Nat) (l:List AV) (K:AV->Prop):Prop:=
 match l with
 | [c]=>onCp (λc=>cl c<=100000/\K (.tup [cqR (if seC c=0 then seQ (cpv c) else z27),errV tE (seC c)])) c
 | _=>False
theorem Vba (tE:Nat) (c:AV) (K:AV->Prop):ZU tE [c] K=(onCp (λc=>cl c<=100000/\K (.tup [cqR (if seC c=0 then seQ (cpv c) else z27),errV tE (seC c)])) c):=propext Iff.rfl
@[congr] theorem YbS (tE:Nat) {K:AV->Prop} {l l' : List AV} (h:l=l'):ZU tE l K=ZU tE l' K:=by subst h;rfl
attribute [go_sem] Vba
attribute [go_sem ↓] Vba
theorem Xa7 (tE:Nat):Good (ZU tE):=ka λas=>by
 unfold ZU
 split
 .exact (Yj λ_=>(.and λ_=>(.ret _)))
 .exact .of λK hk=>hk.elim
def kU (tE:Nat) (l:List AV) (K:AV->Prop):Prop:=
 match l with
 | [c]=>onCp (λc=>cl c<=100000/\K (.tup [pQ (if cchk c=0 then foQ (cpv c) else (0,0)),errV tE (cchk c)])) c
 | _=>False
theorem Qbf (tE:Nat) (c:AV) (K:AV->Prop):kU tE [c] K=(onCp (λc=>cl c<=100000/\K (.tup [pQ (if cchk c=0 then foQ (cpv c) else (0,0)),errV tE (cchk c)])) c):=propext Iff.rfl
@[congr] theorem xbS (tE:Nat) {K:AV->Prop} {l l' : List AV} (h:l=l'):kU tE l K=kU tE l' K:=by subst h;rfl
attribute [go_sem] Qbf
attribute [go_sem ↓] Qbf
theorem ua9 (tE:Nat):Good (kU tE):=ka λas=>by
 unfold kU
 split
 .exact (Yj λ_=>(.and λ_=>(.ret _)))
 .exact .of λK hk=>hk.elim
def Ybp (tE:Nat) (l:List AV) (K:AV->Prop):Prop:=
 match l with
 | [c]=>onCp (λc=>cl c<=100000/\K (.tup [cqR (if cchk c=0 then swQ (cpv c) else z27),errV tE (cchk c)])) c
 | _=>False
theorem zba (tE:Nat) (c:AV) (K:AV->Prop):Ybp tE [c] K=(onCp (λc=>cl c<=100000/\K (.tup [cqR (if cchk c=0 then swQ (cpv c) else z27),errV tE (cchk c)])) c):=propext Iff.rfl
@[congr] theorem YbT (tE:Nat) {K:AV->Prop} {l l' : List AV} (h:l=l'):Ybp tE l K=Ybp tE l' K:=by subst h;rfl
attribute [go_sem] zba
attribute [go_sem ↓] zba
def uA (tE:Nat) (l:List AV) (K:AV->Prop):Prop:=
 match l with
 | [c]=>onCp (λc=>cl c<=10000/\K (.tup [.one (.slice ((alL c).map λX=>cpC (canC X))),errV tE (alC c)])) c
 | _=>False
theorem ZaH (tE:Nat) (c:AV) (K:AV->Prop):uA tE [c] K=(onCp (λc=>cl c<=10000/\K (.tup [.one (.slice ((alL c).map λX=>cpC (canC X))),errV tE (alC c)])) c):=propext Iff.rfl
@[congr] theorem kbI (tE:Nat) {K:AV->Prop} {l l' : List AV} (h:l=l'):uA tE l K=uA tE l' K:=by subst h;rfl
attribute [go_sem] ZaH
attribute [go_sem ↓] ZaH
theorem WaZ (tE:Nat):Good (uA tE):=ka λas=>by
 unfold uA
 split
 .exact (Yj λ_=>(.and λ_=>(.ret _)))
 .exact .of λK hk=>hk.elim
def Jh (f0 f1 f2 f3 f4:Nat):AC:=(.seq (.ops false [.u 6 (.box 27 (.t 0)),.u 7 (.box 6 (.t 1)),.u 8 (.box 6 (.t 2)),.u 9 (.box 3 (.t 3)),.u 10 (.box 3 (.t 4)),.u 11 (.box 3 (.t 5)),.u 12 (.alloc [(.lit (.bool false)),.emp,.emp,(.lit (.bool false)),.emp,.emp,(.lit (.bool false)),.emp,.emp,(.lit (.bool false)),.emp,.emp,(.lit (.bool false)),.emp,.emp,(.lit (.bool false)),.emp,.emp,(.lit (.bool false)),.emp,.emp,(.lit (.bool false)),.emp,.emp,(.lit (.bool false)),.emp,.emp]),.m 13 (.c (.one (.lit .nilIface)))])
 (.fg [6,7,8,9,10,11,12] (.seq (.ops false [.u 18 (.ld none 6 true (.t 8)),.u 19 (.call f0 [(.t 18)]),.m 17 (.t 19),.u 20 (.ext 0 (.t 17)),.u 21 (.ext 1 (.t 17)),.u 14 (.alloc [(.lit (.bool false)),.emp,.emp,(.lit (.bool false)),.emp,.emp]),.n (.st none 6 (.t 14) (.t 20)),.m 15 (.t 21)])
 (.fg [6,7,8,9,10,11,12,14,15] (.seq (.seq (.ops false [.m 22 (.t 15),.u 23 (.binn .neq (.t 22) (.c (.one (.lit .nilIface))))])
 (.fg [6,7,8,9,10,11,12,14,15,23] (.cond (.t 23) (.seq (.ops false [.u 24 (.build [.z [(.lit (.bool false)),.emp,.emp,(.lit (.bool false)),.emp,.emp,(.lit (.bool false)),.emp,.emp,(.lit (.bool false)),.emp,.emp,(.lit (.bool false)),.emp,.emp,(.lit (.bool false)),.emp,.emp,(.lit (.bool false)),.emp,.emp,(.lit (.bool false)),.emp,.emp,(.lit (.bool false)),.emp,.emp]]),.m 25 (.t 15),.n (.st none 27 (.t 12) (.t 24)),.m 13 (.t 25)])
 .ret) .skip)))
 (.fg [6,7,8,9,10,11,12,14] (.seq (.ops false [.u 26 (.ld none 6 true (.t 8)),.u 27 (.call f1 [(.t 26)]),.u 16 (.alloc [(.lit (.bool false)),.emp,.emp]),.n (.st none 3 (.t 16) (.t 27))])
 (.fg [6,7,9,10,11,12,14,16] (.seq (.ops true [.u 28 (.ld none 6 true (.t 7)),.u 29 (.call f2 [(.t 28)]),.u 30 (.ld none 27 true (.t 6)),.u 31 (.call f3 [(.t 30)]),.u 32 (.ld none 3 true (.t 16)),.u 33 (.ld none 3 true (.t 9)),.u 34 (.call f4 [(.t 32),(.t 33)]),.u 35 (.ld none 3 true (.t 16)),.u 36 (.ld none 3 true (.t 10)),.u 37 (.call f4 [(.t 35),(.t 36)]),.u 38 (.ld none 3 true (.t 16)),.u 39 (.ld none 3 true (.t 11)),.u 40 (.call f4 [(.t 38),(.t 39)]),.u 41 (.fa 0 (.t 14)),.u 42 (.ld none 3 true (.t 41)),.u 43 (.fa 3 (.t 14)),.u 44 (.ld none 3 true (.t 43)),.u 45 (.build [.x 6 (.t 29),.x 6 (.t 31),.x 3 (.t 34),.x 3 (.t 37),.x 3 (.t 40),.x 3 (.t 42),.x 3 (.t 44)]),.n (.st none 27 (.t 12) (.t 45)),.m 13 (.c (.one (.lit .nilIface)))])
 .ret)))))))))
def Yk (f0 f1 f2:Nat):AC:=(.seq (.ops false [.u 1 (.box 27 (.t 0)),.u 2 (.alloc [(.lit (.bool false)),.emp,.emp,(.lit (.bool false)),.emp,.emp,(.lit (.bool false)),.emp,.emp,(.lit (.bool false)),.emp,.emp,(.lit (.bool false)),.emp,.emp,(.lit (.bool false)),.emp,.emp,(.lit (.bool false)),.emp,.emp,(.lit (.bool false)),.emp,.emp,(.lit (.bool false)),.emp,.emp]),.m 3 (.c (.one (.lit .nilIface)))])
 (.fg [1,2] (.seq (.seq (.ops false [.u 5 (.ld none 27 true (.t 1)),.u 6 (.call f0 [(.t 5)]),.m 4 (.t 6)])
 (.fg [1,2,4] (.seq (.ops false [.m 7 (.t 4),.u 8 (.binn .neq (.t 7) (.c (.one (.lit .nilIface))))])
 (.fg [1,2,4,8] (.cond (.t 8) (.seq (.ops false [.u 9 (.build [.z [(.lit (.bool false)),.emp,.emp,(.lit (.bool false)),.emp,.emp,(.lit (.bool false)),.emp,.emp,(.lit (.bool false)),.emp,.emp,(.lit (.bool false)),.emp,.emp,(.lit (.bool false)),.emp,.emp,(.lit (.bool false)),.emp,.emp,(.lit (.bool false)),.emp,.emp,(.lit (.bool false)),.emp,.emp]]),.m 10 (.t 4),.n (.st none 27 (.t 2) (.t 9)),.m 3 (.t 10)])
 .ret) .skip)))))
 (.fg [1,2] (.seq (.ops true [.u 11 (.ld none 27 true (.t 1)),.u 12 (.fa 0 (.t 1)),.u 13 (.ld none 6 true (.t 12)),.u 14 (.ld none 27 true (.t 1)),.u 15 (.call f1 [(.t 14)]),.u 16 (.fa 15 (.t 1)),.u 17 (.ld none 3 true (.t 16)),.u 18 (.fa 12 (.t 1)),.u 19 (.ld none 3 true (.t 18)),.u 20 (.fa 18 (.t 1)),.u 21 (.ld none 3 true (.t 20)),.u 22 (.call f2 [(.t 11),(.t 13),(.t 15),(.t 17),(.t 19),(.t 21)]),.u 23 (.ext 0 (.t 22)),.u 24 (.ext 1 (.t 22)),.n (.st none 27 (.t 2) (.t 23)),.m 3 (.t 24)])
 .ret)))))
def yi (f0 f1 f2:Nat):AC:=(.seq (.ops false [.u 1 (.box 27 (.t 0)),.u 2 (.alloc [(.lit (.bool false)),.emp,.emp,(.lit (.bool false)),.emp,.emp,(.lit (.bool false)),.emp,.emp,(.lit (.bool false)),.emp,.emp,(.lit (.bool false)),.emp,.emp,(.lit (.bool false)),.emp,.emp,(.lit (.bool false)),.emp,.emp,(.lit (.bool false)),.emp,.emp,(.lit (.bool false)),.emp,.emp]),.m 3 (.c (.one (.lit .nilIface)))])
 (.fg [1,2] (.seq (.seq (.ops false [.u 5 (.ld none 27 true (.t 1)),.u 6 (.call f0 [(.t 5)]),.m 4 (.t 6)])
 (.fg [1,2,4] (.seq (.ops false [.m 7 (.t 4),.u 8 (.binn .neq (.t 7) (.c (.one (.lit .nilIface))))])
 (.fg [1,2,4,8] (.cond (.t 8) (.seq (.ops false [.u 9 (.build [.z [(.lit (.bool false)),.emp,.emp,(.lit (.bool false)),.emp,.emp,(.lit (.bool false)),.emp,.emp,(.lit (.bool false)),.emp,.emp,(.lit (.bool false)),.emp,.emp,(.lit (.bool false)),.emp,.emp,(.lit (.bool false)),.emp,.emp,(.lit (.bool false)),.emp,.emp,(.lit (.bool false)),.emp,.emp]]),.m 10 (.t 4),.n (.st none 27 (.t 2) (.t 9)),.m 3 (.t 10)])
 .ret) .skip)))))
 (.fg [1,2] (.seq (.ops true [.u 11 (.ld none 27 true (.t 1)),.u 12 (.fa 6 (.t 1)),.u 13 (.ld none 6 true (.t 12)),.u 14 (.ld none 27 true (.t 1)),.u 15 (.call f1 [(.t 14)]),.u 16 (.fa 15 (.t 1)),.u 17 (.ld none 3 true (.t 16)),.u 18 (.fa 18 (.t 1)),.u 19 (.ld none 3 true (.t 18)),.u 20 (.fa 12 (.t 1)),.u 21 (.ld none 3 true (.t 20)),.u 22 (.call f2 [(.t 11),(.t 13),(.t 15),(.t 17),(.t 19),(.t 21)]),.u 23 (.ext 0 (.t 22)),.u 24 (.ext 1 (.t 22)),.n (.st none 27 (.t 2) (.t 23)),.m 3 (.t 24)])
 .ret)))))
def vk (f0 f1:Nat):AC:=(.seq (.ops false [.u 1 (.box 27 (.t 0)),.u 2 (.alloc [(.lit (.bool false)),.emp,.emp,(.lit (.bool false)),.emp,.emp]),.m 3 (.c (.one (.lit .nilIface)))])
 (.fg [1,2] (.seq (.seq (.ops false [.u 5 (.ld none 27 true (.t 1)),.u 6 (.call f0 [(.t 5)]),.m 4 (.t 6)])
 (.fg [1,2,4] (.seq (.ops false [.m 7 (.t 4),.u 8 (.binn .neq (.t 7) (.c (.one (.lit .nilIface))))])
 (.fg [1,2,4,8] (.cond (.t 8) (.seq (.ops false [.u 9 (.build [.z [(.lit (.bool false)),.emp,.emp,(.lit (.bool false)),.emp,.emp]]),.m 10 (.t 4),.n (.st none 6 (.t 2) (.t 9)),.m 3 (.t 10)])
 .ret) .skip)))))
 (.fg [1,2] (.seq (.ops false [.u 11 (.ld none 27 true (.t 1)),.u 12 (.call f1 [(.t 11)]),.n (.st none 6 (.t 2) (.t 12)),.m 3 (.c (.one (.lit .nilIface)))])
 .ret)))))
def jk (f0 f1 f2:Nat):AC:=(.seq (.ops false [.u 1 (.box 27 (.t 0)),.m 2 (.c (.one .emp)),.m 3 (.c (.one (.lit .nilIface)))])
 (.fg [1] (.seq (.ops false [.u 8 (.ld none 27 true (.t 1)),.u 9 (.call f0 [(.t 8)]),.m 7 (.t 9),.u 10 (.ext 0 (.t 7)),.u 11 (.ext 1 (.t 7)),.u 4 (.alloc [(.lit (.bool false)),.emp,.emp,(.lit (.bool false)),.emp,.emp,(.lit (.bool false)),.emp,.emp,(.lit (.bool false)),.emp,.emp,(.lit (.bool false)),.emp,.emp,(.lit (.bool false)),.emp,.emp,(.lit (.bool false)),.emp,.emp,(.lit (.bool false)),.emp,.emp,(.lit (.bool false)),.emp,.emp]),.n (.st none 27 (.t 4) (.t 10)),.m 5 (.t 11)])
 (.fg [1,4,5] (.seq (.seq (.ops false [.m 12 (.t 5),.u 13 (.binn .neq (.t 12) (.c (.one (.lit .nilIface))))])
 (.fg [1,4,5,13] (.cond (.t 13) (.seq (.ops false [.m 14 (.t 5),.m 2 (.c (.one .emp)),.m 3 (.t 14)])
 .ret) .skip)))
 (.fg [1,4] (.seq (.ops false [.u 16 (.ld none 27 true (.t 1)),.u 17 (.call f1 [(.t 16)]),.m 15 (.t 17),.u 18 (.ext 0 (.t 15)),.u 19 (.ext 1 (.t 15)),.u 6 (.alloc [(.lit (.bool false)),.emp,.emp,(.lit (.bool false)),.emp,.emp,(.lit (.bool false)),.emp,.emp,(.lit (.bool false)),.emp,.emp,(.lit (.bool false)),.emp,.emp,(.lit (.bool false)),.emp,.emp,(.lit (.bool false)),.emp,.emp,(.lit (.bool false)),.emp,.emp,(.lit (.bool false)),.emp,.emp]),.n (.st none 27 (.t 6) (.t 18)),.m 5 (.t 19)])
 (.fg [1,4,5,6] (.seq (.seq (.ops false [.m 20 (.t 5),.u 21 (.binn .neq (.t 20) (.c (.one (.lit .nilIface))))])
 (.fg [1,4,5,6,21] (.cond (.t 21) (.seq (.ops false [.m 22 (.t 5),.m 2 (.c (.one .emp)),.m 3 (.t 22)])
 .ret) .skip)))
 (.fg [1,4,6] (.seq (.ops true [.u 23 (.ld none 27 true (.t 1)),.u 24 (.call f2 [(.t 23)]),.u 25 (.ld none 27 true (.t 4)),.u 26 (.ld none 27 true (.t 6)),.u 27 (.row 27 [[.x 27 (.t 24)],[.x 27 (.t 25)],[.x 27 (.t 26)]]),.m 2 (.t 27),.m 3 (.c (.one (.lit .nilIface)))])
 .ret)))))))))))
theorem jaD (hΓ:Holds P Γ) {f fi fq fc ff fm tE:Nat} (hi:Γ fi=.dat false (JE tE)) (hq:Γ fq=.dat false yF) (hcl' : Γ fc=.dat false Jz) (hf:Γ ff=.dat false jB) (hm:Γ fm=.dat false Xm) (hc:check P f=some (46,(Jh fi fq fc ff fm).strip,[.cell 12 27 true,.tmp 13])):Sound P f (.dat false (vA tE)):=by
 refine Va hc (kaT tE) hΓ (λargs K hcl hfi hG=>?_)
 match args,hG with
 | [a,b,d,e,g,h],hG=>
  obtain ⟨c,rfl,hw,o,rfl,wo,k,rfl,wk,x,rfl,wx,y,rfl,wy,z,rfl,wz,hl,lo,lk,lx,ly,lz,hK⟩:=hG
  refine ⟨by simp,?_⟩
  have lo2:al o<=100000000:=Nat.le_trans lo (by decide)
  have lk2:al k<=100000000:=Nat.le_trans lk (by decide)
  have s:=XG (av k)
  have zk:=Wy wk
  by_cases h0:sqQ (av k)=0
  .have ew:wC (av k)=8:=if_pos h0
   have e8:=Zc tE (by decide:(8:Nat)≠0)
   rw [ew,if_neg (by decide),e8]at hK
   unfold cqR z27 at hK
   simp only [Xc]at hK
   have ip:∀{α:Type} (x y:α),(if sqQ (av k)=0 then x else y)=x:=λx y=>if_pos h0
   simp only [go_sem,Jh,hi,cpA,cpC,je,rA,kb,ip,e8]
   repeat (first | (refine And.intro (by with_reducible assumption) ?_) | (refine And.intro (Nat.le_trans (by with_reducible assumption) (by decide)) ?_) | (refine And.intro (by decide) ?_))
   exact hK
  .have ew:wC (av k)=0:=if_neg h0
   have e0:=zc tE
   rw [ew,if_pos rfl,e0]at hK
   obtain ⟨n,hn⟩:∃n,sqQ (av k)=n:=⟨_,rfl⟩
   rw [hn]at s h0
   have ip:∀{α:Type} (x y:α),(if n=0 then x else y)=y:=λx y=>if_neg h0
   have zn:=Nat.le_trans s (by omega:_<=10000000)
   have es:simQ (cpv c) (av o) (av k) (rv x) (rv y) (rv z)=(av o,foQ (cpv c),n*rv x,n*rv y,n*rv z,(ovQ (av k)).1,(ovQ (av k)).2):=by unfold simQ;rw [hn]
   rw [es]at hK
   simp only [go_sem,Jh,hi,hq,hcl',hf,hm,cpA,cpC,je,rA,kb,ip,e0,hn,Wb]
   repeat (first | (refine And.intro (by with_reducible assumption) ?_) | (refine And.intro (Nat.le_trans (by with_reducible assumption) (by decide)) ?_) | (refine And.intro (by decide) ?_))
   exact hK
theorem VaX (hΓ:Holds P Γ) {f fk fr fs tE:Nat} (hk:Γ fk=.dat false (xu tE)) (hr:Γ fr=.dat false uG) (hs:Γ fs=.dat false (vA tE)) (hc:check P f=some (25,(Yk fk fr fs).strip,[.cell 2 27 true,.tmp 3])):Sound P f (.dat false (VM tE)):=by
 refine Va hc (Xa6 tE) hΓ (λargs K hcl hfi hG=>?_)
 match args,hG with
 | [a],hG=>
  obtain ⟨c,rfl,hw,hl,hK⟩:=hG
  refine ⟨by simp,?_⟩
  have hl2:cl c<=100000000:=Nat.le_trans hl (by decide)
  have hl3:cl c<=1000000:=Nat.le_trans hl (by decide)
  by_cases h0:cchk c=0
  .have e0:=zc tE
   obtain ⟨wo,wQ,w1,w2,w3,w4,w5⟩:=id hw
   have hl0:=hl3
   unfold cl at hl0
   simp only [Nat.max_le]at hl0
   obtain ⟨l1,l2,l3,l4,l5,l6,l7⟩:=hl0
   have wW:WLA c.2.2.2.2.2:=⟨w4,w5⟩
   have lW:al c.2.2.2.2.2<=1000000:=cl_w hl3
   have aW:av c.2.2.2.2.2=cW (cpv c):=rfl
   have ef:simQ (cpv c) (av c.1) (cW (cpv c)) (rv c.2.2.2.1) (rv c.2.2.1) (rv c.2.2.2.2.1)=fiQ (cpv c):=rfl
   obtain ⟨X,hX⟩:∃X,(if wC (cW (cpv c))=0 then fiQ (cpv c) else z27)=X:=⟨_,rfl⟩
   rw [Ya6 h0,hX]at hK
   simp only [go_sem,Yk,hk,hr,hs,cpA,cpC,aA,je,rA,kb,h0,e0,aW,ef,hX,cqR]
   repeat (first | (refine And.intro (by with_reducible assumption) ?_) | (refine And.intro (Nat.le_trans (by with_reducible assumption) (by decide)) ?_) | (refine And.intro (by decide) ?_))
   exact hK
  .have e1:=Zc tE h0
   rw [XbI h0,if_neg h0,e1]at hK
   unfold cqR z27 at hK
   simp only [Xc]at hK
   simp only [go_sem,Yk,hk,cpA,cpC,kb,e1]
   repeat (first | (refine And.intro (by with_reducible assumption) ?_) | (refine And.intro (Nat.le_trans (by with_reducible assumption) (by decide)) ?_) | (refine And.intro (by decide) ?_))
   exact hK
theorem JaJ (hΓ:Holds P Γ) {f fk fr fs tE:Nat} (hk:Γ fk=.dat false (xu tE)) (hr:Γ fr=.dat false qB) (hs:Γ fs=.dat false (vA tE)) (hc:check P f=some (25,(yi fk fr fs).strip,[.cell 2 27 true,.tmp 3])):Sound P f (.dat false (ZU tE)):=by
 refine Va hc (Xa7 tE) hΓ (λargs K hcl hfi hG=>?_)
 match args,hG with
 | [a],hG=>
  obtain ⟨c,rfl,hw,hl,hK⟩:=hG
  refine ⟨by simp,?_⟩
  have hl2:cl c<=100000000:=Nat.le_trans hl (by decide)
  have hl3:cl c<=1000000:=Nat.le_trans hl (by decide)
  by_cases h0:cchk c=0
  .have e0:=zc tE
   obtain ⟨wo,wQ,w1,w2,w3,w4,w5⟩:=id hw
   have hl0:=hl3
   unfold cl at hl0
   simp only [Nat.max_le]at hl0
   obtain ⟨l1,l2,l3,l4,l5,l6,l7⟩:=hl0
   obtain ⟨R,hR⟩:∃R,reQ (cpv c)=R:=⟨_,rfl⟩
   have zr:=Va8 (xaZ hw hl)
   have hR' : rsQ (cpv c)=R:=hR
   rw [hR']at zr
   have wW:WLA (rcan R.1,rcan R.2):=vp R
   have lW:al (rcan R.1,rcan R.2)<=1000000:=Nat.le_trans zr (by decide)
   have ef:simQ (cpv c) (av c.2.1) R (rv c.2.2.2.1) (rv c.2.2.2.2.1) (rv c.2.2.1)=seQ (cpv c):=by rw [<-hR];rfl
   obtain ⟨X,hX⟩:∃X,(if wC R=0 then seQ (cpv c) else z27)=X:=⟨_,rfl⟩
   rw [Ybn h0,hR',hX]at hK
   simp only [go_sem,yi,hk,hr,hs,cpA,cpC,aA,je,rA,kb,h0,e0,hR,xG,ef,hX,cqR]
   repeat (first | (refine And.intro (by with_reducible assumption) ?_) | (refine And.intro (Nat.le_trans (by with_reducible assumption) (by decide)) ?_) | (refine And.intro (by decide) ?_))
   exact hK
  .have e1:=Zc tE h0
   rw [WbO h0,if_neg h0,e1]at hK
   unfold cqR z27 at hK
   simp only [Xc]at hK
   simp only [go_sem,yi,hk,cpA,cpC,kb,e1]
   repeat (first | (refine And.intro (by with_reducible assumption) ?_) | (refine And.intro (Nat.le_trans (by with_reducible assumption) (by decide)) ?_) | (refine And.intro (by decide) ?_))
   exact hK
theorem qaM (hΓ:Holds P Γ) {f fk ff tE:Nat} (hk:Γ fk=.dat false (xu tE)) (hf:Γ ff=.dat false jB) (hc:check P f=some (13,(vk fk ff).strip,[.cell 2 6 true,.tmp 3])):Sound P f (.dat false (kU tE)):=by
 refine Va hc (ua9 tE) hΓ (λargs K hcl hfi hG=>?_)
 match args,hG with
 | [a],hG=>
  obtain ⟨c,rfl,hw,hl,hK⟩:=hG
  refine ⟨by simp,?_⟩
  have hl2:cl c<=100000000:=Nat.le_trans hl (by decide)
  have hl3:cl c<=1000000:=Nat.le_trans hl (by decide)
  by_cases h0:cchk c=0
  .have e0:=zc tE
   rw [h0,if_pos rfl,e0]at hK
   simp only [go_sem,vk,hk,hf,cpA,cpC,kb,h0,e0]
   repeat (first | (refine And.intro (by with_reducible assumption) ?_) | (refine And.intro (Nat.le_trans (by with_reducible assumption) (by decide)) ?_) | (refine And.intro (by decide) ?_))
   exact hK
  .have e1:=Zc tE h0
   rw [if_neg h0,e1,vaW,Xc]at hK
   simp only [go_sem,vk,hk,cpA,cpC,kb,e1]
   repeat (first | (refine And.intro (by with_reducible assumption) ?_) | (refine And.intro (Nat.le_trans (by with_reducible assumption) (by decide)) ?_) | (refine And.intro (by decide) ?_))
   exact hK
theorem JaD (hΓ:Holds P Γ) {f fi fs fc tE:Nat} (hi:Γ fi=.dat false (VM tE)) (hs:Γ fs=.dat false (ZU tE)) (hcp:Γ fc=.dat false vy) (hc:check P f=some (28,(jk fi fs fc).strip,[.tmp 2,.tmp 3])):Sound P f (.dat false (uA tE)):=by
 refine Va hc (WaZ tE) hΓ (λargs K hcl hfi hG=>?_)
 match args,hG with
 | [a],hG=>
  obtain ⟨c,rfl,hw,hl,hK⟩:=hG
  refine ⟨by simp,?_⟩
  have hl1:cl c<=100000:=Nat.le_trans hl (by decide)
  have hl2:cl c<=100000000:=Nat.le_trans hl (by decide)
  by_cases h0:fiC c=0
  .have e0:=zc tE
   have ea:alC c=seC c:=by unfold alC;rw [if_neg (by omega)]
   by_cases h1:seC c=0
   .rw [ea,h1,e0]at hK
    unfold alL at hK
    rw [ea,if_pos h1]at hK
    simp only [go_sem,jk,hi,hs,hcp,cpA,cpC,kb,h0,h1,e0,cqR]
    repeat (first | (refine And.intro (by with_reducible assumption) ?_) | (refine And.intro (Nat.le_trans (by with_reducible assumption) (by decide)) ?_) | (refine And.intro (by decide) ?_))
    exact hK
   .have e1:=Zc tE h1
    unfold alL at hK
    rw [ea,if_neg h1,e1]at hK
    simp only [go_sem,jk,hi,hs,cpA,cpC,kb,h0,h1,e0,e1,cqR]
    repeat (first | (refine And.intro (by with_reducible assumption) ?_) | (refine And.intro (Nat.le_trans (by with_reducible assumption) (by decide)) ?_) | (refine And.intro (by decide) ?_))
    exact hK
  .have e1:=Zc tE h0
   have ea:alC c=fiC c:=if_pos h0
   unfold alL at hK
   rw [ea,if_neg h0,e1]at hK
   simp only [go_sem,jk,hi,cpA,cpC,kb,h0,e1,cqR]
   repeat (first | (refine And.intro (by with_reducible assumption) ?_) | (refine And.intro (Nat.le_trans (by with_reducible assumption) (by decide)) ?_) | (refine And.intro (by decide) ?_))
   exact hK
end Go.Abs
end
section
namespace Go.Num
theorem v2e {a b:V2} (h1:a.1=b.1) (h2:a.2=b.2):a=b:=Prod.ext h1 h2
theorem Wa8 (a b:V2):timesQ a b=timesQ b a:=by unfold timesQ;exact v2e (by simp only;grind) (by simp only;grind)
theorem ybs (a b c:V2):timesQ (timesQ a b) c=timesQ a (timesQ b c):=by unfold timesQ;exact v2e (by simp only;grind) (by simp only;grind)
theorem vbD (a:V2):timesQ a (1,0)=a:=by unfold timesQ;exact v2e (by simp only;grind) (by simp only;grind)
theorem jaA (a b:V2):sqQ (timesQ a b)=sqQ a*sqQ b:=by unfold sqQ timesQ;simp only;grind
theorem Zbb {w:V2} (h:sqQ w≠0):timesQ w (ovQ w)=(1,0):=by
 obtain ⟨j,hj,e⟩:=ov_j h
 rw [e]
 unfold timesQ
 refine v2e ?_ ?_
 .have:w.1*(j*w.1)-w.2*(j * -w.2)=sqQ w*j:=by unfold sqQ;grind
  simp only;rw [this,hj]
 .simp only;grind
theorem V8 (a b:V2):subQ (addQ a b) a=b:=by unfold addQ subQ;exact v2e (by simp only;grind) (by simp only;grind)
theorem ybO (c:CpR):cW (fiQ c)=ovQ (cW c):=rfl
theorem YbO (c:CpR):cW (seQ c)=ovQ (rsQ c):=rfl
def en1 (c:CpR) (a b:V2):V2:=addQ c.1 (timesQ (cW c) (subQ b a))
def en2 (c:CpR) (a b:V2):V2:=subQ c.2.1 (timesQ (rsQ c) (subQ b a))
def en3 (c:CpR) (a b:V2):V2:=addQ (en1 c a b) (timesQ (cW c) (subQ a c.1))
def en4 (c:CpR) (a b:V2):V2:=addQ (en2 c a b) (timesQ (rsQ c) (subQ b c.2.1))
theorem W8 (a b:V2):sqQ (subQ a b)=sqQ (subQ b a):=by unfold sqQ subQ;simp only;grind
theorem WbD (a b:V2) (h:a=subQ (0,0) b):sqQ a=sqQ b:=by rw [h];unfold sqQ subQ;simp only;grind
theorem Zax (c:CpR) (a b:V2):ptQ c a b=addQ a (timesQ (cW c) (subQ b a)):=by
 unfold ptQ;congr 1
 unfold timQ timesQ cW;exact v2e (by simp only;grind) (by simp only;grind)
theorem zbp {c:CpR} {a b:V2} (h:hldQ c a b):hldQ (fiQ c) (en1 c a b) (en3 c a b):=by
 obtain ⟨h1,h2,h3⟩:=h
 refine ⟨?_,?_,?_⟩
 .have e:subQ (en1 c a b) (fiQ c).1=timesQ (cW c) (subQ b a):=V8 _ _
  rw [e,jaA,W8 b a,h3];rfl
 .have e:subQ (en3 c a b) (fiQ c).2.1=timesQ (cW c) (subQ b c.2.1):=by
   show subQ (en3 c a b) (foQ c)=_
   unfold en3 en1 foQ timesQ addQ subQ;exact v2e (by simp only;grind) (by simp only;grind)
  rw [e,jaA,h2];rfl
 .rw [W8]
  have e:subQ (en3 c a b) (en1 c a b)=timesQ (cW c) (subQ a c.1):=V8 _ _
  rw [e,jaA,h1];rfl
theorem qbk {c:CpR} {a b:V2} (h:hldQ c a b):hldQ (seQ c) (en2 c a b) (en4 c a b):=by
 obtain ⟨h1,h2,h3⟩:=h
 refine ⟨?_,?_,?_⟩
 .have e:subQ (en2 c a b) (seQ c).1=subQ (0,0) (timesQ (rsQ c) (subQ b a)):=by
   show subQ (en2 c a b) c.2.1=_
   unfold en2;generalize timesQ (rsQ c) (subQ b a)=t
   unfold subQ;exact v2e (by simp only;grind) (by simp only;grind)
  rw [WbD _ _ e,jaA,W8 b a,h3];rfl
 .have e:subQ (en4 c a b) (seQ c).2.1=timesQ (rsQ c) (subQ a c.1):=by
   show subQ (en4 c a b) (foQ c)=_
   unfold en4 en2 foQ rsQ timesQ addQ subQ cW;exact v2e (by simp only;grind) (by simp only;grind)
  rw [e,jaA,h1];rfl
 .rw [W8]
  have e:subQ (en4 c a b) (en2 c a b)=timesQ (rsQ c) (subQ b c.2.1):=V8 _ _
  rw [e,jaA,h2];rfl
theorem JbS {c:CpR} (hw:sqQ (cW c)≠0) (a b:V2):ptQ (fiQ c) (en1 c a b) (en3 c a b)=ptQ c a b:=by
 rw [Zax,Zax,ybO]
 have e:subQ (en3 c a b) (en1 c a b)=timesQ (cW c) (subQ a c.1):=V8 _ _
 rw [e,<-ybs,Wa8 (ovQ (cW c)),Zbb hw,Wa8 (1,0),vbD]
 unfold en1;generalize timesQ (cW c) (subQ b a)=t
 unfold addQ subQ;exact v2e (by simp only;grind) (by simp only;grind)
theorem WbP {c:CpR} (hr:sqQ (rsQ c)≠0) (a b:V2):ptQ (seQ c) (en2 c a b) (en4 c a b)=ptQ c a b:=by
 rw [Zax,Zax,YbO]
 have e:subQ (en4 c a b) (en2 c a b)=timesQ (rsQ c) (subQ b c.2.1):=V8 _ _
 rw [e,<-ybs,Wa8 (ovQ (rsQ c)),Zbb hr,Wa8 (1,0),vbD]
 unfold en2 rsQ timesQ addQ subQ cW;exact v2e (by simp only;grind) (by simp only;grind)
end Go.Num
end
section
namespace Go.Num
open Go.Abs
def enC (c:Cp) (a b:Arc):Nat:=if cchk2 c [a,b]≠0 then cchk2 c [a,b] else if hldQ (cpv c) (av a) (av b) then alC c else 21
def enL (c:CpR) (a b:V2):List V2:=[a,b,en1 c a b,en3 c a b,en2 c a b,en4 c a b]
def enR (c:Cp) (a b:Arc):List V2:=if enC c a b=0 then enL (cpv c) (av a) (av b) else []
def smC (c d:Cp):Nat:=if cchk c≠0 then cchk c else cchk d
theorem zbm {α:Type} {l m:List α} {k:Nat} {x y:α} (hx:l[k]?=some x) (hy:m[k]?=some y):(l.take (k+1)=m.take (k+1))↔(l.take k=m.take k/\x=y):=by
 rw [List.take_add_one,List.take_add_one,hx,hy]
 simp only [Option.toList_some]
 constructor
 .intro h
  have h1:=List.append_inj' h rfl
  exact ⟨h1.1,by simpa using h1.2⟩
 .rintro ⟨h1,h2⟩;rw [h1,h2]
theorem getM {p:BQ} {k:Nat} (h:k<p.length):∃u,p[k]?=some u/\(mcs p).getD k mo0=mcan u/\u∈p:=by
 refine ⟨p[k],List.getElem?_eq_getElem h,?_,List.getElem_mem h⟩
 unfold mcs
 rw [List.getD_eq_getElem?_getD,List.getElem?_map,List.getElem?_eq_getElem h]
 rfl
theorem kaM (p:BQ):(mcs p).length=p.length:=by unfold mcs;rw [List.length_map]
theorem zbz {p:BQ} {u:MQ} (h:u∈p) {b:Nat} (hb:sz p<=b):rz u.2.2<=b:=Nat.le_trans (UaQ h) hb
end Go.Num
namespace Go.Abs
open Go.Num
variable {P:Program} {Γ:Nat->Spec}
def yC (tE:Nat) (l:List AV) (K:AV->Prop):Prop:=
 match l with
 | [c,a,b]=>onCp (λc=>onA (λa=>onA (λb=>cl c<=1000/\al a<=1000/\al b<=1000/\K (.tup [.one (.slice ((enR c a b).map λp=>aC (rcan p.1,rcan p.2))),errV tE (enC c a b)])) b) a) c
 | _=>False
theorem va2 (tE:Nat) (c a b:AV) (K:AV->Prop):yC tE [c,a,b] K=(onCp (λc=>onA (λa=>onA (λb=>cl c<=1000/\al a<=1000/\al b<=1000/\K (.tup [.one (.slice ((enR c a b).map λp=>aC (rcan p.1,rcan p.2))),errV tE (enC c a b)])) b) a) c):=propext Iff.rfl
@[congr] theorem UbI (tE:Nat) {K:AV->Prop} {l l' : List AV} (h:l=l'):yC tE l K=yC tE l' K:=by subst h;rfl
attribute [go_sem] va2
attribute [go_sem ↓] va2
theorem Ua0 (tE:Nat):Good (yC tE):=ka λas=>by
 unfold yC
 split
 .exact (Yj λ_=>(xo λ_=>(xo λ_=>(.and λ_=>(.and λ_=>(.and λ_=>(.ret _)))))))
 .exact .of λK hk=>hk.elim
def uC (tE:Nat) (l:List AV) (K:AV->Prop):Prop:=
 match l with
 | [c,d]=>onCp (λc=>onCp (λd=>cl c<=1000/\cl d<=1000/\K (.tup [.one (.lit (.bool (decide (smC c d=0) && decide (cCur (cpv c)=cCur (cpv d))))),errV tE (smC c d)])) d) c
 | _=>False
theorem QaK (tE:Nat) (c d:AV) (K:AV->Prop):uC tE [c,d] K=(onCp (λc=>onCp (λd=>cl c<=1000/\cl d<=1000/\K (.tup [.one (.lit (.bool (decide (smC c d=0) && decide (cCur (cpv c)=cCur (cpv d))))),errV tE (smC c d)])) d) c):=propext Iff.rfl
@[congr] theorem WbK (tE:Nat) {K:AV->Prop} {l l' : List AV} (h:l=l'):uC tE l K=uC tE l' K:=by subst h;rfl
attribute [go_sem] QaK
attribute [go_sem ↓] QaK
theorem YaW (tE:Nat):Good (uC tE):=ka λas=>by
 unfold uC
 split
 .exact (Yj λ_=>(Yj λ_=>(.and λ_=>(.and λ_=>(.ret _)))))
 .exact .of λK hk=>hk.elim
def zf (f0 f1 f2 f3 f4 f5 f6 f7 tE:Nat):AC:=(.seq (.ops false [.u 3 (.box 27 (.t 0)),.u 4 (.box 6 (.t 1)),.u 5 (.box 6 (.t 2)),.m 6 (.c (.one .emp)),.m 7 (.c (.one (.lit .nilIface)))])
 (.fg [3,4,5] (.seq (.ops false [.u 18 (.ld none 27 true (.t 3)),.u 19 (.ld none 6 true (.t 4)),.u 20 (.ld none 6 true (.t 5)),.u 21 (.call f0 [(.t 18),(.t 19),(.t 20)]),.m 17 (.t 21),.u 22 (.ext 0 (.t 17)),.u 23 (.ext 1 (.t 17)),.m 8 (.t 22),.m 9 (.t 23)])
 (.fg [3,4,5,8,9] (.seq (.seq (.ops false [.m 24 (.t 9),.u 25 (.binn .neq (.t 24) (.c (.one (.lit .nilIface))))])
 (.fg [3,4,5,8,9,25] (.cond (.t 25) (.seq (.ops false [.m 26 (.t 9),.m 6 (.c (.one .emp)),.m 7 (.t 26)])
 .ret) .skip)))
 (.fg [3,4,5,8] (.seq (.seq (.ops false [.m 27 (.t 8),.u 28 (.un .not (.t 27))])
 (.fg [3,4,5,28] (.cond (.t 28) (.seq (.ops false [.u 29 (.iface tE (.i 21)),.m 6 (.c (.one .emp)),.m 7 (.t 29)])
 .ret) .skip)))
 (.fg [3,4,5] (.seq (.seq (.ops false [.u 31 (.ld none 27 true (.t 3)),.u 32 (.call f1 [(.t 31)]),.m 30 (.t 32),.u 33 (.ext 0 (.t 30)),.u 34 (.ext 1 (.t 30)),.m 10 (.t 33),.m 11 (.t 34)])
 (.fg [3,4,5,11] (.seq (.ops false [.m 35 (.t 11),.u 36 (.binn .neq (.t 35) (.c (.one (.lit .nilIface))))])
 (.fg [3,4,5,11,36] (.cond (.t 36) (.seq (.ops false [.m 37 (.t 11),.m 6 (.c (.one .emp)),.m 7 (.t 37)])
 .ret) .skip)))))
 (.fg [3,4,5] (.seq (.ops true [.u 38 (.ld none 6 true (.t 5)),.u 39 (.ld none 6 true (.t 4)),.u 40 (.call f2 [(.t 38),(.t 39)]),.u 41 (.ld none 27 true (.t 3)),.u 42 (.call f3 [(.t 41)]),.u 43 (.ld none 27 true (.t 3)),.u 44 (.call f4 [(.t 43)]),.u 12 (.alloc [(.lit (.bool false)),.emp,.emp,(.lit (.bool false)),.emp,.emp]),.u 13 (.alloc [(.lit (.bool false)),.emp,.emp,(.lit (.bool false)),.emp,.emp]),.u 14 (.alloc [(.lit (.bool false)),.emp,.emp,(.lit (.bool false)),.emp,.emp]),.n (.st none 6 (.t 12) (.t 40)),.n (.st none 6 (.t 13) (.t 42)),.n (.st none 6 (.t 14) (.t 44))])
 (.fg [3,4,5,12,13,14] (.seq (.ops true [.u 45 (.fa 0 (.t 3)),.u 46 (.ld none 6 true (.t 45)),.u 47 (.ld none 6 true (.t 13)),.u 48 (.ld none 6 true (.t 12)),.u 49 (.call f5 [(.t 47),(.t 48)]),.u 50 (.call f6 [(.t 46),(.t 49)]),.u 15 (.alloc [(.lit (.bool false)),.emp,.emp,(.lit (.bool false)),.emp,.emp]),.n (.st none 6 (.t 15) (.t 50))])
 (.fg [3,4,5,12,13,14,15] (.seq (.ops true [.u 51 (.fa 6 (.t 3)),.u 52 (.ld none 6 true (.t 51)),.u 53 (.ld none 6 true (.t 14)),.u 54 (.ld none 6 true (.t 12)),.u 55 (.call f5 [(.t 53),(.t 54)]),.u 56 (.call f2 [(.t 52),(.t 55)]),.u 16 (.alloc [(.lit (.bool false)),.emp,.emp,(.lit (.bool false)),.emp,.emp]),.n (.st none 6 (.t 16) (.t 56))])
 (.fg [3,4,5,13,14,15,16] (.seq (.ops true [.u 57 (.ld none 6 true (.t 4)),.u 58 (.call f7 [(.t 57)]),.u 59 (.ld none 6 true (.t 5)),.u 60 (.call f7 [(.t 59)]),.u 61 (.ld none 6 true (.t 15)),.u 62 (.ld none 6 true (.t 15)),.u 63 (.ld none 6 true (.t 13)),.u 64 (.ld none 6 true (.t 4)),.u 65 (.fa 0 (.t 3)),.u 66 (.ld none 6 true (.t 65)),.u 67 (.call f2 [(.t 64),(.t 66)]),.u 68 (.call f5 [(.t 63),(.t 67)]),.u 69 (.call f6 [(.t 62),(.t 68)]),.u 70 (.ld none 6 true (.t 16)),.u 71 (.ld none 6 true (.t 16)),.u 72 (.ld none 6 true (.t 14)),.u 73 (.ld none 6 true (.t 5)),.u 74 (.fa 6 (.t 3)),.u 75 (.ld none 6 true (.t 74)),.u 76 (.call f2 [(.t 73),(.t 75)]),.u 77 (.call f5 [(.t 72),(.t 76)]),.u 78 (.call f6 [(.t 71),(.t 77)]),.u 79 (.row 6 [[.x 6 (.t 58)],[.x 6 (.t 60)],[.x 6 (.t 61)],[.x 6 (.t 69)],[.x 6 (.t 70)],[.x 6 (.t 78)]]),.m 6 (.t 79),.m 7 (.c (.one (.lit .nilIface)))])
 .ret)))))))))))))))))
def Zi (f0 f1:Nat):AC:=(.seq (.ops false [.u 2 (.box 27 (.t 0)),.u 3 (.box 27 (.t 1)),.m 4 .fa,.m 5 (.c (.one (.lit .nilIface)))])
 (.fg [2,3] (.seq (.ops false [.u 11 (.ld none 27 true (.t 2)),.u 12 (.call f0 [(.t 11)]),.m 10 (.t 12),.u 13 (.ext 0 (.t 10)),.u 14 (.ext 1 (.t 10)),.m 6 (.t 13),.m 7 (.t 14)])
 (.fg [3,6,7] (.seq (.seq (.ops false [.m 15 (.t 7),.u 16 (.binn .neq (.t 15) (.c (.one (.lit .nilIface))))])
 (.fg [3,6,7,16] (.cond (.t 16) (.seq (.ops false [.m 17 (.t 7),.m 4 .fa,.m 5 (.t 17)])
 .ret) .skip)))
 (.fg [3,6] (.seq (.ops false [.u 19 (.ld none 27 true (.t 3)),.u 20 (.call f0 [(.t 19)]),.m 18 (.t 20),.u 21 (.ext 0 (.t 18)),.u 22 (.ext 1 (.t 18)),.m 8 (.t 21),.m 7 (.t 22)])
 (.fg [6,7,8] (.seq (.seq (.ops false [.m 23 (.t 7),.u 24 (.binn .neq (.t 23) (.c (.one (.lit .nilIface))))])
 (.fg [6,7,8,24] (.cond (.t 24) (.seq (.ops false [.m 25 (.t 7),.m 4 .fa,.m 5 (.t 25)])
 .ret) .skip)))
 (.fg [6,8] (.seq (.seq (.ops false [.m 26 (.t 6),.u 27 (.len (.t 26)),.m 28 (.t 8),.u 29 (.len (.t 28)),.u 30 (.bin .neq (.t 27) (.t 29))])
 (.fg [6,8,30] (.cond (.t 30) (.seq (.ops false [.m 4 .fa,.m 5 (.c (.one (.lit .nilIface)))])
 .ret) .skip)))
 (.fg [6,8] (.seq (.seq (.ops false [.m 31 (.t 6),.u 32 (.len (.t 31)),.m 33 (.i 0)])
 (.fg [6,8,32,33] (.block 0 (.loop (.seq (.ops false [.u 34 (.bin .lss (.t 33) (.t 32))])
 (.fg [6,8,32,33,34] (.seq (.cond (.t 34) .skip (.exit 0))
 (.fg [6,8,32,33] (.seq (.block 1 (.seq (.ops false [.m 35 (.t 33),.m 9 (.t 35)])
 (.fg [6,8,9,32,33] (.seq (.ops true [.m 36 (.t 6),.m 37 (.t 9),.u 38 (.idx 5 (.t 36) (.t 37)),.u 39 (.fa 0 (.t 38)),.u 40 (.ld none 1 false (.t 39)),.m 41 (.t 8),.m 42 (.t 9),.u 43 (.idx 5 (.t 41) (.t 42)),.u 44 (.fa 0 (.t 43)),.u 45 (.ld none 1 false (.t 44)),.u 46 (.bin .neq (.t 40) (.t 45)),.m 47 (.t 46),.w 48 47 false (.mv (.t 6)),.w 49 47 false (.mv (.t 9)),.w 50 47 false (.idx 5 (.t 48) (.t 49)),.w 51 47 false (.fa 1 (.t 50)),.w 52 47 false (.ld none 1 false (.t 51)),.w 53 47 false (.mv (.t 8)),.w 54 47 false (.mv (.t 9)),.w 55 47 false (.idx 5 (.t 53) (.t 54)),.w 56 47 false (.fa 1 (.t 55)),.w 57 47 false (.ld none 1 false (.t 56)),.w 58 47 false (.bin .neq (.t 52) (.t 57)),.u 59 (.pick (.t 47) .tr (.t 58)),.m 60 (.t 59),.w 61 60 false (.mv (.t 6)),.w 62 60 false (.mv (.t 9)),.w 63 60 false (.idx 5 (.t 61) (.t 62)),.w 64 60 false (.fa 2 (.t 63)),.w 65 60 false (.ld none 3 true (.t 64)),.w 66 60 false (.mv (.t 8)),.w 67 60 false (.mv (.t 9)),.w 68 60 false (.idx 5 (.t 66) (.t 67)),.w 69 60 false (.fa 2 (.t 68)),.w 70 60 false (.ld none 3 true (.t 69)),.w 71 60 false (.call f1 [(.t 65),(.t 70)]),.w 72 60 false (.bin .neq (.t 71) (.i 0)),.u 73 (.pick (.t 60) .tr (.t 72))])
 (.fg [6,8,32,33,73] (.cond (.t 73) (.seq (.ops false [.m 4 .fa,.m 5 (.c (.one (.lit .nilIface)))])
 .ret) .skip))))))
 (.fg [6,8,32,33] (.ops false [.u 74 (.bin .add (.t 33) (.i 1)),.m 33 (.t 74)])))))))))))
 (.fg [] (.seq (.ops false [.m 4 .tr,.m 5 (.c (.one (.lit .nilIface)))])
 .ret)))))))))))))))
theorem VaF (hΓ:Holds P Γ) {f fh fl fs fr fe ft fa fc tE:Nat} (hh:Γ fh=.dat false (xA tE)) (hl' : Γ fl=.dat false (uA tE)) (hs:Γ fs=.dat false Yg) (hr:Γ fr=.dat false uG) (he:Γ fe=.dat false qB) (ht:Γ ft=.dat false qo) (ha:Γ fa=.dat false Yl) (hcl' : Γ fc=.dat false Jz) (hc:check P f=some (80,(zf fh fl fs fr fe ft fa fc tE).strip,[.tmp 6,.tmp 7])):Sound P f (.dat false (yC tE)):=by
 refine Va hc (Ua0 tE) hΓ (λargs K hcl hfi hG=>?_)
 match args,hG with
 | [x,y,z],hG=>
  obtain ⟨c,rfl,hw,a,rfl,wa,b,rfl,wb,hl,la,lb,hK⟩:=hG
  refine ⟨by simp,?_⟩
  have hl1:cl c<=10000:=Nat.le_trans hl (by decide)
  have hl2:cl c<=100000000:=Nat.le_trans hl (by decide)
  have la1:al a<=10000:=Nat.le_trans la (by decide)
  have lb1:al b<=10000:=Nat.le_trans lb (by decide)
  have la2:al a<=100000000:=Nat.le_trans la (by decide)
  have lb2:al b<=100000000:=Nat.le_trans lb (by decide)
  by_cases h0:cchk2 c [a,b]=0
  .have e0:=zc tE
   have g0:decide (0=0)=true:=rfl
   by_cases hd:hldQ (cpv c) (av a) (av b)
   .have ee:enC c a b=alC c:=by unfold enC;rw [if_neg (by omega),if_pos hd]
    by_cases h1:alC c=0
    .unfold enR at hK
     rw [ee,h1,if_pos rfl,e0]at hK
     have wW:WLA c.2.2.2.2.2:=⟨hw.2.2.2.2.2.1,hw.2.2.2.2.2.2⟩
     have l6:al c.2.2.2.2.2<=100000000:=Nat.le_trans (cl_w hl) (by decide)
     have wo:=hw.1
     have wQ:=hw.2.1
     have hB:=xaZ hw hl
     have zo:zq (av c.1)<=1000:=hB.1
     have zQ:zq (av c.2.1)<=1000:=hB.2.1
     have za:=Nat.le_trans (Wy wa) la
     have zb:=Nat.le_trans (Wy wb) lb
     have lo:al c.1<=100000000:=Nat.le_trans (Nat.le_max_left _ _) hl2
     have lq:al c.2.1<=100000000:=Nat.le_trans (Nat.le_max_left _ _) (Nat.le_trans (Nat.le_max_right _ _) hl2)
     have zw:zq (av c.2.2.2.2.2)<=1000:=Nat.max_le.2 ⟨hB.2.2.2.2.2.1,hB.2.2.2.2.2.2⟩
     obtain ⟨R,hR⟩:∃R,reQ (cpv c)=R:=⟨_,rfl⟩
     have zR:=Va8 hB
     have eR:rsQ (cpv c)=R:=hR
     rw [eR]at zR
     obtain ⟨W,hW⟩:∃W,av c.2.2.2.2.2=W:=⟨_,rfl⟩
     have eW:cW (cpv c)=W:=hW
     rw [hW]at zw
     obtain ⟨Z,hZ⟩:∃Z,subQ (av b) (av a)=Z:=⟨_,rfl⟩
     have zZ:zq Z<=3000:=by rw [<-hZ];exact Nat.le_trans (Vm _ _) (by omega)
     obtain ⟨T,hT⟩:∃T,timesQ W Z=T:=⟨_,rfl⟩
     have zT:zq T<=10000:=by rw [<-hT];exact Nat.le_trans (VA _ _) (by omega)
     obtain ⟨T2,hT2⟩:∃T,timesQ R Z=T:=⟨_,rfl⟩
     have zT2:zq T2<=10000:=by rw [<-hT2];exact Nat.le_trans (VA _ _) (by omega)
     obtain ⟨F,hF⟩:∃F,addQ (av c.1) T=F:=⟨_,rfl⟩
     have zF:zq F<=20000:=by rw [<-hF];exact Nat.le_trans (JP _ _) (by omega)
     obtain ⟨G,hG⟩:∃G,subQ (av c.2.1) T2=G:=⟨_,rfl⟩
     have zG:zq G<=20000:=by rw [<-hG];exact Nat.le_trans (Vm _ _) (by omega)
     obtain ⟨A,hA⟩:∃A,subQ (av a) (av c.1)=A:=⟨_,rfl⟩
     have zA:zq A<=3000:=by rw [<-hA];exact Nat.le_trans (Vm _ _) (by omega)
     obtain ⟨B,hB0⟩:∃B,subQ (av b) (av c.2.1)=B:=⟨_,rfl⟩
     have zB:zq B<=3000:=by rw [<-hB0];exact Nat.le_trans (Vm _ _) (by omega)
     obtain ⟨TA,hTA⟩:∃T,timesQ W A=T:=⟨_,rfl⟩
     have zTA:zq TA<=10000:=by rw [<-hTA];exact Nat.le_trans (VA _ _) (by omega)
     obtain ⟨TB,hTB⟩:∃T,timesQ R B=T:=⟨_,rfl⟩
     have zTB:zq TB<=10000:=by rw [<-hTB];exact Nat.le_trans (VA _ _) (by omega)
     have eL:enL (cpv c) (av a) (av b)=[av a,av b,F,addQ F TA,G,addQ G TB]:=by
      rw [<-hTA,<-hTB,<-hA,<-hB0,<-hF,<-hG,<-hT,<-hT2,<-hZ,<-hW,<-hR];rfl
     rw [eL]at hK
     simp only [List.map_cons,List.map_nil]at hK
     have cw:∀X:V2,WLA (rcan X.1,rcan X.2):=λX=>vp X
     have w1:=cw R
     have w3:=cw Z
     have w4:=cw T
     have w5:=cw T2
     have w6:=cw F
     have w7:=cw G
     have w8:=cw A
     have w9:=cw B
     have w10:=cw TA
     have w11:=cw TB
     have k1:al (rcan R.1,rcan R.2)<=100000000:=Nat.le_trans zR (by decide)
     have k3:al (rcan Z.1,rcan Z.2)<=100000000:=Nat.le_trans zZ (by decide)
     have k4:al (rcan T.1,rcan T.2)<=100000000:=Nat.le_trans zT (by decide)
     have k5:al (rcan T2.1,rcan T2.2)<=100000000:=Nat.le_trans zT2 (by decide)
     have k6:al (rcan F.1,rcan F.2)<=100000000:=Nat.le_trans zF (by decide)
     have k7:al (rcan G.1,rcan G.2)<=100000000:=Nat.le_trans zG (by decide)
     have k8:al (rcan A.1,rcan A.2)<=100000000:=Nat.le_trans zA (by decide)
     have k9:al (rcan B.1,rcan B.2)<=100000000:=Nat.le_trans zB (by decide)
     have k10:al (rcan TA.1,rcan TA.2)<=100000000:=Nat.le_trans zTA (by decide)
     have k11:al (rcan TB.1,rcan TB.2)<=100000000:=Nat.le_trans zTB (by decide)
     have gd:=decide_eq_true hd
     simp only [go_sem,zf,hh,hl',hs,hr,he,ht,ha,hcl',cpA,cpC,aA,je,kb,h0,gd,g0,Bool.true_and,e0,h1,hR,hW,hZ,xG,hT,hT2,hF,hG,hA,hB0,hTA,hTB]
     repeat (first | (refine And.intro (by with_reducible assumption) ?_) | (refine And.intro (Nat.le_trans (by with_reducible assumption) (by decide)) ?_) | (refine And.intro (by decide) ?_))
     exact hK
    .have e1:=Zc tE h1
     unfold enR at hK
     rw [ee,if_neg h1,e1]at hK
     have gd:=decide_eq_true hd
     simp only [go_sem,zf,hh,hl',cpA,cpC,aA,je,kb,h0,gd,g0,Bool.true_and,e0,e1]
     repeat (first | (refine And.intro (by with_reducible assumption) ?_) | (refine And.intro (Nat.le_trans (by with_reducible assumption) (by decide)) ?_) | (refine And.intro (by decide) ?_))
     exact hK
   .have ee:enC c a b=21:=by unfold enC;rw [if_neg (by omega),if_neg hd]
    have e1:=Zc tE (by decide:(21:Nat)≠0)
    unfold enR at hK
    rw [ee,if_neg (by decide),e1]at hK
    have gd:=decide_eq_false hd
    simp only [go_sem,zf,hh,cpA,cpC,aA,je,kb,h0,gd,g0,Bool.true_and,e0]
    repeat (first | (refine And.intro (by with_reducible assumption) ?_) | (refine And.intro (Nat.le_trans (by with_reducible assumption) (by decide)) ?_) | (refine And.intro (by decide) ?_))
    exact hK
  .have e1:=Zc tE h0
   have ee:enC c a b=cchk2 c [a,b]:=if_pos h0
   unfold enR at hK
   rw [ee,if_neg h0,e1]at hK
   simp only [go_sem,zf,hh,cpA,cpC,aA,je,kb,e1]
   repeat (first | (refine And.intro (by with_reducible assumption) ?_) | (refine And.intro (Nat.le_trans (by with_reducible assumption) (by decide)) ?_) | (refine And.intro (by decide) ?_))
   exact hK
set_option maxHeartbeats 1000000 in
theorem vaC (hΓ:Holds P Γ) {f fv fq tE:Nat} (hv:Γ fv=.dat false (WE tE)) (hq:Γ fq=.dat true Qm) (hc:check P f=some (75,(Zi fv fq).strip,[.tmp 4,.tmp 5])):Sound P f (.dat false (uC tE)):=by
 refine Va hc (YaW tE) hΓ (λargs K hcl hfi hG=>?_)
 match args,hG with
 | [x,y],hG=>
  obtain ⟨c,rfl,hw,d,rfl,hw2,hl,hl2,hK⟩:=hG
  refine ⟨by simp,?_⟩
  have e0:=zc tE
  by_cases h0:cchk c=0
  case neg=>
   have es:smC c d=cchk c:=if_pos h0
   have e1:=Zc tE h0
   rw [es,e1,decide_eq_false h0,Bool.false_and]at hK
   simp only [go_sem,Zi,hv,cpA,cpC,kb,qz h0,e1]
   repeat (first | (refine And.intro (by with_reducible assumption) ?_) | (refine And.intro (Nat.le_trans (by with_reducible assumption) (by decide)) ?_) | (refine And.intro (by decide) ?_))
   exact hK
  have es:smC c d=cchk d:=by unfold smC;rw [if_neg (by omega)]
  rw [es]at hK
  have pc:=Wao (uao hw hl)
  have i0:=Zy pc.canon.ins
  by_cases h1:cchk d=0
  case neg=>
   have e1:=Zc tE h1
   rw [e1,decide_eq_false h1,Bool.false_and]at hK
   simp only [go_sem,Zi,hv,cpA,cpC,kb,h0,e0,Wt,qz h1,e1]
   repeat (first | (refine And.intro (by with_reducible assumption) ?_) | (refine And.intro (Nat.le_trans (by with_reducible assumption) (by decide)) ?_) | (refine And.intro (by decide) ?_))
   exact hK
  rw [h1,e0,decide_eq_true rfl,Bool.true_and]at hK
  have pd:=Wao (uao hw2 hl2)
  have j0:=Zy pd.canon.ins
  have lc:=WI pc.canon
  have ld:=WI pd.canon
  have sc:=pc.size
  have sd:=pd.size
  obtain ⟨p,hp⟩:∃p,cCur (cpv c)=p:=⟨_,rfl⟩
  obtain ⟨q,hq0⟩:∃q,cCur (cpv d)=q:=⟨_,rfl⟩
  rw [hp]at i0 lc sc hK
  rw [hq0]at j0 ld sd hK
  have lp:=kaM p
  have lq:=kaM q
  simp only [go_sem,Zi,hv,cpA,cpC,kb,h0,h1,e0,Wt,hp,hq0]
  repeat (first | (refine And.intro (by with_reducible assumption) ?_) | (refine And.intro (Nat.le_trans (by with_reducible assumption) (by decide)) ?_) | (refine And.intro (by decide) ?_))
  intro _ _
  refine ⟨λhlen _=>?_,λhlen=>?_⟩
  case refine_2=>
   rw [decide_eq_false (λe=>hlen (by rw [e]))]at hK
   exact hK
  rw [lp,lq]at hlen
  refine Wa (λk:Nat=>⟨mkV [(6,.one (.slice ((mcs p).map mC))),(8,.one (.slice ((mcs q).map mC))),(32,.one (.lit (.int .i64 ((mcs p).length:Nat)))),(33,.one (.lit (.int .i64 k)))],mkH []⟩) (λk=>k<=p.length/\p.take k=q.take k) (λk=>p.length-k) 0 ?_ ?_ ?_
  .exact ja (by simp [okS,okV,okC,okL,okH,okB,okE,Qa,Ja,qa,va,wsA,ws]) trivial
  .exact ⟨Nat.zero_le _,rfl⟩
  .rintro k ⟨hk,htk⟩
   rw [lp]
   by_cases hlt:k<p.length
   .obtain ⟨⟨u1,u2,u3⟩,hu,hu2,hum⟩:=getM hlt
    obtain ⟨⟨v1,v2,v3⟩,hv1,hv2,hvm⟩:=getM (by omega:k<q.length)
    have hlp:k<(mcs p).length:=by omega
    have hlq:k<(mcs q).length:=by omega
    have r1:=Nat.le_trans (zbz hum sc) (by decide:_<=1073741824)
    have r2:=Nat.le_trans (zbz hvm sd) (by decide:_<=1073741824)
    simp only at r1 r2
    have ts:=zbm hu hv1
    have bad:¬((u1,u2,u3)=(v1,v2,v3))->K (.tup [.one (.lit (.bool false)),.one (.lit .nilIface)]):=λh=>by
     rw [decide_eq_false (λe=>h (by rw [e,hv1]at hu;simpa using hu.symm))]at hK
     exact hK
    simp only [go_sem,hlt,hlp,hlq,hq,hu2,hv2,mC,mcan,Wb]
    refine ⟨λh1=>⟨λh2=>⟨r1,r2,λh3=>⟨by omega,k+1,ja (by simp [okS,okV,okC,okL,okH,okB,okE,Qa,Ja,qa,va,wsA,ws,lp]) trivial,⟨by omega,ts.2 ⟨htk,?_⟩⟩,by omega⟩,λh3=>bad λe=>h3 ?_⟩,λh2=>bad λe=>h2 ?_⟩,λh1=>bad λe=>h1 ?_⟩
    .rw [h1,h2,Vk.1 h3]
    .simp only [Prod.mk.injEq]at e;exact Vk.2 e.2.2
    .simp only [Prod.mk.injEq]at e;exact e.2.1
    .simp only [Prod.mk.injEq]at e;exact e.1
   .have ek:k=p.length:=by omega
    rw [ek,List.take_length,hlen,List.take_length]at htk
    rw [decide_eq_true htk]at hK
    simp only [go_sem,hlt]
    exact hK
end Go.Abs
end
section
namespace Go.Num
open Go.Abs
def okT (n:Int):Prop:=n=1∨n=2∨n=4∨n=12
def tx (n:Int):ByteArray:=if n=12 then ⟨#[49,50]⟩ else if n=4 then ⟨#[52]⟩ else if n=2 then ⟨#[50]⟩ else ⟨#[49]⟩
def txR (q:Rat):ByteArray:=if q.den=1 then tx q.num else tx q.num++⟨#[47]⟩++tx (q.den:Nat)
theorem Qbt (n:Int):(tx n).size<=2:=by unfold tx;split <;> (try split) <;> (try split) <;> decide
theorem Zbm {n:Int} (h:okT n):∃m:Nat,n=m/\1<=m/\m<=12:=by
 rcases h with h | h | h | h
 .exact ⟨1,h,by decide,by decide⟩
 .exact ⟨2,h,by decide,by decide⟩
 .exact ⟨4,h,by decide,by decide⟩
 .exact ⟨12,h,by decide,by decide⟩
theorem vbA {m:Nat} (h1:1<=m) (h2:m<=12):digs m=[m]:=by rw [vq (by omega),show m / 4294967296=0 by omega,vb,show m % 4294967296=m by omega]
end Go.Num
namespace Go.Abs
open Go.Num
variable {P:Program} {Γ:Nat->Spec}
theorem xbc {h h' : Nat->HB} {z:Nat} {b:Bool} {w:W}:okB h h' (some ⟨[[zb w,zm w]],z,b⟩) (some ⟨[[zb w,zm w]],z,b⟩):=
 ⟨⟨rfl,rfl⟩,.inl ⟨rfl,λe he c hc=>by
  rw [List.mem_singleton.1 he]at hc
  simp only [List.mem_cons,List.not_mem_nil,or_false]at hc
  rcases hc with rfl | rfl
  .exact of_eq_true (jT _)
  .exact of_eq_true (uT _)⟩⟩
def eJ (s:ByteArray):AV:=.one (.slice [[.lit (.string s)]])
theorem Ybc (x y:ByteArray) (h:eJ x=eJ y):x=y:=by
 simp only [eJ,AV.one.injEq,C.slice.injEq,List.cons.injEq,C.lit.injEq,Value.string.injEq,and_true]at h
 exact h
def onJ (k:ByteArray->Prop) (a:AV):Prop:=onE eJ k a
@[congr] theorem UbT {k:ByteArray->Prop} {a a' : AV} (h:a=a'):onJ k a=onJ k a':=by subst h;rfl
theorem zbu (k:ByteArray->Prop) (x:ByteArray):onJ k (.one (.slice [[.lit (.string x)]]))=k x:=Zn Ybc k x
theorem jbM {β:Type} {T:ByteArray->(β->Prop)->Prop} (h:∀x,GoodT (T x)) {a:AV}:GoodT λK=>onJ (λx=>T x K) a:=
 YG (e:=eJ) (T:=T) Ybc h
attribute [go_sem] zbu
attribute [go_sem ↓] zbu
def uq (l:List AV) (K:AV->Prop):Prop:=
 match l with
 | [a]=>asInt (λk n=>k=.i64/\okT n/\K (.one (.lit (.string (tx n))))) a
 | _=>False
theorem Y6 (a:AV) (K:AV->Prop):uq [a] K=(asInt (λk n=>k=.i64/\okT n/\K (.one (.lit (.string (tx n))))) a):=propext Iff.rfl
@[congr] theorem Ybz {K:AV->Prop} {l l' : List AV} (h:l=l'):uq l K=uq l' K:=by subst h;rfl
attribute [go_sem] Y6
attribute [go_sem ↓] Y6
theorem Vai:Good uq:=ka λas=>by
 unfold uq
 split
 .exact (Yc (λ_ _=>(.and λ_=>(.and λ_=>(.ret _)))) _)
 .exact .of λK hk=>hk.elim
def jy (l:List AV) (K:AV->Prop):Prop:=
 match l with
 | [a,b]=>asInt (λk n=>k=.i64/\okT n/\asInt (λk m=>k=.i64/\m=10/\K (.one (.lit (.string (tx n))))) b) a
 | _=>False
theorem QV (a b:AV) (K:AV->Prop):jy [a,b] K=(asInt (λk n=>k=.i64/\okT n/\asInt (λk m=>k=.i64/\m=10/\K (.one (.lit (.string (tx n))))) b) a):=propext Iff.rfl
@[congr] theorem VbE {K:AV->Prop} {l l' : List AV} (h:l=l'):jy l K=jy l' K:=by subst h;rfl
attribute [go_sem] QV
attribute [go_sem ↓] QV
theorem QaC:Good jy:=ka λas=>by
 unfold jy
 split
 .exact (Yc (λ_ _=>(.and λ_=>(.and λ_=>(Yc (λ_ _=>(.and λ_=>(.and λ_=>(.ret _)))) _)))) _)
 .exact .of λK hk=>hk.elim
def Jn (l:List AV) (K:AV->Prop):Prop:=
 match l with
 | [a]=>asInt (λk n=>k=.i64/\okT n/\K (.one (.lit (.string (tx n))))) a
 | _=>False
theorem Vau (a:AV) (K:AV->Prop):Jn [a] K=(asInt (λk n=>k=.i64/\okT n/\K (.one (.lit (.string (tx n))))) a):=propext Iff.rfl
@[congr] theorem qbH {K:AV->Prop} {l l' : List AV} (h:l=l'):Jn l K=Jn l' K:=by subst h;rfl
attribute [go_sem] Vau
attribute [go_sem ↓] Vau
theorem WP:Good Jn:=ka λas=>by
 unfold Jn
 split
 .exact (Yc (λ_ _=>(.and λ_=>(.and λ_=>(.ret _)))) _)
 .exact .of λK hk=>hk.elim
def vx (l:List AV) (K:AV->Prop):Prop:=
 match l with
 | [a,b]=>onJ (λs=>b=.one (.lit (.string ⟨#[]⟩))/\K (.one (.lit (.string s)))) a
 | _=>False
theorem jas (a b:AV) (K:AV->Prop):vx [a,b] K=(onJ (λs=>b=.one (.lit (.string ⟨#[]⟩))/\K (.one (.lit (.string s)))) a):=propext Iff.rfl
@[congr] theorem JbG {K:AV->Prop} {l l' : List AV} (h:l=l'):vx l K=vx l' K:=by subst h;rfl
attribute [go_sem] jas
attribute [go_sem ↓] jas
theorem waD:Good vx:=ka λas=>by
 unfold vx
 split
 .exact (jbM λ_=>(.and λ_=>(.ret _)))
 .exact .of λK hk=>hk.elim
def Vr (l:List AV) (K:AV->Prop):Prop:=
 match l with
 | [a]=>onW (λw=>okT (zv w)/\K (.one (.lit (.string (tx (zv w)))))) a
 | _=>False
theorem W2 (a:AV) (K:AV->Prop):Vr [a] K=(onW (λw=>okT (zv w)/\K (.one (.lit (.string (tx (zv w)))))) a):=propext Iff.rfl
@[congr] theorem Wbr {K:AV->Prop} {l l' : List AV} (h:l=l'):Vr l K=Vr l' K:=by subst h;rfl
attribute [go_sem] W2
attribute [go_sem ↓] W2
theorem jah:Good Vr:=ka λas=>by
 unfold Vr
 split
 .exact (ym λ_=>(.and λ_=>(.ret _)))
 .exact .of λK hk=>hk.elim
def Uq (l:List AV) (K:AV->Prop):Prop:=
 match l with
 | [a]=>onR (λx=>okT (rv x).num/\okT ((rv x).den:Nat)/\rl x<=4294967296/\K (.one (.lit (.string (txR (rv x)))))) a
 | _=>False
theorem X0 (a:AV) (K:AV->Prop):Uq [a] K=(onR (λx=>okT (rv x).num/\okT ((rv x).den:Nat)/\rl x<=4294967296/\K (.one (.lit (.string (txR (rv x)))))) a):=propext Iff.rfl
@[congr] theorem Xby {K:AV->Prop} {l l' : List AV} (h:l=l'):Uq l K=Uq l' K:=by subst h;rfl
attribute [go_sem] X0
attribute [go_sem ↓] X0
theorem yak:Good Uq:=ka λas=>by
 unfold Uq
 split
 .exact (Ji λ_=>(.and λ_=>(.and λ_=>(.and λ_=>(.ret _)))))
 .exact .of λK hk=>hk.elim
theorem W0 (hΓ:Holds P Γ) {f:Nat} (hc:check P f=some (15,(yb).strip,[.tmp 2])):Sound P f (.dat false uq):=by
 refine Va hc Vai hΓ (λargs K hcl hfi hG=>?_)
 match args,hG with
 | [a],hG=>
  obtain ⟨k,n,rfl,rfl,hn,hK⟩:=Zb hG
  refine ⟨by simp,?_⟩
  rcases hn with rfl | rfl | rfl | rfl
  .simp only [go_sem,yb]
   exact ⟨λ_=>⟨by decide,⟨by decide,by decide,by decide⟩,hK⟩,λh=>absurd (by decide) h⟩
  .simp only [go_sem,yb]
   exact ⟨λ_=>⟨by decide,⟨by decide,by decide,by decide⟩,hK⟩,λh=>absurd (by decide) h⟩
  .simp only [go_sem,yb]
   exact ⟨λ_=>⟨by decide,⟨by decide,by decide,by decide⟩,hK⟩,λh=>absurd (by decide) h⟩
  .simp only [go_sem,yb]
   exact ⟨λh=>absurd h (by decide),λ_=>⟨by decide,by decide,by decide,⟨by decide,by decide,by decide⟩,hK⟩⟩
theorem Wak (hΓ:Holds P Γ) {f fs fn fb fi:Nat} (hs:Γ fs=.dat false uq) (hc:check P f=some (54,(Qd fs fn fb fi).strip,[.tmp 4])):Sound P f (.dat false jy):=by
 refine Va hc QaC hΓ (λargs K hcl hfi hG=>?_)
 match args,hG with
 | [a,b],hG=>
  rw [QV]at hG
  obtain ⟨k,n,rfl,rfl,hn,hG'⟩:=Zb hG
  obtain ⟨k',n',rfl,rfl,rfl,hK⟩:=Zb hG'
  clear hG hG'
  refine ⟨by simp,?_⟩
  have a1:(0:Int)<=n:=by rcases hn with rfl | rfl | rfl | rfl <;> decide
  have a2:n<100:=by rcases hn with rfl | rfl | rfl | rfl <;> decide
  simp only [go_sem,Qd,hs,a1,a2,hn]
  exact hK
theorem qah (hΓ:Holds P Γ) {f fs:Nat} (hs:Γ fs=.dat false jy) (hc:check P f=some (5,(qf fs).strip,[.tmp 2])):Sound P f (.dat false Jn):=by
 refine Va hc WP hΓ (λargs K hcl hfi hG=>?_)
 match args,hG with
 | [a],hG=>
  obtain ⟨k,n,rfl,rfl,hn,hK⟩:=Zb hG
  refine ⟨by simp,?_⟩
  simp only [go_sem,qf,hs,hn]
  exact hK
theorem Yab (hΓ:Holds P Γ) {f fs:Nat} (hs:Γ fs=.dat false Jn) (hc:check P f=some (5,(qt fs).strip,[.tmp 2])):Sound P f (.dat false Jn):=by
 refine Va hc WP hΓ (λargs K hcl hfi hG=>?_)
 match args,hG with
 | [a],hG=>
  obtain ⟨k,n,rfl,rfl,hn,hK⟩:=Zb hG
  refine ⟨by simp,?_⟩
  simp only [go_sem,qt,hs,hn]
  exact hK
theorem vae (hΓ:Holds P Γ) {f fg fw fs:Nat} (hc:check P f=some (75,(Qs fg fw fs).strip,[.tmp 4])):Sound P f (.dat false vx):=by
 refine Va hc waD hΓ (λargs K hcl hfi hG=>?_)
 match args,hG with
 | [a,b],hG=>
  obtain ⟨s,rfl,rfl,hK⟩:=hG
  refine ⟨by simp,?_⟩
  simp only [go_sem,Qs,eJ]
  exact ⟨λ_=>⟨by decide,hK⟩,λh=>absurd rfl h⟩
theorem W1 (hΓ:Holds P Γ) {f fm fs fi fr fj fn:Nat} (hm:Γ fm=.dat false Zj) (hs:Γ fs=.dat false Qv) (hi:Γ fi=.dat false Jn) (hj:Γ fj=.dat false vx) (hn:Γ fn=.dat true Qf) (hc:check P f=some (44,(js fm fs fi fr fj fn).strip,[.tmp 2])):Sound P f (.dat false Vr):=by
  refine Va hc jah hΓ (λargs K hcl hfi hG=>?_)
  match args,hG with
  | [a],hG=>
    obtain ⟨w,rfl,hw,h1,hK⟩:=hG
    refine ⟨by simp,?_⟩
    obtain ⟨m,hm1,m1,m2⟩:=Zbm h1
    rw [hm1]at h1 hK
    have d1:digs m=[m]:=vbA m1 m2
    have d0:=vb
    have v1 : val [m] / 1000000000 = 0 := by have : val [m] = m := by simp [val]
                                             omega
    have v2 : val [m] % 1000000000 = m := by have : val [m] = m := by simp [val]
                                             omega
    have n0:¬((m:Int)<0):=by omega
    have w1:WL [m]:=qc.2 ⟨by omega,Qc⟩
    simp only [go_sem,js,hm,hs,hi,hj,hn,hw,hm1,Int.natAbs_natCast,d1]
    refine Wa (λk:Nat=>if k=0 then ⟨mkV [(1,.one (.ptr 1 1 0 0)),(3,wsA [m]),(4,.one .emp)],mkH [(1,⟨1,some ⟨[[zb w,zm w]],2,true⟩⟩)]⟩ else ⟨mkV [(1,.one (.ptr 1 1 0 0)),(3,wsA []),(4,.one (.full [[.lit (.string (tx m))]]))],mkH [(1,⟨1,some ⟨[[zb w,zm w]],2,true⟩⟩)]⟩) (λ_=>True) (λk=>1-k) 0 ?_ trivial ?_
    . rw [if_pos rfl];exact ja (by simp [okS,okV,okC,okL,okH,okB,okE,Qa,Ja,qa,va,wsA,ws,wc]) ⟨xbc,trivial⟩
    . intro k _
      by_cases hk:k=0
      . subst hk
        rw [if_pos rfl]
        simp only [go_sem,hs,hi,v1,v2,d0,h1]
        refine ⟨w1,by decide,by decide,by omega,λe he=>by simp at he,1,?_,by decide⟩
        rw [if_neg (by decide)]
        exact ja (by simp [okS,okV,okC,okL,okH,okB,okE,Qa,Ja,qa,va,wsA,ws,wc]) ⟨xbc,trivial⟩
      . rw [if_neg hk]
        simp only [go_sem,hj,hn,hw,hm1,n0]
        exact hK
theorem V9 (hΓ:Holds P Γ) {f fp fo fc ft:Nat} (hp:Γ fp=.dat false xd) (ho:Γ fo=.dat false Xo) (hc' : Γ fc=.dat true Uy) (ht:Γ ft=.dat false Vr) (hc:check P f=some (22,(kk fp fo fc ft).strip,[.tmp 2])):Sound P f (.dat false Uq):=by
 refine Va hc yak hΓ (λargs K hcl hfi hG=>?_)
 match args,hG with
 | [a],hG=>
  obtain ⟨x,rfl,hx,h1,h2,hl,hK⟩:=hG
  refine ⟨by simp,?_⟩
  obtain ⟨q,hq⟩:∃q,rv x=q:=⟨_,rfl⟩
  rw [hq]at h1 h2 hK
  unfold txR at hK
  have e1:ordI ((q.den:Nat):Int) 1=0↔q.den=1:=by unfold ordI;split <;> (try split) <;> omega
  by_cases hd:q.den=1
  .rw [if_pos hd]at hK
   simp only [go_sem,kk,hp,ho,hc',ht,hx,hq]
   exact ⟨hl,λ_=>⟨h1,hK⟩,λh=>absurd (e1.2 hd) h⟩
  .rw [if_neg hd]at hK
   simp only [go_sem,kk,hp,ho,hc',ht,hx,hq]
   have z1:=Qbt q.num
   have z2:=Qbt (q.den:Nat)
   have z3:(ByteArray.mk #[47]).size=1:=rfl
   exact ⟨hl,λh=>absurd (e1.1 h) hd,λ_=>⟨h1,by omega,h2,by rw [ByteArray.size_append];omega,hK⟩⟩
end Go.Abs
end
section
namespace Go.Num
open Go.Abs
theorem ZbO (w:V2):0<=sqQ w:=by
 have h:∀x:Rat,0<=x*x:=λx=>by
  rcases Rat.le_total (a:=0) (b:=x) with h | h
  .exact Rat.mul_nonneg h h
  .have h2:0<=-x:=by grind
   have:=Rat.mul_nonneg h2 h2
   grind
 unfold sqQ
 have h1:=h w.1
 have h2:=h w.2
 grind
theorem JbD {w:V2} (h:sqQ w≠0):0<sqQ w:=by have:=ZbO w;grind
theorem kbu {w:V2} (h:sqQ w=0):w=(0,0):=by
 have hh:∀x:Rat,0<=x*x:=λx=>by
  rcases Rat.le_total (a:=0) (b:=x) with h | h
  .exact Rat.mul_nonneg h h
  .have h2:0<=-x:=by grind
   have:=Rat.mul_nonneg h2 h2
   grind
 unfold sqQ at h
 have h1:=hh w.1
 have h2:=hh w.2
 have e1:w.1*w.1=0:=by grind
 have e2:w.2*w.2=0:=by grind
 have f1:w.1=0:=by rcases Rat.mul_eq_zero.1 e1 with h | h <;> exact h
 have f2:w.2=0:=by rcases Rat.mul_eq_zero.1 e2 with h | h <;> exact h
 exact Prod.ext f1 f2
theorem VbC (a b:V2):sqQ (timesQ a b)=sqQ a*sqQ b:=by unfold sqQ timesQ;simp only;grind
theorem cchkC {X:CpR} (h1:0<X.2.2.1) (h2:0<X.2.2.2.1) (h3:0<X.2.2.2.2.1) (h4:X.1≠X.2.1):cchk (canC X)=0:=by
 have a1:avld (canC X).1=true:=qam X.1
 have a2:avld (canC X).2.1=true:=qam X.2.1
 have a3:(cps5 (canC X)).all vldR=true:=by simp [cps5,canC,qh]
 have a4:(cps3 (canC X)).all gt0R=true:=by simp [cps3,canC,gt0R,Wb,h1,h2,h3]
 have a5:av (canC X).1≠av (canC X).2.1:=by
  have e1:av (canC X).1=X.1:=xG X.1
  have e2:av (canC X).2.1=X.2.1:=xG X.2.1
  rw [e1,e2];exact h4
 unfold cchk
 rw [if_neg (by simp [a1,a2]),if_neg (by simp [a3]),if_neg (by simp [a4]),if_neg a5]
theorem cchkG {c:Cp} (h:cchk c=0):0<(cpv c).2.2.1/\0<(cpv c).2.2.2.1/\0<(cpv c).2.2.2.2.1/\(cpv c).1≠(cpv c).2.1:=by
 obtain ⟨_,_,_,h4,h5⟩:=XaT h
 simp only [cps3,gt0R,List.all_cons,List.all_nil,Bool.and_true,Bool.and_eq_true,decide_eq_true_eq]at h4
 exact ⟨h4.1,h4.2.1,h4.2.2,h5⟩
def okQ (c:CpR):Prop:=0<c.2.2.1/\0<c.2.2.2.1/\0<c.2.2.2.2.1/\c.1≠c.2.1
theorem Ybd {c:Cp} (h:cchk c=0):okQ (cpv c):=cchkG h
theorem zaj {X:CpR} (h:okQ X):cchk (canC X)=0:=cchkC h.1 h.2.1 h.2.2.1 h.2.2.2
theorem WaG {c:CpR} (h:okQ c) (hw:sqQ (cW c)≠0):okQ (fiQ c):=by
 obtain ⟨h1,h2,h3,h4⟩:=h
 have p:=JbD hw
 refine ⟨Rat.mul_pos p h2,Rat.mul_pos p h1,Rat.mul_pos p h3,λe=>?_⟩
 have e' : c.1=addQ c.1 (timesQ (cW c) (subQ c.2.1 c.1)):=e
 have t:timesQ (cW c) (subQ c.2.1 c.1)=(0,0):=by
  obtain ⟨T,hT⟩:∃T,timesQ (cW c) (subQ c.2.1 c.1)=T:=⟨_,rfl⟩
  rw [hT]at e' ⊢
  unfold addQ at e'
  have e1:=congrArg Prod.fst e'
  have e2:=congrArg Prod.snd e'
  simp only at e1 e2
  exact Prod.ext (by simp only;grind) (by simp only;grind)
 have s:=VbC (cW c) (subQ c.2.1 c.1)
 rw [t]at s
 have s0:sqQ ((0:Rat),(0:Rat))=0:=by decide +kernel
 rw [s0]at s
 have s1:=(Rat.mul_eq_zero.1 s.symm).resolve_left hw
 have s2:=kbu s1
 unfold subQ at s2
 have e1:=congrArg Prod.fst s2
 have e2:=congrArg Prod.snd s2
 simp only at e1 e2
 exact h4 (Prod.ext (by grind) (by grind))
theorem wbt {c:CpR} (h:okQ c):okQ (swQ c):=⟨h.2.2.1,h.2.1,h.1,λe=>h.2.2.2 e.symm⟩
theorem Zbx {c:CpR} (h:okQ c) (hw:sqQ (rsQ c)≠0):okQ (seQ c):=by
 rw [<-ybQ];exact WaG (wbt h) hw
theorem cb_B {c:CpR} {b:Nat} (h:CB' b c) (hb:b<=1000):CB c:=by
 obtain ⟨h1,h2,h3,h4,h5,h6,h7⟩:=h
 have a1:=zq_1 c.1
 have a2:=zq_2 c.1
 have a3:=zq_1 c.2.1
 have a4:=zq_2 c.2.1
 exact ⟨by omega,by omega,by omega,by omega,by omega,by omega,by omega,by omega,by omega⟩
theorem cl_B {c:CpR} {b:Nat} (h:CB' b c):cl (canC c)<=b:=by
 obtain ⟨h1,h2,h3,h4,h5,h6,h7⟩:=h
 rw [Vbs]
 simp only [Nat.max_le]
 exact ⟨h1,h2,h3,h4,h5,h6,h7⟩
theorem UT (c:CpR):WLC (canC c):=⟨vp _,vp _,zd _,zd _,zd _,zd _,zd _⟩
theorem wbk {c d:CpR} (hc:CB c) (hd:CB d) (h:∀p,wV c p=wV d p):cCur c=cCur d:=
 Xa5 (Wao hc).canon (Wao hd).canon λx y=>by
  have h1:=jba hc (x,y)
  have h2:=jba hd (x,y)
  simp only at h1 h2
  rw [h1,h2,h]
theorem Vbr {c:CpR} (hc:CB c) (hd:CB (fiQ c)) (hw:sqQ (cW c)≠0):cCur (fiQ c)=cCur c:=wbk hd hc λp=>kbN c p hw
theorem ex_w:sqQ (cW exQ)≠0:=by decide +kernel
theorem zbw:fiQ exQ=((0,0),(2,0),4,1 / 4,1 / 4,2,0):=by decide +kernel
theorem XbJ:foQ exQ=(2,0):=by decide +kernel
theorem qbj:CB' 16 exQ:=by unfold CB';decide +kernel
theorem ja3:CB' 200 (fiQ exQ):=by
 have:=jbu qbj
 obtain ⟨h1,h2,h3,h4,h5,h6,h7⟩:=this
 exact ⟨by omega,by omega,by omega,by omega,by omega,by omega,by omega⟩
end Go.Num
namespace Go.Abs
open Go.Num
variable {P:Program} {Γ:Nat->Spec}
def ux (l:List AV) (K:AV->Prop):Prop:=
 match l with
 | []=>K (.one (.lit (.bool true)))
 | _=>False
theorem War (K:AV->Prop):ux [] K=(K (.one (.lit (.bool true)))):=propext Iff.rfl
@[congr] theorem zbH {K:AV->Prop} {l l' : List AV} (h:l=l'):ux l K=ux l' K:=by subst h;rfl
attribute [go_sem] War
attribute [go_sem ↓] War
theorem zaD:Good ux:=ka λas=>by
 unfold ux
 split
 .exact (.ret _)
 .exact .of λK hk=>hk.elim
def kd (f0 f1 f2 f3 f4:Nat):List AO:=[.m 23 (.t 2),.u 24 (.binn .eql (.t 23) (.c (.one (.lit .nilIface)))),.m 25 (.t 24),.w 26 25 true (.mv (.t 4)),.w 27 25 true (.binn .eql (.t 26) (.c (.one (.lit .nilIface)))),.u 28 (.pick (.t 25) (.t 27) .fa),.m 29 (.t 28),.w 30 29 true (.mv (.t 6)),.w 31 29 true (.binn .eql (.t 30) (.c (.one (.lit .nilIface)))),.u 32 (.pick (.t 29) (.t 31) .fa),.m 33 (.t 32),.w 34 33 true (.mv (.t 5))]
theorem zp {f0 f1 f2 f3 f4:Nat} (Γ:Nat->Spec) (dr:Bool) (Q:S->Prop) (s:S):wpL Γ dr Q (kd f0 f1 f2 f3 f4) s=wpL Γ dr Q [.m 23 (.t 2),.u 24 (.binn .eql (.t 23) (.c (.one (.lit .nilIface)))),.m 25 (.t 24),.w 26 25 true (.mv (.t 4)),.w 27 25 true (.binn .eql (.t 26) (.c (.one (.lit .nilIface)))),.u 28 (.pick (.t 25) (.t 27) .fa),.m 29 (.t 28),.w 30 29 true (.mv (.t 6)),.w 31 29 true (.binn .eql (.t 30) (.c (.one (.lit .nilIface)))),.u 32 (.pick (.t 29) (.t 31) .fa),.m 33 (.t 32),.w 34 33 true (.mv (.t 5))] s:=eq_of_heq (HEq.refl _)
def Jd (f0 f1 f2 f3 f4:Nat):List AO:=[.u 35 (.pick (.t 33) (.t 34) .fa),.m 36 (.t 35),.w 37 36 true (.fa 0 (.t 1)),.w 38 36 true (.ld none 3 true (.t 37)),.w 39 36 true (.call f4 [(.t 38)]),.w 40 36 true (.sop 1 [(.t 39),(.c (.one (.lit (.string ⟨#[50]⟩))))]),.u 41 (.pick (.t 36) (.t 40) .fa),.m 42 (.t 41),.w 43 42 true (.fa 12 (.t 3)),.w 44 42 true (.ld none 3 true (.t 43)),.w 45 42 true (.call f4 [(.t 44)]),.w 46 42 true (.sop 1 [(.t 45),(.c (.one (.lit (.string ⟨#[52]⟩))))])]
theorem qp {f0 f1 f2 f3 f4:Nat} (Γ:Nat->Spec) (dr:Bool) (Q:S->Prop) (s:S):wpL Γ dr Q (Jd f0 f1 f2 f3 f4) s=wpL Γ dr Q [.u 35 (.pick (.t 33) (.t 34) .fa),.m 36 (.t 35),.w 37 36 true (.fa 0 (.t 1)),.w 38 36 true (.ld none 3 true (.t 37)),.w 39 36 true (.call f4 [(.t 38)]),.w 40 36 true (.sop 1 [(.t 39),(.c (.one (.lit (.string ⟨#[50]⟩))))]),.u 41 (.pick (.t 36) (.t 40) .fa),.m 42 (.t 41),.w 43 42 true (.fa 12 (.t 3)),.w 44 42 true (.ld none 3 true (.t 43)),.w 45 42 true (.call f4 [(.t 44)]),.w 46 42 true (.sop 1 [(.t 45),(.c (.one (.lit (.string ⟨#[52]⟩))))])] s:=eq_of_heq (HEq.refl _)
def Vd (f0 f1 f2 f3 f4:Nat):List AO:=[.u 47 (.pick (.t 42) (.t 46) .fa),.m 48 (.t 47),.w 49 48 true (.fa 15 (.t 3)),.w 50 48 true (.ld none 3 true (.t 49)),.w 51 48 true (.call f4 [(.t 50)]),.w 52 48 true (.sop 1 [(.t 51),(.c (.one (.lit (.string ⟨#[49,47,52]⟩))))]),.u 53 (.pick (.t 48) (.t 52) .fa),.m 54 (.t 53),.w 55 54 true (.fa 21 (.t 3)),.w 56 54 true (.ld none 3 true (.t 55)),.w 57 54 true (.call f4 [(.t 56)]),.w 58 54 true (.sop 1 [(.t 57),(.c (.one (.lit (.string ⟨#[50]⟩))))])]
theorem uo {f0 f1 f2 f3 f4:Nat} (Γ:Nat->Spec) (dr:Bool) (Q:S->Prop) (s:S):wpL Γ dr Q (Vd f0 f1 f2 f3 f4) s=wpL Γ dr Q [.u 47 (.pick (.t 42) (.t 46) .fa),.m 48 (.t 47),.w 49 48 true (.fa 15 (.t 3)),.w 50 48 true (.ld none 3 true (.t 49)),.w 51 48 true (.call f4 [(.t 50)]),.w 52 48 true (.sop 1 [(.t 51),(.c (.one (.lit (.string ⟨#[49,47,52]⟩))))]),.u 53 (.pick (.t 48) (.t 52) .fa),.m 54 (.t 53),.w 55 54 true (.fa 21 (.t 3)),.w 56 54 true (.ld none 3 true (.t 55)),.w 57 54 true (.call f4 [(.t 56)]),.w 58 54 true (.sop 1 [(.t 57),(.c (.one (.lit (.string ⟨#[50]⟩))))])] s:=eq_of_heq (HEq.refl _)
def wd (f0 f1 f2 f3 f4:Nat):List AO:=[.u 59 (.pick (.t 54) (.t 58) .fa),.m 0 (.t 59)]
theorem Yo {f0 f1 f2 f3 f4:Nat} (Γ:Nat->Spec) (dr:Bool) (Q:S->Prop) (s:S):wpL Γ dr Q (wd f0 f1 f2 f3 f4) s=wpL Γ dr Q [.u 59 (.pick (.t 54) (.t 58) .fa),.m 0 (.t 59)] s:=eq_of_heq (HEq.refl _)
def Uj (f0 f1 f2 f3 f4:Nat):AC:=(.seq (.ops false (kd f0 f1 f2 f3 f4++(Jd f0 f1 f2 f3 f4++(Vd f0 f1 f2 f3 f4++(wd f0 f1 f2 f3 f4)))))
 .ret)
theorem Ys {f0 f1 f2 f3 f4:Nat} (Γ:Nat->Spec) (Q:Ex->S->Prop) (s:S):wpA Γ (Uj f0 f1 f2 f3 f4) Q s=wpA Γ (.seq (.ops false (kd f0 f1 f2 f3 f4++(Jd f0 f1 f2 f3 f4++(Vd f0 f1 f2 f3 f4++(wd f0 f1 f2 f3 f4)))))
 .ret) Q s:=eq_of_heq (HEq.refl _)
def kg (f0 f1 f2 f3 f4:Nat):AC:=(.seq (.ops false [.m 0 .fa])
 (.fg [] (.seq (.ops false [.u 8 (.call f0 []),.u 9 (.call f1 [(.t 8)]),.m 7 (.t 9),.u 10 (.ext 0 (.t 7)),.u 11 (.ext 1 (.t 7)),.u 1 (.alloc [(.lit (.bool false)),.emp,.emp,(.lit (.bool false)),.emp,.emp]),.n (.st none 6 (.t 1) (.t 10)),.m 2 (.t 11)])
 (.fg [1,2] (.seq (.ops false [.u 13 (.call f0 []),.u 14 (.call f2 [(.t 13)]),.m 12 (.t 14),.u 15 (.ext 0 (.t 12)),.u 16 (.ext 1 (.t 12)),.u 3 (.alloc [(.lit (.bool false)),.emp,.emp,(.lit (.bool false)),.emp,.emp,(.lit (.bool false)),.emp,.emp,(.lit (.bool false)),.emp,.emp,(.lit (.bool false)),.emp,.emp,(.lit (.bool false)),.emp,.emp,(.lit (.bool false)),.emp,.emp,(.lit (.bool false)),.emp,.emp,(.lit (.bool false)),.emp,.emp]),.n (.st none 27 (.t 3) (.t 15)),.m 4 (.t 16)])
 (.fg [1,2,3,4] (.seq (.ops true [.u 18 (.call f0 []),.u 19 (.ld none 27 true (.t 3)),.u 20 (.call f3 [(.t 18),(.t 19)]),.m 17 (.t 20),.u 21 (.ext 0 (.t 17)),.u 22 (.ext 1 (.t 17)),.m 5 (.t 21),.m 6 (.t 22)])
 (.fg [1,2,3,4,5,6] (Uj f0 f1 f2 f3 f4)))))))))
set_option maxHeartbeats 2000000 in
theorem Uag (hΓ:Holds P Γ) {f fe ff fi fs ft tE:Nat} (he:Γ fe=.dat false YA) (hf:Γ ff=.dat false (kU tE)) (hi:Γ fi=.dat false (VM tE)) (hs:Γ fs=.dat false (uC tE)) (ht:Γ ft=.dat false Uq) (hc:check P f=some (60,(kg fe ff fi fs ft).strip,[.tmp 0])):Sound P f (.dat true ux):=by
 refine Va hc zaD hΓ (λargs K hcl hfi hG=>?_)
 match args,hG with
 | [],hK=>
  refine ⟨by simp,?_⟩
  have kE:=ybh
  have wE:=UT exQ
  have lE:=cl_B qbj
  have vE:=uL exQ
  obtain ⟨E,hE⟩:∃E,canC exQ=E:=⟨_,rfl⟩
  have eE:cqR exQ=cpA E:=by rw [<-hE];rfl
  rw [hE]at kE wE lE vE
  have kF:=zaj (WaG (by have:=Ybd kE;rw [vE]at this;exact this) ex_w)
  have wF:=UT (fiQ exQ)
  have lF:=cl_B ja3
  have vF:=uL (fiQ exQ)
  have hcur:cCur (fiQ exQ)=cCur exQ:=Vbr (cb_B qbj (by decide)) (cb_B ja3 (by decide)) ex_w
  obtain ⟨Y,hY⟩:∃Y,fiQ exQ=Y:=⟨_,rfl⟩
  rw [hY]at kF wF lF vF hcur
  rw [zbw]at hY
  obtain ⟨F,hF⟩:∃F,canC Y=F:=⟨_,rfl⟩
  have eF:cqR Y=cpA F:=by rw [<-hF];rfl
  rw [hF]at kF wF lF vF
  have cE:fiC E=0:=by rw [Ya6 kE,vE];exact wC_0.2 ex_w
  have sE:smC E F=0:=by unfold smC;rw [if_neg (by omega)];exact kF
  have l1:cl E<=100000:=Nat.le_trans lE (by decide)
  have l2:cl E<=1000:=Nat.le_trans lE (by decide)
  have l3:cl F<=1000:=Nat.le_trans lF (by decide)
  have dc:=decide_eq_true hcur.symm
  have g0:decide (0=0)=true:=rfl
  have e0:=zc tE
  have a2:rv F.2.2.1=4:=by rw [<-hF,<-hY];exact Wb _
  have b2:rv F.2.2.2.1=1 / 4:=by rw [<-hF,<-hY];exact Wb _
  have u2:rv F.2.2.2.2.2.1=2:=by rw [<-hF,<-hY];exact Wb _
  have hYY:fiQ exQ=Y:=by rw [zbw,hY]
  have t2:txR 2=⟨#[50]⟩:=by decide +kernel
  have t4:txR 4=⟨#[52]⟩:=by decide +kernel
  have tq:txR (1 / 4)=⟨#[49,47,52]⟩:=by decide +kernel
  simp only [go_sem,kg,he,hf,hi,hs,eE,kE,vE,cE,hYY,eF,XbJ,e0,cpA,cpC,kb,sE,vF,dc,g0,Bool.true_and]
  repeat (first | (refine And.intro (by with_reducible assumption) ?_) | (refine And.intro (Nat.le_trans (by with_reducible assumption) (by decide)) ?_) | (refine And.intro (by decide) ?_))
  have wF1:=wF.2.2.1
  have wF2:=wF.2.2.2.1
  have wF3:=wF.2.2.2.2.2.1
  have hl0:=lF
  unfold cl at hl0
  simp only [Nat.max_le]at hl0
  have lF1:=Nat.le_trans hl0.2.2.1 (by decide:_<=4294967296)
  have lF2:=Nat.le_trans hl0.2.2.2.1 (by decide:_<=4294967296)
  have lF3:=Nat.le_trans hl0.2.2.2.2.2.1 (by decide:_<=4294967296)
  have l22:rz 2<=4294967296:=Nat.le_trans rz_2 (by decide)
  have k1:okT (Rat.num 2):=Or.inr (Or.inl rfl)
  have k2:okT ((Rat.den 2:Nat):Int):=Or.inl rfl
  have k3:okT (Rat.num 4):=Or.inr (Or.inr (Or.inl rfl))
  have k4:okT ((Rat.den 4:Nat):Int):=Or.inl rfl
  have k5:okT (Rat.num (1 / 4)):=Or.inl (by decide +kernel)
  have k6:okT ((Rat.den (1 / 4):Nat):Int):=Or.inr (Or.inr (Or.inl (by decide +kernel)))
  rw [Ys,wbx,Van,Van,Van]
  rw [zp]
  simp only [go_sem]
  rw [qp]
  have bb:∀l:List UInt8,(l == l)=true:=λl=>beq_self_eq_true l
  simp only [go_sem,ht,Wb,t2,t4,tq,a2,b2,u2,bb]
  repeat (first | (refine And.intro (by with_reducible assumption) ?_) | (refine And.intro (Nat.le_trans (by with_reducible assumption) (by decide)) ?_) | (refine And.intro (by decide) ?_))
  rw [uo]
  simp only [go_sem,ht,Wb,t2,t4,tq,a2,b2,u2,bb]
  repeat (first | (refine And.intro (by with_reducible assumption) ?_) | (refine And.intro (Nat.le_trans (by with_reducible assumption) (by decide)) ?_) | (refine And.intro (by decide) ?_))
  rw [Yo]
  simp only [go_sem,ht,Wb,t2,t4,tq,a2,b2,u2,bb]
  exact hK
end Go.Abs
end
section
namespace Go.Num
open Go.Abs
end Go.Num
namespace Go.Abs
open Go.Num
variable {P:Program} {Γ:Nat->Spec}
theorem vbB (c:Cp):cpA c=.agg (cpC c):=eq_of_heq (HEq.refl _)
theorem Ubd (k:Cp->Prop) (c:Cp):onCp k (.agg (cpC c))=(WLC c/\k c):=Zn JaQ (λc=>WLC c/\k c) c
theorem xak (c:Cp):(cpC c).length=27:=eq_of_heq (HEq.refl _)
theorem Yaq (c:Cp):(cpC c).take 27=cpC c:=List.take_of_length_le (Nat.le_of_eq (xak c))
theorem Uay (c:Cp):(cpC c).drop 0=cpC c:=eq_of_heq (HEq.refl _)
theorem waJ (h:Nat->HB) (c:Cp):(cpC c).map (datC h)=cpC c:=eq_of_heq (HEq.refl _)
theorem yaH (c:Cp):(cpC c).flatMap ownC=[]:=eq_of_heq (HEq.refl _)
theorem gE1x (K:List C->Prop) (e0 e1:List C) (r:List (List C)):getE K (e0::e1::r) 1=K e1:=by simp [getE]
theorem gE2x (K:List C->Prop) (e0 e1 e2:List C) (r:List (List C)):getE K (e0::e1::e2::r) 2=K e2:=by simp [getE]
theorem gE3x (K:List C->Prop) (e0 e1 e2 e3:List C) (r:List (List C)):getE K (e0::e1::e2::e3::r) 3=K e3:=by simp [getE]
theorem gE4x (K:List C->Prop) (e0 e1 e2 e3 e4:List C) (r:List (List C)):getE K (e0::e1::e2::e3::e4::r) 4=K e4:=by simp [getE]
theorem gE5x (K:List C->Prop) (e0 e1 e2 e3 e4 e5:List C) (r:List (List C)):getE K (e0::e1::e2::e3::e4::e5::r) 5=K e5:=by simp [getE]
attribute [go_sem] vbB Ubd xak Yaq Uay waJ yaH gE1x gE2x gE3x gE4x gE5x
attribute [go_sem ↓] vbB Ubd xak Yaq Uay waJ yaH gE1x gE2x gE3x gE4x gE5x
def VJ (l:List AV) (K:AV->Prop):Prop:=
 match l with
 | [c]=>onCp (λc=>cl c<=1048576/\K (.one (.lit (.bool true)))) c
 | _=>False
theorem uN (c:AV) (K:AV->Prop):VJ [c] K=(onCp (λc=>cl c<=1048576/\K (.one (.lit (.bool true)))) c):=propext Iff.rfl
@[congr] theorem zbr {K:AV->Prop} {l l' : List AV} (h:l=l'):VJ l K=VJ l' K:=by subst h;rfl
attribute [go_sem] uN
attribute [go_sem ↓] uN
end Go.Abs
end
section
namespace Go.Num
open Go.Abs
theorem qbA {w:V2} (h:wC w≠0):wC w=8:=by
 unfold wC at h ⊢;split
 .rfl
 .rename_i h1;rw [if_neg h1]at h;exact absurd rfl h
theorem wbi (c:CpR) (a b:V2):zq (ptQ c a b)<=3*zq a+2*zq b+rz c.2.2.2.2.2.1+rz c.2.2.2.2.2.2+12:=by
 have h1:=Vm b a
 have h2:=Ybg (subQ b a) c.2.2.2.2.2.1 c.2.2.2.2.2.2
 have h3:=JP a (timQ (subQ b a) c.2.2.2.2.2.1 c.2.2.2.2.2.2)
 unfold ptQ;omega
theorem QbL {c:CpR} {b:Nat} (h:CB' b c) {x y:V2} (hx:zq x<=b) (hy:zq y<=b):zq (en1 c x y)<=20*b+60/\zq (en2 c x y)<=20*b+60/\zq (en3 c x y)<=20*b+60/\zq (en4 c x y)<=20*b+60:=by
 have r:=Va8 h
 obtain ⟨h1,h2,h3,h4,h5,h6,h7⟩:=h
 have w:zq (cW c)<=b:=Nat.max_le.2 ⟨h6,h7⟩
 have s1:=Vm y x
 have t1:=VA (cW c) (subQ y x)
 have t2:=VA (rsQ c) (subQ y x)
 have u1:=JP c.1 (timesQ (cW c) (subQ y x))
 have u2:=Vm c.2.1 (timesQ (rsQ c) (subQ y x))
 have e1:zq (en1 c x y)<=7*b+12:=by unfold en1;omega
 have e2:zq (en2 c x y)<=7*b+30:=by unfold en2;omega
 have s3:=Vm x c.1
 have s4:=Vm y c.2.1
 have t3:=VA (cW c) (subQ x c.1)
 have t4:=VA (rsQ c) (subQ y c.2.1)
 have u3:=JP (en1 c x y) (timesQ (cW c) (subQ x c.1))
 have u4:=JP (en2 c x y) (timesQ (rsQ c) (subQ y c.2.1))
 exact ⟨by omega,by omega,by unfold en3;omega,by unfold en4;omega⟩
def ceC (c:Cp) (a b:Arc):Cp:=(c.1,c.2.1,rcan (sqQ (subQ (av a) (av c.1))),rcan (sqQ (subQ (av b) (av a))),rcan (sqQ (subQ (av b) (av c.2.1))),c.2.2.2.2.2.1,c.2.2.2.2.2.2)
theorem kbp (c:Cp) (a b:Arc):hldQ (cpv (ceC c a b)) (av a) (av b):=by
 refine ⟨?_,?_,?_⟩
 .exact (Wb _).symm
 .exact (Wb _).symm
 .rw [W8];exact (Wb _).symm
theorem YbI {c:Cp} (h:cchk c=0) (h1:alC c≠0):alC c=8:=by
 unfold alC at h1 ⊢
 split
 .rename_i h2;rw [Ya6 h]at h2 ⊢;exact qbA h2
 .rename_i h2;rw [if_neg h2]at h1;rw [Ybn h]at h1 ⊢;exact qbA h1
theorem vbP {c:Cp} (h:cchk c=0) (h1:alC c=0):sqQ (cW (cpv c))≠0/\sqQ (rsQ (cpv c))≠0:=by
 unfold alC at h1
 split at h1
 .rename_i h2;exact absurd h1 h2
 .rename_i h2
  have h3:fiC c=0:=by omega
  rw [Ya6 h]at h3
  rw [Ybn h]at h1
  exact ⟨wC_0.1 h3,wC_0.1 h1⟩
end Go.Num
namespace Go.Abs
open Go.Num
variable {P:Program} {Γ:Nat->Spec}
theorem jap {h h' : Nat->HB} {z:Nat} {b:Bool} {x y:R}:okB h h' (some ⟨[[cb x,cn x,cd x,cb y,cn y,cd y]],z,b⟩) (some ⟨[[cb x,cn x,cd x,cb y,cn y,cd y]],z,b⟩):=
 ⟨⟨rfl,rfl⟩,.inl ⟨rfl,λe he c hc=>by
  rw [List.mem_singleton.1 he]at hc
  simp only [List.mem_cons,List.not_mem_nil,or_false]at hc
  rcases hc with rfl | rfl | rfl | rfl | rfl | rfl
  .exact of_eq_true (Qh _)
  .exact of_eq_true (vh _)
  .exact of_eq_true (Ug _)
  .exact of_eq_true (Qh _)
  .exact of_eq_true (vh _)
  .exact of_eq_true (Ug _)⟩⟩
def Vq (l:List AV) (K:AV->Prop):Prop:=
 match l with
 | [c,a,b]=>onCp (λc=>onA (λa=>onA (λb=>cl c<=1048576/\al a<=1048576/\al b<=1048576/\K (.one (.lit (.bool true)))) b) a) c
 | _=>False
theorem U9 (c a b:AV) (K:AV->Prop):Vq [c,a,b] K=(onCp (λc=>onA (λa=>onA (λb=>cl c<=1048576/\al a<=1048576/\al b<=1048576/\K (.one (.lit (.bool true)))) b) a) c):=propext Iff.rfl
@[congr] theorem jbz {K:AV->Prop} {l l' : List AV} (h:l=l'):Vq l K=Vq l' K:=by subst h;rfl
attribute [go_sem] U9
attribute [go_sem ↓] U9
theorem Jag:Good Vq:=ka λas=>by
 unfold Vq
 split
 .exact (Yj λ_=>(xo λ_=>(xo λ_=>(.and λ_=>(.and λ_=>(.and λ_=>(.ret _)))))))
 .exact .of λK hk=>hk.elim
def Qb (f0 f1 f2 f3 f4 f5 f6 f7 f8 f9 f10 f11 f12:Nat):AC:=(.seq (.ops false [.u 3 (.box 27 (.t 0)),.u 4 (.box 6 (.t 1)),.u 5 (.box 6 (.t 2)),.m 6 .fa])
 (.fg [3,4,5] (.seq (.seq (.ops false [.u 19 (.call f0 []),.u 20 (.un .not (.t 19)),.m 21 (.t 20),.w 22 21 false (.ld none 27 true (.t 3)),.w 23 21 false (.call f1 [(.t 22)]),.w 24 21 false (.un .not (.t 23)),.u 25 (.pick (.t 21) .tr (.t 24)),.m 26 (.t 25),.w 27 26 false (.ld none 6 true (.t 4)),.w 28 26 false (.ld none 6 true (.t 5)),.w 29 26 false (.row 6 [[.x 6 (.t 27)],[.x 6 (.t 28)]]),.w 30 26 false (.call f2 [(.t 29)]),.w 31 26 false (.un .not (.t 30)),.u 32 (.pick (.t 26) .tr (.t 31)),.m 33 (.t 32),.w 34 33 false (.ld none 6 true (.t 4)),.w 35 33 false (.call f3 [(.t 34)]),.w 36 33 false (.un .not (.t 35)),.u 37 (.pick (.t 33) .tr (.t 36)),.m 38 (.t 37),.w 39 38 false (.ld none 6 true (.t 5)),.w 40 38 false (.call f3 [(.t 39)]),.w 41 38 false (.un .not (.t 40)),.u 42 (.pick (.t 38) .tr (.t 41))])
 (.fg [3,4,5,42] (.cond (.t 42) (.seq (.ops false [.u 43 (.call f0 []),.m 6 (.t 43)])
 .ret) .skip)))
 (.fg [3,4,5] (.seq (.ops false [.u 44 (.ld none 6 true (.t 4)),.u 45 (.fa 0 (.t 3)),.u 46 (.ld none 6 true (.t 45)),.u 47 (.call f4 [(.t 44),(.t 46)]),.u 48 (.call f5 [(.t 47)]),.u 49 (.fa 12 (.t 3)),.n (.st none 3 (.t 49) (.t 48))])
 (.fg [3,4,5] (.seq (.ops false [.u 50 (.ld none 6 true (.t 5)),.u 51 (.ld none 6 true (.t 4)),.u 52 (.call f4 [(.t 50),(.t 51)]),.u 53 (.call f5 [(.t 52)]),.u 54 (.fa 15 (.t 3)),.n (.st none 3 (.t 54) (.t 53))])
 (.fg [3,4,5] (.seq (.ops false [.u 55 (.ld none 6 true (.t 5)),.u 56 (.fa 6 (.t 3)),.u 57 (.ld none 6 true (.t 56)),.u 58 (.call f4 [(.t 55),(.t 57)]),.u 59 (.call f5 [(.t 58)]),.u 60 (.fa 18 (.t 3)),.n (.st none 3 (.t 60) (.t 59))])
 (.fg [3,4,5] (.seq (.seq (.ops false [.u 61 (.ld none 27 true (.t 3)),.u 62 (.call f6 [(.t 61)]),.u 63 (.binn .neq (.t 62) (.c (.one (.lit .nilIface))))])
 (.fg [3,4,5,63] (.cond (.t 63) (.seq (.ops false [.m 6 .tr])
 .ret) .skip)))
 (.fg [3,4,5] (.seq (.ops false [.u 65 (.ld none 27 true (.t 3)),.u 66 (.call f7 [(.t 65)]),.m 64 (.t 66),.u 67 (.ext 0 (.t 64)),.u 68 (.ext 1 (.t 64)),.m 7 (.t 67),.m 8 (.t 68)])
 (.fg [3,4,5,7,8] (.seq (.ops false [.u 70 (.ld none 27 true (.t 3)),.u 71 (.ld none 6 true (.t 4)),.u 72 (.ld none 6 true (.t 5)),.u 73 (.call f8 [(.t 70),(.t 71),(.t 72)]),.m 69 (.t 73),.u 74 (.ext 0 (.t 69)),.u 75 (.ext 1 (.t 69)),.m 9 (.t 74),.m 10 (.t 75)])
 (.fg [3,4,5,7,8,9,10] (.seq (.ops false [.u 77 (.ld none 27 true (.t 3)),.u 78 (.ld none 6 true (.t 4)),.u 79 (.ld none 6 true (.t 5)),.u 80 (.call f9 [(.t 77),(.t 78),(.t 79)]),.m 76 (.t 80),.u 81 (.ext 0 (.t 76)),.u 82 (.ext 1 (.t 76)),.u 11 (.alloc [(.lit (.bool false)),.emp,.emp,(.lit (.bool false)),.emp,.emp]),.n (.st none 6 (.t 11) (.t 81)),.m 12 (.t 82)])
 (.fg [7,8,9,10,11,12] (.seq (.seq (.ops false [.m 83 (.t 8),.u 84 (.binn .neq (.t 83) (.c (.one (.lit .nilIface))))])
 (.fg [7,8,9,10,11,12,84] (.cond (.t 84) (.seq (.ops false [.m 85 (.t 8),.u 86 (.call f10 [(.t 85),(.i 8)]),.m 87 (.t 86),.w 88 87 true (.mv (.t 10)),.w 89 87 true (.call f10 [(.t 88),(.i 8)]),.u 90 (.pick (.t 87) (.t 89) .fa),.m 6 (.t 90)])
 .ret) .skip)))
 (.fg [7,9,10,11,12] (.seq (.seq (.ops false [.m 91 (.t 10),.u 92 (.binn .neq (.t 91) (.c (.one (.lit .nilIface)))),.m 93 (.t 92),.w 94 93 false (.mv (.t 12)),.w 95 93 false (.binn .neq (.t 94) (.c (.one (.lit .nilIface)))),.u 96 (.pick (.t 93) .tr (.t 95)),.m 97 (.t 96),.w 98 97 false (.mv (.t 7)),.w 99 97 false (.len (.t 98)),.w 100 97 false (.bin .neq (.t 99) (.i 3)),.u 101 (.pick (.t 97) .tr (.t 100)),.m 102 (.t 101),.w 103 102 false (.mv (.t 9)),.w 104 102 false (.len (.t 103)),.w 105 102 false (.bin .neq (.t 104) (.i 6)),.u 106 (.pick (.t 102) .tr (.t 105))])
 (.fg [7,9,11,106] (.cond (.t 106) (.seq (.ops false [.m 6 .fa])
 .ret) .skip)))
 (.fg [7,9,11] (.seq (.seq (.ops false [.m 107 (.t 7),.u 108 (.len (.t 107)),.m 109 (.i 0)])
 (.fg [9,11,107,108,109] (.block 0 (.loop (.seq (.ops false [.u 110 (.bin .lss (.t 109) (.t 108))])
 (.fg [9,11,107,108,109,110] (.seq (.cond (.t 110) .skip (.exit 0))
 (.fg [9,11,107,108,109] (.seq (.block 1 (.seq (.ops false [.m 111 (.t 109),.u 112 (.idx 27 (.t 107) (.t 109)),.u 113 (.ld none 27 true (.t 112)),.u 14 (.alloc [(.lit (.bool false)),.emp,.emp,(.lit (.bool false)),.emp,.emp,(.lit (.bool false)),.emp,.emp,(.lit (.bool false)),.emp,.emp,(.lit (.bool false)),.emp,.emp,(.lit (.bool false)),.emp,.emp,(.lit (.bool false)),.emp,.emp,(.lit (.bool false)),.emp,.emp,(.lit (.bool false)),.emp,.emp]),.m 13 (.t 111),.n (.st none 27 (.t 14) (.t 113))])
 (.fg [9,11,13,14,107,108,109] (.seq (.ops true [.u 115 (.ld none 27 true (.t 14)),.m 116 (.t 9),.m 117 (.t 13),.u 118 (.bin .mul (.i 2) (.t 117)),.u 119 (.idx 6 (.t 116) (.t 118)),.u 120 (.ld none 6 true (.t 119)),.m 121 (.t 9),.m 122 (.t 13),.u 123 (.bin .mul (.i 2) (.t 122)),.u 124 (.bin .add (.t 123) (.i 1)),.u 125 (.idx 6 (.t 121) (.t 124)),.u 126 (.ld none 6 true (.t 125)),.u 127 (.call f11 [(.t 115),(.t 120),(.t 126)]),.m 114 (.t 127),.u 128 (.ext 0 (.t 114)),.u 129 (.ext 1 (.t 114)),.m 15 (.t 128),.m 16 (.t 129)])
 (.fg [9,11,13,14,15,16,107,108,109] (.seq (.ops true [.u 131 (.ld none 27 true (.t 14)),.m 132 (.t 9),.m 133 (.t 13),.u 134 (.bin .mul (.i 2) (.t 133)),.u 135 (.idx 6 (.t 132) (.t 134)),.u 136 (.ld none 6 true (.t 135)),.m 137 (.t 9),.m 138 (.t 13),.u 139 (.bin .mul (.i 2) (.t 138)),.u 140 (.bin .add (.t 139) (.i 1)),.u 141 (.idx 6 (.t 137) (.t 140)),.u 142 (.ld none 6 true (.t 141)),.u 143 (.call f9 [(.t 131),(.t 136),(.t 142)]),.m 130 (.t 143),.u 144 (.ext 0 (.t 130)),.u 145 (.ext 1 (.t 130)),.u 17 (.alloc [(.lit (.bool false)),.emp,.emp,(.lit (.bool false)),.emp,.emp]),.n (.st none 6 (.t 17) (.t 144)),.m 18 (.t 145)])
 (.fg [9,11,15,16,17,18,107,108,109] (.seq (.ops false [.m 146 (.t 16),.u 147 (.binn .neq (.t 146) (.c (.one (.lit .nilIface)))),.m 148 (.t 147),.w 149 148 false (.mv (.t 18)),.w 150 148 false (.binn .neq (.t 149) (.c (.one (.lit .nilIface)))),.u 151 (.pick (.t 148) .tr (.t 150)),.m 152 (.t 151),.w 153 152 false (.mv (.t 15)),.w 154 152 false (.un .not (.t 153)),.u 155 (.pick (.t 152) .tr (.t 154)),.m 156 (.t 155),.w 157 156 false (.ld none 6 true (.t 11)),.w 158 156 false (.ld none 6 true (.t 17)),.w 159 156 false (.call f12 [(.t 157),(.t 158)]),.w 160 156 false (.un .not (.t 159)),.u 161 (.pick (.t 156) .tr (.t 160))])
 (.fg [9,11,107,108,109,161] (.cond (.t 161) (.seq (.ops false [.m 6 .fa])
 .ret) .skip))))))))))
 (.fg [9,11,107,108,109] (.ops false [.u 162 (.bin .add (.t 109) (.i 1)),.m 109 (.t 162)])))))))))))
 (.fg [] (.seq (.ops false [.m 6 .tr])
 .ret)))))))))))))))))))))))))
set_option maxHeartbeats 4000000 in
theorem ZY (hΓ:Holds P Γ) {f fw fs fh fp fl fq fk fa fe ft fb fd fm tE:Nat} (hw:Γ fw=.dat true ux) (hs:Γ fs=.dat true XE) (hh:Γ fh=.dat true yq) (hp:Γ fp=.dat true qj) (hl' : Γ fl=.dat false Yg) (hq:Γ fq=.dat false yF) (hk:Γ fk=.dat false (xu tE)) (ha:Γ fa=.dat false (uA tE)) (he:Γ fe=.dat false (yC tE)) (ht:Γ ft=.dat false (QE tE)) (hb:Γ fb=.dat true (vT tE)) (hd:Γ fd=.dat false (xA tE)) (hm:Γ fm=.dat true Zx) (hc:check P f=some (163,(Qb fw fs fh fp fl fq fk fa fe ft fb fd fm).strip,[.tmp 6])):Sound P f (.dat true Vq):=by
 refine Va hc Jag hΓ (λargs K hcl hfi hG=>?_)
 match args,hG with
 | [x1,x2,x3],hG=>
  obtain ⟨c,rfl,hwc,a,rfl,wa,b,rfl,wb,hlc,hla,hlb,hK⟩:=hG
  refine ⟨by simp,?_⟩
  have hlc1:cl c<=4294967296:=by omega
  have hla1:al a<=100000000:=by omega
  have hlb1:al b<=100000000:=by omega
  have om1:okAs 4294967296 [a,b]:=λz hz=>by
   simp only [List.mem_cons,List.not_mem_nil,or_false]at hz
   rcases hz with rfl | rfl
   .exact ⟨wa,by omega⟩
   .exact ⟨wb,by omega⟩
  have wl1:∀z∈[a,b],WLA z:=λz hz=>(om1 z hz).1
  cases hsc:sC c with
  | false=>
   simp only [go_sem,Qb,hw,hs,hsc,je,kb]
   repeat (first | (refine And.intro (by with_reducible assumption) ?_) | (refine And.intro (Nat.le_trans (by with_reducible assumption) (by decide)) ?_) | (refine And.intro (by decide) ?_))
   exact hK
  | true=>
  cases hsp:List.all [a,b] sA with
  | false=>
   simp only [go_sem,Qb,hw,hs,hh,hsc,je,kb,hsp]
   repeat (first | (refine And.intro (by with_reducible assumption) ?_) | (refine And.intro (Nat.le_trans (by with_reducible assumption) (by decide)) ?_) | (refine And.intro (by decide) ?_))
   exact hK
  | true=>
  cases hva:avld a with
  | false=>
   simp only [go_sem,Qb,hw,hs,hh,hp,hsc,je,kb,hsp,hva]
   repeat (first | (refine And.intro (by with_reducible assumption) ?_) | (refine And.intro (Nat.le_trans (by with_reducible assumption) (by decide)) ?_) | (refine And.intro (by decide) ?_))
   exact hK
  | true=>
  cases hvb:avld b with
  | false=>
   simp only [go_sem,Qb,hw,hs,hh,hp,hsc,je,kb,hsp,hva,hvb]
   repeat (first | (refine And.intro (by with_reducible assumption) ?_) | (refine And.intro (Nat.le_trans (by with_reducible assumption) (by decide)) ?_) | (refine And.intro (by decide) ?_))
   exact hK
  | true=>
  have c2:=wbI hsc
  have hB0:=xaZ hwc c2
  have hsp2:=hsp
  simp only [List.all_cons,List.all_nil,Bool.and_true,Bool.and_eq_true]at hsp2
  have a2:=kaw hsp2.1
  have b2:=kaw hsp2.2
  have za:=Nat.le_trans (Wy wa) a2
  have zb:=Nat.le_trans (Wy wb) b2
  have wo:=hwc.1
  have wQ:=hwc.2.1
  have lo:al c.1<=100000000:=Nat.le_trans (Nat.le_max_left _ _) (Nat.le_trans c2 (by decide))
  have lq:al c.2.1<=100000000:=Nat.le_trans (Nat.le_max_left _ _) (Nat.le_trans (Nat.le_max_right _ _) (Nat.le_trans c2 (by decide)))
  have zo:zq (av c.1)<=2:=hB0.1
  have zQ:zq (av c.2.1)<=2:=hB0.2.1
  obtain ⟨S1,hS1⟩:∃x,subQ (av a) (av c.1)=x:=⟨_,rfl⟩
  obtain ⟨S2,hS2⟩:∃x,subQ (av b) (av a)=x:=⟨_,rfl⟩
  obtain ⟨S3,hS3⟩:∃x,subQ (av b) (av c.2.1)=x:=⟨_,rfl⟩
  have zS1:zq S1<=6:=by rw [<-hS1];exact Nat.le_trans (Vm _ _) (by omega)
  have zS2:zq S2<=6:=by rw [<-hS2];exact Nat.le_trans (Vm _ _) (by omega)
  have zS3:zq S3<=6:=by rw [<-hS3];exact Nat.le_trans (Vm _ _) (by omega)
  have wS1:WLA (rcan S1.1,rcan S1.2):=vp S1
  have wS2:WLA (rcan S2.1,rcan S2.2):=vp S2
  have wS3:WLA (rcan S3.1,rcan S3.2):=vp S3
  have lS1:al (rcan S1.1,rcan S1.2)<=100000000:=Nat.le_trans zS1 (by decide)
  have lS2:al (rcan S2.1,rcan S2.2)<=100000000:=Nat.le_trans zS2 (by decide)
  have lS3:al (rcan S3.1,rcan S3.2)<=100000000:=Nat.le_trans zS3 (by decide)
  have q1:=Nat.le_trans (XG S1) (by omega:_<=30)
  have q2:=Nat.le_trans (XG S2) (by omega:_<=30)
  have q3:=Nat.le_trans (XG S3) (by omega:_<=30)
  have hold:=kbp c a b
  have eT:ceC c a b=(c.1,c.2.1,rcan (sqQ S1),rcan (sqQ S2),rcan (sqQ S3),c.2.2.2.2.2.1,c.2.2.2.2.2.2):=by rw [<-hS1,<-hS2,<-hS3];rfl
  obtain ⟨T,hT⟩:∃T,ceC c a b=T:=⟨_,rfl⟩
  rw [hT]at hold eT
  have fT:cpC T=[cb c.1.1,cn c.1.1,cd c.1.1,cb c.1.2,cn c.1.2,cd c.1.2,cb c.2.1.1,cn c.2.1.1,cd c.2.1.1,cb c.2.1.2,cn c.2.1.2,cd c.2.1.2,cb (rcan (sqQ S1)),cn (rcan (sqQ S1)),cd (rcan (sqQ S1)),cb (rcan (sqQ S2)),cn (rcan (sqQ S2)),cd (rcan (sqQ S2)),cb (rcan (sqQ S3)),cn (rcan (sqQ S3)),cd (rcan (sqQ S3)),cb c.2.2.2.2.2.1,cn c.2.2.2.2.2.1,cd c.2.2.2.2.2.1,cb c.2.2.2.2.2.2,cn c.2.2.2.2.2.2,cd c.2.2.2.2.2.2]:=by rw [eT];rfl
  have wT:WLC T:=by rw [eT];exact ⟨wo,wQ,zd _,zd _,zd _,hwc.2.2.2.2.2.1,hwc.2.2.2.2.2.2⟩
  have luv:=cl_w c2
  have lT:cl T<=30:=by
   rw [eT]
   unfold cl
   simp only [Nat.max_le]
   have l0:=c2
   unfold cl at l0
   simp only [Nat.max_le]at l0
   exact ⟨Nat.le_trans l0.1 (by decide),Nat.le_trans l0.2.1 (by decide),q1,q2,q3,Nat.le_trans l0.2.2.2.2.2.1 (by decide),Nat.le_trans l0.2.2.2.2.2.2 (by decide)⟩
  have lT8:=Nat.le_trans lT (by decide:_<=100000000)
  have e0:=zc tE
  have hcc:cpC c=[cb c.1.1,cn c.1.1,cd c.1.1,cb c.1.2,cn c.1.2,cd c.1.2,cb c.2.1.1,cn c.2.1.1,cd c.2.1.1,cb c.2.1.2,cn c.2.1.2,cd c.2.1.2,cb c.2.2.1,cn c.2.2.1,cd c.2.2.1,cb c.2.2.2.1,cn c.2.2.2.1,cd c.2.2.2.1,cb c.2.2.2.2.1,cn c.2.2.2.2.1,cd c.2.2.2.2.1,cb c.2.2.2.2.2.1,cn c.2.2.2.2.2.1,cd c.2.2.2.2.2.1,cb c.2.2.2.2.2.2,cn c.2.2.2.2.2.2,cd c.2.2.2.2.2.2]:=rfl
  simp only [go_sem,Qb,hw,hs,hh,hp,hl',hq,hsc,je,kb,hsp,hva,hvb,xG,hS1,hS2,hS3,hcc]
  repeat (first | (refine And.intro (by with_reducible assumption) ?_) | (refine And.intro (Nat.le_trans (by with_reducible assumption) (by decide)) ?_) | (refine And.intro (by decide) ?_))
  rw [<-fT]
  by_cases h0:cchk T=0
  case neg=>
   have e1:=Zc tE h0
   simp only [go_sem,hk,kb,e1]
   repeat (first | (refine And.intro (by with_reducible assumption) ?_) | (refine And.intro (Nat.le_trans (by with_reducible assumption) (by decide)) ?_) | (refine And.intro (by decide) ?_))
   exact hK
  have hB:=xaZ wT lT
  have ok:=Ybd h0
  have hcan:=YbN wT h0
  have k2:cchk2 T [a,b]=0:=QX h0 (by simp [hva,hvb])
  have een:enC T a b=alC T:=by unfold enC;rw [if_neg (by omega),if_pos hold]
  have al0:=vbP h0
  have al8:=YbI h0
  have eR:enR T a b=if alC T=0 then enL (cpv T) (av a) (av b) else []:=by unfold enR;rw [een]
  have eA:alL T=if alC T=0 then [cpv T,fiQ (cpv T),seQ (cpv T)] else []:=rfl
  have lT4:=Nat.le_trans lT (by decide:_<=10000)
  have lT3:=Nat.le_trans lT (by decide:_<=1000)
  have la4:=Nat.le_trans a2 (by decide:_<=10000)
  have lb4:=Nat.le_trans b2 (by decide:_<=10000)
  have la3:=Nat.le_trans a2 (by decide:_<=1000)
  have lb3:=Nat.le_trans b2 (by decide:_<=1000)
  obtain ⟨V,hV⟩:∃V,cpv T=V:=⟨_,rfl⟩
  obtain ⟨A,hA⟩:∃A,av a=A:=⟨_,rfl⟩
  obtain ⟨B,hB1⟩:∃B,av b=B:=⟨_,rfl⟩
  obtain ⟨D,hD⟩:∃D,ptQ V A B=D:=⟨_,rfl⟩
  rw [hV]at hB ok hcan hold al0 eR eA
  rw [hA]at hold eR za
  rw [hB1]at hold eR zb
  obtain ⟨n,hn⟩:∃n,alC T=n:=⟨_,rfl⟩
  rw [hn]at al0 al8 een eR eA
  by_cases hn0:n=0
  case neg=>
   have n8:=al8 hn0
   have e8:=Zc tE (by decide:(8:Nat)≠0)
   have o8:∀k,onErr tE k (.one (.lit (.iface tE (.int .i64 ((8:Nat):Int)))))=k 8:=λk=>by
    have e:=yV tE k 8
    rw [e8]at e
    exact e
   have d8:(((8:Nat):Int)=8)=True:=eq_true rfl
   rw [if_neg hn0]at eR eA
   rw [n8]at een hn
   simp only [go_sem,hk,ha,he,ht,hb,kb,h0,e0,hn,een,eR,eA,k2,e8,o8,d8,decide_true,true_implies,not_true_eq_false,false_implies,and_true]
   repeat (first | (refine And.intro (by with_reducible assumption) ?_) | (refine And.intro (Nat.le_trans (by with_reducible assumption) (by decide)) ?_) | (refine And.intro (by decide) ?_))
   exact hK
  obtain ⟨wn,rn⟩:=al0 hn0
  rw [if_pos hn0]at eR eA
  rw [hn0]at een hn
  obtain ⟨z1,z2,z3,z4⟩:=QbL hB (x:=A) (y:=B) (by omega) (by omega)
  have h1:=zbp hold
  have h2:=qbk hold
  have p1:=JbS (c:=V) wn A B
  have p2:=WbP (c:=V) rn A B
  have bF:=jbu hB
  have bS:=WbJ hB
  have kF:=zaj (WaG ok wn)
  have kS:=zaj (Zbx ok rn)
  obtain ⟨M2,hM2⟩:∃x,en1 V A B=x:=⟨_,rfl⟩
  obtain ⟨M3,hM3⟩:∃x,en3 V A B=x:=⟨_,rfl⟩
  obtain ⟨M4,hM4⟩:∃x,en2 V A B=x:=⟨_,rfl⟩
  obtain ⟨M5,hM5⟩:∃x,en4 V A B=x:=⟨_,rfl⟩
  have eL:enL V A B=[A,B,M2,M3,M4,M5]:=by rw [<-hM2,<-hM3,<-hM4,<-hM5];rfl
  rw [hM2,hM3]at h1 p1
  rw [hM4,hM5]at h2 p2
  rw [hD]at p1 p2
  rw [hM2]at z1
  rw [hM4]at z2
  rw [hM3]at z3
  rw [hM5]at z4
  have vF:=uL (fiQ V)
  have vS:=uL (seQ V)
  have lF:=cl_B bF
  have lS:=cl_B bS
  have wF:=UT (fiQ V)
  have wS:=UT (seQ V)
  obtain ⟨F,hF⟩:∃x,fiQ V=x:=⟨_,rfl⟩
  obtain ⟨S,hS⟩:∃x,seQ V=x:=⟨_,rfl⟩
  rw [hF]at vF lF wF kF h1 p1 eA
  rw [hS]at vS lS wS kS h2 p2 eA
  obtain ⟨F',hF'⟩:∃x,canC F=x:=⟨_,rfl⟩
  obtain ⟨S',hS'⟩:∃x,canC S=x:=⟨_,rfl⟩
  rw [hF']at vF lF wF kF
  rw [hS']at vS lS wS kS
  have lF4:=Nat.le_trans lF (by decide:_<=10000)
  have lS4:=Nat.le_trans lS (by decide:_<=10000)
  have cA:(rcan A.1,rcan A.2)=a:=by rw [<-hA];exact Vav wa hva
  have cB:(rcan B.1,rcan B.2)=b:=by rw [<-hB1];exact Vav wb hvb
  have wM:∀x:V2,WLA (rcan x.1,rcan x.2):=λx=>vp x
  have w2:=wM M2
  have w3:=wM M3
  have w4:=wM M4
  have w5:=wM M5
  have l2:al (rcan M2.1,rcan M2.2)<=10000:=Nat.le_trans z1 (by decide)
  have l3:al (rcan M3.1,rcan M3.2)<=10000:=Nat.le_trans z3 (by decide)
  have l4:al (rcan M4.1,rcan M4.2)<=10000:=Nat.le_trans z2 (by decide)
  have l5:al (rcan M5.1,rcan M5.2)<=10000:=Nat.le_trans z4 (by decide)
  have c1:cchk2 F' [(rcan M2.1,rcan M2.2),(rcan M3.1,rcan M3.2)]=0:=QX kF (by simp [qam])
  have c2' : cchk2 S' [(rcan M4.1,rcan M4.2),(rcan M5.1,rcan M5.2)]=0:=QX kS (by simp [qam])
  have g0:decide (0=0)=true:=rfl
  have d1:=decide_eq_true h1
  have d2:=decide_eq_true h2
  have d3:=decide_eq_true hold
  have dA:∀x:Arc,decide (x=x)=true:=λx=>decide_eq_true rfl
  have lD:al (rcan D.1,rcan D.2)<=4294967296:=by
   have:=wbi V A B
   rw [hD]at this
   obtain ⟨_,_,_,_,_,y6,y7⟩:=hB
   exact Nat.le_trans this (by omega)
  have wD:=wM D
  simp only [go_sem,hk,ha,he,ht,kb,h0,e0,hn,een,eR,eA,k2,hV,hA,hB1,hD,eL,List.map_cons,List.map_nil,hcan,hF',hS']
  repeat (first | (refine And.intro (by with_reducible assumption) ?_) | (refine And.intro (Nat.le_trans (by with_reducible assumption) (by decide)) ?_) | (refine And.intro (by decide) ?_))
  refine ⟨λ_=>⟨λ_=>?_,λh=>absurd rfl h⟩,λh=>absurd rfl h⟩
  refine Wa (λk:Nat=>⟨mkV [(9,.one (.slice [aC (rcan A.1,rcan A.2),aC (rcan B.1,rcan B.2),aC (rcan M2.1,rcan M2.2),aC (rcan M3.1,rcan M3.2),aC (rcan M4.1,rcan M4.2),aC (rcan M5.1,rcan M5.2)])),(11,.one (.ptr 11 1 0 0)),(107,.one (.slice [cpC T,cpC F',cpC S'])),(108,.one (.lit (.int .i64 ((3:Nat):Int)))),(109,.one (.lit (.int .i64 k)))],mkH [(11,⟨1,some ⟨[[cb (rcan D.1),cn (rcan D.1),cd (rcan D.1),cb (rcan D.2),cn (rcan D.2),cd (rcan D.2)]],6,true⟩⟩)]⟩) (λk=>k<=3) (λk=>3-k) 0 ?_ ?_ ?_
  .exact ja (by simp [okS,okV,okC,okL,okH,okB,okE,Qa,Ja,qa,va,wsA,ws]) ⟨jap,trivial⟩
  .exact Nat.zero_le _
  .intro k hk3
   match k,hk3 with
   | 0,_=>
    have wA:=wM A
    have wB:=wM B
    have lA:al (rcan A.1,rcan A.2)<=10000:=by rw [cA];exact la4
    have lB:al (rcan B.1,rcan B.2)<=10000:=by rw [cB];exact lb4
    have k3:cchk2 T [(rcan A.1,rcan A.2),(rcan B.1,rcan B.2)]=0:=by rw [cA,cB];exact k2
    have m0:(2:Int)*((0:Nat):Int)=0:=rfl
    have m1:(0:Int)+1=1:=rfl
    simp only [go_sem,hd,ht,hm,kb,je,k3,xG,hV,d3,hD,e0,g0,Bool.true_and,dA,m0,m1]
    repeat (first | (refine And.intro (by with_reducible assumption) ?_) | (refine And.intro (Nat.le_trans (by with_reducible assumption) (by decide)) ?_) | (refine And.intro (by decide) ?_))
    exact ⟨1,ja (by simp [okS,okV,okC,okL,okH,okB,okE,Qa,Ja,qa,va,wsA,ws,je]) ⟨jap,trivial⟩,by decide,by decide⟩
   | 1,_=>
    have m0:(2:Int)*((1:Nat):Int)=2:=rfl
    have m1:(2:Int)+1=3:=rfl
    simp only [go_sem,hd,ht,hm,kb,je,c1,xG,vF,d1,p1,e0,g0,Bool.true_and,dA,m0,m1]
    repeat (first | (refine And.intro (by with_reducible assumption) ?_) | (refine And.intro (Nat.le_trans (by with_reducible assumption) (by decide)) ?_) | (refine And.intro (by decide) ?_))
    exact ⟨2,ja (by simp [okS,okV,okC,okL,okH,okB,okE,Qa,Ja,qa,va,wsA,ws,je]) ⟨jap,trivial⟩,by decide,by decide⟩
   | 2,_=>
    have m0:(2:Int)*((2:Nat):Int)=4:=rfl
    have m1:(4:Int)+1=5:=rfl
    simp only [go_sem,hd,ht,hm,kb,je,c2',xG,vS,d2,p2,e0,g0,Bool.true_and,dA,m0,m1]
    repeat (first | (refine And.intro (by with_reducible assumption) ?_) | (refine And.intro (Nat.le_trans (by with_reducible assumption) (by decide)) ?_) | (refine And.intro (by decide) ?_))
    exact ⟨3,ja (by simp [okS,okV,okC,okL,okH,okB,okE,Qa,Ja,qa,va,wsA,ws,je]) ⟨jap,trivial⟩,by decide,by decide⟩
   | 3,_=>
    simp only [go_sem]
    exact hK
end Go.Abs
end
section
namespace Go.Abs
open Go.Num
variable {P:Program} {Γ:Nat->Spec}
def Zs:AC:=(.seq (.ops false [.m 2 (.c (.one .emp))])
 (.fg [0] (.seq (.ops false [.m 4 (.t 0),.u 5 (.len (.t 4)),.m 3 (.t 5)])
 (.fg [0,3] (.seq (.block 0 (.loop (.seq (.seq (.ops false [.m 6 (.t 3),.u 7 (.bin .gtr (.t 6) (.i 0)),.m 8 (.t 7),.w 9 8 true (.mv (.t 0)),.w 10 8 true (.mv (.t 3)),.w 11 8 true (.bin .sub (.t 10) (.i 1)),.w 12 8 true (.idx 1 (.t 9) (.t 11)),.w 13 8 true (.ld none 1 false (.t 12)),.w 14 8 true (.bin .eql (.t 13) (.c (.one (.lit (.int .u32 0))))),.u 15 (.pick (.t 8) (.t 14) .fa)])
 (.fg [0,3,15] (.cond (.t 15) .skip (.exit 0))))
 (.fg [0,3] (.block 1 (.ops false [.m 16 (.t 3),.u 17 (.bin .sub (.t 16) (.i 1)),.m 3 (.t 17)]))))))
 (.fg [0,3] (.seq (.seq (.ops false [.m 18 (.t 3),.u 19 (.bin .eql (.t 18) (.i 0))])
 (.fg [0,3,19] (.cond (.t 19) (.seq (.ops false [.m 2 (.c (.one .emp))])
 .ret) .skip)))
 (.fg [0,3] (.seq (.ops false [.m 20 (.c (.one .emp)),.m 21 (.t 0),.m 22 (.t 3),.u 23 (.sl 1 (.t 21) none (some (.t 22))),.u 24 (.app0 1 (.t 20) (.t 23)),.m 2 (.t 24)])
 .ret)))))))))
def Wl:AC:=(.seq (.ops false [.m 4 (.c (.one (.lit (.int .u64 0))))])
 (.fg [0,1] (.seq (.seq (.ops false [.m 5 (.t 1),.m 6 (.t 0),.u 7 (.len (.t 6)),.u 8 (.bin .lss (.t 5) (.t 7))])
 (.fg [0,1,8] (.cond (.t 8) (.seq (.ops false [.m 9 (.t 0),.m 10 (.t 1),.u 11 (.idx 1 (.t 9) (.t 10)),.u 12 (.ld none 1 false (.t 11)),.u 13 (.conv .u64 (.t 12)),.m 4 (.t 13)])
 .ret) .skip)))
 (.fg [] (.seq (.ops false [.m 4 (.c (.one (.lit (.int .u64 0))))])
 .ret)))))
def Yt (f0 f1:Nat):AC:=(.seq (.ops false [.m 4 (.c (.one .emp))])
 (.fg [0,1] (.seq (.ops false [.m 8 (.t 0),.u 9 (.len (.t 8)),.m 10 (.t 1),.u 11 (.len (.t 10)),.u 12 (.max [(.t 9),(.t 11)]),.u 13 (.bin .add (.t 12) (.i 1)),.u 14 (.mk 1 [(.lit (.int .u32 0))] (.t 13) (.t 13)),.m 5 (.t 14)])
 (.fg [0,1,5] (.seq (.ops false [.m 6 (.c (.one (.lit (.int .u64 0))))])
 (.fg [0,1,5,6] (.seq (.seq (.ops false [.m 15 (.t 5),.u 16 (.len (.t 15)),.m 17 (.i 0)])
 (.fg [0,1,5,6,16,17] (.block 0 (.loop (.seq (.ops false [.u 18 (.bin .lss (.t 17) (.t 16))])
 (.fg [0,1,5,6,16,17,18] (.seq (.cond (.t 18) .skip (.exit 0))
 (.fg [0,1,5,6,16,17] (.seq (.block 1 (.seq (.ops false [.m 19 (.t 17),.m 7 (.t 19)])
 (.fg [0,1,5,6,7,16,17] (.seq (.ops false [.m 20 (.t 6),.m 21 (.t 0),.m 22 (.t 7),.u 23 (.call f0 [(.t 21),(.t 22)]),.m 24 (.t 1),.m 25 (.t 7),.u 26 (.call f0 [(.t 24),(.t 25)]),.u 27 (.bin .add (.t 23) (.t 26)),.u 28 (.bin .add (.t 20) (.t 27)),.m 6 (.t 28)])
 (.fg [0,1,5,6,7,16,17] (.seq (.ops false [.m 29 (.t 5),.m 30 (.t 7),.m 31 (.t 6),.u 32 (.conv .u32 (.t 31)),.u 33 (.idx 1 (.t 29) (.t 30)),.n (.st none 1 (.t 33) (.t 32))])
 (.fg [0,1,5,6,16,17] (.ops false [.m 34 (.t 6),.u 35 (.bin .shr (.t 34) (.c (.one (.lit (.int .u64 32))))),.m 6 (.t 35)]))))))))
 (.fg [0,1,5,6,16,17] (.ops false [.u 36 (.bin .add (.t 17) (.i 1)),.m 17 (.t 36)])))))))))))
 (.fg [5] (.seq (.ops false [.m 37 (.t 5),.u 38 (.call f1 [(.t 37)]),.m 4 (.t 38)])
 .ret)))))))))
theorem kaC (hΓ:Holds P Γ) {f:Nat} (hc:check P f=some (25,Zs.strip,[.tmp 2])):Sound P f (.dat false Ut):=by
 refine Va hc uaM hΓ (λargs K hcl hfi hG=>?_)
 match args,hG with
 | [a],hG=>
  obtain ⟨l,rfl,hl,hlen,hK⟩:=hG
  refine ⟨by simp,?_⟩
  simp only [go_sem,Zs]
  intro hmax
  refine Wa (λn:Nat=>⟨mkV [(0,wsA l),(3,.one (.lit (.int .i64 n)))],mkH []⟩) (λn=>n<=l.length/\val (l.take n)=val l) id l.length ?_ ?_ ?_
  .exact ja (by simp [okS,okV,okC,okL,okH,okB,okE,Qa,Ja,qa,va,wsA,ws]) trivial
  .simp
  .rintro n ⟨hn,ht⟩
   simp only [go_sem]
   refine ⟨λh=>⟨by omega,by omega,by omega,λh0=>⟨by omega,n-1,ja (by simp [okS,okV,okC,okL,okH,okB,okE,Qa,Ja,qa,va,wsA,ws];omega) trivial,⟨by omega,?_⟩,?_⟩,λh0=>⟨λh1=>by omega,λ_=>⟨by omega,by simp;omega,?_⟩⟩⟩,λh=>⟨λh1=>?_,λh1=>by omega⟩⟩
   .rw [show ((n:Int)-1).toNat=n-1 by omega]at h0
    have:=Yb l (n-1)
    rw [show n-1+1=n by omega,h0,Nat.mul_zero,Nat.add_zero]at this
    rw [<-this];exact ht
   .simp only [id];omega
   .rw [show ((n:Int)-1).toNat=n-1 by omega]at h0
    have:=Xd (Qx hl n) (YH h hn h0)
    rw [<-this,ht];exact hK
   .subst h1
    have:val l=0:=by rw [<-ht];simp [val]
    rw [this,vb]at hK;exact hK
theorem JO (hΓ:Holds P Γ) {f:Nat} (hc:check P f=some (14,Wl.strip,[.tmp 4])):Sound P f (.dat true Vl):=by
 refine Va hc qaU hΓ (λargs K hcl hfi hG=>?_)
 match args,hG with
 | [a,b],hG=>
  obtain ⟨l,rfl,hl,hG⟩:=hG
  obtain ⟨k,i,rfl,rfl,hi,hK⟩:=Zb hG
  refine ⟨by simp,?_⟩
  simp only [go_sem,Wl]
  intro hmax
  refine ⟨λh=>⟨hi,by omega,?_⟩,λh=>?_⟩
  .have:=Vb hl i.toNat
   rw [Nat.mod_eq_of_lt (by omega)];exact hK
  .rw [List.getD_eq_getElem?_getD,List.getElem?_eq_none (by omega)]at hK;exact hK
theorem qaF (hΓ:Holds P Γ) {f fw ft:Nat} (hw:Γ fw=.dat true Vl) (ht:Γ ft=.dat false Ut) (hc:check P f=some (39,(Yt fw ft).strip,[.tmp 4])):Sound P f (.dat false jq):=by
 refine Va hc V4 hΓ (λargs K hcl hfi hG=>?_)
 match args,hG with
 | [a,b],hG=>
  obtain ⟨x,rfl,hx,y,rfl,hy,hxl,hyl,hK⟩:=hG
  refine ⟨by simp,?_⟩
  simp only [go_sem,Yt,hw,ht]
  intro h1 h2
  refine ⟨by omega,by omega,λhN=>?_⟩
  generalize hNN:max x.length y.length+1=N at hN
  refine Wa (λp:List Nat×Nat=>⟨mkV [(0,wsA x),(1,wsA y),(5,.one (.own 14 1 1 0 N)),(6,.one (.lit (.int .u64 p.2))),(16,.one (.lit (.int .i64 N))),(17,.one (.lit (.int .i64 p.1.length)))],mkH [(14,⟨1,some ⟨(p.1++List.replicate (N-p.1.length) 0).map wc,1,true⟩⟩)]⟩)
   (λp=>p.1.length<=N/\WL p.1/\p.2<=1/\val p.1+4294967296 ^ p.1.length*p.2=val (x.take p.1.length)+val (y.take p.1.length)) (λp=>N-p.1.length) ([],0) ?_ ?_ ?_
  .exact ja (by simp [okS,okV,okC,okL,okH,okB,okE,Qa,Ja,qa,va,wsA,ws]) (Uf (by simp))
  .simp [Qc,val]
  .rintro ⟨o,c⟩ ⟨hoN,ho,hc1,hval⟩
   simp only at hoN ho hc1 hval
   have hlen:(o++List.replicate (N-o.length) 0).length=N:=by simp;omega
   simp only [go_sem,hw,ht,hlen]
   refine ⟨λhlt=>⟨hx,hy,hlt,hlt,by omega,by omega,?_⟩,λhge=>?_⟩
   .have g1:=Vb hx o.length
    have g2:=Vb hy o.length
    rw [Nat.mod_eq_of_lt (show x.getD o.length 0+y.getD o.length 0<18446744073709551616 by omega),Nat.mod_eq_of_lt (show c+(x.getD o.length 0+y.getD o.length 0)<18446744073709551616 by omega)]
    generalize hs:c+(x.getD o.length 0+y.getD o.length 0)=s
    refine ⟨(o++[s % 4294967296],s / 4294967296),ja (by simp [okS,okV,okC,okL,okH,okB,okE,Qa,Ja,qa,va,wsA,ws]) (Uf ?_),⟨by simp;omega,Qe.2 ⟨ho,qc.2 ⟨Nat.mod_lt _ (by omega),Qc⟩⟩,by simp only;omega,?_⟩,by simp;omega⟩
    .rw [show N-o.length=N-(o.length+1)+1 by omega,uaf];simp
    .simp only [List.length_append,List.length_cons,List.length_nil,Nat.zero_add,Yb,Ub,zj,Wn,Nat.mul_zero,Nat.add_zero,Nat.pow_succ]
     rw [Nat.mul_assoc,Nat.add_assoc,<-Nat.mul_add,Nat.mod_add_div,<-hs,Nat.mul_add,<-Nat.add_assoc,hval,Nat.mul_add]
     omega
   .have e:o.length=N:=by omega
    simp only [e,Nat.sub_self,List.replicate_zero,List.append_nil,Nat.le_refl,if_true,kG]
    have hv:val o=val x+val y:=by
     rw [e,xi (by omega),xi (by omega)]at hval
     exact zay hx hy (by omega) (by omega) (by omega) hval
    refine ⟨ho,by omega,?_⟩
    rw [hv];exact hK
end Go.Abs
end
section
namespace Go.Abs
open Go.Num
variable {P:Program} {Γ:Nat->Spec}
def jt (f0 f1:Nat):AC:=(.seq (.ops false [.m 4 (.c (.one .emp))])
 (.fg [0,1] (.seq (.ops false [.m 9 (.t 0),.u 10 (.len (.t 9)),.u 11 (.mk 1 [(.lit (.int .u32 0))] (.t 10) (.t 10)),.m 5 (.t 11)])
 (.fg [0,1,5] (.seq (.ops false [.m 6 (.c (.one (.lit (.int .u64 0))))])
 (.fg [0,1,5,6] (.seq (.seq (.ops false [.m 12 (.t 5),.u 13 (.len (.t 12)),.m 14 (.i 0)])
 (.fg [0,1,5,6,13,14] (.block 0 (.loop (.seq (.ops false [.u 15 (.bin .lss (.t 14) (.t 13))])
 (.fg [0,1,5,6,13,14,15] (.seq (.cond (.t 15) .skip (.exit 0))
 (.fg [0,1,5,6,13,14] (.seq (.block 1 (.seq (.ops false [.m 16 (.t 14),.m 7 (.t 16)])
 (.fg [0,1,5,6,7,13,14] (.seq (.ops true [.m 17 (.t 0),.m 18 (.t 7),.u 19 (.idx 1 (.t 17) (.t 18)),.u 20 (.ld none 1 false (.t 19)),.u 21 (.conv .u64 (.t 20)),.m 22 (.t 1),.m 23 (.t 7),.u 24 (.call f0 [(.t 22),(.t 23)]),.u 25 (.bin .sub (.t 21) (.t 24)),.m 26 (.t 6),.u 27 (.bin .sub (.t 25) (.t 26)),.m 8 (.t 27)])
 (.fg [0,1,5,7,8,13,14] (.seq (.ops false [.m 28 (.t 5),.m 29 (.t 7),.m 30 (.t 8),.u 31 (.conv .u32 (.t 30)),.u 32 (.idx 1 (.t 28) (.t 29)),.n (.st none 1 (.t 32) (.t 31))])
 (.fg [0,1,5,8,13,14] (.ops false [.m 33 (.t 8),.u 34 (.bin .shr (.t 33) (.c (.one (.lit (.int .u64 63))))),.m 6 (.t 34)]))))))))
 (.fg [0,1,5,6,13,14] (.ops false [.u 35 (.bin .add (.t 14) (.i 1)),.m 14 (.t 35)])))))))))))
 (.fg [5] (.seq (.ops false [.m 36 (.t 5),.u 37 (.call f1 [(.t 36)]),.m 4 (.t 37)])
 .ret)))))))))
def ul:AC:=(.seq (.ops false [.m 4 (.i 0)])
 (.fg [0,1] (.seq (.seq (.ops false [.m 6 (.t 0),.u 7 (.len (.t 6)),.m 8 (.t 1),.u 9 (.len (.t 8)),.u 10 (.bin .neq (.t 7) (.t 9))])
 (.fg [0,1,10] (.cond (.t 10) (.seq (.seq (.ops false [.m 11 (.t 0),.u 12 (.len (.t 11)),.m 13 (.t 1),.u 14 (.len (.t 13)),.u 15 (.bin .lss (.t 12) (.t 14))])
 (.fg [15] (.cond (.t 15) (.seq (.ops false [.m 4 (.i (-1))])
 .ret) .skip)))
 (.fg [] (.seq (.ops false [.m 4 (.i 1)])
 .ret))) .skip)))
 (.fg [0,1] (.seq (.seq (.ops false [.m 16 (.t 0),.u 17 (.len (.t 16)),.u 18 (.bin .sub (.t 17) (.i 1)),.m 5 (.t 18)])
 (.fg [0,1,5] (.block 0 (.loop (.seq (.seq (.ops false [.m 19 (.t 5),.u 20 (.bin .geq (.t 19) (.i 0))])
 (.fg [0,1,5,20] (.cond (.t 20) .skip (.exit 0))))
 (.fg [0,1,5] (.seq (.block 1 (.seq (.ops true [.m 23 (.t 0),.m 24 (.t 5),.u 25 (.idx 1 (.t 23) (.t 24)),.u 26 (.ld none 1 false (.t 25)),.m 27 (.t 1),.m 28 (.t 5),.u 29 (.idx 1 (.t 27) (.t 28)),.u 30 (.ld none 1 false (.t 29)),.u 31 (.bin .neq (.t 26) (.t 30))])
 (.fg [0,1,5,31] (.cond (.t 31) (.seq (.seq (.ops true [.m 32 (.t 0),.m 33 (.t 5),.u 34 (.idx 1 (.t 32) (.t 33)),.u 35 (.ld none 1 false (.t 34)),.m 36 (.t 1),.m 37 (.t 5),.u 38 (.idx 1 (.t 36) (.t 37)),.u 39 (.ld none 1 false (.t 38)),.u 40 (.bin .lss (.t 35) (.t 39))])
 (.fg [40] (.cond (.t 40) (.seq (.ops false [.m 4 (.i (-1))])
 .ret) .skip)))
 (.fg [] (.seq (.ops false [.m 4 (.i 1)])
 .ret))) .skip))))
 (.fg [0,1,5] (.ops false [.m 21 (.t 5),.u 22 (.bin .sub (.t 21) (.i 1)),.m 5 (.t 22)])))))))))
 (.fg [] (.seq (.ops false [.m 4 (.i 0)])
 .ret)))))))
def Vp (f0:Nat):AC:=(.seq (.ops false [.m 4 (.c (.one .emp)),.m 5 (.c (.one (.lit (.int .u32 0))))])
 (.fg [0,1] (.seq (.ops false [.m 9 (.t 0),.u 10 (.len (.t 9)),.u 11 (.mk 1 [(.lit (.int .u32 0))] (.t 10) (.t 10)),.m 6 (.t 11)])
 (.fg [0,1,6] (.seq (.ops false [.m 7 (.c (.one (.lit (.int .u64 0))))])
 (.fg [0,1,6,7] (.seq (.seq (.ops false [.m 12 (.t 0),.u 13 (.len (.t 12)),.u 14 (.bin .sub (.t 13) (.i 1)),.m 8 (.t 14)])
 (.fg [0,1,6,7,8] (.block 0 (.loop (.seq (.seq (.ops false [.m 15 (.t 8),.u 16 (.bin .geq (.t 15) (.i 0))])
 (.fg [0,1,6,7,8,16] (.cond (.t 16) .skip (.exit 0))))
 (.fg [0,1,6,7,8] (.seq (.block 1 (.seq (.ops false [.m 19 (.t 7),.u 20 (.bin .shl (.t 19) (.c (.one (.lit (.int .u64 32))))),.m 21 (.t 0),.m 22 (.t 8),.u 23 (.idx 1 (.t 21) (.t 22)),.u 24 (.ld none 1 false (.t 23)),.u 25 (.conv .u64 (.t 24)),.u 26 (.bin .or (.t 20) (.t 25)),.m 7 (.t 26)])
 (.fg [0,1,6,7,8] (.seq (.ops false [.m 27 (.t 6),.m 28 (.t 8),.m 29 (.t 7),.m 30 (.t 1),.u 31 (.conv .u64 (.t 30)),.u 32 (.bin .quo (.t 29) (.t 31)),.u 33 (.conv .u32 (.t 32)),.u 34 (.idx 1 (.t 27) (.t 28)),.n (.st none 1 (.t 34) (.t 33))])
 (.fg [0,1,6,7,8] (.ops false [.m 35 (.t 7),.m 36 (.t 1),.u 37 (.conv .u64 (.t 36)),.u 38 (.bin .rem (.t 35) (.t 37)),.m 7 (.t 38)]))))))
 (.fg [0,1,6,7,8] (.ops false [.m 17 (.t 8),.u 18 (.bin .sub (.t 17) (.i 1)),.m 8 (.t 18)])))))))))
 (.fg [6,7] (.seq (.ops false [.m 39 (.t 6),.u 40 (.call f0 [(.t 39)]),.m 41 (.t 7),.u 42 (.conv .u32 (.t 41)),.m 4 (.t 40),.m 5 (.t 42)])
 .ret)))))))))
theorem xaD (hΓ:Holds P Γ) {f fw ft:Nat} (hw:Γ fw=.dat true Vl) (ht:Γ ft=.dat false Ut) (hc:check P f=some (38,(jt fw ft).strip,[.tmp 4])):Sound P f (.dat false Zt):=by
 refine Va hc zae hΓ (λargs K hcl hfi hG=>?_)
 match args,hG with
 | [a,b],hG=>
  obtain ⟨x,rfl,hx,y,rfl,hy,hxl,hle,hK⟩:=hG
  refine ⟨by simp,?_⟩
  simp only [go_sem,jt,hw,ht]
  intro h1
  refine ⟨by omega,λ_=>?_⟩
  generalize hN:x.length=N at h1 hxl
  refine Wa (λp:List Nat×Nat=>⟨mkV [(0,wsA x),(1,wsA y),(5,.one (.own 11 1 1 0 N)),(6,.one (.lit (.int .u64 p.2))),(13,.one (.lit (.int .i64 N))),(14,.one (.lit (.int .i64 p.1.length)))],mkH [(11,⟨1,some ⟨(p.1++List.replicate (N-p.1.length) 0).map wc,1,true⟩⟩)]⟩)
   (λp=>p.1.length<=N/\WL p.1/\p.2<=1/\val p.1+val (y.take p.1.length)=val (x.take p.1.length)+4294967296 ^ p.1.length*p.2) (λp=>N-p.1.length) ([],0) ?_ ?_ ?_
  .exact ja (by simp [okS,okV,okC,okL,okH,okB,okE,Qa,Ja,qa,va,wsA,ws]) (Uf (by simp))
  .simp [Qc,val]
  .rintro ⟨o,c⟩ ⟨hoN,ho,hc1,hval⟩
   simp only at hoN ho hc1 hval
   have hlen:(o++List.replicate (N-o.length) 0).length=N:=by simp;omega
   simp only [go_sem,hw,ht,hlen]
   refine ⟨λhlt=>⟨by omega,hy,hlt,hlt,by omega,by omega,?_⟩,λhge=>?_⟩
   .have g1:=Vb hx o.length
    have g2:=Vb hy o.length
    rw [Nat.mod_eq_of_lt (show x.getD o.length 0<18446744073709551616 by omega)]
    obtain ⟨s1,s2⟩:=Wam g1 g2 hc1
    generalize sub64 (sub64 (x.getD o.length 0) (y.getD o.length 0)) c=s at s1 s2
    refine ⟨(o++[s % 4294967296],s / 9223372036854775808),ja (by simp [okS,okV,okC,okL,okH,okB,okE,Qa,Ja,qa,va,wsA,ws]) (Uf ?_),⟨by simp;omega,Qe.2 ⟨ho,qc.2 ⟨Nat.mod_lt _ (by omega),Qc⟩⟩,s2,?_⟩,by simp;omega⟩
    .rw [show N-o.length=N-(o.length+1)+1 by omega,uaf];simp
    .simp only [List.length_append,List.length_cons,List.length_nil,Nat.zero_add,Yb,Ub,zj,Wn,Nat.mul_zero,Nat.add_zero,Nat.pow_succ]
     exact QH hval s1
   .have e:o.length=N:=by omega
    have hv:=jH ho hx (by omega) hle hval
    simp only [e,Nat.sub_self,List.replicate_zero,List.append_nil]
    refine ⟨ho,by omega,?_⟩
    rw [hv];exact hK
theorem VT (hΓ:Holds P Γ) {f:Nat} (hc:check P f=some (41,ul.strip,[.tmp 4])):Sound P f (.dat false wi):=by
 refine Va hc Qac hΓ (λargs K hcl hfi hG=>?_)
 match args,hG with
 | [a,b],hG=>
  obtain ⟨x,rfl,hx,y,rfl,hy,hzx,hzy,hK⟩:=hG
  refine ⟨by simp,?_⟩
  simp only [go_sem,ul]
  intro h1 h2
  refine ⟨λhl _=>⟨by omega,?_⟩,λhne _ _=>⟨λhlt=>?_,λhge=>?_⟩⟩
  rotate_left
  .rw [jV (qL hx hzy hlt)]at hK;exact hK
  .rw [kag (qL hy hzx (by omega))]at hK;exact hK
  refine Wa (λn:Nat=>⟨mkV [(0,wsA x),(1,wsA y),(5,.one (.lit (.int .i64 ((n:Int)-1))))],mkH []⟩) (λn=>n<=x.length/\x.drop n=y.drop n) id x.length ?_ ?_ ?_
  .exact ja (by simp [okS,okV,okC,okL,okH,okB,okE,Qa,Ja,qa,va,wsA,ws]) trivial
  .simp [hl]
  .rintro n ⟨hn,hd⟩
   simp only [go_sem]
   refine ⟨λh=>⟨by omega,by omega,by omega,by omega,λhe=>⟨by omega,n-1,ja (by simp [okS,okV,okC,okL,okH,okB,okE,Qa,Ja,qa,va,wsA,ws];omega) trivial,⟨by omega,?_⟩,by simp only [id];omega⟩,λhne=>?_⟩,λh=>?_⟩
   .rw [show ((n:Int)-1).toNat=n-1 by omega]at he
    rw [List.getD_eq_getElem?_getD,List.getD_eq_getElem?_getD,List.getElem?_eq_getElem (by omega),List.getElem?_eq_getElem (by omega)]at he
    have e1:=List.getElem_cons_drop (as:=x) (i:=n-1) (by omega)
    have e2:=List.getElem_cons_drop (as:=y) (i:=n-1) (by omega)
    rw [show n-1+1=n by omega]at e1 e2
    rw [<-e1,<-e2,hd]
    simp only [Option.getD_some]at he
    rw [he]
   .rw [show ((n:Int)-1).toNat=n-1 by omega]at hne ⊢
    refine ⟨by omega,by omega,by omega,by omega,λhlt=>?_,λhge=>?_⟩
    .rw [jV (Vbb (i:=n-1) hx hl (by omega) (by rw [show n-1+1=n by omega];exact hd) hlt)]at hK;exact hK
    .rw [kag (Vbb (i:=n-1) hy hl.symm (by omega) (by rw [show n-1+1=n by omega];exact hd.symm) (by omega))]at hK;exact hK
   .have:n=0:=by omega
    subst this
    simp only [List.drop_zero]at hd
    rw [hd,QaY]at hK;exact hK
theorem qag (hΓ:Holds P Γ) {f ft:Nat} (ht:Γ ft=.dat false Ut) (hc:check P f=some (43,(Vp ft).strip,[.tmp 4,.tmp 5])):Sound P f (.dat false Qv):=by
 refine Va hc YaE hΓ (λargs K hcl hfi hG=>?_)
 match args,hG with
 | [a,b],hG=>
  obtain ⟨x,rfl,hx,hG⟩:=hG
  obtain ⟨k,m,rfl,rfl,hm,hmB,hxl,hK⟩:=Zb hG
  obtain ⟨m,rfl⟩:∃n:Nat,m=n:=⟨m.toNat,by omega⟩
  simp only [Int.toNat_natCast]at hK
  refine ⟨by simp,?_⟩
  simp only [go_sem,Vp,ht]
  intro h1
  refine ⟨hxl,λ_=>⟨by omega,?_⟩⟩
  refine Wa (λp:List Nat×Nat=>⟨mkV [(0,wsA x),(1,.one (.lit (.int .u32 m))),(6,.one (.own 11 1 1 0 x.length)),(7,.one (.lit (.int .u64 p.2))),(8,.one (.lit (.int .i64 ((x.length:Int)-p.1.length-1))))],mkH [(11,⟨1,some ⟨(List.replicate (x.length-p.1.length) 0++p.1).map wc,1,true⟩⟩)]⟩)
   (λp=>p.1.length<=x.length/\WL p.1/\p.2<m/\val p.1*m+p.2=val (x.drop (x.length-p.1.length))) (λp=>x.length-p.1.length) ([],0) ?_ ?_ ?_
  .exact ja (by simp [okS,okV,okC,okL,okH,okB,okE,Qa,Ja,qa,va,wsA,ws]) (Uf (by simp))
  .simp [Qc,val];omega
  .rintro ⟨q,r⟩ ⟨hq,hqw,hr,hval⟩
   simp only at hq hqw hr hval
   have hlen:(List.replicate (x.length-q.length) 0++q).length=x.length:=by simp;omega
   simp only [go_sem,ht,hlen]
   refine ⟨λh=>?_,λh=>?_⟩
   .obtain ⟨n,hn⟩:∃n,n=x.length-q.length:=⟨_,rfl⟩
    have hn0:0<n:=by omega
    have hi:((x.length:Int)-q.length-1).toNat=n-1:=by omega
    have g1:=Vb hx (n-1)
    have hd:=wK x hn0 (by omega)
    obtain ⟨s1,s2⟩:=xa7 (by omega) hr g1
    have s3:=qaL (B:=4294967296) (a:=x.getD (n-1) 0) (by omega) (hn▸hval)
    have e1:r*4294967296 % 18446744073709551616=r*4294967296:=by omega
    have e2:x.getD (n-1) 0 % 18446744073709551616=x.getD (n-1) 0:=by omega
    have e3:m % 18446744073709551616=m:=by omega
    rw [hi,<-hn,e1,e2,e3,or32 _ _ g1]
    generalize hs:r*4294967296+x.getD (n-1) 0=s at s1 s2 s3
    rw [Nat.mod_eq_of_lt (show s / m<18446744073709551616 by omega),Nat.mod_eq_of_lt s1]
    have hm0:s % m<m:=Nat.mod_lt _ (by omega)
    refine ⟨⟨rfl,by omega⟩,by omega,by omega,⟨rfl,by omega,by omega⟩,by omega,⟨by omega,by omega⟩,by omega,by omega,by omega,(s / m::q,s % m),ja (by simp [okS,okV,okC,okL,okH,okB,okE,Qa,Ja,qa,va,wsA,ws];omega) (Uf ?_),⟨by simp;omega,qc.2 ⟨s1,hqw⟩,hm0,?_⟩,by simp;omega⟩
    .simp only [List.length_cons]
     rw [Vt q _ hn0,show x.length-(q.length+1)=n-1 by omega]
    .rw [zj,List.length_cons,show x.length-(q.length+1)=n-1 by omega,hd];exact s3
   .have e:x.length-q.length=0:=by omega
    simp only [e,List.replicate_zero,List.nil_append,List.drop_zero]at hval ⊢
    have h1:=Nat.div_mod_unique (show 0<m by omega) (a:=val x) (c:=r) (d:=val q)
    obtain ⟨h2,h3⟩:=h1.2 ⟨by rw [<-hval,Nat.mul_comm m,Nat.add_comm],hr⟩
    rw [h2,h3]at hK
    refine ⟨hqw,by omega,?_⟩
    rw [Nat.mod_eq_of_lt (by omega)];exact hK
end Go.Abs
end
