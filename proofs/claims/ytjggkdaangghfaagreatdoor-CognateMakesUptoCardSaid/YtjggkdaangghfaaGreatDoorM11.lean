/-
  Parts of the proof, merged: CoupL, CoupR, CogP, CogA, CogB, CogR, CogC, CogT, CogD, CogE, CogF, CogJ.
-/
import Derived.Test.YtjggkdaangghfaaGreatDoorM10
set_option linter.unusedVariables false
set_option linter.unusedSimpArgs false
set_option maxRecDepth 100000
section
namespace Go.Num
open Go.Abs
def riC (c:Cp) (p:Arc):Nat:=if wV (cpv c) (av p)≠0 then 21 else if wM (cpv c) (av p)=0 then 15 else 0
def reQ (c:CpR):V2:=subQ (1,0) (cW c)
theorem cl_w {c:Cp} {b:Nat} (h:cl c<=b):al c.2.2.2.2.2<=b:=by
 unfold cl at h
 simp only [Nat.max_le]at h
 exact Nat.max_le.2 ⟨h.2.2.2.2.2.1,h.2.2.2.2.2.2⟩
theorem qbf {c:Cp} (h:cchk c=0):vldR c.2.2.1=true/\vldR c.2.2.2.1=true/\vldR c.2.2.2.2.1=true/\vldR c.2.2.2.2.2.1=true/\vldR c.2.2.2.2.2.2=true:=by
 obtain ⟨_,_,h5,_,_⟩:=UaX h
 simpa [cps5] using h5
end Go.Num
namespace Go.Abs
open Go.Num
variable {P:Program} {Γ:Nat->Spec}
def kD (l:List AV) (K:AV->Prop):Prop:=
 match l with
 | [c]=>onCp (λc=>K (aA (c.2.2.2.2.2.1,c.2.2.2.2.2.2))) c
 | _=>False
theorem Xbb (c:AV) (K:AV->Prop):kD [c] K=(onCp (λc=>K (aA (c.2.2.2.2.2.1,c.2.2.2.2.2.2))) c):=propext Iff.rfl
@[congr] theorem XbS {K:AV->Prop} {l l' : List AV} (h:l=l'):kD l K=kD l' K:=by subst h;rfl
attribute [go_sem] Xbb
attribute [go_sem ↓] Xbb
theorem Jba:Good kD:=Va λas=>by
 unfold kD
 split
 .exact (yh λ_=>(.ret _))
 .exact .of λK hk=>hk.elim
def yu (l:List AV) (K:AV->Prop):Prop:=
 match l with
 | [c]=>onCp (λc=>cl c<=100000000/\K (pQ (reQ (cpv c)))) c
 | _=>False
theorem waH (c:AV) (K:AV->Prop):yu [c] K=(onCp (λc=>cl c<=100000000/\K (pQ (reQ (cpv c)))) c):=propext Iff.rfl
@[congr] theorem UbM {K:AV->Prop} {l l' : List AV} (h:l=l'):yu l K=yu l' K:=by subst h;rfl
attribute [go_sem] waH
attribute [go_sem ↓] waH
theorem UaL:Good yu:=Va λas=>by
 unfold yu
 split
 .exact (yh λ_=>(.and λ_=>(.ret _)))
 .exact .of λK hk=>hk.elim
def qaY (l:List AV) (K:AV->Prop):Prop:=
 match l with
 | [c,p]=>onCp (λc=>onA (λp=>cl c<=1000/\al p<=1000/\cchk c=0/\K (.tup [pQ (wN (cpv c) (av p)),rQ (wM (cpv c) (av p))])) p) c
 | _=>False
theorem JaQ (c p:AV) (K:AV->Prop):qaY [c,p] K=(onCp (λc=>onA (λp=>cl c<=1000/\al p<=1000/\cchk c=0/\K (.tup [pQ (wN (cpv c) (av p)),rQ (wM (cpv c) (av p))])) p) c):=propext Iff.rfl
@[congr] theorem YbP {K:AV->Prop} {l l' : List AV} (h:l=l'):qaY l K=qaY l' K:=by subst h;rfl
attribute [go_sem] JaQ
attribute [go_sem ↓] JaQ
def ZaZ (l:List AV) (K:AV->Prop):Prop:=
 match l with
 | [c,p]=>onCp (λc=>onA (λp=>cl c<=1000/\al p<=1000/\cchk c=0/\K (rQ (wV (cpv c) (av p)))) p) c
 | _=>False
theorem Va2 (c p:AV) (K:AV->Prop):ZaZ [c,p] K=(onCp (λc=>onA (λp=>cl c<=1000/\al p<=1000/\cchk c=0/\K (rQ (wV (cpv c) (av p)))) p) c):=propext Iff.rfl
@[congr] theorem jbM {K:AV->Prop} {l l' : List AV} (h:l=l'):ZaZ l K=ZaZ l' K:=by subst h;rfl
attribute [go_sem] Va2
attribute [go_sem ↓] Va2
def zaN (l:List AV) (K:AV->Prop):Prop:=
 match l with
 | [c,p]=>onCp (λc=>onA (λp=>cl c<=1000/\al p<=1000/\cchk c=0/\K (.tup [pQ (if riC c p=0 then endA (cpv c) (av p) (zL (cpv c) (av p)) else (0,0)),pQ (if riC c p=0 then endB (cpv c) (av p) (zL (cpv c) (av p)) else (0,0)),.one (.lit (.int .i64 (riC c p:Nat)))])) p) c
 | _=>False
theorem WaX (c p:AV) (K:AV->Prop):zaN [c,p] K=(onCp (λc=>onA (λp=>cl c<=1000/\al p<=1000/\cchk c=0/\K (.tup [pQ (if riC c p=0 then endA (cpv c) (av p) (zL (cpv c) (av p)) else (0,0)),pQ (if riC c p=0 then endB (cpv c) (av p) (zL (cpv c) (av p)) else (0,0)),.one (.lit (.int .i64 (riC c p:Nat)))])) p) c):=propext Iff.rfl
@[congr] theorem qbQ {K:AV->Prop} {l l' : List AV} (h:l=l'):zaN l K=zaN l' K:=by subst h;rfl
attribute [go_sem] WaX
attribute [go_sem ↓] WaX
def JaW (l:List AV) (K:AV->Prop):Prop:=
 match l with
 | [c,a,b]=>onCp (λc=>onA (λa=>onA (λb=>cl c<=10000/\al a<=10000/\al b<=10000/\K (pQ (ptQ (cpv c) (av a) (av b)))) b) a) c
 | _=>False
theorem za2 (c a b:AV) (K:AV->Prop):JaW [c,a,b] K=(onCp (λc=>onA (λa=>onA (λb=>cl c<=10000/\al a<=10000/\al b<=10000/\K (pQ (ptQ (cpv c) (av a) (av b)))) b) a) c):=propext Iff.rfl
@[congr] theorem jbS {K:AV->Prop} {l l' : List AV} (h:l=l'):JaW l K=JaW l' K:=by subst h;rfl
attribute [go_sem] za2
attribute [go_sem ↓] za2
def VaH (l:List AV) (K:AV->Prop):Prop:=
 match l with
 | [c,a,b]=>onCp (λc=>onA (λa=>onA (λb=>cl c<=10000/\al a<=10000/\al b<=10000/\K (.one (.lit (.bool (decide (hldQ (cpv c) (av a) (av b))))))) b) a) c
 | _=>False
theorem kaZ (c a b:AV) (K:AV->Prop):VaH [c,a,b] K=(onCp (λc=>onA (λa=>onA (λb=>cl c<=10000/\al a<=10000/\al b<=10000/\K (.one (.lit (.bool (decide (hldQ (cpv c) (av a) (av b))))))) b) a) c):=propext Iff.rfl
@[congr] theorem JbN {K:AV->Prop} {l l' : List AV} (h:l=l'):VaH l K=VaH l' K:=by subst h;rfl
attribute [go_sem] kaZ
attribute [go_sem ↓] kaZ
def Zh:AC:=(.seq (.ops false [.u 1 (.box 27 (.t 0)),.u 2 (.alloc [(.lit (.bool false)),.emp,.emp,(.lit (.bool false)),.emp,.emp])])
 (.fg [1,2] (.seq (.ops false [.u 3 (.fa 21 (.t 1)),.u 4 (.ld none 3 true (.t 3)),.u 5 (.fa 24 (.t 1)),.u 6 (.ld none 3 true (.t 5)),.u 7 (.build [.x 3 (.t 4),.x 3 (.t 6)]),.n (.st none 6 (.t 2) (.t 7))])
 .ret)))
def qe (f0 f1 f2:Nat):AC:=(.seq (.ops false [.u 1 (.box 27 (.t 0)),.u 2 (.alloc [(.lit (.bool false)),.emp,.emp,(.lit (.bool false)),.emp,.emp])])
 (.fg [1,2] (.seq (.ops true [.u 3 (.call f0 [(.i 1)]),.u 4 (.build [.x 3 (.t 3),.z [(.lit (.bool false)),.emp,.emp]]),.u 5 (.ld none 27 true (.t 1)),.u 6 (.call f1 [(.t 5)]),.u 7 (.call f2 [(.t 4),(.t 6)]),.n (.st none 6 (.t 2) (.t 7))])
 .ret)))
theorem zae (hΓ:Holds P Γ) {f:Nat} (hc:check P f=some (8,Zh.strip,[.cell 2 6 true])):Sound P f (.dat false kD):=by
 refine ja hc Jba hΓ (λargs K hcl hfi hG=>?_)
 match args,hG with
 | [a],hG=>
  obtain ⟨c,rfl,hw,hK⟩:=hG
  refine ⟨by simp,?_⟩
  simp only [go_sem,Zh,cpA,cpC]
  exact hK
theorem jR (hΓ:Holds P Γ) {f fo fw fs:Nat} (ho:Γ fo=.dat false yz) (hw' : Γ fw=.dat false kD) (hs:Γ fs=.dat false Zq) (hc:check P f=some (8,(qe fo fw fs).strip,[.cell 2 6 true])):Sound P f (.dat false yu):=by
 refine ja hc UaL hΓ (λargs K hcl hfi hG=>?_)
 match args,hG with
 | [a],hG=>
  obtain ⟨c,rfl,hw,hl,hK⟩:=hG
  refine ⟨by simp,?_⟩
  have i1:((1:Int):Rat)=1:=rfl
  have w4:=hw.2.2.2.2.2.1
  have w5:=hw.2.2.2.2.2.2
  have b1:=rz_1
  have l6:al c.2.2.2.2.2<=100000000:=Nat.le_trans (cl_w hl) (by decide)
  have wW:WLA c.2.2.2.2.2:=⟨w4,w5⟩
  have wO:WLA (rcan 1,rcan 0):=Wp (1,0)
  have lO:al (rcan 1,rcan 0)<=100000000:=Nat.max_le.2 ⟨Nat.le_trans b1 (by decide),Nat.le_trans (Nat.le_of_eq rz_0) (by decide)⟩
  have aO:av (rcan 1,rcan 0)=(1,0):=U3 (1,0)
  have aW:av c.2.2.2.2.2=cW (cpv c):=rfl
  simp only [go_sem,qe,ho,hw',hs,cpA,cpC,i1,Vn,yb,aO,aW]
  repeat (first | (refine And.intro (by with_reducible assumption) ?_) | (refine And.intro (Nat.le_trans (by with_reducible assumption) (by decide)) ?_) | (refine And.intro (by decide) ?_))
  exact hK
end Go.Abs
end
section
namespace Go.Num
open Go.Abs
theorem Vbo {c:Cp} (wc:WLC c) (h:cchk c=0):canC (cpv c)=c:=by
 obtain ⟨o1,o2,h5,_,_⟩:=UaX h
 obtain ⟨v1,v2,v3,v4,v5⟩:=qbf h
 obtain ⟨wo,wq,w1,w2,w3,w4,w5⟩:=wc
 have e1:=Wbh wo o1
 have e2:=Wbh wq o2
 have r1:=Je w1 v1
 have r2:=Je w2 v2
 have r3:=Je w3 v3
 have r4:=Je w4 v4
 have r5:=Je w5 v5
 unfold canC cpv
 simp only [e1,e2,r1,r2,r3,r4,r5]
end Go.Num
namespace Go.Abs
open Go.Num
variable {P:Program} {Γ:Nat->Spec}
theorem wbA (p:Ps):poA p=.agg (pC p):=eq_of_heq (HEq.refl _)
theorem ya4 (p:Ps):(pC p).take 10=pC p:=List.take_of_length_le (Nat.le_of_eq (Xa0 p))
theorem JaG (p:Ps):(pC p).drop 0=pC p:=eq_of_heq (HEq.refl _)
theorem wbh (k:List Ps->Prop) (p:Ps):onPs k (.one (.slice [pC p]))=((∀x∈[p],WLP x)/\k [p]):=uaN k [p]
attribute [go_sem] wbA ya4 JaG wbh
attribute [go_sem ↓] wbA ya4 JaG wbh
def YaV (l:List AV) (K:AV->Prop):Prop:=
 match l with
 | [c,g]=>onCp (λc=>onPo (λg=>cl c<=1000/\pl g<=1000/\cchk c=0/\K (cqR (movQ38 (cpv c) (pv g)))) g) c
 | _=>False
theorem za1 (c g:AV) (K:AV->Prop):YaV [c,g] K=(onCp (λc=>onPo (λg=>cl c<=1000/\pl g<=1000/\cchk c=0/\K (cqR (movQ38 (cpv c) (pv g)))) g) c):=propext Iff.rfl
@[congr] theorem vbQ {K:AV->Prop} {l l' : List AV} (h:l=l'):YaV l K=YaV l' K:=by subst h;rfl
attribute [go_sem] za1
attribute [go_sem ↓] za1
def VaI (l:List AV) (K:AV->Prop):Prop:=
 match l with
 | [c,k]=>onCp (λc=>onR (λk=>cl c<=1000/\rl k<=1000/\cchk c=0/\K (cqR (sclQ38 (cpv c) (rv k)))) k) c
 | _=>False
theorem wa0 (c k:AV) (K:AV->Prop):VaI [c,k] K=(onCp (λc=>onR (λk=>cl c<=1000/\rl k<=1000/\cchk c=0/\K (cqR (sclQ38 (cpv c) (rv k)))) k) c):=propext Iff.rfl
@[congr] theorem xbN {K:AV->Prop} {l l' : List AV} (h:l=l'):VaI l K=VaI l' K:=by subst h;rfl
attribute [go_sem] wa0
attribute [go_sem ↓] wa0
end Go.Abs
end
section
namespace Go.Num
def rsQ (c:CpR):V2:=subQ (1,0) (cW c)
def foQ (c:CpR):V2:=addQ c.1 (timesQ (cW c) (subQ c.2.1 c.1))
def ovQ (w:V2):V2:=(w.1 / sqQ w,-w.2 / sqQ w)
def simQ (c:CpR) (o k:V2) (a b d:Rat):CpR:=(o,foQ c,sqQ k*a,sqQ k*b,sqQ k*d,(ovQ k).1,(ovQ k).2)
def fiQ (c:CpR):CpR:=simQ c c.1 (cW c) c.2.2.2.1 c.2.2.1 c.2.2.2.2.1
def seQ (c:CpR):CpR:=simQ c c.2.1 (rsQ c) c.2.2.2.1 c.2.2.2.2.1 c.2.2.1
def swQ (c:CpR):CpR:=(c.2.1,c.1,c.2.2.2.2.1,c.2.2.2.1,c.2.2.1,(rsQ c).1,(rsQ c).2)
theorem ov_j {w:V2} (h:sqQ w≠0):∃j,sqQ w*j=1/\ovQ w=(j*w.1,j * -w.2):=by
 refine ⟨(sqQ w)⁻¹,Rat.mul_inv_cancel _ h,?_⟩
 unfold ovQ
 rw [Rat.div_def,Rat.div_def,Rat.mul_comm,Rat.mul_comm (-w.2)]
theorem rob1 (k j u v:Rat) (hk:k=u*u+v*v) (hj:k*j=1) (z1 z2 s1 s2:Rat) :
  k*(z1*(j*u)-z2*(-(j * -v)))=z1*u-z2*v/\k*(z2*(j*u)+z1*(-(j * -v)))=z2*u+z1*v/\
  k*(s1*(1-j*u)-s2*(j * -v))=s1*(k-u)+s2*v/\k*(s2*(1-j*u)+s1*(j * -v))=s2*(k-u)-s1*v:=by
 have h1:∀x,k*(j*x)=x:=λx=>by grind
 refine ⟨?_,?_,?_,?_⟩
 .have:=h1 (z1*u);have:=h1 (z2*v);grind
 .have:=h1 (z2*u);have:=h1 (z1*v);grind
 .have:=h1 (s1*u);have:=h1 (s2*v);grind
 .have:=h1 (s2*u);have:=h1 (s1*v);grind
theorem rob2 (z1 z2 d1 d2 u v A B C:Rat) :
  let k:=u*u+v*v
  let G:=z1*z1+z2*z2
  let h:=k*B-A
  let s1:=z1-(u*d1-v*d2)
  let s2:=z2-(u*d2+v*d1)
  let Q1:=z1*u+z2*v
  let Q2:=z2*u-z1*v
  let P1:=(z1-d1)*(1-u)-(z2-d2)*v
  let P2:=(z2-d2)*(1-u)+(z1-d1)*v
  let r:=(1-u)*(1-u)+v*v
  let F:=C-r*B-((z1-d1)*(z1-d1)+(z2-d2)*(z2-d2))
  let F':=k*C-(s1*s1+s2*s2)-r*A
  let R:=P1*Q1+P2*Q2
  (G-h)*(s1*(1-u)-s2*v)+F' * z1=(G-h)*(u*P1-v*P2)+(k*F-2*R)*z1/\
  (G-h)*(s2*(1-u)+s1*v)+F' * z2=(G-h)*(u*P2+v*P1)+(k*F-2*R)*z2:=by
 intro k G h s1 s2 Q1 Q2 P1 P2 r F F' R
 constructor <;> grind
theorem rob3 (z1 z2 u v h F P1 P2:Rat) :
  let k:=u*u+v*v
  let G:=z1*z1+z2*z2
  let Q1:=z1*u+z2*v
  let Q2:=z2*u-z1*v
  let R:=P1*Q1+P2*Q2
  let M:=Q1*P2-Q2*P1
  let Y1:=(G-h)*(u*P1-v*P2)+(k*F-2*R)*z1
  let Y2:=(G-h)*(u*P2+v*P1)+(k*F-2*R)*z2
  let X1:=(G+h)*P1-F*Q1
  let X2:=(G+h)*P2-F*Q2
  Y1*Y1+Y2*Y2=k*(X1*X1+X2*X2)-4*(M*M)*h:=by
 intro k G Q1 Q2 R M Y1 Y2 X1 X2
 have p0:k*G=Q1*Q1+Q2*Q2:=by grind
 have p1:(u*P1-v*P2)*z1+(u*P2+v*P1)*z2=R:=by grind
 have p2:(u*P1-v*P2)*(u*P1-v*P2)+(u*P2+v*P1)*(u*P2+v*P1)=k*(P1*P1+P2*P2):=by grind
 have p3:M*M=(P1*P1+P2*P2)*(k*G)-R*R:=by rw [p0];grind
 have y:Y1*Y1+Y2*Y2=(G-h)*(G-h)*(k*(P1*P1+P2*P2))+(k*F-2*R)*(k*F-2*R)*G+2*(G-h)*(k*F-2*R)*R:=by
  rw [<-p2,<-p1];clear_value k R;grind
 have x:X1*X1+X2*X2=(G+h)*(G+h)*(P1*P1+P2*P2)+F*F*(k*G)-2*(G+h)*F*R:=by
  rw [p0];clear_value k G;grind
 rw [y,x,p3]
 clear_value k G R
 grind
theorem rob4 {k j u v:Rat} (A:Rat) (hk:u*u+v*v=k) (hj:k*j=1):(j*u*(j*u)+j * -v*(j * -v))*(k*A)=A/\
  ((1-j*u)*(1-j*u)+j * -v*(j * -v))*(k*A)=((1-u)*(1-u)+v*v)*A:=by
 constructor
 .have:(j*u*(j*u)+j * -v*(j * -v))*(k*A)=j*j*(u*u+v*v)*(k*A):=by grind
  rw [this,hk]
  have:j*j*k*(k*A)=k*j*(k*j)*A:=by grind
  rw [this,hj];grind
 .have:((1-j*u)*(1-j*u)+j * -v*(j * -v))*(k*A)=k*A-2*(k*j)*u*A+k*j*j*(u*u+v*v)*A:=by grind
  rw [this,hk]
  have:k*A-2*(k*j)*u*A+k*j*j*k*A=k*A-2*(k*j)*u*A+k*j*(k*j)*A:=by grind
  rw [this,hj,<-hk];grind
theorem rob5 {k u v z1 z2 d1 d2 s1 s2:Rat} (hk:u*u+v*v=k) (hs1:z1-(u*d1-v*d2)=s1) (hs2:z2-(u*d2+v*d1)=s2) :
  (z1*u-z2*v)*(s2*(k-u)-s1*v)-(z2*u+z1*v)*(s1*(k-u)+s2*v) = -(k*((z1*u+z2*v)*((z2-d2)*(1-u)+(z1-d1)*v)-(z2*u-z1*v)*((z1-d1)*(1-u)-(z2-d2)*v))):=by
 rw [<-hs1,<-hs2,<-hk];grind
theorem Qbx (a b c:Rat):a-b-c=a-c-b:=by grind
theorem XbB (a b c:Rat):a+(b-c)=a-(c-b):=by grind
theorem kcan {k x y:Rat} (hk:k≠0) (h:k*x=k*y):x=y:=by
 have h1:k*(x-y)=0:=by grind
 have:=(Rat.mul_eq_zero.1 h1).resolve_left hk
 grind
theorem rob6 {k u v A B e f E F a1 a2 b1 b2 z1 z2 s1 s2 P1 P2 Q1 Q2:Rat} (hk0:k≠0) (hk:u*u+v*v=k)
  (r1:k*a1=z1*u-z2*v) (r2:k*a2=z2*u+z1*v) (r3:k*b1=s1*(k-u)+s2*v) (r4:k*b2=s2*(k-u)-s1*v)
  (eM:(z1*u-z2*v)*(s2*(k-u)-s1*v)-(z2*u+z1*v)*(s1*(k-u)+s2*v) = -(k*(Q1*P2-Q2*P1)))
  (y3:(e*(s1*(1-u)-s2*v)+f*z1)*(e*(s1*(1-u)-s2*v)+f*z1)+(e*(s2*(1-u)+s1*v)+f*z2)*(e*(s2*(1-u)+s1*v)+f*z2) =
   k*((E*P1-F*Q1)*(E*P1-F*Q1)+(E*P2-F*Q2)*(E*P2-F*Q2))-4*((Q1*P2-Q2*P1)*(Q1*P2-Q2*P1))*(k*B-A)) :
  (e*b2-f*a2)*(e*b2-f*a2)+(f*a1-e*b1)*(f*a1-e*b1)-4*(k*A)*((a1*b2-a2*b1)*(a1*b2-a2*b1)) =
  (E*P2-F*Q2)*(E*P2-F*Q2)+(F*Q1-E*P1)*(F*Q1-E*P1)-4*B*((Q1*P2-Q2*P1)*(Q1*P2-Q2*P1)):=by
 have hm:k*(a1*b2-a2*b1) = -(Q1*P2-Q2*P1):=by
  refine kcan hk0 ?_
  have:k*(k*(a1*b2-a2*b1))=(k*a1)*(k*b2)-(k*a2)*(k*b1):=by clear y3 eM r1 r2 r3 r4;grind
  rw [this,r1,r2,r3,r4,eM];clear y3 eM r1 r2 r3 r4 this;grind
 clear eM
 have n1:k*(e*b2-f*a2) = -(u*(e*(s2*(1-u)+s1*v)+f*z2)+v*(e*(s1*(1-u)-s2*v)+f*z1)):=by
  have:k*(e*b2-f*a2)=e*(k*b2)-f*(k*a2):=by clear y3 hm r1 r2 r3 r4;grind
  rw [this,r2,r4,<-hk];clear y3 hm r1 r2 r3 r4 this;grind
 have n2:k*(f*a1-e*b1)=u*(e*(s1*(1-u)-s2*v)+f*z1)-v*(e*(s2*(1-u)+s1*v)+f*z2):=by
  have:k*(f*a1-e*b1)=f*(k*a1)-e*(k*b1):=by clear y3 hm n1 r1 r2 r3 r4;grind
  rw [this,r1,r3,<-hk];clear y3 hm n1 r1 r2 r3 r4 this;grind
 clear r1 r2 r3 r4
 generalize e*(s1*(1-u)-s2*v)+f*z1=Y1 at *
 generalize e*(s2*(1-u)+s1*v)+f*z2=Y2 at *
 generalize e*b2-f*a2=N1 at *
 generalize f*a1-e*b1=N2 at *
 generalize a1*b2-a2*b1=m at *
 generalize Q1*P2-Q2*P1=M at *
 have hx:F*Q1-E*P1 = -(E*P1-F*Q1):=by clear y3 hm n1 n2;grind
 rw [hx]
 generalize E*P1-F*Q1=X1 at *
 generalize E*P2-F*Q2=X2 at *
 clear hx
 have k1:k*k*(N1*N1+N2*N2)=k*(Y1*Y1+Y2*Y2):=by
  have:k*k*(N1*N1+N2*N2)=(k*N1)*(k*N1)+(k*N2)*(k*N2):=by clear y3 hm n1 n2;grind
  rw [this,n1,n2,<-hk];clear y3 hm n1 n2;grind
 have k2:k*k*(m*m)=M*M:=by
  have:k*k*(m*m)=(k*m)*(k*m):=by clear y3 hm n1 n2 k1;grind
  rw [this,hm];clear y3 hm n1 n2 k1;grind
 refine kcan hk0 (kcan hk0 ?_)
 have:k*(k*(N1*N1+N2*N2-4*(k*A)*(m*m)))=k*k*(N1*N1+N2*N2)-4*(k*A)*(k*k*(m*m)):=by clear y3 hm n1 n2 k1 k2;grind
 rw [this,k1,k2,y3];clear y3 hm n1 n2 k1 k2 this;grind
theorem xbO (c:CpR) (p:V2) (hk0:sqQ (cW c)≠0):wV (fiQ c) p=wV c p:=by
 obtain ⟨j,hj,ho⟩:=ov_j hk0
 obtain ⟨⟨o1,o2⟩,⟨q1,q2⟩,A,B,C,u,v⟩:=c
 obtain ⟨x,y⟩:=p
 have eW:cW ((o1,o2),(q1,q2),A,B,C,u,v)=(u,v):=rfl
 rw [eW]at hk0 hj ho
 have ek:sqQ (u,v)=u*u+v*v:=rfl
 rw [ek]at hk0 hj
 obtain ⟨k,hk⟩:∃k,u*u+v*v=k:=⟨_,rfl⟩
 rw [hk]at hk0 hj ek
 have e0:fiQ ((o1,o2),(q1,q2),A,B,C,u,v)=((o1,o2),foQ ((o1,o2),(q1,q2),A,B,C,u,v),k*B,k*A,k*C,j*u,j * -v):=by
  unfold fiQ simQ;rw [eW,ho,ek]
 rw [e0]
 obtain ⟨z1,hz1⟩:∃z,x-o1=z:=⟨_,rfl⟩
 obtain ⟨z2,hz2⟩:∃z,y-o2=z:=⟨_,rfl⟩
 obtain ⟨d1,hd1⟩:∃z,q1-o1=z:=⟨_,rfl⟩
 obtain ⟨d2,hd2⟩:∃z,q2-o2=z:=⟨_,rfl⟩
 have ef:foQ ((o1,o2),(q1,q2),A,B,C,u,v)=(o1+(u*d1-v*d2),o2+(u*d2+v*d1)):=by
  unfold foQ addQ timesQ subQ cW;simp only;rw [hd1,hd2]
 rw [ef]
 have f1:x-(o1+(u*d1-v*d2))=z1-(u*d1-v*d2):=by rw [<-hz1];grind
 have f2:y-(o2+(u*d2+v*d1))=z2-(u*d2+v*d1):=by rw [<-hz2];grind
 have g1:x-q1=z1-d1:=by rw [<-hz1,<-hd1];grind
 have g2:y-q2=z2-d2:=by rw [<-hz2,<-hd2];grind
 unfold wV wN wM wE wF wAl wBe cFi cSe cRe timQ sqQ subQ
 simp only [hz1,hz2,f1,f2,g1,g2]
 obtain ⟨s1,hs1⟩:∃z,z1-(u*d1-v*d2)=z:=⟨_,rfl⟩
 obtain ⟨s2,hs2⟩:∃z,z2-(u*d2+v*d1)=z:=⟨_,rfl⟩
 rw [hs1,hs2]
 obtain ⟨r1,r2,r3,r4⟩:=rob1 k j u v hk.symm hj z1 z2 s1 s2
 have y12:=rob2 z1 z2 d1 d2 u v A B C
 simp only [hs1,hs2,hk]at y12
 have y3:=rob3 z1 z2 u v (k*B-A) (C-((1-u)*(1-u)+v*v)*B-((z1-d1)*(z1-d1)+(z2-d2)*(z2-d2))) ((z1-d1)*(1-u)-(z2-d2)*v) ((z2-d2)*(1-u)+(z1-d1)*v)
 simp only [hk]at y3
 obtain ⟨eE,eF⟩:=rob4 A hk hj
 have eQ1:z1*u-z2 * -v=z1*u+z2*v:=by rw [Rat.mul_neg,Rat.sub_eq_add_neg,Rat.neg_neg]
 have eQ2:z2*u+z1 * -v=z2*u-z1*v:=by rw [Rat.mul_neg,Rat.sub_eq_add_neg]
 have eM:=rob5 hk hs1 hs2
 have hf' : k*C-((1-u)*(1-u)+v*v)*A-(s1*s1+s2*s2)=k*C-(s1*s1+s2*s2)-((1-u)*(1-u)+v*v)*A:=Qbx _ _ _
 have he' : z1*z1+z2*z2+(A-k*B)=z1*z1+z2*z2-(k*B-A):=XbB _ _ _
 rw [eE,eF,eQ1,eQ2,hk,he',hf']
 rw [<-y12.1,<-y12.2]at y3
 exact rob6 hk0 hk r1 r2 r3 r4 eM y3
end Go.Num
end
section
namespace Go.Num
open Go.Abs
theorem ybd (a b:V2):zq (timesQ a b)<=2*zq a+2*zq b+6:=by
 have a1:=zq_1 a
 have a2:=zq_2 a
 have b1:=zq_1 b
 have b2:=zq_2 b
 have m1:=wd a.1 b.1
 have m2:=wd a.2 b.2
 have m3:=wd a.1 b.2
 have m4:=wd a.2 b.1
 have s1:=yF (a.1*b.1) (a.2*b.2)
 have s2:=wG (a.1*b.2) (a.2*b.1)
 exact Nat.max_le.2 ⟨by show rz (a.1*b.1-a.2*b.2)<=_;omega,by show rz (a.1*b.2+a.2*b.1)<=_;omega⟩
theorem kbO (a:V2):zq (ovQ a)<=5*zq a+8:=by
 have a1:=zq_1 a
 have a2:=zq_2 a
 have s:=xH a
 have d1:=JaP a.1 (sqQ a)
 have d2:=JaP (-a.2) (sqQ a)
 rw [yA]at d2
 exact Nat.max_le.2 ⟨by show rz (a.1 / sqQ a)<=_;omega,by show rz (-a.2 / sqQ a)<=_;omega⟩
theorem ka9 {c:CpR} {b:Nat} (h:CB' b c):zq (foQ c)<=7*b+12:=by
 obtain ⟨h1,h2,h3,h4,h5,h6,h7⟩:=h
 have w:zq (cW c)<=b:=Nat.max_le.2 ⟨h6,h7⟩
 have s:=Jaq c.2.1 c.1
 have t:=ybd (cW c) (subQ c.2.1 c.1)
 have u:=ubC c.1 (timesQ (cW c) (subQ c.2.1 c.1))
 unfold foQ;omega
theorem Va5 {c:CpR} {b:Nat} (h:CB' b c):zq (rsQ c)<=b+4:=by
 obtain ⟨h1,h2,h3,h4,h5,h6,h7⟩:=h
 have w:zq (cW c)<=b:=Nat.max_le.2 ⟨h6,h7⟩
 have s:=Jaq (1,0) (cW c)
 have e:zq (1,0)=1:=by decide +kernel
 unfold rsQ;omega
theorem xbx (a:V2):addQ a (0,0)=a:=by unfold addQ;exact Prod.ext (by simp only;grind) (by simp only;grind)
theorem jbD (a b c d:Rat):a*b+c*d=c*d+a*b:=Rat.add_comm _ _
end Go.Num
namespace Go.Abs
open Go.Num
variable {P:Program} {Γ:Nat->Spec}
def xB (l:List AV) (K:AV->Prop):Prop:=
 match l with
 | [a]=>onA (λp=>al p<=100000000/\K (pQ (av p))) a
 | _=>False
theorem yaK (a:AV) (K:AV->Prop):xB [a] K=(onA (λp=>al p<=100000000/\K (pQ (av p))) a):=propext Iff.rfl
@[congr] theorem ubJ {K:AV->Prop} {l l' : List AV} (h:l=l'):xB l K=xB l' K:=by subst h;rfl
attribute [go_sem] yaK
attribute [go_sem ↓] yaK
theorem wa2:Good xB:=Va λas=>by
 unfold xB
 split
 .exact (ku λ_=>(.and λ_=>(.ret _)))
 .exact .of λK hk=>hk.elim
def QE (tE:Nat) (l:List AV) (K:AV->Prop):Prop:=
 match l with
 | [a]=>onA (λp=>al p<=100000000/\K (.tup [pQ (if sqQ (av p)=0 then (0,0) else ovQ (av p)),errV tE (if sqQ (av p)=0 then 8 else 0)])) a
 | _=>False
theorem uaY (tE:Nat) (a:AV) (K:AV->Prop):QE tE [a] K=(onA (λp=>al p<=100000000/\K (.tup [pQ (if sqQ (av p)=0 then (0,0) else ovQ (av p)),errV tE (if sqQ (av p)=0 then 8 else 0)])) a):=propext Iff.rfl
@[congr] theorem jbQ (tE:Nat) {K:AV->Prop} {l l' : List AV} (h:l=l'):QE tE l K=QE tE l' K:=by subst h;rfl
attribute [go_sem] uaY
attribute [go_sem ↓] uaY
theorem waZ (tE:Nat):Good (QE tE):=Va λas=>by
 unfold QE
 split
 .exact (ku λ_=>(.and λ_=>(.ret _)))
 .exact .of λK hk=>hk.elim
def Ws (l:List AV) (K:AV->Prop):Prop:=
 match l with
 | [c]=>onCp (λc=>cl c<=1000000/\K (pQ (foQ (cpv c)))) c
 | _=>False
theorem JaJ (c:AV) (K:AV->Prop):Ws [c] K=(onCp (λc=>cl c<=1000000/\K (pQ (foQ (cpv c)))) c):=propext Iff.rfl
@[congr] theorem XbP {K:AV->Prop} {l l' : List AV} (h:l=l'):Ws l K=Ws l' K:=by subst h;rfl
attribute [go_sem] JaJ
attribute [go_sem ↓] JaJ
theorem waU:Good Ws:=Va λas=>by
 unfold Ws
 split
 .exact (yh λ_=>(.and λ_=>(.ret _)))
 .exact .of λK hk=>hk.elim
def Xx (l:List AV) (K:AV->Prop):Prop:=
 match l with
 | [c]=>onCp (λc=>cl c<=100000000/\K (cpA (canC (cpv c)))) c
 | _=>False
theorem Qan (c:AV) (K:AV->Prop):Xx [c] K=(onCp (λc=>cl c<=100000000/\K (cpA (canC (cpv c)))) c):=propext Iff.rfl
@[congr] theorem JbG {K:AV->Prop} {l l' : List AV} (h:l=l'):Xx l K=Xx l' K:=by subst h;rfl
attribute [go_sem] Qan
attribute [go_sem ↓] Qan
theorem kaA:Good Xx:=Va λas=>by
 unfold Xx
 split
 .exact (yh λ_=>(.and λ_=>(.ret _)))
 .exact .of λK hk=>hk.elim
def Qq (f0:Nat):AC:=(.seq (.ops false [.u 1 (.box 6 (.t 0)),.u 2 (.alloc [(.lit (.bool false)),.emp,.emp,(.lit (.bool false)),.emp,.emp])])
 (.fg [1,2] (.seq (.ops false [.u 3 (.ld none 6 true (.t 1)),.u 4 (.build [.z [(.lit (.bool false)),.emp,.emp,(.lit (.bool false)),.emp,.emp]]),.u 5 (.call f0 [(.t 3),(.t 4)]),.n (.st none 6 (.t 2) (.t 5))])
 .ret)))
def Vq (f0 f1 f2:Nat):AC:=(.seq (.ops false [.u 2 (.box 6 (.t 0)),.u 3 (.box 6 (.t 1)),.u 4 (.alloc [(.lit (.bool false)),.emp,.emp,(.lit (.bool false)),.emp,.emp])])
 (.fg [2,3,4] (.seq (.ops true [.u 5 (.fa 0 (.t 2)),.u 6 (.ld none 3 true (.t 5)),.u 7 (.fa 0 (.t 3)),.u 8 (.ld none 3 true (.t 7)),.u 9 (.call f0 [(.t 6),(.t 8)]),.u 10 (.fa 3 (.t 2)),.u 11 (.ld none 3 true (.t 10)),.u 12 (.fa 3 (.t 3)),.u 13 (.ld none 3 true (.t 12)),.u 14 (.call f0 [(.t 11),(.t 13)]),.u 15 (.call f1 [(.t 9),(.t 14)]),.u 16 (.fa 3 (.t 2)),.u 17 (.ld none 3 true (.t 16)),.u 18 (.fa 0 (.t 3)),.u 19 (.ld none 3 true (.t 18)),.u 20 (.call f0 [(.t 17),(.t 19)]),.u 21 (.fa 0 (.t 2)),.u 22 (.ld none 3 true (.t 21)),.u 23 (.fa 3 (.t 3)),.u 24 (.ld none 3 true (.t 23)),.u 25 (.call f0 [(.t 22),(.t 24)]),.u 26 (.call f2 [(.t 20),(.t 25)]),.u 27 (.build [.x 3 (.t 15),.x 3 (.t 26)]),.n (.st none 6 (.t 4) (.t 27))])
 .ret)))
def Vh (f0 f1 f2:Nat):AC:=(.seq (.ops false [.u 1 (.box 6 (.t 0)),.u 2 (.alloc [(.lit (.bool false)),.emp,.emp,(.lit (.bool false)),.emp,.emp]),.m 3 (.c (.one (.lit .nilIface)))])
 (.fg [1,2] (.seq (.ops false [.u 8 (.ld none 6 true (.t 1)),.u 9 (.call f0 [(.t 8)]),.u 4 (.alloc [(.lit (.bool false)),.emp,.emp]),.n (.st none 3 (.t 4) (.t 9))])
 (.fg [1,2,4] (.seq (.ops false [.u 11 (.fa 0 (.t 1)),.u 12 (.ld none 3 true (.t 11)),.u 13 (.ld none 3 true (.t 4)),.u 14 (.call f1 [(.t 12),(.t 13)]),.m 10 (.t 14),.u 15 (.ext 0 (.t 10)),.u 16 (.ext 1 (.t 10)),.u 5 (.alloc [(.lit (.bool false)),.emp,.emp]),.n (.st none 3 (.t 5) (.t 15)),.m 6 (.t 16)])
 (.fg [1,2,4,5,6] (.seq (.seq (.ops false [.m 17 (.t 6),.u 18 (.binn .neq (.t 17) (.c (.one (.lit .nilIface))))])
 (.fg [1,2,4,5,6,18] (.cond (.t 18) (.seq (.ops false [.u 19 (.build [.z [(.lit (.bool false)),.emp,.emp,(.lit (.bool false)),.emp,.emp]]),.m 20 (.t 6),.n (.st none 6 (.t 2) (.t 19)),.m 3 (.t 20)])
 .ret) .skip)))
 (.fg [1,2,4,5] (.seq (.ops true [.u 22 (.fa 3 (.t 1)),.u 23 (.ld none 3 true (.t 22)),.u 24 (.call f2 [(.t 23)]),.u 25 (.ld none 3 true (.t 4)),.u 26 (.call f1 [(.t 24),(.t 25)]),.m 21 (.t 26),.u 27 (.ext 0 (.t 21)),.u 28 (.ext 1 (.t 21)),.u 7 (.alloc [(.lit (.bool false)),.emp,.emp]),.n (.st none 3 (.t 7) (.t 27)),.m 6 (.t 28)])
 (.fg [2,5,6,7] (.seq (.ops false [.u 29 (.ld none 3 true (.t 5)),.u 30 (.ld none 3 true (.t 7)),.u 31 (.build [.x 3 (.t 29),.x 3 (.t 30)]),.m 32 (.t 6),.n (.st none 6 (.t 2) (.t 31)),.m 3 (.t 32)])
 .ret)))))))))))
def zl (f0 f1 f2 f3:Nat):AC:=(.seq (.ops false [.u 1 (.box 27 (.t 0)),.u 2 (.alloc [(.lit (.bool false)),.emp,.emp,(.lit (.bool false)),.emp,.emp])])
 (.fg [1,2] (.seq (.ops true [.u 3 (.fa 0 (.t 1)),.u 4 (.ld none 6 true (.t 3)),.u 5 (.ld none 27 true (.t 1)),.u 6 (.call f0 [(.t 5)]),.u 7 (.fa 6 (.t 1)),.u 8 (.ld none 6 true (.t 7)),.u 9 (.fa 0 (.t 1)),.u 10 (.ld none 6 true (.t 9)),.u 11 (.call f1 [(.t 8),(.t 10)]),.u 12 (.call f2 [(.t 6),(.t 11)]),.u 13 (.call f3 [(.t 4),(.t 12)]),.n (.st none 6 (.t 2) (.t 13))])
 .ret)))
def Un (f0 f1:Nat):AC:=(.seq (.ops false [.u 1 (.box 27 (.t 0)),.u 2 (.alloc [(.lit (.bool false)),.emp,.emp,(.lit (.bool false)),.emp,.emp,(.lit (.bool false)),.emp,.emp,(.lit (.bool false)),.emp,.emp,(.lit (.bool false)),.emp,.emp,(.lit (.bool false)),.emp,.emp,(.lit (.bool false)),.emp,.emp,(.lit (.bool false)),.emp,.emp,(.lit (.bool false)),.emp,.emp])])
 (.fg [1,2] (.seq (.ops false [.u 4 (.build [.z [(.lit (.bool false)),.emp,.emp]]),.u 3 (.alloc [(.lit (.bool false)),.emp,.emp]),.n (.st none 3 (.t 3) (.t 4))])
 (.fg [1,2,3] (.seq (.ops true [.u 5 (.fa 0 (.t 1)),.u 6 (.ld none 6 true (.t 5)),.u 7 (.call f0 [(.t 6)]),.u 8 (.fa 6 (.t 1)),.u 9 (.ld none 6 true (.t 8)),.u 10 (.call f0 [(.t 9)]),.u 11 (.fa 12 (.t 1)),.u 12 (.ld none 3 true (.t 11)),.u 13 (.ld none 3 true (.t 3)),.u 14 (.call f1 [(.t 12),(.t 13)]),.u 15 (.fa 15 (.t 1)),.u 16 (.ld none 3 true (.t 15)),.u 17 (.ld none 3 true (.t 3)),.u 18 (.call f1 [(.t 16),(.t 17)]),.u 19 (.fa 18 (.t 1)),.u 20 (.ld none 3 true (.t 19)),.u 21 (.ld none 3 true (.t 3)),.u 22 (.call f1 [(.t 20),(.t 21)]),.u 23 (.fa 21 (.t 1)),.u 24 (.ld none 3 true (.t 23)),.u 25 (.ld none 3 true (.t 3)),.u 26 (.call f1 [(.t 24),(.t 25)]),.u 27 (.fa 24 (.t 1)),.u 28 (.ld none 3 true (.t 27)),.u 29 (.ld none 3 true (.t 3)),.u 30 (.call f1 [(.t 28),(.t 29)]),.u 31 (.build [.x 6 (.t 7),.x 6 (.t 10),.x 3 (.t 14),.x 3 (.t 18),.x 3 (.t 22),.x 3 (.t 26),.x 3 (.t 30)]),.n (.st none 27 (.t 2) (.t 31))])
 .ret)))))
theorem YaE (hΓ:Holds P Γ) {f fa:Nat} (ha:Γ fa=.dat false yq) (hc:check P f=some (6,(Qq fa).strip,[.cell 2 6 true])):Sound P f (.dat false xB):=by
 refine ja hc wa2 hΓ (λargs K hcl hfi hG=>?_)
 match args,hG with
 | [a],hG=>
  obtain ⟨p,rfl,wp,hl,hK⟩:=hG
  refine ⟨by simp,?_⟩
  have zz:WLA (rcan 0,rcan 0):=Wp (0,0)
  have z0:al (rcan 0,rcan 0)<=100000000:=Nat.max_le.2 ⟨Nat.le_trans (Nat.le_of_eq rz_0) (by decide),Nat.le_trans (Nat.le_of_eq rz_0) (by decide)⟩
  have e0:av (rcan 0,rcan 0)=(0,0):=U3 (0,0)
  simp only [go_sem,Qq,ha,Vn,yb,e0,xbx]
  repeat (first | (refine And.intro (by with_reducible assumption) ?_) | (refine And.intro (Nat.le_trans (by with_reducible assumption) (by decide)) ?_) | (refine And.intro (by decide) ?_))
  exact hK
theorem ZV (hΓ:Holds P Γ) {f fm fs fa:Nat} (hm:Γ fm=.dat false Wk) (hs:Γ fs=.dat false Zt) (ha:Γ fa=.dat false kn) (hc:check P f=some (28,(Vq fm fs fa).strip,[.cell 4 6 true])):Sound P f (.dat false uk):=by
 refine ja hc WJ hΓ (λargs K hcl hfi hG=>?_)
 match args,hG with
 | [a,b],hG=>
  obtain ⟨p,rfl,wp,q,rfl,wq,hl,hl2,hK⟩:=hG
  refine ⟨by simp,?_⟩
  have w1:=wp.1
  have w2:=wp.2
  have w3:=wq.1
  have w4:=wq.2
  have l1:=(Nat.max_le.1 hl).1
  have l2:=(Nat.max_le.1 hl).2
  have l3:=(Nat.max_le.1 hl2).1
  have l4:=(Nat.max_le.1 hl2).2
  have r1:=Jg w1
  have r2:=Jg w2
  have r3:=Jg w3
  have r4:=Jg w4
  have m1:=Nat.le_trans (wd (rv p.1) (rv q.1)) (by omega:_<=1000000000)
  have m2:=Nat.le_trans (wd (rv p.2) (rv q.2)) (by omega:_<=1000000000)
  have m3:=Nat.le_trans (wd (rv p.2) (rv q.1)) (by omega:_<=1000000000)
  have m4:=Nat.le_trans (wd (rv p.1) (rv q.2)) (by omega:_<=1000000000)
  have e:pQ (timesQ (av p) (av q))=pQ (rv p.1*rv q.1-rv p.2*rv q.2,rv p.2*rv q.1+rv p.1*rv q.2):=by
   unfold timesQ av;rw [jbD]
  rw [e]at hK
  simp only [go_sem,Vq,hm,hs,ha,Vn,Wb]
  repeat (first | (refine And.intro (by with_reducible assumption) ?_) | (refine And.intro (Nat.le_trans (by with_reducible assumption) (by decide)) ?_) | (refine And.intro (by decide) ?_))
  exact hK
theorem xaF (hΓ:Holds P Γ) {f fq fd fn tE:Nat} (hq:Γ fq=.dat false yC) (hd:Γ fd=.dat false (jy tE)) (hn:Γ fn=.dat false Vu) (hc:check P f=some (33,(Vh fq fd fn).strip,[.cell 2 6 true,.tmp 3])):Sound P f (.dat false (QE tE)):=by
 refine ja hc (waZ tE) hΓ (λargs K hcl hfi hG=>?_)
 match args,hG with
 | [a],hG=>
  obtain ⟨p,rfl,wp,hl,hK⟩:=hG
  refine ⟨by simp,?_⟩
  have w1:=wp.1
  have w2:=wp.2
  have l1:=(Nat.max_le.1 hl).1
  have l2:=(Nat.max_le.1 hl).2
  have r1:=Jg w1
  have r2:=Jg w2
  have s:=xH (av p)
  have z:=Vah wp
  obtain ⟨n,hn0⟩:∃n,sqQ (av p)=n:=⟨_,rfl⟩
  rw [hn0]at s
  have s1:=Nat.le_trans s (by omega:_<=4294967296)
  have s2:rz (-rv p.2)<=4294967296:=by rw [yA];omega
  have eo:ovQ (av p)=(rv p.1 / n,-rv p.2 / n):=by unfold ovQ;rw [hn0];rfl
  rw [eo,hn0]at hK
  by_cases h0:n=0
  .have e8:=Uc tE (by decide:(8:Nat)≠0)
   rw [if_pos h0,if_pos h0,e8,QaJ,ub]at hK
   simp only [go_sem,Vh,hq,hd,Vn,yb,hn0,Wb,if_pos h0,e8]
   repeat (first | (refine And.intro (by with_reducible assumption) ?_) | (refine And.intro (Nat.le_trans (by with_reducible assumption) (by decide)) ?_) | (refine And.intro (by decide) ?_))
   exact hK
  .have e0:=jc tE
   rw [if_neg h0,if_neg h0,e0]at hK
   simp only [go_sem,Vh,hq,hd,hn,Vn,yb,hn0,Wb,if_neg h0,e0]
   repeat (first | (refine And.intro (by with_reducible assumption) ?_) | (refine And.intro (Nat.le_trans (by with_reducible assumption) (by decide)) ?_) | (refine And.intro (by decide) ?_))
   exact hK
theorem vS (hΓ:Holds P Γ) {f fw fs ft fa:Nat} (hw' : Γ fw=.dat false kD) (hs:Γ fs=.dat false Zq) (ht:Γ ft=.dat false uk) (ha:Γ fa=.dat false yq) (hc:check P f=some (14,(zl fw fs ft fa).strip,[.cell 2 6 true])):Sound P f (.dat false Ws):=by
 refine ja hc waU hΓ (λargs K hcl hfi hG=>?_)
 match args,hG with
 | [a],hG=>
  obtain ⟨c,rfl,hw,hl,hK⟩:=hG
  refine ⟨by simp,?_⟩
  have wW:WLA c.2.2.2.2.2:=⟨hw.2.2.2.2.2.1,hw.2.2.2.2.2.2⟩
  have l6:al c.2.2.2.2.2<=100000000:=Nat.le_trans (cl_w hl) (by decide)
  have hB:=kaL hw hl
  have wo:=hw.1
  have wQ:=hw.2.1
  have lo:al c.1<=100000000:=Nat.le_trans (Nat.le_max_left _ _) (Nat.le_trans hl (by decide))
  have lq:al c.2.1<=100000000:=Nat.le_trans (Nat.le_max_left _ _) (Nat.le_trans (Nat.le_max_right _ _) (Nat.le_trans hl (by decide)))
  obtain ⟨D,hD⟩:∃D,subQ (av c.2.1) (av c.1)=D:=⟨_,rfl⟩
  obtain ⟨T,hT⟩:∃T,timesQ (av c.2.2.2.2.2) D=T:=⟨_,rfl⟩
  have z1:al (rcan D.1,rcan D.2)<=100000000:=by
   have:=Jaq (av c.2.1) (av c.1)
   rw [hD]at this
   have e1:zq (av c.1)<=1000000:=hB.1
   have e2:zq (av c.2.1)<=1000000:=hB.2.1
   exact Nat.le_trans this (by omega)
  have z2:al (rcan T.1,rcan T.2)<=100000000:=by
   have:=ybd (av c.2.2.2.2.2) D
   rw [hT]at this
   have e3:=Jaq (av c.2.1) (av c.1)
   rw [hD]at e3
   have e1:zq (av c.1)<=1000000:=hB.1
   have e2:zq (av c.2.1)<=1000000:=hB.2.1
   have e4:zq (av c.2.2.2.2.2)<=1000000:=Nat.max_le.2 ⟨hB.2.2.2.2.2.1,hB.2.2.2.2.2.2⟩
   exact Nat.le_trans this (by omega)
  have wD:WLA (rcan D.1,rcan D.2):=Wp D
  have wT:WLA (rcan T.1,rcan T.2):=Wp T
  have ef:foQ (cpv c)=addQ (av c.1) T:=by rw [<-hT,<-hD];rfl
  rw [ef]at hK
  simp only [go_sem,zl,hw',hs,ht,ha,cpA,cpC,aA,Vn,yb,hD,U3,hT]
  repeat (first | (refine And.intro (by with_reducible assumption) ?_) | (refine And.intro (Nat.le_trans (by with_reducible assumption) (by decide)) ?_) | (refine And.intro (by decide) ?_))
  exact hK
theorem xaj (hΓ:Holds P Γ) {f fc fa:Nat} (hcl' : Γ fc=.dat false xB) (ha:Γ fa=.dat false kn) (hc:check P f=some (32,(Un fc fa).strip,[.cell 2 27 true])):Sound P f (.dat false Xx):=by
 refine ja hc kaA hΓ (λargs K hcl hfi hG=>?_)
 match args,hG with
 | [a],hG=>
  obtain ⟨c,rfl,hw,hl,hK⟩:=hG
  refine ⟨by simp,?_⟩
  obtain ⟨wo,wQ,w1,w2,w3,w4,w5⟩:=id hw
  have hl0:=hl
  unfold cl at hl0
  simp only [Nat.max_le]at hl0
  obtain ⟨l1,l2,l3,l4,l5,l6,l7⟩:=hl0
  have lz:rz 0<=4294967296:=Nat.le_trans (Nat.le_of_eq rz_0) (by decide)
  have m1:∀x:Rat,x+0=x:=λx=>by grind
  simp only [go_sem,Un,hcl',ha,cpA,cpC,Vn,rA,yb,Wb,m1]
  repeat (first | (refine And.intro (by with_reducible assumption) ?_) | (refine And.intro (Nat.le_trans (by with_reducible assumption) (by decide)) ?_) | (refine And.intro (by decide) ?_))
  exact hK
end Go.Abs
end
section
namespace Go.Num
open Go.Abs
def wC (w:V2):Nat:=if sqQ w=0 then 8 else 0
def fiC (c:Cp):Nat:=if cchk c≠0 then cchk c else wC (cW (cpv c))
def seC (c:Cp):Nat:=if cchk c≠0 then cchk c else wC (rsQ (cpv c))
def alC (c:Cp):Nat:=if fiC c≠0 then fiC c else seC c
def alL (c:Cp):List CpR:=if alC c=0 then [cpv c,fiQ (cpv c),seQ (cpv c)] else []
theorem wC_0 {w:V2}:wC w=0↔sqQ w≠0:=by
 unfold wC;split
 .rename_i h;simp [h]
 .rename_i h;simp [h]
theorem vbK {c:Cp} (h:cchk c≠0):fiC c=cchk c:=if_pos h
theorem UbL {c:Cp} (h:cchk c≠0):seC c=cchk c:=if_pos h
theorem Ya5 {c:Cp} (h:cchk c=0):fiC c=wC (cW (cpv c)):=by unfold fiC;rw [if_neg (by omega)]
theorem Jbp {c:Cp} (h:cchk c=0):seC c=wC (rsQ (cpv c)):=by unfold seC;rw [if_neg (by omega)]
theorem Ybe {c:CpR} {o k:V2} {x y z:Rat} {b:Nat} (h:CB' b c) (ho:zq o<=b) (hk:zq k<=b+4) (h1:rz x<=b) (h2:rz y<=b) (h3:rz z<=b):CB' (7*b+40) (simQ c o k x y z):=by
 have f:=ka9 h
 have s:=xH k
 have v:=kbO k
 have m1:=wd (sqQ k) x
 have m2:=wd (sqQ k) y
 have m3:=wd (sqQ k) z
 have v1:=zq_1 (ovQ k)
 have v2:=zq_2 (ovQ k)
 exact ⟨by show zq o<=_;omega,by show zq (foQ c)<=_;omega,by show rz (sqQ k*x)<=_;omega,by show rz (sqQ k*y)<=_;omega,by show rz (sqQ k*z)<=_;omega,by show rz (ovQ k).1<=_;omega,by show rz (ovQ k).2<=_;omega⟩
theorem ybz {c:CpR} {b:Nat} (h:CB' b c):CB' (7*b+40) (fiQ c):=
 Ybe h h.1 (Nat.le_trans (Nat.max_le.2 ⟨h.2.2.2.2.2.1,h.2.2.2.2.2.2⟩) (by omega)) h.2.2.2.1 h.2.2.1 h.2.2.2.2.1
theorem xbQ {c:CpR} {b:Nat} (h:CB' b c):CB' (7*b+40) (seQ c):=
 Ybe h h.2.1 (Va5 h) h.2.2.2.1 h.2.2.2.2.1 h.2.2.1
theorem ybP {c:CpR} {b:Nat} (h:CB' b c):CB' (b+4) (swQ c):=by
 have r:=Va5 h
 have v1:=zq_1 (rsQ c)
 have v2:=zq_2 (rsQ c)
 obtain ⟨h1,h2,h3,h4,h5,h6,h7⟩:=h
 exact ⟨by show zq c.2.1<=_;omega,by show zq c.1<=_;omega,by show rz c.2.2.2.2.1<=_;omega,by show rz c.2.2.2.1<=_;omega,by show rz c.2.2.1<=_;omega,by show rz (rsQ c).1<=_;omega,by show rz (rsQ c).2<=_;omega⟩
end Go.Num
namespace Go.Abs
open Go.Num
variable {P:Program} {Γ:Nat->Spec}
def wB (tE:Nat) (l:List AV) (K:AV->Prop):Prop:=
 match l with
 | [c,o,k,x,y,z]=>onCp (λc=>onA (λo=>onA (λk=>onR (λx=>onR (λy=>onR (λz=>cl c<=1000000/\al o<=1000000/\al k<=1000000/\rl x<=1000000/\rl y<=1000000/\rl z<=1000000/\K (.tup [cqR (if wC (av k)=0 then simQ (cpv c) (av o) (av k) (rv x) (rv y) (rv z) else z27),errV tE (wC (av k))])) z) y) x) k) o) c
 | _=>False
theorem xaT (tE:Nat) (c o k x y z:AV) (K:AV->Prop):wB tE [c,o,k,x,y,z] K=(onCp (λc=>onA (λo=>onA (λk=>onR (λx=>onR (λy=>onR (λz=>cl c<=1000000/\al o<=1000000/\al k<=1000000/\rl x<=1000000/\rl y<=1000000/\rl z<=1000000/\K (.tup [cqR (if wC (av k)=0 then simQ (cpv c) (av o) (av k) (rv x) (rv y) (rv z) else z27),errV tE (wC (av k))])) z) y) x) k) o) c):=propext Iff.rfl
@[congr] theorem UbI (tE:Nat) {K:AV->Prop} {l l' : List AV} (h:l=l'):wB tE l K=wB tE l' K:=by subst h;rfl
attribute [go_sem] xaT
attribute [go_sem ↓] xaT
theorem Xa3 (tE:Nat):Good (wB tE):=Va λas=>by
 unfold wB
 split
 .exact (yh λ_=>(ku λ_=>(ku λ_=>(Zf λ_=>(Zf λ_=>(Zf λ_=>(.and λ_=>(.and λ_=>(.and λ_=>(.and λ_=>(.and λ_=>(.and λ_=>(.ret _)))))))))))))
 .exact .of λK hk=>hk.elim
def vM (tE:Nat) (l:List AV) (K:AV->Prop):Prop:=
 match l with
 | [c]=>onCp (λc=>cl c<=100000/\K (.tup [cqR (if fiC c=0 then fiQ (cpv c) else z27),errV tE (fiC c)])) c
 | _=>False
theorem Qbb (tE:Nat) (c:AV) (K:AV->Prop):vM tE [c] K=(onCp (λc=>cl c<=100000/\K (.tup [cqR (if fiC c=0 then fiQ (cpv c) else z27),errV tE (fiC c)])) c):=propext Iff.rfl
@[congr] theorem QbU (tE:Nat) {K:AV->Prop} {l l' : List AV} (h:l=l'):vM tE l K=vM tE l' K:=by subst h;rfl
attribute [go_sem] Qbb
attribute [go_sem ↓] Qbb
theorem Za7 (tE:Nat):Good (vM tE):=Va λas=>by
 unfold vM
 split
 .exact (yh λ_=>(.and λ_=>(.ret _)))
 .exact .of λK hk=>hk.elim
def xX (tE:Nat) (l:List AV) (K:AV->Prop):Prop:=
 match l with
 | [c]=>onCp (λc=>cl c<=100000/\K (.tup [cqR (if seC c=0 then seQ (cpv c) else z27),errV tE (seC c)])) c
 | _=>False
theorem ubg (tE:Nat) (c:AV) (K:AV->Prop):xX tE [c] K=(onCp (λc=>cl c<=100000/\K (.tup [cqR (if seC c=0 then seQ (cpv c) else z27),errV tE (seC c)])) c):=propext Iff.rfl
@[congr] theorem VbT (tE:Nat) {K:AV->Prop} {l l' : List AV} (h:l=l'):xX tE l K=xX tE l' K:=by subst h;rfl
attribute [go_sem] ubg
attribute [go_sem ↓] ubg
theorem Wa5 (tE:Nat):Good (xX tE):=Va λas=>by
 unfold xX
 split
 .exact (yh λ_=>(.and λ_=>(.ret _)))
 .exact .of λK hk=>hk.elim
def VM (tE:Nat) (l:List AV) (K:AV->Prop):Prop:=
 match l with
 | [c]=>onCp (λc=>cl c<=100000/\K (.tup [pQ (if cchk c=0 then foQ (cpv c) else (0,0)),errV tE (cchk c)])) c
 | _=>False
theorem zbe (tE:Nat) (c:AV) (K:AV->Prop):VM tE [c] K=(onCp (λc=>cl c<=100000/\K (.tup [pQ (if cchk c=0 then foQ (cpv c) else (0,0)),errV tE (cchk c)])) c):=propext Iff.rfl
@[congr] theorem YbT (tE:Nat) {K:AV->Prop} {l l' : List AV} (h:l=l'):VM tE l K=VM tE l' K:=by subst h;rfl
attribute [go_sem] zbe
attribute [go_sem ↓] zbe
theorem Wa9 (tE:Nat):Good (VM tE):=Va λas=>by
 unfold VM
 split
 .exact (yh λ_=>(.and λ_=>(.ret _)))
 .exact .of λK hk=>hk.elim
def zY (tE:Nat) (l:List AV) (K:AV->Prop):Prop:=
 match l with
 | [c]=>onCp (λc=>cl c<=100000/\K (.tup [cqR (if cchk c=0 then swQ (cpv c) else z27),errV tE (cchk c)])) c
 | _=>False
theorem qbh (tE:Nat) (c:AV) (K:AV->Prop):zY tE [c] K=(onCp (λc=>cl c<=100000/\K (.tup [cqR (if cchk c=0 then swQ (cpv c) else z27),errV tE (cchk c)])) c):=propext Iff.rfl
@[congr] theorem ubS (tE:Nat) {K:AV->Prop} {l l' : List AV} (h:l=l'):zY tE l K=zY tE l' K:=by subst h;rfl
attribute [go_sem] qbh
attribute [go_sem ↓] qbh
theorem Ua7 (tE:Nat):Good (zY tE):=Va λas=>by
 unfold zY
 split
 .exact (yh λ_=>(.and λ_=>(.ret _)))
 .exact .of λK hk=>hk.elim
def kaR (tE:Nat) (l:List AV) (K:AV->Prop):Prop:=
 match l with
 | [c]=>onCp (λc=>cl c<=10000/\K (.tup [.one (.slice ((alL c).map λX=>cpC (canC X))),errV tE (alC c)])) c
 | _=>False
theorem Qa2 (tE:Nat) (c:AV) (K:AV->Prop):kaR tE [c] K=(onCp (λc=>cl c<=10000/\K (.tup [.one (.slice ((alL c).map λX=>cpC (canC X))),errV tE (alC c)])) c):=propext Iff.rfl
@[congr] theorem XbQ (tE:Nat) {K:AV->Prop} {l l' : List AV} (h:l=l'):kaR tE l K=kaR tE l' K:=by subst h;rfl
attribute [go_sem] Qa2
attribute [go_sem ↓] Qa2
def jh (f0 f1 f2 f3 f4:Nat):AC:=(.seq (.ops false [.u 6 (.box 27 (.t 0)),.u 7 (.box 6 (.t 1)),.u 8 (.box 6 (.t 2)),.u 9 (.box 3 (.t 3)),.u 10 (.box 3 (.t 4)),.u 11 (.box 3 (.t 5)),.u 12 (.alloc [(.lit (.bool false)),.emp,.emp,(.lit (.bool false)),.emp,.emp,(.lit (.bool false)),.emp,.emp,(.lit (.bool false)),.emp,.emp,(.lit (.bool false)),.emp,.emp,(.lit (.bool false)),.emp,.emp,(.lit (.bool false)),.emp,.emp,(.lit (.bool false)),.emp,.emp,(.lit (.bool false)),.emp,.emp]),.m 13 (.c (.one (.lit .nilIface)))])
 (.fg [6,7,8,9,10,11,12] (.seq (.ops false [.u 18 (.ld none 6 true (.t 8)),.u 19 (.call f0 [(.t 18)]),.m 17 (.t 19),.u 20 (.ext 0 (.t 17)),.u 21 (.ext 1 (.t 17)),.u 14 (.alloc [(.lit (.bool false)),.emp,.emp,(.lit (.bool false)),.emp,.emp]),.n (.st none 6 (.t 14) (.t 20)),.m 15 (.t 21)])
 (.fg [6,7,8,9,10,11,12,14,15] (.seq (.seq (.ops false [.m 22 (.t 15),.u 23 (.binn .neq (.t 22) (.c (.one (.lit .nilIface))))])
 (.fg [6,7,8,9,10,11,12,14,15,23] (.cond (.t 23) (.seq (.ops false [.u 24 (.build [.z [(.lit (.bool false)),.emp,.emp,(.lit (.bool false)),.emp,.emp,(.lit (.bool false)),.emp,.emp,(.lit (.bool false)),.emp,.emp,(.lit (.bool false)),.emp,.emp,(.lit (.bool false)),.emp,.emp,(.lit (.bool false)),.emp,.emp,(.lit (.bool false)),.emp,.emp,(.lit (.bool false)),.emp,.emp]]),.m 25 (.t 15),.n (.st none 27 (.t 12) (.t 24)),.m 13 (.t 25)])
 .ret) .skip)))
 (.fg [6,7,8,9,10,11,12,14] (.seq (.ops false [.u 26 (.ld none 6 true (.t 8)),.u 27 (.call f1 [(.t 26)]),.u 16 (.alloc [(.lit (.bool false)),.emp,.emp]),.n (.st none 3 (.t 16) (.t 27))])
 (.fg [6,7,9,10,11,12,14,16] (.seq (.ops true [.u 28 (.ld none 6 true (.t 7)),.u 29 (.call f2 [(.t 28)]),.u 30 (.ld none 27 true (.t 6)),.u 31 (.call f3 [(.t 30)]),.u 32 (.ld none 3 true (.t 16)),.u 33 (.ld none 3 true (.t 9)),.u 34 (.call f4 [(.t 32),(.t 33)]),.u 35 (.ld none 3 true (.t 16)),.u 36 (.ld none 3 true (.t 10)),.u 37 (.call f4 [(.t 35),(.t 36)]),.u 38 (.ld none 3 true (.t 16)),.u 39 (.ld none 3 true (.t 11)),.u 40 (.call f4 [(.t 38),(.t 39)]),.u 41 (.fa 0 (.t 14)),.u 42 (.ld none 3 true (.t 41)),.u 43 (.fa 3 (.t 14)),.u 44 (.ld none 3 true (.t 43)),.u 45 (.build [.x 6 (.t 29),.x 6 (.t 31),.x 3 (.t 34),.x 3 (.t 37),.x 3 (.t 40),.x 3 (.t 42),.x 3 (.t 44)]),.n (.st none 27 (.t 12) (.t 45)),.m 13 (.c (.one (.lit .nilIface)))])
 .ret)))))))))
def Ql (f0 f1 f2:Nat):AC:=(.seq (.ops false [.u 1 (.box 27 (.t 0)),.u 2 (.alloc [(.lit (.bool false)),.emp,.emp,(.lit (.bool false)),.emp,.emp,(.lit (.bool false)),.emp,.emp,(.lit (.bool false)),.emp,.emp,(.lit (.bool false)),.emp,.emp,(.lit (.bool false)),.emp,.emp,(.lit (.bool false)),.emp,.emp,(.lit (.bool false)),.emp,.emp,(.lit (.bool false)),.emp,.emp]),.m 3 (.c (.one (.lit .nilIface)))])
 (.fg [1,2] (.seq (.seq (.ops false [.u 5 (.ld none 27 true (.t 1)),.u 6 (.call f0 [(.t 5)]),.m 4 (.t 6)])
 (.fg [1,2,4] (.seq (.ops false [.m 7 (.t 4),.u 8 (.binn .neq (.t 7) (.c (.one (.lit .nilIface))))])
 (.fg [1,2,4,8] (.cond (.t 8) (.seq (.ops false [.u 9 (.build [.z [(.lit (.bool false)),.emp,.emp,(.lit (.bool false)),.emp,.emp,(.lit (.bool false)),.emp,.emp,(.lit (.bool false)),.emp,.emp,(.lit (.bool false)),.emp,.emp,(.lit (.bool false)),.emp,.emp,(.lit (.bool false)),.emp,.emp,(.lit (.bool false)),.emp,.emp,(.lit (.bool false)),.emp,.emp]]),.m 10 (.t 4),.n (.st none 27 (.t 2) (.t 9)),.m 3 (.t 10)])
 .ret) .skip)))))
 (.fg [1,2] (.seq (.ops true [.u 11 (.ld none 27 true (.t 1)),.u 12 (.fa 0 (.t 1)),.u 13 (.ld none 6 true (.t 12)),.u 14 (.ld none 27 true (.t 1)),.u 15 (.call f1 [(.t 14)]),.u 16 (.fa 15 (.t 1)),.u 17 (.ld none 3 true (.t 16)),.u 18 (.fa 12 (.t 1)),.u 19 (.ld none 3 true (.t 18)),.u 20 (.fa 18 (.t 1)),.u 21 (.ld none 3 true (.t 20)),.u 22 (.call f2 [(.t 11),(.t 13),(.t 15),(.t 17),(.t 19),(.t 21)]),.u 23 (.ext 0 (.t 22)),.u 24 (.ext 1 (.t 22)),.n (.st none 27 (.t 2) (.t 23)),.m 3 (.t 24)])
 .ret)))))
def Zj (f0 f1 f2:Nat):AC:=(.seq (.ops false [.u 1 (.box 27 (.t 0)),.u 2 (.alloc [(.lit (.bool false)),.emp,.emp,(.lit (.bool false)),.emp,.emp,(.lit (.bool false)),.emp,.emp,(.lit (.bool false)),.emp,.emp,(.lit (.bool false)),.emp,.emp,(.lit (.bool false)),.emp,.emp,(.lit (.bool false)),.emp,.emp,(.lit (.bool false)),.emp,.emp,(.lit (.bool false)),.emp,.emp]),.m 3 (.c (.one (.lit .nilIface)))])
 (.fg [1,2] (.seq (.seq (.ops false [.u 5 (.ld none 27 true (.t 1)),.u 6 (.call f0 [(.t 5)]),.m 4 (.t 6)])
 (.fg [1,2,4] (.seq (.ops false [.m 7 (.t 4),.u 8 (.binn .neq (.t 7) (.c (.one (.lit .nilIface))))])
 (.fg [1,2,4,8] (.cond (.t 8) (.seq (.ops false [.u 9 (.build [.z [(.lit (.bool false)),.emp,.emp,(.lit (.bool false)),.emp,.emp,(.lit (.bool false)),.emp,.emp,(.lit (.bool false)),.emp,.emp,(.lit (.bool false)),.emp,.emp,(.lit (.bool false)),.emp,.emp,(.lit (.bool false)),.emp,.emp,(.lit (.bool false)),.emp,.emp,(.lit (.bool false)),.emp,.emp]]),.m 10 (.t 4),.n (.st none 27 (.t 2) (.t 9)),.m 3 (.t 10)])
 .ret) .skip)))))
 (.fg [1,2] (.seq (.ops true [.u 11 (.ld none 27 true (.t 1)),.u 12 (.fa 6 (.t 1)),.u 13 (.ld none 6 true (.t 12)),.u 14 (.ld none 27 true (.t 1)),.u 15 (.call f1 [(.t 14)]),.u 16 (.fa 15 (.t 1)),.u 17 (.ld none 3 true (.t 16)),.u 18 (.fa 18 (.t 1)),.u 19 (.ld none 3 true (.t 18)),.u 20 (.fa 12 (.t 1)),.u 21 (.ld none 3 true (.t 20)),.u 22 (.call f2 [(.t 11),(.t 13),(.t 15),(.t 17),(.t 19),(.t 21)]),.u 23 (.ext 0 (.t 22)),.u 24 (.ext 1 (.t 22)),.n (.st none 27 (.t 2) (.t 23)),.m 3 (.t 24)])
 .ret)))))
def Jl (f0 f1:Nat):AC:=(.seq (.ops false [.u 1 (.box 27 (.t 0)),.u 2 (.alloc [(.lit (.bool false)),.emp,.emp,(.lit (.bool false)),.emp,.emp]),.m 3 (.c (.one (.lit .nilIface)))])
 (.fg [1,2] (.seq (.seq (.ops false [.u 5 (.ld none 27 true (.t 1)),.u 6 (.call f0 [(.t 5)]),.m 4 (.t 6)])
 (.fg [1,2,4] (.seq (.ops false [.m 7 (.t 4),.u 8 (.binn .neq (.t 7) (.c (.one (.lit .nilIface))))])
 (.fg [1,2,4,8] (.cond (.t 8) (.seq (.ops false [.u 9 (.build [.z [(.lit (.bool false)),.emp,.emp,(.lit (.bool false)),.emp,.emp]]),.m 10 (.t 4),.n (.st none 6 (.t 2) (.t 9)),.m 3 (.t 10)])
 .ret) .skip)))))
 (.fg [1,2] (.seq (.ops false [.u 11 (.ld none 27 true (.t 1)),.u 12 (.call f1 [(.t 11)]),.n (.st none 6 (.t 2) (.t 12)),.m 3 (.c (.one (.lit .nilIface)))])
 .ret)))))
def Vm (f0 f1 f2:Nat):AC:=(.seq (.ops false [.u 1 (.box 27 (.t 0)),.u 2 (.alloc [(.lit (.bool false)),.emp,.emp,(.lit (.bool false)),.emp,.emp,(.lit (.bool false)),.emp,.emp,(.lit (.bool false)),.emp,.emp,(.lit (.bool false)),.emp,.emp,(.lit (.bool false)),.emp,.emp,(.lit (.bool false)),.emp,.emp,(.lit (.bool false)),.emp,.emp,(.lit (.bool false)),.emp,.emp]),.m 3 (.c (.one (.lit .nilIface)))])
 (.fg [1,2] (.seq (.seq (.ops false [.u 7 (.ld none 27 true (.t 1)),.u 8 (.call f0 [(.t 7)]),.m 4 (.t 8)])
 (.fg [1,2,4] (.seq (.ops false [.m 9 (.t 4),.u 10 (.binn .neq (.t 9) (.c (.one (.lit .nilIface))))])
 (.fg [1,2,4,10] (.cond (.t 10) (.seq (.ops false [.u 11 (.build [.z [(.lit (.bool false)),.emp,.emp,(.lit (.bool false)),.emp,.emp,(.lit (.bool false)),.emp,.emp,(.lit (.bool false)),.emp,.emp,(.lit (.bool false)),.emp,.emp,(.lit (.bool false)),.emp,.emp,(.lit (.bool false)),.emp,.emp,(.lit (.bool false)),.emp,.emp,(.lit (.bool false)),.emp,.emp]]),.m 12 (.t 4),.n (.st none 27 (.t 2) (.t 11)),.m 3 (.t 12)])
 .ret) .skip)))))
 (.fg [1,2] (.seq (.ops false [.u 13 (.ld none 27 true (.t 1)),.u 14 (.call f1 [(.t 13)]),.u 5 (.alloc [(.lit (.bool false)),.emp,.emp,(.lit (.bool false)),.emp,.emp,(.lit (.bool false)),.emp,.emp,(.lit (.bool false)),.emp,.emp,(.lit (.bool false)),.emp,.emp,(.lit (.bool false)),.emp,.emp,(.lit (.bool false)),.emp,.emp,(.lit (.bool false)),.emp,.emp,(.lit (.bool false)),.emp,.emp]),.n (.st none 27 (.t 5) (.t 14))])
 (.fg [1,2,5] (.seq (.ops false [.u 15 (.fa 6 (.t 5)),.u 16 (.ld none 6 true (.t 15)),.u 17 (.fa 0 (.t 5)),.u 18 (.ld none 6 true (.t 17)),.u 19 (.fa 0 (.t 5)),.n (.st none 6 (.t 19) (.t 16)),.u 20 (.fa 6 (.t 5)),.n (.st none 6 (.t 20) (.t 18))])
 (.fg [1,2,5] (.seq (.ops false [.u 21 (.fa 18 (.t 5)),.u 22 (.ld none 3 true (.t 21)),.u 23 (.fa 12 (.t 5)),.u 24 (.ld none 3 true (.t 23)),.u 25 (.fa 12 (.t 5)),.n (.st none 3 (.t 25) (.t 22)),.u 26 (.fa 18 (.t 5)),.n (.st none 3 (.t 26) (.t 24))])
 (.fg [1,2,5] (.seq (.ops false [.u 27 (.ld none 27 true (.t 1)),.u 28 (.call f2 [(.t 27)]),.u 6 (.alloc [(.lit (.bool false)),.emp,.emp,(.lit (.bool false)),.emp,.emp]),.n (.st none 6 (.t 6) (.t 28))])
 (.fg [2,5,6] (.seq (.ops true [.u 29 (.fa 0 (.t 6)),.u 30 (.ld (some 6) 3 true (.t 29)),.u 31 (.fa 3 (.t 6)),.u 32 (.ld (some 6) 3 true (.t 31)),.u 33 (.fa 21 (.t 5)),.n (.st (some 5) 3 (.t 33) (.t 30)),.u 34 (.fa 24 (.t 5)),.n (.st (some 5) 3 (.t 34) (.t 32))])
 (.fg [2,5] (.seq (.ops false [.u 35 (.ld none 27 true (.t 5)),.n (.st none 27 (.t 2) (.t 35)),.m 3 (.c (.one (.lit .nilIface)))])
 .ret)))))))))))))))
theorem yaC (hΓ:Holds P Γ) {f fi fq fc ff fm tE:Nat} (hi:Γ fi=.dat false (QE tE)) (hq:Γ fq=.dat false yC) (hcl' : Γ fc=.dat false xB) (hf:Γ ff=.dat false Ws) (hm:Γ fm=.dat false Wk) (hc:check P f=some (46,(jh fi fq fc ff fm).strip,[.cell 12 27 true,.tmp 13])):Sound P f (.dat false (wB tE)):=by
 refine ja hc (Xa3 tE) hΓ (λargs K hcl hfi hG=>?_)
 match args,hG with
 | [a,b,d,e,g,h],hG=>
  obtain ⟨c,rfl,hw,o,rfl,wo,k,rfl,wk,x,rfl,wx,y,rfl,wy,z,rfl,wz,hl,lo,lk,lx,ly,lz,hK⟩:=hG
  refine ⟨by simp,?_⟩
  have lo2:al o<=100000000:=Nat.le_trans lo (by decide)
  have lk2:al k<=100000000:=Nat.le_trans lk (by decide)
  have s:=xH (av k)
  have zk:=Vah wk
  by_cases h0:sqQ (av k)=0
  .have ew:wC (av k)=8:=if_pos h0
   have e8:=Uc tE (by decide:(8:Nat)≠0)
   rw [ew,if_neg (by decide),e8]at hK
   unfold cqR z27 at hK
   simp only [ub]at hK
   have ip:∀{α:Type} (x y:α),(if sqQ (av k)=0 then x else y)=x:=λx y=>if_pos h0
   simp only [go_sem,jh,hi,cpA,cpC,Vn,rA,yb,ip,e8]
   repeat (first | (refine And.intro (by with_reducible assumption) ?_) | (refine And.intro (Nat.le_trans (by with_reducible assumption) (by decide)) ?_) | (refine And.intro (by decide) ?_))
   exact hK
  .have ew:wC (av k)=0:=if_neg h0
   have e0:=jc tE
   rw [ew,if_pos rfl,e0]at hK
   obtain ⟨n,hn⟩:∃n,sqQ (av k)=n:=⟨_,rfl⟩
   rw [hn]at s h0
   have ip:∀{α:Type} (x y:α),(if n=0 then x else y)=y:=λx y=>if_neg h0
   have zn:=Nat.le_trans s (by omega:_<=10000000)
   have es:simQ (cpv c) (av o) (av k) (rv x) (rv y) (rv z)=(av o,foQ (cpv c),n*rv x,n*rv y,n*rv z,(ovQ (av k)).1,(ovQ (av k)).2):=by unfold simQ;rw [hn]
   rw [es]at hK
   simp only [go_sem,jh,hi,hq,hcl',hf,hm,cpA,cpC,Vn,rA,yb,ip,e0,hn,Wb]
   repeat (first | (refine And.intro (by with_reducible assumption) ?_) | (refine And.intro (Nat.le_trans (by with_reducible assumption) (by decide)) ?_) | (refine And.intro (by decide) ?_))
   exact hK
theorem ya3 (hΓ:Holds P Γ) {f fk fr fs tE:Nat} (hk:Γ fk=.dat false (jx tE)) (hr:Γ fr=.dat false kD) (hs:Γ fs=.dat false (wB tE)) (hc:check P f=some (25,(Ql fk fr fs).strip,[.cell 2 27 true,.tmp 3])):Sound P f (.dat false (vM tE)):=by
 refine ja hc (Za7 tE) hΓ (λargs K hcl hfi hG=>?_)
 match args,hG with
 | [a],hG=>
  obtain ⟨c,rfl,hw,hl,hK⟩:=hG
  refine ⟨by simp,?_⟩
  have hl2:cl c<=100000000:=Nat.le_trans hl (by decide)
  have hl3:cl c<=1000000:=Nat.le_trans hl (by decide)
  by_cases h0:cchk c=0
  .have e0:=jc tE
   obtain ⟨wo,wQ,w1,w2,w3,w4,w5⟩:=id hw
   have hl0:=hl3
   unfold cl at hl0
   simp only [Nat.max_le]at hl0
   obtain ⟨l1,l2,l3,l4,l5,l6,l7⟩:=hl0
   have wW:WLA c.2.2.2.2.2:=⟨w4,w5⟩
   have lW:al c.2.2.2.2.2<=1000000:=cl_w hl3
   have aW:av c.2.2.2.2.2=cW (cpv c):=rfl
   have ef:simQ (cpv c) (av c.1) (cW (cpv c)) (rv c.2.2.2.1) (rv c.2.2.1) (rv c.2.2.2.2.1)=fiQ (cpv c):=rfl
   obtain ⟨X,hX⟩:∃X,(if wC (cW (cpv c))=0 then fiQ (cpv c) else z27)=X:=⟨_,rfl⟩
   rw [Ya5 h0,hX]at hK
   simp only [go_sem,Ql,hk,hr,hs,cpA,cpC,aA,Vn,rA,yb,h0,e0,aW,ef,hX,cqR]
   repeat (first | (refine And.intro (by with_reducible assumption) ?_) | (refine And.intro (Nat.le_trans (by with_reducible assumption) (by decide)) ?_) | (refine And.intro (by decide) ?_))
   exact hK
  .have e1:=Uc tE h0
   rw [vbK h0,if_neg h0,e1]at hK
   unfold cqR z27 at hK
   simp only [ub]at hK
   simp only [go_sem,Ql,hk,cpA,cpC,yb,e1]
   repeat (first | (refine And.intro (by with_reducible assumption) ?_) | (refine And.intro (Nat.le_trans (by with_reducible assumption) (by decide)) ?_) | (refine And.intro (by decide) ?_))
   exact hK
theorem Ya0 (hΓ:Holds P Γ) {f fk fr fs tE:Nat} (hk:Γ fk=.dat false (jx tE)) (hr:Γ fr=.dat false yu) (hs:Γ fs=.dat false (wB tE)) (hc:check P f=some (25,(Zj fk fr fs).strip,[.cell 2 27 true,.tmp 3])):Sound P f (.dat false (xX tE)):=by
 refine ja hc (Wa5 tE) hΓ (λargs K hcl hfi hG=>?_)
 match args,hG with
 | [a],hG=>
  obtain ⟨c,rfl,hw,hl,hK⟩:=hG
  refine ⟨by simp,?_⟩
  have hl2:cl c<=100000000:=Nat.le_trans hl (by decide)
  have hl3:cl c<=1000000:=Nat.le_trans hl (by decide)
  by_cases h0:cchk c=0
  .have e0:=jc tE
   obtain ⟨wo,wQ,w1,w2,w3,w4,w5⟩:=id hw
   have hl0:=hl3
   unfold cl at hl0
   simp only [Nat.max_le]at hl0
   obtain ⟨l1,l2,l3,l4,l5,l6,l7⟩:=hl0
   obtain ⟨R,hR⟩:∃R,reQ (cpv c)=R:=⟨_,rfl⟩
   have zr:=Va5 (kaL hw hl)
   have hR' : rsQ (cpv c)=R:=hR
   rw [hR']at zr
   have wW:WLA (rcan R.1,rcan R.2):=Wp R
   have lW:al (rcan R.1,rcan R.2)<=1000000:=Nat.le_trans zr (by decide)
   have ef:simQ (cpv c) (av c.2.1) R (rv c.2.2.2.1) (rv c.2.2.2.2.1) (rv c.2.2.1)=seQ (cpv c):=by rw [<-hR];rfl
   obtain ⟨X,hX⟩:∃X,(if wC R=0 then seQ (cpv c) else z27)=X:=⟨_,rfl⟩
   rw [Jbp h0,hR',hX]at hK
   simp only [go_sem,Zj,hk,hr,hs,cpA,cpC,aA,Vn,rA,yb,h0,e0,hR,U3,ef,hX,cqR]
   repeat (first | (refine And.intro (by with_reducible assumption) ?_) | (refine And.intro (Nat.le_trans (by with_reducible assumption) (by decide)) ?_) | (refine And.intro (by decide) ?_))
   exact hK
  .have e1:=Uc tE h0
   rw [UbL h0,if_neg h0,e1]at hK
   unfold cqR z27 at hK
   simp only [ub]at hK
   simp only [go_sem,Zj,hk,cpA,cpC,yb,e1]
   repeat (first | (refine And.intro (by with_reducible assumption) ?_) | (refine And.intro (Nat.le_trans (by with_reducible assumption) (by decide)) ?_) | (refine And.intro (by decide) ?_))
   exact hK
theorem zaT (hΓ:Holds P Γ) {f fk ff tE:Nat} (hk:Γ fk=.dat false (jx tE)) (hf:Γ ff=.dat false Ws) (hc:check P f=some (13,(Jl fk ff).strip,[.cell 2 6 true,.tmp 3])):Sound P f (.dat false (VM tE)):=by
 refine ja hc (Wa9 tE) hΓ (λargs K hcl hfi hG=>?_)
 match args,hG with
 | [a],hG=>
  obtain ⟨c,rfl,hw,hl,hK⟩:=hG
  refine ⟨by simp,?_⟩
  have hl2:cl c<=100000000:=Nat.le_trans hl (by decide)
  have hl3:cl c<=1000000:=Nat.le_trans hl (by decide)
  by_cases h0:cchk c=0
  .have e0:=jc tE
   rw [h0,if_pos rfl,e0]at hK
   simp only [go_sem,Jl,hk,hf,cpA,cpC,yb,h0,e0]
   repeat (first | (refine And.intro (by with_reducible assumption) ?_) | (refine And.intro (Nat.le_trans (by with_reducible assumption) (by decide)) ?_) | (refine And.intro (by decide) ?_))
   exact hK
  .have e1:=Uc tE h0
   rw [if_neg h0,e1,QaJ,ub]at hK
   simp only [go_sem,Jl,hk,cpA,cpC,yb,e1]
   repeat (first | (refine And.intro (by with_reducible assumption) ?_) | (refine And.intro (Nat.le_trans (by with_reducible assumption) (by decide)) ?_) | (refine And.intro (by decide) ?_))
   exact hK
theorem ZaS (hΓ:Holds P Γ) {f fk fc fr tE:Nat} (hk:Γ fk=.dat false (jx tE)) (hcp:Γ fc=.dat false Xx) (hr:Γ fr=.dat false yu) (hc:check P f=some (36,(Vm fk fc fr).strip,[.cell 2 27 true,.tmp 3])):Sound P f (.dat false (zY tE)):=by
 refine ja hc (Ua7 tE) hΓ (λargs K hcl hfi hG=>?_)
 match args,hG with
 | [a],hG=>
  obtain ⟨c,rfl,hw,hl,hK⟩:=hG
  refine ⟨by simp,?_⟩
  have hl2:cl c<=100000000:=Nat.le_trans hl (by decide)
  by_cases h0:cchk c=0
  .have e0:=jc tE
   rw [h0,if_pos rfl,e0]at hK
   obtain ⟨R,hR⟩:∃R,reQ (cpv c)=R:=⟨_,rfl⟩
   have es:swQ (cpv c)=(av c.2.1,av c.1,rv c.2.2.2.2.1,rv c.2.2.2.1,rv c.2.2.1,R.1,R.2):=by rw [<-hR];rfl
   rw [es]at hK
   simp only [go_sem,Vm,hk,hcp,hr,cpA,cpC,yb,h0,e0,hR,canC]
   repeat (first | (refine And.intro (by with_reducible assumption) ?_) | (refine And.intro (Nat.le_trans (by with_reducible assumption) (by decide)) ?_) | (refine And.intro (by decide) ?_))
   exact hK
  .have e1:=Uc tE h0
   rw [if_neg h0,e1]at hK
   unfold cqR z27 at hK
   simp only [ub]at hK
   simp only [go_sem,Vm,hk,cpA,cpC,yb,e1]
   repeat (first | (refine And.intro (by with_reducible assumption) ?_) | (refine And.intro (Nat.le_trans (by with_reducible assumption) (by decide)) ?_) | (refine And.intro (by decide) ?_))
   exact hK
end Go.Abs
end
section
namespace Go.Num
theorem v2e {a b:V2} (h1:a.1=b.1) (h2:a.2=b.2):a=b:=Prod.ext h1 h2
def en1 (c:CpR) (a b:V2):V2:=addQ c.1 (timesQ (cW c) (subQ b a))
def en2 (c:CpR) (a b:V2):V2:=subQ c.2.1 (timesQ (rsQ c) (subQ b a))
def en3 (c:CpR) (a b:V2):V2:=addQ (en1 c a b) (timesQ (cW c) (subQ a c.1))
def en4 (c:CpR) (a b:V2):V2:=addQ (en2 c a b) (timesQ (rsQ c) (subQ b c.2.1))
end Go.Num
end
section
namespace Go.Num
open Go.Abs
def enC (c:Cp) (a b:Arc):Nat:=if cchk2 c [a,b]≠0 then cchk2 c [a,b] else if hldQ (cpv c) (av a) (av b) then alC c else 21
def enL (c:CpR) (a b:V2):List V2:=[a,b,en1 c a b,en3 c a b,en2 c a b,en4 c a b]
def enR (c:Cp) (a b:Arc):List V2:=if enC c a b=0 then enL (cpv c) (av a) (av b) else []
def smC (c d:Cp):Nat:=if cchk c≠0 then cchk c else cchk d
theorem Qbl {α:Type} {l m:List α} {k:Nat} {x y:α} (hx:l[k]?=some x) (hy:m[k]?=some y):(l.take (k+1)=m.take (k+1))↔(l.take k=m.take k/\x=y):=by
 rw [List.take_add_one,List.take_add_one,hx,hy]
 simp only [Option.toList_some]
 constructor
 .intro h
  have h1:=List.append_inj' h rfl
  exact ⟨h1.1,by simpa using h1.2⟩
 .rintro ⟨h1,h2⟩;rw [h1,h2]
theorem getM {p:BQ} {k:Nat} (h:k<p.length):∃u,p[k]?=some u/\(mcs p).getD k mo0=mcan u/\u∈p:=by
 refine ⟨p[k],List.getElem?_eq_getElem h,?_,List.getElem_mem h⟩
 unfold mcs
 rw [List.getD_eq_getElem?_getD,List.getElem?_map,List.getElem?_eq_getElem h]
 rfl
theorem qaH (p:BQ):(mcs p).length=p.length:=by unfold mcs;rw [List.length_map]
theorem wbw {p:BQ} {u:MQ} (h:u∈p) {b:Nat} (hb:sz p<=b):rz u.2.2<=b:=Nat.le_trans (zaL h) hb
end Go.Num
namespace Go.Abs
open Go.Num
variable {P:Program} {Γ:Nat->Spec}
def zaZ (tE:Nat) (l:List AV) (K:AV->Prop):Prop:=
 match l with
 | [c,a,b]=>onCp (λc=>onA (λa=>onA (λb=>cl c<=1000/\al a<=1000/\al b<=1000/\K (.tup [.one (.slice ((enR c a b).map λp=>aC (rcan p.1,rcan p.2))),errV tE (enC c a b)])) b) a) c
 | _=>False
theorem yaH (tE:Nat) (c a b:AV) (K:AV->Prop):zaZ tE [c,a,b] K=(onCp (λc=>onA (λa=>onA (λb=>cl c<=1000/\al a<=1000/\al b<=1000/\K (.tup [.one (.slice ((enR c a b).map λp=>aC (rcan p.1,rcan p.2))),errV tE (enC c a b)])) b) a) c):=propext Iff.rfl
@[congr] theorem UbR (tE:Nat) {K:AV->Prop} {l l' : List AV} (h:l=l'):zaZ tE l K=zaZ tE l' K:=by subst h;rfl
attribute [go_sem] yaH
attribute [go_sem ↓] yaH
def xE (tE:Nat) (l:List AV) (K:AV->Prop):Prop:=
 match l with
 | [c,d]=>onCp (λc=>onCp (λd=>cl c<=1000/\cl d<=1000/\K (.tup [.one (.lit (.bool (decide (smC c d=0) && decide (cCur (cpv c)=cCur (cpv d))))),errV tE (smC c d)])) d) c
 | _=>False
theorem YaP (tE:Nat) (c d:AV) (K:AV->Prop):xE tE [c,d] K=(onCp (λc=>onCp (λd=>cl c<=1000/\cl d<=1000/\K (.tup [.one (.lit (.bool (decide (smC c d=0) && decide (cCur (cpv c)=cCur (cpv d))))),errV tE (smC c d)])) d) c):=propext Iff.rfl
@[congr] theorem VbJ (tE:Nat) {K:AV->Prop} {l l' : List AV} (h:l=l'):xE tE l K=xE tE l' K:=by subst h;rfl
attribute [go_sem] YaP
attribute [go_sem ↓] YaP
theorem YaK (tE:Nat):Good (xE tE):=Va λas=>by
 unfold xE
 split
 .exact (yh λ_=>(yh λ_=>(.and λ_=>(.and λ_=>(.ret _)))))
 .exact .of λK hk=>hk.elim
def Xh (f0 f1:Nat):AC:=(.seq (.ops false [.u 2 (.box 27 (.t 0)),.u 3 (.box 27 (.t 1)),.m 4 .fa,.m 5 (.c (.one (.lit .nilIface)))])
 (.fg [2,3] (.seq (.ops false [.u 11 (.ld none 27 true (.t 2)),.u 12 (.call f0 [(.t 11)]),.m 10 (.t 12),.u 13 (.ext 0 (.t 10)),.u 14 (.ext 1 (.t 10)),.m 6 (.t 13),.m 7 (.t 14)])
 (.fg [3,6,7] (.seq (.seq (.ops false [.m 15 (.t 7),.u 16 (.binn .neq (.t 15) (.c (.one (.lit .nilIface))))])
 (.fg [3,6,7,16] (.cond (.t 16) (.seq (.ops false [.m 17 (.t 7),.m 4 .fa,.m 5 (.t 17)])
 .ret) .skip)))
 (.fg [3,6] (.seq (.ops false [.u 19 (.ld none 27 true (.t 3)),.u 20 (.call f0 [(.t 19)]),.m 18 (.t 20),.u 21 (.ext 0 (.t 18)),.u 22 (.ext 1 (.t 18)),.m 8 (.t 21),.m 7 (.t 22)])
 (.fg [6,7,8] (.seq (.seq (.ops false [.m 23 (.t 7),.u 24 (.binn .neq (.t 23) (.c (.one (.lit .nilIface))))])
 (.fg [6,7,8,24] (.cond (.t 24) (.seq (.ops false [.m 25 (.t 7),.m 4 .fa,.m 5 (.t 25)])
 .ret) .skip)))
 (.fg [6,8] (.seq (.seq (.ops false [.m 26 (.t 6),.u 27 (.len (.t 26)),.m 28 (.t 8),.u 29 (.len (.t 28)),.u 30 (.bin .neq (.t 27) (.t 29))])
 (.fg [6,8,30] (.cond (.t 30) (.seq (.ops false [.m 4 .fa,.m 5 (.c (.one (.lit .nilIface)))])
 .ret) .skip)))
 (.fg [6,8] (.seq (.seq (.ops false [.m 31 (.t 6),.u 32 (.len (.t 31)),.m 33 (.i 0)])
 (.fg [6,8,32,33] (.block 0 (.loop (.seq (.ops false [.u 34 (.bin .lss (.t 33) (.t 32))])
 (.fg [6,8,32,33,34] (.seq (.cond (.t 34) .skip (.exit 0))
 (.fg [6,8,32,33] (.seq (.block 1 (.seq (.ops false [.m 35 (.t 33),.m 9 (.t 35)])
 (.fg [6,8,9,32,33] (.seq (.ops true [.m 36 (.t 6),.m 37 (.t 9),.u 38 (.idx 5 (.t 36) (.t 37)),.u 39 (.fa 0 (.t 38)),.u 40 (.ld none 1 false (.t 39)),.m 41 (.t 8),.m 42 (.t 9),.u 43 (.idx 5 (.t 41) (.t 42)),.u 44 (.fa 0 (.t 43)),.u 45 (.ld none 1 false (.t 44)),.u 46 (.bin .neq (.t 40) (.t 45)),.m 47 (.t 46),.w 48 47 false (.mv (.t 6)),.w 49 47 false (.mv (.t 9)),.w 50 47 false (.idx 5 (.t 48) (.t 49)),.w 51 47 false (.fa 1 (.t 50)),.w 52 47 false (.ld none 1 false (.t 51)),.w 53 47 false (.mv (.t 8)),.w 54 47 false (.mv (.t 9)),.w 55 47 false (.idx 5 (.t 53) (.t 54)),.w 56 47 false (.fa 1 (.t 55)),.w 57 47 false (.ld none 1 false (.t 56)),.w 58 47 false (.bin .neq (.t 52) (.t 57)),.u 59 (.pick (.t 47) .tr (.t 58)),.m 60 (.t 59),.w 61 60 false (.mv (.t 6)),.w 62 60 false (.mv (.t 9)),.w 63 60 false (.idx 5 (.t 61) (.t 62)),.w 64 60 false (.fa 2 (.t 63)),.w 65 60 false (.ld none 3 true (.t 64)),.w 66 60 false (.mv (.t 8)),.w 67 60 false (.mv (.t 9)),.w 68 60 false (.idx 5 (.t 66) (.t 67)),.w 69 60 false (.fa 2 (.t 68)),.w 70 60 false (.ld none 3 true (.t 69)),.w 71 60 false (.call f1 [(.t 65),(.t 70)]),.w 72 60 false (.bin .neq (.t 71) (.i 0)),.u 73 (.pick (.t 60) .tr (.t 72))])
 (.fg [6,8,32,33,73] (.cond (.t 73) (.seq (.ops false [.m 4 .fa,.m 5 (.c (.one (.lit .nilIface)))])
 .ret) .skip))))))
 (.fg [6,8,32,33] (.ops false [.u 74 (.bin .add (.t 33) (.i 1)),.m 33 (.t 74)])))))))))))
 (.fg [] (.seq (.ops false [.m 4 .tr,.m 5 (.c (.one (.lit .nilIface)))])
 .ret)))))))))))))))
set_option maxHeartbeats 1000000 in
theorem waD (hΓ:Holds P Γ) {f fv fq tE:Nat} (hv:Γ fv=.dat false (vD tE)) (hq:Γ fq=.dat true qh) (hc:check P f=some (75,(Xh fv fq).strip,[.tmp 4,.tmp 5])):Sound P f (.dat false (xE tE)):=by
 refine ja hc (YaK tE) hΓ (λargs K hcl hfi hG=>?_)
 match args,hG with
 | [x,y],hG=>
  obtain ⟨c,rfl,hw,d,rfl,hw2,hl,hl2,hK⟩:=hG
  refine ⟨by simp,?_⟩
  have e0:=jc tE
  by_cases h0:cchk c=0
  case neg=>
   have es:smC c d=cchk c:=if_pos h0
   have e1:=Uc tE h0
   rw [es,e1,decide_eq_false h0,Bool.false_and]at hK
   simp only [go_sem,Xh,hv,cpA,cpC,yb,qA h0,e1]
   repeat (first | (refine And.intro (by with_reducible assumption) ?_) | (refine And.intro (Nat.le_trans (by with_reducible assumption) (by decide)) ?_) | (refine And.intro (by decide) ?_))
   exact hK
  have es:smC c d=cchk d:=by unfold smC;rw [if_neg (by omega)]
  rw [es]at hK
  have pc:=Xau (Xam hw hl)
  have i0:=xx pc.canon.ins
  by_cases h1:cchk d=0
  case neg=>
   have e1:=Uc tE h1
   rw [e1,decide_eq_false h1,Bool.false_and]at hK
   simp only [go_sem,Xh,hv,cpA,cpC,yb,h0,e0,kt,qA h1,e1]
   repeat (first | (refine And.intro (by with_reducible assumption) ?_) | (refine And.intro (Nat.le_trans (by with_reducible assumption) (by decide)) ?_) | (refine And.intro (by decide) ?_))
   exact hK
  rw [h1,e0,decide_eq_true rfl,Bool.true_and]at hK
  have pd:=Xau (Xam hw2 hl2)
  have j0:=xx pd.canon.ins
  have lc:=kJ pc.canon
  have ld:=kJ pd.canon
  have sc:=pc.size
  have sd:=pd.size
  obtain ⟨p,hp⟩:∃p,cCur (cpv c)=p:=⟨_,rfl⟩
  obtain ⟨q,hq0⟩:∃q,cCur (cpv d)=q:=⟨_,rfl⟩
  rw [hp]at i0 lc sc hK
  rw [hq0]at j0 ld sd hK
  have lp:=qaH p
  have lq:=qaH q
  simp only [go_sem,Xh,hv,cpA,cpC,yb,h0,h1,e0,kt,hp,hq0]
  repeat (first | (refine And.intro (by with_reducible assumption) ?_) | (refine And.intro (Nat.le_trans (by with_reducible assumption) (by decide)) ?_) | (refine And.intro (by decide) ?_))
  intro _ _
  refine ⟨λhlen _=>?_,λhlen=>?_⟩
  case refine_2=>
   rw [decide_eq_false (λe=>hlen (by rw [e]))]at hK
   exact hK
  rw [lp,lq]at hlen
  refine ka (λk:Nat=>⟨mkV [(6,.one (.slice ((mcs p).map mC))),(8,.one (.slice ((mcs q).map mC))),(32,.one (.lit (.int .i64 ((mcs p).length:Nat)))),(33,.one (.lit (.int .i64 k)))],mkH []⟩) (λk=>k<=p.length/\p.take k=q.take k) (λk=>p.length-k) 0 ?_ ?_ ?_
  .exact Qa (by simp [okS,okV,okC,okL,okH,okB,okE,Za,Ja,qa,va,wsA,ws]) trivial
  .exact ⟨Nat.zero_le _,rfl⟩
  .rintro k ⟨hk,htk⟩
   rw [lp]
   by_cases hlt:k<p.length
   .obtain ⟨⟨u1,u2,u3⟩,hu,hu2,hum⟩:=getM hlt
    obtain ⟨⟨v1,v2,v3⟩,hv1,hv2,hvm⟩:=getM (by omega:k<q.length)
    have hlp:k<(mcs p).length:=by omega
    have hlq:k<(mcs q).length:=by omega
    have r1:=Nat.le_trans (wbw hum sc) (by decide:_<=1073741824)
    have r2:=Nat.le_trans (wbw hvm sd) (by decide:_<=1073741824)
    simp only at r1 r2
    have ts:=Qbl hu hv1
    have bad:¬((u1,u2,u3)=(v1,v2,v3))->K (.tup [.one (.lit (.bool false)),.one (.lit .nilIface)]):=λh=>by
     rw [decide_eq_false (λe=>h (by rw [e,hv1]at hu;simpa using hu.symm))]at hK
     exact hK
    simp only [go_sem,hlt,hlp,hlq,hq,hu2,hv2,mC,mcan,Wb]
    refine ⟨λh1=>⟨λh2=>⟨r1,r2,λh3=>⟨by omega,k+1,Qa (by simp [okS,okV,okC,okL,okH,okB,okE,Za,Ja,qa,va,wsA,ws,lp]) trivial,⟨by omega,ts.2 ⟨htk,?_⟩⟩,by omega⟩,λh3=>bad λe=>h3 ?_⟩,λh2=>bad λe=>h2 ?_⟩,λh1=>bad λe=>h1 ?_⟩
    .rw [h1,h2,kh.1 h3]
    .simp only [Prod.mk.injEq]at e;exact kh.2 e.2.2
    .simp only [Prod.mk.injEq]at e;exact e.2.1
    .simp only [Prod.mk.injEq]at e;exact e.1
   .have ek:k=p.length:=by omega
    rw [ek,List.take_length,hlen,List.take_length]at htk
    rw [decide_eq_true htk]at hK
    simp only [go_sem,hlt]
    exact hK
end Go.Abs
end
section
namespace Go.Num
open Go.Abs
def okT (n:Int):Prop:=n=1∨n=2∨n=4∨n=12
def tx (n:Int):ByteArray:=if n=12 then ⟨#[49,50]⟩ else if n=4 then ⟨#[52]⟩ else if n=2 then ⟨#[50]⟩ else ⟨#[49]⟩
def txR (q:Rat):ByteArray:=if q.den=1 then tx q.num else tx q.num++⟨#[47]⟩++tx (q.den:Nat)
theorem wby (n:Int):(tx n).size<=2:=by unfold tx;split <;> (try split) <;> (try split) <;> decide
theorem Wbl {n:Int} (h:okT n):∃m:Nat,n=m/\1<=m/\m<=12:=by
 rcases h with h | h | h | h
 .exact ⟨1,h,by decide,by decide⟩
 .exact ⟨2,h,by decide,by decide⟩
 .exact ⟨4,h,by decide,by decide⟩
 .exact ⟨12,h,by decide,by decide⟩
theorem ybu {m:Nat} (h1:1<=m) (h2:m<=12):digs m=[m]:=by rw [Ur (by omega),show m / 4294967296=0 by omega,Qb,show m % 4294967296=m by omega]
end Go.Num
namespace Go.Abs
open Go.Num
variable {P:Program} {Γ:Nat->Spec}
theorem wbf {h h' : Nat->HB} {z:Nat} {b:Bool} {w:W}:okB h h' (some ⟨[[zb w,zm w]],z,b⟩) (some ⟨[[zb w,zm w]],z,b⟩):=
 ⟨⟨rfl,rfl⟩,.inl ⟨rfl,λe he c hc=>by
  rw [List.mem_singleton.1 he]at hc
  simp only [List.mem_cons,List.not_mem_nil,or_false]at hc
  rcases hc with rfl | rfl
  .exact of_eq_true (VT _)
  .exact of_eq_true (UX _)⟩⟩
def eJ (s:ByteArray):AV:=.one (.slice [[.lit (.string s)]])
theorem xbh (x y:ByteArray) (h:eJ x=eJ y):x=y:=by
 simp only [eJ,AV.one.injEq,C.slice.injEq,List.cons.injEq,C.lit.injEq,Value.string.injEq,and_true]at h
 exact h
def onJ (k:ByteArray->Prop) (a:AV):Prop:=onE eJ k a
@[congr] theorem ZbT {k:ByteArray->Prop} {a a' : AV} (h:a=a'):onJ k a=onJ k a':=by subst h;rfl
theorem JbB (k:ByteArray->Prop) (x:ByteArray):onJ k (.one (.slice [[.lit (.string x)]]))=k x:=zo xbh k x
theorem YbR {β:Type} {T:ByteArray->(β->Prop)->Prop} (h:∀x,GoodT (T x)) {a:AV}:GoodT λK=>onJ (λx=>T x K) a:=
 UG (e:=eJ) (T:=T) xbh h
attribute [go_sem] JbB
attribute [go_sem ↓] JbB
def jr (l:List AV) (K:AV->Prop):Prop:=
 match l with
 | [a]=>asInt (λk n=>k=.i64/\okT n/\K (.one (.lit (.string (tx n))))) a
 | _=>False
theorem YY (a:AV) (K:AV->Prop):jr [a] K=(asInt (λk n=>k=.i64/\okT n/\K (.one (.lit (.string (tx n))))) a):=propext Iff.rfl
@[congr] theorem vbu {K:AV->Prop} {l l' : List AV} (h:l=l'):jr l K=jr l' K:=by subst h;rfl
attribute [go_sem] YY
attribute [go_sem ↓] YY
theorem zal:Good jr:=Va λas=>by
 unfold jr
 split
 .exact (Wc (λ_ _=>(.and λ_=>(.and λ_=>(.ret _)))) _)
 .exact .of λK hk=>hk.elim
def xy (l:List AV) (K:AV->Prop):Prop:=
 match l with
 | [a,b]=>asInt (λk n=>k=.i64/\okT n/\asInt (λk m=>k=.i64/\m=10/\K (.one (.lit (.string (tx n))))) b) a
 | _=>False
theorem XS (a b:AV) (K:AV->Prop):xy [a,b] K=(asInt (λk n=>k=.i64/\okT n/\asInt (λk m=>k=.i64/\m=10/\K (.one (.lit (.string (tx n))))) b) a):=propext Iff.rfl
@[congr] theorem ZbG {K:AV->Prop} {l l' : List AV} (h:l=l'):xy l K=xy l' K:=by subst h;rfl
attribute [go_sem] XS
attribute [go_sem ↓] XS
theorem jaE:Good xy:=Va λas=>by
 unfold xy
 split
 .exact (Wc (λ_ _=>(.and λ_=>(.and λ_=>(Wc (λ_ _=>(.and λ_=>(.and λ_=>(.ret _)))) _)))) _)
 .exact .of λK hk=>hk.elim
def xn (l:List AV) (K:AV->Prop):Prop:=
 match l with
 | [a]=>asInt (λk n=>k=.i64/\okT n/\K (.one (.lit (.string (tx n))))) a
 | _=>False
theorem zay (a:AV) (K:AV->Prop):xn [a] K=(asInt (λk n=>k=.i64/\okT n/\K (.one (.lit (.string (tx n))))) a):=propext Iff.rfl
@[congr] theorem ubH {K:AV->Prop} {l l' : List AV} (h:l=l'):xn l K=xn l' K:=by subst h;rfl
attribute [go_sem] zay
attribute [go_sem ↓] zay
theorem wS:Good xn:=Va λas=>by
 unfold xn
 split
 .exact (Wc (λ_ _=>(.and λ_=>(.and λ_=>(.ret _)))) _)
 .exact .of λK hk=>hk.elim
def Zz (l:List AV) (K:AV->Prop):Prop:=
 match l with
 | [a,b]=>onJ (λs=>b=.one (.lit (.string ⟨#[]⟩))/\K (.one (.lit (.string s)))) a
 | _=>False
theorem yam (a b:AV) (K:AV->Prop):Zz [a,b] K=(onJ (λs=>b=.one (.lit (.string ⟨#[]⟩))/\K (.one (.lit (.string s)))) a):=propext Iff.rfl
@[congr] theorem xbE {K:AV->Prop} {l l' : List AV} (h:l=l'):Zz l K=Zz l' K:=by subst h;rfl
attribute [go_sem] yam
attribute [go_sem ↓] yam
theorem vaA:Good Zz:=Va λas=>by
 unfold Zz
 split
 .exact (YbR λ_=>(.and λ_=>(.ret _)))
 .exact .of λK hk=>hk.elim
def Vs (l:List AV) (K:AV->Prop):Prop:=
 match l with
 | [a]=>onW (λw=>okT (zv w)/\K (.one (.lit (.string (tx (zv w)))))) a
 | _=>False
theorem wZ (a:AV) (K:AV->Prop):Vs [a] K=(onW (λw=>okT (zv w)/\K (.one (.lit (.string (tx (zv w)))))) a):=propext Iff.rfl
@[congr] theorem JbE {K:AV->Prop} {l l' : List AV} (h:l=l'):Vs l K=Vs l' K:=by subst h;rfl
attribute [go_sem] wZ
attribute [go_sem ↓] wZ
theorem jaj:Good Vs:=Va λas=>by
 unfold Vs
 split
 .exact (Jm λ_=>(.and λ_=>(.ret _)))
 .exact .of λK hk=>hk.elim
def Jr (l:List AV) (K:AV->Prop):Prop:=
 match l with
 | [a]=>onR (λx=>okT (rv x).num/\okT ((rv x).den:Nat)/\rl x<=4294967296/\K (.one (.lit (.string (txR (rv x)))))) a
 | _=>False
theorem vad (a:AV) (K:AV->Prop):Jr [a] K=(onR (λx=>okT (rv x).num/\okT ((rv x).den:Nat)/\rl x<=4294967296/\K (.one (.lit (.string (txR (rv x)))))) a):=propext Iff.rfl
@[congr] theorem ybD {K:AV->Prop} {l l' : List AV} (h:l=l'):Jr l K=Jr l' K:=by subst h;rfl
attribute [go_sem] vad
attribute [go_sem ↓] vad
theorem Uai:Good Jr:=Va λas=>by
 unfold Jr
 split
 .exact (Zf λ_=>(.and λ_=>(.and λ_=>(.and λ_=>(.ret _)))))
 .exact .of λK hk=>hk.elim
theorem qac (hΓ:Holds P Γ) {f:Nat} (hc:check P f=some (15,(vb).strip,[.tmp 2])):Sound P f (.dat false jr):=by
 refine ja hc zal hΓ (λargs K hcl hfi hG=>?_)
 match args,hG with
 | [a],hG=>
  obtain ⟨k,n,rfl,rfl,hn,hK⟩:=Ua hG
  refine ⟨by simp,?_⟩
  rcases hn with rfl | rfl | rfl | rfl
  .simp only [go_sem,vb]
   exact ⟨λ_=>⟨by decide,⟨by decide,by decide,by decide⟩,hK⟩,λh=>absurd (by decide) h⟩
  .simp only [go_sem,vb]
   exact ⟨λ_=>⟨by decide,⟨by decide,by decide,by decide⟩,hK⟩,λh=>absurd (by decide) h⟩
  .simp only [go_sem,vb]
   exact ⟨λ_=>⟨by decide,⟨by decide,by decide,by decide⟩,hK⟩,λh=>absurd (by decide) h⟩
  .simp only [go_sem,vb]
   exact ⟨λh=>absurd h (by decide),λ_=>⟨by decide,by decide,by decide,⟨by decide,by decide,by decide⟩,hK⟩⟩
theorem jae (hΓ:Holds P Γ) {f fs fn fb fi:Nat} (hs:Γ fs=.dat false jr) (hc:check P f=some (54,(uc fs fn fb fi).strip,[.tmp 4])):Sound P f (.dat false xy):=by
 refine ja hc jaE hΓ (λargs K hcl hfi hG=>?_)
 match args,hG with
 | [a,b],hG=>
  rw [XS]at hG
  obtain ⟨k,n,rfl,rfl,hn,hG'⟩:=Ua hG
  obtain ⟨k',n',rfl,rfl,rfl,hK⟩:=Ua hG'
  clear hG hG'
  refine ⟨by simp,?_⟩
  have a1:(0:Int)<=n:=by rcases hn with rfl | rfl | rfl | rfl <;> decide
  have a2:n<100:=by rcases hn with rfl | rfl | rfl | rfl <;> decide
  simp only [go_sem,uc,hs,a1,a2,hn]
  exact hK
theorem jah (hΓ:Holds P Γ) {f fs:Nat} (hs:Γ fs=.dat false xy) (hc:check P f=some (5,(Ye fs).strip,[.tmp 2])):Sound P f (.dat false xn):=by
 refine ja hc wS hΓ (λargs K hcl hfi hG=>?_)
 match args,hG with
 | [a],hG=>
  obtain ⟨k,n,rfl,rfl,hn,hK⟩:=Ua hG
  refine ⟨by simp,?_⟩
  simp only [go_sem,Ye,hs,hn]
  exact hK
theorem Z4 (hΓ:Holds P Γ) {f fs:Nat} (hs:Γ fs=.dat false xn) (hc:check P f=some (5,(Qu fs).strip,[.tmp 2])):Sound P f (.dat false xn):=by
 refine ja hc wS hΓ (λargs K hcl hfi hG=>?_)
 match args,hG with
 | [a],hG=>
  obtain ⟨k,n,rfl,rfl,hn,hK⟩:=Ua hG
  refine ⟨by simp,?_⟩
  simp only [go_sem,Qu,hs,hn]
  exact hK
theorem Uak (hΓ:Holds P Γ) {f fg fw fs:Nat} (hc:check P f=some (75,(Qt fg fw fs).strip,[.tmp 4])):Sound P f (.dat false Zz):=by
 refine ja hc vaA hΓ (λargs K hcl hfi hG=>?_)
 match args,hG with
 | [a,b],hG=>
  obtain ⟨s,rfl,rfl,hK⟩:=hG
  refine ⟨by simp,?_⟩
  simp only [go_sem,Qt,eJ]
  exact ⟨λ_=>⟨by decide,hK⟩,λh=>absurd rfl h⟩
theorem Jab (hΓ:Holds P Γ) {f fm fs fi fr fj fn:Nat} (hm:Γ fm=.dat false Jj) (hs:Γ fs=.dat false Jv) (hi:Γ fi=.dat false xn) (hj:Γ fj=.dat false Zz) (hn:Γ fn=.dat true Jf) (hc:check P f=some (44,(qu fm fs fi fr fj fn).strip,[.tmp 2])):Sound P f (.dat false Vs):=by
  refine ja hc jaj hΓ (λargs K hcl hfi hG=>?_)
  match args,hG with
  | [a],hG=>
    obtain ⟨w,rfl,hw,h1,hK⟩:=hG
    refine ⟨by simp,?_⟩
    obtain ⟨m,hm1,m1,m2⟩:=Wbl h1
    rw [hm1]at h1 hK
    have d1:digs m=[m]:=ybu m1 m2
    have d0:=Qb
    have v1 : val [m] / 1000000000 = 0 := by have : val [m] = m := by simp [val]
                                             omega
    have v2 : val [m] % 1000000000 = m := by have : val [m] = m := by simp [val]
                                             omega
    have n0:¬((m:Int)<0):=by omega
    have w1:WL [m]:=Xb.2 ⟨by omega,Ub⟩
    simp only [go_sem,qu,hm,hs,hi,hj,hn,hw,hm1,Int.natAbs_natCast,d1]
    refine ka (λk:Nat=>if k=0 then ⟨mkV [(1,.one (.ptr 1 1 0 0)),(3,wsA [m]),(4,.one .emp)],mkH [(1,⟨1,some ⟨[[zb w,zm w]],2,true⟩⟩)]⟩ else ⟨mkV [(1,.one (.ptr 1 1 0 0)),(3,wsA []),(4,.one (.full [[.lit (.string (tx m))]]))],mkH [(1,⟨1,some ⟨[[zb w,zm w]],2,true⟩⟩)]⟩) (λ_=>True) (λk=>1-k) 0 ?_ trivial ?_
    . rw [if_pos rfl];exact Qa (by simp [okS,okV,okC,okL,okH,okB,okE,Za,Ja,qa,va,wsA,ws,wc]) ⟨wbf,trivial⟩
    . intro k _
      by_cases hk:k=0
      . subst hk
        rw [if_pos rfl]
        simp only [go_sem,hs,hi,v1,v2,d0,h1]
        refine ⟨w1,by decide,by decide,by omega,λe he=>by simp at he,1,?_,by decide⟩
        rw [if_neg (by decide)]
        exact Qa (by simp [okS,okV,okC,okL,okH,okB,okE,Za,Ja,qa,va,wsA,ws,wc]) ⟨wbf,trivial⟩
      . rw [if_neg hk]
        simp only [go_sem,hj,hn,hw,hm1,n0]
        exact hK
theorem xab (hΓ:Holds P Γ) {f fp fo fc ft:Nat} (hp:Γ fp=.dat false jd) (ho:Γ fo=.dat false kp) (hc' : Γ fc=.dat true JA) (ht:Γ ft=.dat false Vs) (hc:check P f=some (22,(yl fp fo fc ft).strip,[.tmp 2])):Sound P f (.dat false Jr):=by
 refine ja hc Uai hΓ (λargs K hcl hfi hG=>?_)
 match args,hG with
 | [a],hG=>
  obtain ⟨x,rfl,hx,h1,h2,hl,hK⟩:=hG
  refine ⟨by simp,?_⟩
  obtain ⟨q,hq⟩:∃q,rv x=q:=⟨_,rfl⟩
  rw [hq]at h1 h2 hK
  unfold txR at hK
  have e1:ordI ((q.den:Nat):Int) 1=0↔q.den=1:=by unfold ordI;split <;> (try split) <;> omega
  by_cases hd:q.den=1
  .rw [if_pos hd]at hK
   simp only [go_sem,yl,hp,ho,hc',ht,hx,hq]
   exact ⟨hl,λ_=>⟨h1,hK⟩,λh=>absurd (e1.2 hd) h⟩
  .rw [if_neg hd]at hK
   simp only [go_sem,yl,hp,ho,hc',ht,hx,hq]
   have z1:=wby q.num
   have z2:=wby (q.den:Nat)
   have z3:(ByteArray.mk #[47]).size=1:=rfl
   exact ⟨hl,λh=>absurd (e1.1 h) hd,λ_=>⟨h1,by omega,h2,by rw [ByteArray.size_append];omega,hK⟩⟩
end Go.Abs
end
section
namespace Go.Num
open Go.Abs
theorem wbN (w:V2):0<=sqQ w:=by
 have h:∀x:Rat,0<=x*x:=λx=>by
  rcases Rat.le_total (a:=0) (b:=x) with h | h
  .exact Rat.mul_nonneg h h
  .have h2:0<=-x:=by grind
   have:=Rat.mul_nonneg h2 h2
   grind
 unfold sqQ
 have h1:=h w.1
 have h2:=h w.2
 grind
theorem jbu {w:V2} (h:sqQ w≠0):0<sqQ w:=by have:=wbN w;grind
theorem kbt {w:V2} (h:sqQ w=0):w=(0,0):=by
 have hh:∀x:Rat,0<=x*x:=λx=>by
  rcases Rat.le_total (a:=0) (b:=x) with h | h
  .exact Rat.mul_nonneg h h
  .have h2:0<=-x:=by grind
   have:=Rat.mul_nonneg h2 h2
   grind
 unfold sqQ at h
 have h1:=hh w.1
 have h2:=hh w.2
 have e1:w.1*w.1=0:=by grind
 have e2:w.2*w.2=0:=by grind
 have f1:w.1=0:=by rcases Rat.mul_eq_zero.1 e1 with h | h <;> exact h
 have f2:w.2=0:=by rcases Rat.mul_eq_zero.1 e2 with h | h <;> exact h
 exact Prod.ext f1 f2
theorem xbv (a b:V2):sqQ (timesQ a b)=sqQ a*sqQ b:=by unfold sqQ timesQ;simp only;grind
theorem cchkC {X:CpR} (h1:0<X.2.2.1) (h2:0<X.2.2.2.1) (h3:0<X.2.2.2.2.1) (h4:X.1≠X.2.1):cchk (canC X)=0:=by
 have a1:avld (canC X).1=true:=Wbg X.1
 have a2:avld (canC X).2.1=true:=Wbg X.2.1
 have a3:(cps5 (canC X)).all vldR=true:=by simp [cps5,canC,Yf]
 have a4:(cps3 (canC X)).all gt0R=true:=by simp [cps3,canC,gt0R,Wb,h1,h2,h3]
 have a5:av (canC X).1≠av (canC X).2.1:=by
  have e1:av (canC X).1=X.1:=U3 X.1
  have e2:av (canC X).2.1=X.2.1:=U3 X.2.1
  rw [e1,e2];exact h4
 unfold cchk
 rw [if_neg (by simp [a1,a2]),if_neg (by simp [a3]),if_neg (by simp [a4]),if_neg a5]
theorem cchkG {c:Cp} (h:cchk c=0):0<(cpv c).2.2.1/\0<(cpv c).2.2.2.1/\0<(cpv c).2.2.2.2.1/\(cpv c).1≠(cpv c).2.1:=by
 obtain ⟨_,_,_,h4,h5⟩:=UaX h
 simp only [cps3,gt0R,List.all_cons,List.all_nil,Bool.and_true,Bool.and_eq_true,decide_eq_true_eq]at h4
 exact ⟨h4.1,h4.2.1,h4.2.2,h5⟩
def okQ (c:CpR):Prop:=0<c.2.2.1/\0<c.2.2.2.1/\0<c.2.2.2.2.1/\c.1≠c.2.1
theorem Vbh {c:Cp} (h:cchk c=0):okQ (cpv c):=cchkG h
theorem Vbn {X:CpR} (h:okQ X):cchk (canC X)=0:=cchkC h.1 h.2.1 h.2.2.1 h.2.2.2
theorem vbA {c:CpR} (h:okQ c) (hw:sqQ (cW c)≠0):okQ (fiQ c):=by
 obtain ⟨h1,h2,h3,h4⟩:=h
 have p:=jbu hw
 refine ⟨Rat.mul_pos p h2,Rat.mul_pos p h1,Rat.mul_pos p h3,λe=>?_⟩
 have e' : c.1=addQ c.1 (timesQ (cW c) (subQ c.2.1 c.1)):=e
 have t:timesQ (cW c) (subQ c.2.1 c.1)=(0,0):=by
  obtain ⟨T,hT⟩:∃T,timesQ (cW c) (subQ c.2.1 c.1)=T:=⟨_,rfl⟩
  rw [hT]at e' ⊢
  unfold addQ at e'
  have e1:=congrArg Prod.fst e'
  have e2:=congrArg Prod.snd e'
  simp only at e1 e2
  exact Prod.ext (by simp only;grind) (by simp only;grind)
 have s:=xbv (cW c) (subQ c.2.1 c.1)
 rw [t]at s
 have s0:sqQ ((0:Rat),(0:Rat))=0:=by decide +kernel
 rw [s0]at s
 have s1:=(Rat.mul_eq_zero.1 s.symm).resolve_left hw
 have s2:=kbt s1
 unfold subQ at s2
 have e1:=congrArg Prod.fst s2
 have e2:=congrArg Prod.snd s2
 simp only at e1 e2
 exact h4 (Prod.ext (by grind) (by grind))
theorem cb_B {c:CpR} {b:Nat} (h:CB' b c) (hb:b<=1000):CB c:=by
 obtain ⟨h1,h2,h3,h4,h5,h6,h7⟩:=h
 have a1:=zq_1 c.1
 have a2:=zq_2 c.1
 have a3:=zq_1 c.2.1
 have a4:=zq_2 c.2.1
 exact ⟨by omega,by omega,by omega,by omega,by omega,by omega,by omega,by omega,by omega⟩
theorem cl_B {c:CpR} {b:Nat} (h:CB' b c):cl (canC c)<=b:=by
 obtain ⟨h1,h2,h3,h4,h5,h6,h7⟩:=h
 rw [ybc]
 simp only [Nat.max_le]
 exact ⟨h1,h2,h3,h4,h5,h6,h7⟩
theorem uF (c:CpR):WLC (canC c):=⟨Wp _,Wp _,je _,je _,je _,je _,je _⟩
theorem qbo {c d:CpR} (hc:CB c) (hd:CB d) (h:∀p,wV c p=wV d p):cCur c=cCur d:=
 Za6 (Xau hc).canon (Xau hd).canon λx y=>by
  have h1:=Zbb hc (x,y)
  have h2:=Zbb hd (x,y)
  simp only at h1 h2
  rw [h1,h2,h]
theorem XbC {c:CpR} (hc:CB c) (hd:CB (fiQ c)) (hw:sqQ (cW c)≠0):cCur (fiQ c)=cCur c:=qbo hd hc λp=>xbO c p hw
theorem ex_w:sqQ (cW exQ)≠0:=by decide +kernel
theorem WbC:fiQ exQ=((0,0),(2,0),4,1 / 4,1 / 4,2,0):=by decide +kernel
theorem vbL:foQ exQ=(2,0):=by decide +kernel
theorem zbp:CB' 16 exQ:=by unfold CB';decide +kernel
theorem jaW:CB' 200 (fiQ exQ):=by
 have:=ybz zbp
 obtain ⟨h1,h2,h3,h4,h5,h6,h7⟩:=this
 exact ⟨by omega,by omega,by omega,by omega,by omega,by omega,by omega⟩
end Go.Num
namespace Go.Abs
open Go.Num
variable {P:Program} {Γ:Nat->Spec}
def Qz (l:List AV) (K:AV->Prop):Prop:=
 match l with
 | []=>K (.one (.lit (.bool true)))
 | _=>False
theorem Vav (K:AV->Prop):Qz [] K=(K (.one (.lit (.bool true)))):=propext Iff.rfl
@[congr] theorem kbF {K:AV->Prop} {l l' : List AV} (h:l=l'):Qz l K=Qz l' K:=by subst h;rfl
attribute [go_sem] Vav
attribute [go_sem ↓] Vav
theorem xaB:Good Qz:=Va λas=>by
 unfold Qz
 split
 .exact (.ret _)
 .exact .of λK hk=>hk.elim
def Vd (f0 f1 f2 f3 f4:Nat):List AO:=[.m 23 (.t 2),.u 24 (.binn .eql (.t 23) (.c (.one (.lit .nilIface)))),.m 25 (.t 24),.w 26 25 true (.mv (.t 4)),.w 27 25 true (.binn .eql (.t 26) (.c (.one (.lit .nilIface)))),.u 28 (.pick (.t 25) (.t 27) .fa),.m 29 (.t 28),.w 30 29 true (.mv (.t 6)),.w 31 29 true (.binn .eql (.t 30) (.c (.one (.lit .nilIface)))),.u 32 (.pick (.t 29) (.t 31) .fa),.m 33 (.t 32),.w 34 33 true (.mv (.t 5))]
theorem vp {f0 f1 f2 f3 f4:Nat} (Γ:Nat->Spec) (dr:Bool) (Q:S->Prop) (s:S):wpL Γ dr Q (Vd f0 f1 f2 f3 f4) s=wpL Γ dr Q [.m 23 (.t 2),.u 24 (.binn .eql (.t 23) (.c (.one (.lit .nilIface)))),.m 25 (.t 24),.w 26 25 true (.mv (.t 4)),.w 27 25 true (.binn .eql (.t 26) (.c (.one (.lit .nilIface)))),.u 28 (.pick (.t 25) (.t 27) .fa),.m 29 (.t 28),.w 30 29 true (.mv (.t 6)),.w 31 29 true (.binn .eql (.t 30) (.c (.one (.lit .nilIface)))),.u 32 (.pick (.t 29) (.t 31) .fa),.m 33 (.t 32),.w 34 33 true (.mv (.t 5))] s:=eq_of_heq (HEq.refl _)
def Zd (f0 f1 f2 f3 f4:Nat):List AO:=[.u 35 (.pick (.t 33) (.t 34) .fa),.m 36 (.t 35),.w 37 36 true (.fa 0 (.t 1)),.w 38 36 true (.ld none 3 true (.t 37)),.w 39 36 true (.call f4 [(.t 38)]),.w 40 36 true (.sop 1 [(.t 39),(.c (.one (.lit (.string ⟨#[50]⟩))))]),.u 41 (.pick (.t 36) (.t 40) .fa),.m 42 (.t 41),.w 43 42 true (.fa 12 (.t 3)),.w 44 42 true (.ld none 3 true (.t 43)),.w 45 42 true (.call f4 [(.t 44)]),.w 46 42 true (.sop 1 [(.t 45),(.c (.one (.lit (.string ⟨#[52]⟩))))])]
theorem Jp {f0 f1 f2 f3 f4:Nat} (Γ:Nat->Spec) (dr:Bool) (Q:S->Prop) (s:S):wpL Γ dr Q (Zd f0 f1 f2 f3 f4) s=wpL Γ dr Q [.u 35 (.pick (.t 33) (.t 34) .fa),.m 36 (.t 35),.w 37 36 true (.fa 0 (.t 1)),.w 38 36 true (.ld none 3 true (.t 37)),.w 39 36 true (.call f4 [(.t 38)]),.w 40 36 true (.sop 1 [(.t 39),(.c (.one (.lit (.string ⟨#[50]⟩))))]),.u 41 (.pick (.t 36) (.t 40) .fa),.m 42 (.t 41),.w 43 42 true (.fa 12 (.t 3)),.w 44 42 true (.ld none 3 true (.t 43)),.w 45 42 true (.call f4 [(.t 44)]),.w 46 42 true (.sop 1 [(.t 45),(.c (.one (.lit (.string ⟨#[52]⟩))))])] s:=eq_of_heq (HEq.refl _)
def Qd (f0 f1 f2 f3 f4:Nat):List AO:=[.u 47 (.pick (.t 42) (.t 46) .fa),.m 48 (.t 47),.w 49 48 true (.fa 15 (.t 3)),.w 50 48 true (.ld none 3 true (.t 49)),.w 51 48 true (.call f4 [(.t 50)]),.w 52 48 true (.sop 1 [(.t 51),(.c (.one (.lit (.string ⟨#[49,47,52]⟩))))]),.u 53 (.pick (.t 48) (.t 52) .fa),.m 54 (.t 53),.w 55 54 true (.fa 21 (.t 3)),.w 56 54 true (.ld none 3 true (.t 55)),.w 57 54 true (.call f4 [(.t 56)]),.w 58 54 true (.sop 1 [(.t 57),(.c (.one (.lit (.string ⟨#[50]⟩))))])]
theorem jp {f0 f1 f2 f3 f4:Nat} (Γ:Nat->Spec) (dr:Bool) (Q:S->Prop) (s:S):wpL Γ dr Q (Qd f0 f1 f2 f3 f4) s=wpL Γ dr Q [.u 47 (.pick (.t 42) (.t 46) .fa),.m 48 (.t 47),.w 49 48 true (.fa 15 (.t 3)),.w 50 48 true (.ld none 3 true (.t 49)),.w 51 48 true (.call f4 [(.t 50)]),.w 52 48 true (.sop 1 [(.t 51),(.c (.one (.lit (.string ⟨#[49,47,52]⟩))))]),.u 53 (.pick (.t 48) (.t 52) .fa),.m 54 (.t 53),.w 55 54 true (.fa 21 (.t 3)),.w 56 54 true (.ld none 3 true (.t 55)),.w 57 54 true (.call f4 [(.t 56)]),.w 58 54 true (.sop 1 [(.t 57),(.c (.one (.lit (.string ⟨#[50]⟩))))])] s:=eq_of_heq (HEq.refl _)
def zd (f0 f1 f2 f3 f4:Nat):List AO:=[.u 59 (.pick (.t 54) (.t 58) .fa),.m 0 (.t 59)]
theorem Qp {f0 f1 f2 f3 f4:Nat} (Γ:Nat->Spec) (dr:Bool) (Q:S->Prop) (s:S):wpL Γ dr Q (zd f0 f1 f2 f3 f4) s=wpL Γ dr Q [.u 59 (.pick (.t 54) (.t 58) .fa),.m 0 (.t 59)] s:=eq_of_heq (HEq.refl _)
def kk (f0 f1 f2 f3 f4:Nat):AC:=(.seq (.ops false (Vd f0 f1 f2 f3 f4++(Zd f0 f1 f2 f3 f4++(Qd f0 f1 f2 f3 f4++(zd f0 f1 f2 f3 f4)))))
 .ret)
theorem Jt {f0 f1 f2 f3 f4:Nat} (Γ:Nat->Spec) (Q:Ex->S->Prop) (s:S):wpA Γ (kk f0 f1 f2 f3 f4) Q s=wpA Γ (.seq (.ops false (Vd f0 f1 f2 f3 f4++(Zd f0 f1 f2 f3 f4++(Qd f0 f1 f2 f3 f4++(zd f0 f1 f2 f3 f4)))))
 .ret) Q s:=eq_of_heq (HEq.refl _)
def ug (f0 f1 f2 f3 f4:Nat):AC:=(.seq (.ops false [.m 0 .fa])
 (.fg [] (.seq (.ops false [.u 8 (.call f0 []),.u 9 (.call f1 [(.t 8)]),.m 7 (.t 9),.u 10 (.ext 0 (.t 7)),.u 11 (.ext 1 (.t 7)),.u 1 (.alloc [(.lit (.bool false)),.emp,.emp,(.lit (.bool false)),.emp,.emp]),.n (.st none 6 (.t 1) (.t 10)),.m 2 (.t 11)])
 (.fg [1,2] (.seq (.ops false [.u 13 (.call f0 []),.u 14 (.call f2 [(.t 13)]),.m 12 (.t 14),.u 15 (.ext 0 (.t 12)),.u 16 (.ext 1 (.t 12)),.u 3 (.alloc [(.lit (.bool false)),.emp,.emp,(.lit (.bool false)),.emp,.emp,(.lit (.bool false)),.emp,.emp,(.lit (.bool false)),.emp,.emp,(.lit (.bool false)),.emp,.emp,(.lit (.bool false)),.emp,.emp,(.lit (.bool false)),.emp,.emp,(.lit (.bool false)),.emp,.emp,(.lit (.bool false)),.emp,.emp]),.n (.st none 27 (.t 3) (.t 15)),.m 4 (.t 16)])
 (.fg [1,2,3,4] (.seq (.ops true [.u 18 (.call f0 []),.u 19 (.ld none 27 true (.t 3)),.u 20 (.call f3 [(.t 18),(.t 19)]),.m 17 (.t 20),.u 21 (.ext 0 (.t 17)),.u 22 (.ext 1 (.t 17)),.m 5 (.t 21),.m 6 (.t 22)])
 (.fg [1,2,3,4,5,6] (kk f0 f1 f2 f3 f4)))))))))
set_option maxHeartbeats 2000000 in
theorem yaj (hΓ:Holds P Γ) {f fe ff fi fs ft tE:Nat} (he:Γ fe=.dat false vB) (hf:Γ ff=.dat false (VM tE)) (hi:Γ fi=.dat false (vM tE)) (hs:Γ fs=.dat false (xE tE)) (ht:Γ ft=.dat false Jr) (hc:check P f=some (60,(ug fe ff fi fs ft).strip,[.tmp 0])):Sound P f (.dat true Qz):=by
 refine ja hc xaB hΓ (λargs K hcl hfi hG=>?_)
 match args,hG with
 | [],hK=>
  refine ⟨by simp,?_⟩
  have kE:=Ybi
  have wE:=uF exQ
  have lE:=cl_B zbp
  have vE:=jag exQ
  obtain ⟨E,hE⟩:∃E,canC exQ=E:=⟨_,rfl⟩
  have eE:cqR exQ=cpA E:=by rw [<-hE];rfl
  rw [hE]at kE wE lE vE
  have kF:=Vbn (vbA (by have:=Vbh kE;rw [vE]at this;exact this) ex_w)
  have wF:=uF (fiQ exQ)
  have lF:=cl_B jaW
  have vF:=jag (fiQ exQ)
  have hcur:cCur (fiQ exQ)=cCur exQ:=XbC (cb_B zbp (by decide)) (cb_B jaW (by decide)) ex_w
  obtain ⟨Y,hY⟩:∃Y,fiQ exQ=Y:=⟨_,rfl⟩
  rw [hY]at kF wF lF vF hcur
  rw [WbC]at hY
  obtain ⟨F,hF⟩:∃F,canC Y=F:=⟨_,rfl⟩
  have eF:cqR Y=cpA F:=by rw [<-hF];rfl
  rw [hF]at kF wF lF vF
  have cE:fiC E=0:=by rw [Ya5 kE,vE];exact wC_0.2 ex_w
  have sE:smC E F=0:=by unfold smC;rw [if_neg (by omega)];exact kF
  have l1:cl E<=100000:=Nat.le_trans lE (by decide)
  have l2:cl E<=1000:=Nat.le_trans lE (by decide)
  have l3:cl F<=1000:=Nat.le_trans lF (by decide)
  have dc:=decide_eq_true hcur.symm
  have g0:decide (0=0)=true:=rfl
  have e0:=jc tE
  have a2:rv F.2.2.1=4:=by rw [<-hF,<-hY];exact Wb _
  have b2:rv F.2.2.2.1=1 / 4:=by rw [<-hF,<-hY];exact Wb _
  have u2:rv F.2.2.2.2.2.1=2:=by rw [<-hF,<-hY];exact Wb _
  have hYY:fiQ exQ=Y:=by rw [WbC,hY]
  have t2:txR 2=⟨#[50]⟩:=by decide +kernel
  have t4:txR 4=⟨#[52]⟩:=by decide +kernel
  have tq:txR (1 / 4)=⟨#[49,47,52]⟩:=by decide +kernel
  simp only [go_sem,ug,he,hf,hi,hs,eE,kE,vE,cE,hYY,eF,vbL,e0,cpA,cpC,yb,sE,vF,dc,g0,Bool.true_and]
  repeat (first | (refine And.intro (by with_reducible assumption) ?_) | (refine And.intro (Nat.le_trans (by with_reducible assumption) (by decide)) ?_) | (refine And.intro (by decide) ?_))
  have wF1:=wF.2.2.1
  have wF2:=wF.2.2.2.1
  have wF3:=wF.2.2.2.2.2.1
  have hl0:=lF
  unfold cl at hl0
  simp only [Nat.max_le]at hl0
  have lF1:=Nat.le_trans hl0.2.2.1 (by decide:_<=4294967296)
  have lF2:=Nat.le_trans hl0.2.2.2.1 (by decide:_<=4294967296)
  have lF3:=Nat.le_trans hl0.2.2.2.2.2.1 (by decide:_<=4294967296)
  have l22:rz 2<=4294967296:=Nat.le_trans rz_2 (by decide)
  have k1:okT (Rat.num 2):=Or.inr (Or.inl rfl)
  have k2:okT ((Rat.den 2:Nat):Int):=Or.inl rfl
  have k3:okT (Rat.num 4):=Or.inr (Or.inr (Or.inl rfl))
  have k4:okT ((Rat.den 4:Nat):Int):=Or.inl rfl
  have k5:okT (Rat.num (1 / 4)):=Or.inl (by decide +kernel)
  have k6:okT ((Rat.den (1 / 4):Nat):Int):=Or.inr (Or.inr (Or.inl (by decide +kernel)))
  rw [Jt,Jbz,yas,yas,yas]
  rw [vp]
  simp only [go_sem]
  rw [Jp]
  have bb:∀l:List UInt8,(l == l)=true:=λl=>beq_self_eq_true l
  simp only [go_sem,ht,Wb,t2,t4,tq,a2,b2,u2,bb]
  repeat (first | (refine And.intro (by with_reducible assumption) ?_) | (refine And.intro (Nat.le_trans (by with_reducible assumption) (by decide)) ?_) | (refine And.intro (by decide) ?_))
  rw [jp]
  simp only [go_sem,ht,Wb,t2,t4,tq,a2,b2,u2,bb]
  repeat (first | (refine And.intro (by with_reducible assumption) ?_) | (refine And.intro (Nat.le_trans (by with_reducible assumption) (by decide)) ?_) | (refine And.intro (by decide) ?_))
  rw [Qp]
  simp only [go_sem,ht,Wb,t2,t4,tq,a2,b2,u2,bb]
  exact hK
end Go.Abs
end
section
namespace Go.Num
open Go.Abs
theorem ov_d (w:V2):ovQ w=(1 / sqQ w*w.1,1 / sqQ w * -w.2):=by
 unfold ovQ
 refine v2e ?_ ?_
 .simp only;rw [Rat.div_def,Rat.div_def,Rat.one_mul,Rat.mul_comm]
 .simp only;rw [Rat.div_def,Rat.div_def,Rat.one_mul,Rat.mul_comm]
end Go.Num
namespace Go.Abs
open Go.Num
variable {P:Program} {Γ:Nat->Spec}
def ux (l:List AV) (K:AV->Prop):Prop:=
 match l with
 | [a]=>onA (λp=>al p<=1000000/\vldR p.1=true/\K (pQ (ovQ (av p)))) a
 | _=>False
theorem Uax (a:AV) (K:AV->Prop):ux [a] K=(onA (λp=>al p<=1000000/\vldR p.1=true/\K (pQ (ovQ (av p)))) a):=propext Iff.rfl
@[congr] theorem vbG {K:AV->Prop} {l l' : List AV} (h:l=l'):ux l K=ux l' K:=by subst h;rfl
attribute [go_sem] Uax
attribute [go_sem ↓] Uax
theorem WaF:Good ux:=Va λas=>by
 unfold ux
 split
 .exact (ku λ_=>(.and λ_=>(.and λ_=>(.ret _))))
 .exact .of λK hk=>hk.elim
def uv (l:List AV) (K:AV->Prop):Prop:=
 match l with
 | [o,q,w,k,x,y,z]=>onA (λo=>onA (λq=>onA (λw=>onR (λk=>onR (λx=>onR (λy=>onR (λz=>al o<=1000000/\al q<=1000000/\al w<=1000000/\vldR w.1=true/\rl k<=10000000/\rl x<=1000000/\rl y<=1000000/\rl z<=1000000/\K (cpA (o,q,rcan (rv k*rv x),rcan (rv k*rv y),rcan (rv k*rv z),rcan (ovQ (av w)).1,rcan (ovQ (av w)).2))) z) y) x) k) w) q) o
 | _=>False
theorem Jas (o q w k x y z:AV) (K:AV->Prop):uv [o,q,w,k,x,y,z] K=(onA (λo=>onA (λq=>onA (λw=>onR (λk=>onR (λx=>onR (λy=>onR (λz=>al o<=1000000/\al q<=1000000/\al w<=1000000/\vldR w.1=true/\rl k<=10000000/\rl x<=1000000/\rl y<=1000000/\rl z<=1000000/\K (cpA (o,q,rcan (rv k*rv x),rcan (rv k*rv y),rcan (rv k*rv z),rcan (ovQ (av w)).1,rcan (ovQ (av w)).2))) z) y) x) k) w) q) o):=propext Iff.rfl
@[congr] theorem WbI {K:AV->Prop} {l l' : List AV} (h:l=l'):uv l K=uv l' K:=by subst h;rfl
attribute [go_sem] Jas
attribute [go_sem ↓] Jas
theorem QaC:Good uv:=Va λas=>by
 unfold uv
 split
 .exact (ku λ_=>(ku λ_=>(ku λ_=>(Zf λ_=>(Zf λ_=>(Zf λ_=>(Zf λ_=>(.and λ_=>(.and λ_=>(.and λ_=>(.and λ_=>(.and λ_=>(.and λ_=>(.and λ_=>(.and λ_=>(.ret _))))))))))))))))
 .exact .of λK hk=>hk.elim
def JF (l:List AV) (K:AV->Prop):Prop:=
 match l with
 | [c]=>onCp (λc=>cl c<=1000/\cchk c=0/\K (.tup [cqR (if fiC c=0 then fiQ (cpv c) else z27),.one (.lit (.int .i64 (fiC c:Nat)))])) c
 | _=>False
theorem XaX (c:AV) (K:AV->Prop):JF [c] K=(onCp (λc=>cl c<=1000/\cchk c=0/\K (.tup [cqR (if fiC c=0 then fiQ (cpv c) else z27),.one (.lit (.int .i64 (fiC c:Nat)))])) c):=propext Iff.rfl
@[congr] theorem vbO {K:AV->Prop} {l l' : List AV} (h:l=l'):JF l K=JF l' K:=by subst h;rfl
attribute [go_sem] XaX
attribute [go_sem ↓] XaX
theorem kaI:Good JF:=Va λas=>by
 unfold JF
 split
 .exact (yh λ_=>(.and λ_=>(.and λ_=>(.ret _))))
 .exact .of λK hk=>hk.elim
def VF (l:List AV) (K:AV->Prop):Prop:=
 match l with
 | [c]=>onCp (λc=>cl c<=1000/\cchk c=0/\K (.tup [cqR (if seC c=0 then seQ (cpv c) else z27),.one (.lit (.int .i64 (seC c:Nat)))])) c
 | _=>False
theorem JaU (c:AV) (K:AV->Prop):VF [c] K=(onCp (λc=>cl c<=1000/\cchk c=0/\K (.tup [cqR (if seC c=0 then seQ (cpv c) else z27),.one (.lit (.int .i64 (seC c:Nat)))])) c):=propext Iff.rfl
@[congr] theorem ZbR {K:AV->Prop} {l l' : List AV} (h:l=l'):VF l K=VF l' K:=by subst h;rfl
attribute [go_sem] JaU
attribute [go_sem ↓] JaU
theorem ZaM:Good VF:=Va λas=>by
 unfold VF
 split
 .exact (yh λ_=>(.and λ_=>(.and λ_=>(.ret _))))
 .exact .of λK hk=>hk.elim
def jE (l:List AV) (K:AV->Prop):Prop:=
 match l with
 | [c]=>onCp (λc=>cl c<=1000/\cchk c=0/\K (cqR (swQ (cpv c)))) c
 | _=>False
theorem qaM (c:AV) (K:AV->Prop):jE [c] K=(onCp (λc=>cl c<=1000/\cchk c=0/\K (cqR (swQ (cpv c)))) c):=propext Iff.rfl
@[congr] theorem ybR {K:AV->Prop} {l l' : List AV} (h:l=l'):jE l K=jE l' K:=by subst h;rfl
attribute [go_sem] qaM
attribute [go_sem ↓] qaM
theorem zaR:Good jE:=Va λas=>by
 unfold jE
 split
 .exact (yh λ_=>(.and λ_=>(.and λ_=>(.ret _))))
 .exact .of λK hk=>hk.elim
def zah (l:List AV) (K:AV->Prop):Prop:=
 match l with
 | [c]=>onCp (λc=>cl c<=1000/\cchk c=0/\K (.tup [.one (.slice ((alL c).map λX=>cpC (canC X))),.one (.lit (.int .i64 (alC c:Nat)))])) c
 | _=>False
theorem yat (c:AV) (K:AV->Prop):zah [c] K=(onCp (λc=>cl c<=1000/\cchk c=0/\K (.tup [.one (.slice ((alL c).map λX=>cpC (canC X))),.one (.lit (.int .i64 (alC c:Nat)))])) c):=propext Iff.rfl
@[congr] theorem UbG {K:AV->Prop} {l l' : List AV} (h:l=l'):zah l K=zah l' K:=by subst h;rfl
attribute [go_sem] yat
attribute [go_sem ↓] yat
def kag (l:List AV) (K:AV->Prop):Prop:=
 match l with
 | [c,a,b]=>onCp (λc=>onA (λa=>onA (λb=>cl c<=1000/\al a<=1000/\al b<=1000/\avld a=true/\avld b=true/\K (.one (.slice ((enL (cpv c) (av a) (av b)).map λp=>aC (rcan p.1,rcan p.2))))) b) a) c
 | _=>False
theorem Zao (c a b:AV) (K:AV->Prop):kag [c,a,b] K=(onCp (λc=>onA (λa=>onA (λb=>cl c<=1000/\al a<=1000/\al b<=1000/\avld a=true/\avld b=true/\K (.one (.slice ((enL (cpv c) (av a) (av b)).map λp=>aC (rcan p.1,rcan p.2))))) b) a) c):=propext Iff.rfl
@[congr] theorem ybG {K:AV->Prop} {l l' : List AV} (h:l=l'):kag l K=kag l' K:=by subst h;rfl
attribute [go_sem] Zao
attribute [go_sem ↓] Zao
def Ji (f0 f1 f2 f3 f4:Nat):AC:=(.seq (.ops false [.u 1 (.box 6 (.t 0)),.u 2 (.alloc [(.lit (.bool false)),.emp,.emp,(.lit (.bool false)),.emp,.emp])])
 (.fg [1,2] (.seq (.ops true [.u 7 (.call f0 [(.i 1)]),.u 8 (.ld none 6 true (.t 1)),.u 9 (.call f1 [(.t 8)]),.u 10 (.call f2 [(.t 7),(.t 9)]),.m 6 (.t 10),.u 11 (.ext 0 (.t 6)),.u 12 (.ext 1 (.t 6)),.u 3 (.alloc [(.lit (.bool false)),.emp,.emp]),.n (.st none 3 (.t 3) (.t 11)),.m 4 (.t 12)])
 (.fg [1,2,3] (.seq (.ops false [.u 13 (.ld none 6 true (.t 1)),.u 14 (.call f3 [(.t 13)]),.u 5 (.alloc [(.lit (.bool false)),.emp,.emp,(.lit (.bool false)),.emp,.emp]),.n (.st none 6 (.t 5) (.t 14))])
 (.fg [2,3,5] (.seq (.ops true [.u 15 (.ld none 3 true (.t 3)),.u 16 (.fa 0 (.t 5)),.u 17 (.ld none 3 true (.t 16)),.u 18 (.call f4 [(.t 15),(.t 17)]),.u 19 (.ld none 3 true (.t 3)),.u 20 (.fa 3 (.t 5)),.u 21 (.ld none 3 true (.t 20)),.u 22 (.call f4 [(.t 19),(.t 21)]),.u 23 (.build [.x 3 (.t 18),.x 3 (.t 22)]),.n (.st none 6 (.t 2) (.t 23))])
 .ret)))))))
def zf (f0 f1:Nat):AC:=(.seq (.ops false [.u 7 (.box 6 (.t 0)),.u 8 (.box 6 (.t 1)),.u 9 (.box 6 (.t 2)),.u 10 (.box 3 (.t 3)),.u 11 (.box 3 (.t 4)),.u 12 (.box 3 (.t 5)),.u 13 (.box 3 (.t 6)),.u 14 (.alloc [(.lit (.bool false)),.emp,.emp,(.lit (.bool false)),.emp,.emp,(.lit (.bool false)),.emp,.emp,(.lit (.bool false)),.emp,.emp,(.lit (.bool false)),.emp,.emp,(.lit (.bool false)),.emp,.emp,(.lit (.bool false)),.emp,.emp,(.lit (.bool false)),.emp,.emp,(.lit (.bool false)),.emp,.emp])])
 (.fg [7,8,9,10,11,12,13,14] (.seq (.ops false [.u 16 (.ld none 6 true (.t 9)),.u 17 (.call f0 [(.t 16)]),.u 15 (.alloc [(.lit (.bool false)),.emp,.emp,(.lit (.bool false)),.emp,.emp]),.n (.st none 6 (.t 15) (.t 17))])
 (.fg [7,8,10,11,12,13,14,15] (.seq (.ops true [.u 18 (.ld none 6 true (.t 7)),.u 19 (.ld none 6 true (.t 8)),.u 20 (.ld none 3 true (.t 10)),.u 21 (.ld none 3 true (.t 11)),.u 22 (.call f1 [(.t 20),(.t 21)]),.u 23 (.ld none 3 true (.t 10)),.u 24 (.ld none 3 true (.t 12)),.u 25 (.call f1 [(.t 23),(.t 24)]),.u 26 (.ld none 3 true (.t 10)),.u 27 (.ld none 3 true (.t 13)),.u 28 (.call f1 [(.t 26),(.t 27)]),.u 29 (.fa 0 (.t 15)),.u 30 (.ld none 3 true (.t 29)),.u 31 (.fa 3 (.t 15)),.u 32 (.ld none 3 true (.t 31)),.u 33 (.build [.x 6 (.t 18),.x 6 (.t 19),.x 3 (.t 22),.x 3 (.t 25),.x 3 (.t 28),.x 3 (.t 30),.x 3 (.t 32)]),.n (.st none 27 (.t 14) (.t 33))])
 .ret)))))
def xd (f0 f1 f2 f3 f4:Nat):AC:=(.seq (.ops false [.u 1 (.box 27 (.t 0)),.u 2 (.alloc [(.lit (.bool false)),.emp,.emp,(.lit (.bool false)),.emp,.emp,(.lit (.bool false)),.emp,.emp,(.lit (.bool false)),.emp,.emp,(.lit (.bool false)),.emp,.emp,(.lit (.bool false)),.emp,.emp,(.lit (.bool false)),.emp,.emp,(.lit (.bool false)),.emp,.emp,(.lit (.bool false)),.emp,.emp]),.m 3 (.i 0)])
 (.fg [1,2] (.seq (.ops false [.u 6 (.ld none 27 true (.t 1)),.u 7 (.call f0 [(.t 6)]),.u 4 (.alloc [(.lit (.bool false)),.emp,.emp,(.lit (.bool false)),.emp,.emp]),.n (.st none 6 (.t 4) (.t 7))])
 (.fg [1,2,4] (.seq (.ops false [.u 8 (.ld none 6 true (.t 4)),.u 9 (.call f1 [(.t 8)]),.u 5 (.alloc [(.lit (.bool false)),.emp,.emp]),.n (.st none 3 (.t 5) (.t 9))])
 (.fg [1,2,4,5] (.seq (.seq (.ops false [.u 10 (.ld none 3 true (.t 5)),.u 11 (.call f2 [(.t 10)])])
 (.fg [1,2,4,5,11] (.cond (.t 11) (.seq (.ops false [.u 12 (.build [.z [(.lit (.bool false)),.emp,.emp,(.lit (.bool false)),.emp,.emp,(.lit (.bool false)),.emp,.emp,(.lit (.bool false)),.emp,.emp,(.lit (.bool false)),.emp,.emp,(.lit (.bool false)),.emp,.emp,(.lit (.bool false)),.emp,.emp,(.lit (.bool false)),.emp,.emp,(.lit (.bool false)),.emp,.emp]]),.n (.st none 27 (.t 2) (.t 12)),.m 3 (.i 8)])
 .ret) .skip)))
 (.fg [1,2,4,5] (.seq (.ops true [.u 13 (.fa 0 (.t 1)),.u 14 (.ld none 6 true (.t 13)),.u 15 (.ld none 27 true (.t 1)),.u 16 (.call f3 [(.t 15)]),.u 17 (.ld none 6 true (.t 4)),.u 18 (.ld none 3 true (.t 5)),.u 19 (.fa 15 (.t 1)),.u 20 (.ld none 3 true (.t 19)),.u 21 (.fa 12 (.t 1)),.u 22 (.ld none 3 true (.t 21)),.u 23 (.fa 18 (.t 1)),.u 24 (.ld none 3 true (.t 23)),.u 25 (.call f4 [(.t 14),(.t 16),(.t 17),(.t 18),(.t 20),(.t 22),(.t 24)]),.n (.st none 27 (.t 2) (.t 25)),.m 3 (.i 0)])
 .ret)))))))))
def Jd (f0 f1 f2 f3 f4:Nat):AC:=(.seq (.ops false [.u 1 (.box 27 (.t 0)),.u 2 (.alloc [(.lit (.bool false)),.emp,.emp,(.lit (.bool false)),.emp,.emp,(.lit (.bool false)),.emp,.emp,(.lit (.bool false)),.emp,.emp,(.lit (.bool false)),.emp,.emp,(.lit (.bool false)),.emp,.emp,(.lit (.bool false)),.emp,.emp,(.lit (.bool false)),.emp,.emp,(.lit (.bool false)),.emp,.emp]),.m 3 (.i 0)])
 (.fg [1,2] (.seq (.ops false [.u 6 (.ld none 27 true (.t 1)),.u 7 (.call f0 [(.t 6)]),.u 4 (.alloc [(.lit (.bool false)),.emp,.emp,(.lit (.bool false)),.emp,.emp]),.n (.st none 6 (.t 4) (.t 7))])
 (.fg [1,2,4] (.seq (.ops false [.u 8 (.ld none 6 true (.t 4)),.u 9 (.call f1 [(.t 8)]),.u 5 (.alloc [(.lit (.bool false)),.emp,.emp]),.n (.st none 3 (.t 5) (.t 9))])
 (.fg [1,2,4,5] (.seq (.seq (.ops false [.u 10 (.ld none 3 true (.t 5)),.u 11 (.call f2 [(.t 10)])])
 (.fg [1,2,4,5,11] (.cond (.t 11) (.seq (.ops false [.u 12 (.build [.z [(.lit (.bool false)),.emp,.emp,(.lit (.bool false)),.emp,.emp,(.lit (.bool false)),.emp,.emp,(.lit (.bool false)),.emp,.emp,(.lit (.bool false)),.emp,.emp,(.lit (.bool false)),.emp,.emp,(.lit (.bool false)),.emp,.emp,(.lit (.bool false)),.emp,.emp,(.lit (.bool false)),.emp,.emp]]),.n (.st none 27 (.t 2) (.t 12)),.m 3 (.i 8)])
 .ret) .skip)))
 (.fg [1,2,4,5] (.seq (.ops true [.u 13 (.fa 6 (.t 1)),.u 14 (.ld none 6 true (.t 13)),.u 15 (.ld none 27 true (.t 1)),.u 16 (.call f3 [(.t 15)]),.u 17 (.ld none 6 true (.t 4)),.u 18 (.ld none 3 true (.t 5)),.u 19 (.fa 15 (.t 1)),.u 20 (.ld none 3 true (.t 19)),.u 21 (.fa 18 (.t 1)),.u 22 (.ld none 3 true (.t 21)),.u 23 (.fa 12 (.t 1)),.u 24 (.ld none 3 true (.t 23)),.u 25 (.call f4 [(.t 14),(.t 16),(.t 17),(.t 18),(.t 20),(.t 22),(.t 24)]),.n (.st none 27 (.t 2) (.t 25)),.m 3 (.i 0)])
 .ret)))))))))
def Yh (f0:Nat):AC:=(.seq (.ops false [.u 1 (.box 27 (.t 0)),.u 2 (.alloc [(.lit (.bool false)),.emp,.emp,(.lit (.bool false)),.emp,.emp,(.lit (.bool false)),.emp,.emp,(.lit (.bool false)),.emp,.emp,(.lit (.bool false)),.emp,.emp,(.lit (.bool false)),.emp,.emp,(.lit (.bool false)),.emp,.emp,(.lit (.bool false)),.emp,.emp,(.lit (.bool false)),.emp,.emp])])
 (.fg [1,2] (.seq (.ops false [.u 4 (.ld none 27 true (.t 1)),.u 5 (.call f0 [(.t 4)]),.u 3 (.alloc [(.lit (.bool false)),.emp,.emp,(.lit (.bool false)),.emp,.emp]),.n (.st none 6 (.t 3) (.t 5))])
 (.fg [1,2,3] (.seq (.ops false [.u 6 (.fa 6 (.t 1)),.u 7 (.ld none 6 true (.t 6)),.u 8 (.fa 0 (.t 1)),.u 9 (.ld none 6 true (.t 8)),.u 10 (.fa 18 (.t 1)),.u 11 (.ld none 3 true (.t 10)),.u 12 (.fa 15 (.t 1)),.u 13 (.ld none 3 true (.t 12)),.u 14 (.fa 12 (.t 1)),.u 15 (.ld none 3 true (.t 14)),.u 16 (.fa 0 (.t 3)),.u 17 (.ld none 3 true (.t 16)),.u 18 (.fa 3 (.t 3)),.u 19 (.ld none 3 true (.t 18)),.u 20 (.build [.x 6 (.t 7),.x 6 (.t 9),.x 3 (.t 11),.x 3 (.t 13),.x 3 (.t 15),.x 3 (.t 17),.x 3 (.t 19)]),.n (.st none 27 (.t 2) (.t 20))])
 .ret)))))
theorem Xae (hΓ:Holds P Γ) {f fo fq fd fb fm:Nat} (ho:Γ fo=.dat false yz) (hq:Γ fq=.dat false yC) (hd:Γ fd=.dat false Jy) (hb:Γ fb=.dat false uD) (hm:Γ fm=.dat false Wk) (hc:check P f=some (24,(Ji fo fq fd fb fm).strip,[.cell 2 6 true])):Sound P f (.dat false ux):=by
 refine ja hc WaF hΓ (λargs K hcl hfi hG=>?_)
 match args,hG with
 | [a],hG=>
  obtain ⟨p,rfl,wp,hl,hvp,hK⟩:=hG
  refine ⟨by simp,?_⟩
  have hl2:al p<=100000000:=Nat.le_trans hl (by decide)
  have s:=xH (av p)
  have z:=Vah wp
  have z1:=zq_1 (av p)
  have z2:=zq_2 (av p)
  have i1:((1:Int):Rat)=1:=rfl
  have b1:=rz_1
  rw [ov_d]at hK
  obtain ⟨n,hn⟩:∃n,sqQ (av p)=n:=⟨_,rfl⟩
  rw [hn]at hK s
  have d1:=JaP 1 n
  obtain ⟨k,hk⟩:∃k,1 / n=k:=⟨_,rfl⟩
  rw [hk]at hK d1
  have s1:rz n<=1073741824:=by omega
  have d2:rz k<=4294967296:=by omega
  have l1:rz (av p).1<=4294967296:=by omega
  have l2:rz (-(av p).2)<=4294967296:=by rw [yA];omega
  have l3:rz 1<=1073741824:=by omega
  simp only [go_sem,Ji,ho,hq,hd,hb,hm,Vn,yb,i1,hn,Wb,hk,barQ]
  repeat (first | (refine And.intro (by with_reducible assumption) ?_) | (refine And.intro (Nat.le_trans (by with_reducible assumption) (by decide)) ?_) | (refine And.intro (by decide) ?_))
  exact hK
theorem Yag (hΓ:Holds P Γ) {f fo fm:Nat} (ho:Γ fo=.dat false ux) (hm:Γ fm=.dat false Wk) (hc:check P f=some (34,(zf fo fm).strip,[.cell 14 27 true])):Sound P f (.dat false uv):=by
 refine ja hc QaC hΓ (λargs K hcl hfi hG=>?_)
 match args,hG with
 | [a1,a2,a3,a4,a5,a6,a7],hG=>
  obtain ⟨o,rfl,wo,q,rfl,wq,w,rfl,ww,k,rfl,wk,x,rfl,wx,y,rfl,wy,z,rfl,wz,lo,lq,lw,vw,lk,lx,ly,lz,hK⟩:=hG
  refine ⟨by simp,?_⟩
  simp only [go_sem,zf,ho,hm,Vn,rA,yb]
  repeat (first | (refine And.intro (by with_reducible assumption) ?_) | (refine And.intro (Nat.le_trans (by with_reducible assumption) (by decide)) ?_) | (refine And.intro (by decide) ?_))
  exact hK
theorem zaF (hΓ:Holds P Γ) {f fw fq fz ff fg:Nat} (hw' : Γ fw=.dat false kD) (hq:Γ fq=.dat false yC) (hz:Γ fz=.dat true Yv) (hf:Γ ff=.dat false Ws) (hg:Γ fg=.dat false uv) (hc:check P f=some (26,(xd fw fq fz ff fg).strip,[.cell 2 27 true,.tmp 3])):Sound P f (.dat false JF):=by
 refine ja hc kaI hΓ (λargs K hcl hfi hG=>?_)
 match args,hG with
 | [a],hG=>
  obtain ⟨c,rfl,hw,hl,h0,hK⟩:=hG
  refine ⟨by simp,?_⟩
  have hl2:cl c<=1000000:=Nat.le_trans hl (by decide)
  have hcan:=Vbo hw h0
  obtain ⟨wo,wQ,w1,w2,w3,w4,w5⟩:=id hw
  have hl0:=hl2
  unfold cl at hl0
  simp only [Nat.max_le]at hl0
  obtain ⟨l1,l2,l3,l4,l5,l6,l7⟩:=hl0
  have hB:=kaL hw hl
  have wW:WLA c.2.2.2.2.2:=⟨w4,w5⟩
  have lW:al c.2.2.2.2.2<=1000000:=cl_w hl2
  have vW:vldR c.2.2.2.2.2.1=true:=(qbf h0).2.2.2.1
  have lW2:al c.2.2.2.2.2<=100000000:=Nat.le_trans lW (by decide)
  have aW:av c.2.2.2.2.2=cW (cpv c):=rfl
  have s:=xH (cW (cpv c))
  have zw:zq (cW (cpv c))<=1000:=Nat.max_le.2 ⟨hB.2.2.2.2.2.1,hB.2.2.2.2.2.2⟩
  have n1:fiC c=wC (cW (cpv c)):=Ya5 h0
  rw [n1]at hK
  obtain ⟨n,hn⟩:∃n,sqQ (cW (cpv c))=n:=⟨_,rfl⟩
  rw [hn]at s
  have s1:rz n<=10000000:=by omega
  have s2:rz n<=4294967296:=by omega
  by_cases hn0:n=0
  .have e8:wC (cW (cpv c))=8:=if_pos (by rw [hn];exact hn0)
   rw [e8,if_neg (by decide)]at hK
   unfold cqR z27 at hK
   simp only [ub]at hK
   have dz:=decide_eq_true hn0
   simp only [go_sem,xd,hw',hq,hz,cpA,cpC,aA,Vn,rA,yb,aW,hn,Wb,dz]
   repeat (first | (refine And.intro (by with_reducible assumption) ?_) | (refine And.intro (Nat.le_trans (by with_reducible assumption) (by decide)) ?_) | (refine And.intro (by decide) ?_))
   exact hK
  .have e0:wC (cW (cpv c))=0:=if_neg (by rw [hn];exact hn0)
   rw [e0,if_pos rfl]at hK
   have dz:=decide_eq_false hn0
   obtain ⟨D,hD⟩:∃D,foQ (cpv c)=D:=⟨_,rfl⟩
   have wD:WLA (rcan D.1,rcan D.2):=Wp D
   have lD:al (rcan D.1,rcan D.2)<=1000000:=by
    have:=ka9 hB
    rw [hD]at this
    exact Nat.le_trans this (by decide)
   have e1:canC (fiQ (cpv c))=(c.1,(rcan D.1,rcan D.2),rcan (n*rv c.2.2.2.1),rcan (n*rv c.2.2.1),rcan (n*rv c.2.2.2.2.1),rcan (ovQ (cW (cpv c))).1,rcan (ovQ (cW (cpv c))).2):=by
    have e2:c.1=(rcan (cpv c).1.1,rcan (cpv c).1.2):=by
     have:=congrArg Prod.fst hcan
     exact this.symm
    rw [e2,<-hD,<-hn];rfl
   rw [uaX,e1]at hK
   simp only [go_sem,xd,hw',hq,hz,hf,hg,cpA,cpC,aA,Vn,rA,yb,aW,hn,Wb,dz,hD]
   repeat (first | (refine And.intro (by with_reducible assumption) ?_) | (refine And.intro (Nat.le_trans (by with_reducible assumption) (by decide)) ?_) | (refine And.intro (by decide) ?_))
   exact hK
theorem xaC (hΓ:Holds P Γ) {f fw fq fz ff fg:Nat} (hw' : Γ fw=.dat false yu) (hq:Γ fq=.dat false yC) (hz:Γ fz=.dat true Yv) (hf:Γ ff=.dat false Ws) (hg:Γ fg=.dat false uv) (hc:check P f=some (26,(Jd fw fq fz ff fg).strip,[.cell 2 27 true,.tmp 3])):Sound P f (.dat false VF):=by
 refine ja hc ZaM hΓ (λargs K hcl hfi hG=>?_)
 match args,hG with
 | [a],hG=>
  obtain ⟨c,rfl,hw,hl,h0,hK⟩:=hG
  refine ⟨by simp,?_⟩
  have hl2:cl c<=1000000:=Nat.le_trans hl (by decide)
  have hl3:cl c<=100000000:=Nat.le_trans hl (by decide)
  have hcan:=Vbo hw h0
  obtain ⟨wo,wQ,w1,w2,w3,w4,w5⟩:=id hw
  have hl0:=hl2
  unfold cl at hl0
  simp only [Nat.max_le]at hl0
  obtain ⟨l1,l2,l3,l4,l5,l6,l7⟩:=hl0
  have hB:=kaL hw hl
  obtain ⟨R,hR⟩:∃R,reQ (cpv c)=R:=⟨_,rfl⟩
  have hR' : rsQ (cpv c)=R:=hR
  have zr:=Va5 hB
  rw [hR']at zr
  have wW:WLA (rcan R.1,rcan R.2):=Wp R
  have vW:vldR (rcan R.1)=true:=Yf _
  have lW:al (rcan R.1,rcan R.2)<=1000000:=Nat.le_trans zr (by decide)
  have lW2:al (rcan R.1,rcan R.2)<=100000000:=Nat.le_trans zr (by decide)
  have s:=xH R
  have n1:seC c=wC R:=by rw [Jbp h0,hR']
  rw [n1]at hK
  obtain ⟨n,hn⟩:∃n,sqQ R=n:=⟨_,rfl⟩
  rw [hn]at s
  have s1:rz n<=10000000:=by omega
  have s2:rz n<=4294967296:=by omega
  by_cases hn0:n=0
  .have e8:wC R=8:=if_pos (by rw [hn];exact hn0)
   rw [e8,if_neg (by decide)]at hK
   unfold cqR z27 at hK
   simp only [ub]at hK
   have dz:=decide_eq_true hn0
   simp only [go_sem,Jd,hw',hq,hz,cpA,cpC,aA,Vn,rA,yb,hR,U3,hn,Wb,dz]
   repeat (first | (refine And.intro (by with_reducible assumption) ?_) | (refine And.intro (Nat.le_trans (by with_reducible assumption) (by decide)) ?_) | (refine And.intro (by decide) ?_))
   exact hK
  .have e0:wC R=0:=if_neg (by rw [hn];exact hn0)
   rw [e0,if_pos rfl]at hK
   have dz:=decide_eq_false hn0
   obtain ⟨D,hD⟩:∃D,foQ (cpv c)=D:=⟨_,rfl⟩
   have wD:WLA (rcan D.1,rcan D.2):=Wp D
   have lD:al (rcan D.1,rcan D.2)<=1000000:=by
    have:=ka9 hB
    rw [hD]at this
    exact Nat.le_trans this (by decide)
   have e1:canC (seQ (cpv c))=(c.2.1,(rcan D.1,rcan D.2),rcan (n*rv c.2.2.2.1),rcan (n*rv c.2.2.2.2.1),rcan (n*rv c.2.2.1),rcan (ovQ R).1,rcan (ovQ R).2):=by
    have e2:c.2.1=(rcan (cpv c).2.1.1,rcan (cpv c).2.1.2):=by
     have:=congrArg (λx:Cp=>x.2.1) hcan
     exact this.symm
    rw [e2,<-hD,<-hn,<-hR];rfl
   rw [uaX,e1]at hK
   simp only [go_sem,Jd,hw',hq,hz,hf,hg,cpA,cpC,aA,Vn,rA,yb,hR,U3,hn,Wb,dz,hD]
   repeat (first | (refine And.intro (by with_reducible assumption) ?_) | (refine And.intro (Nat.le_trans (by with_reducible assumption) (by decide)) ?_) | (refine And.intro (by decide) ?_))
   exact hK
theorem XaE (hΓ:Holds P Γ) {f fr:Nat} (hr:Γ fr=.dat false yu) (hc:check P f=some (21,(Yh fr).strip,[.cell 2 27 true])):Sound P f (.dat false jE):=by
 refine ja hc zaR hΓ (λargs K hcl hfi hG=>?_)
 match args,hG with
 | [a],hG=>
  obtain ⟨c,rfl,hw,hl,h0,hK⟩:=hG
  refine ⟨by simp,?_⟩
  have hl3:cl c<=100000000:=Nat.le_trans hl (by decide)
  have hcan:=Vbo hw h0
  obtain ⟨R,hR⟩:∃R,reQ (cpv c)=R:=⟨_,rfl⟩
  have e1:canC (swQ (cpv c))=(c.2.1,c.1,c.2.2.2.2.1,c.2.2.2.1,c.2.2.1,rcan R.1,rcan R.2):=by
   have e2:canC (swQ (cpv c))=((canC (cpv c)).2.1,(canC (cpv c)).1,(canC (cpv c)).2.2.2.2.1,(canC (cpv c)).2.2.2.1,(canC (cpv c)).2.2.1,rcan (reQ (cpv c)).1,rcan (reQ (cpv c)).2):=rfl
   rw [e2,hcan,hR]
  rw [uaX,e1]at hK
  simp only [go_sem,Yh,hr,cpA,cpC,yb,hR]
  repeat (first | (refine And.intro (by with_reducible assumption) ?_) | (refine And.intro (Nat.le_trans (by with_reducible assumption) (by decide)) ?_) | (refine And.intro (by decide) ?_))
  exact hK
end Go.Abs
end
section
namespace Go.Num
open Go.Abs
theorem jaV:cl (canC z27)<=0:=by rw [ybc];unfold z27 zq;simp only [rz_0];decide
end Go.Num
namespace Go.Abs
open Go.Num
variable {P:Program} {Γ:Nat->Spec}
theorem kbx (c:Cp):cpA c=.agg (cpC c):=eq_of_heq (HEq.refl _)
theorem vbc (k:Cp->Prop) (c:Cp):onCp k (.agg (cpC c))=(WLC c/\k c):=zo ZaK (λc=>WLC c/\k c) c
theorem Qak (c:Cp):(cpC c).length=27:=eq_of_heq (HEq.refl _)
theorem Uap (c:Cp):(cpC c).take 27=cpC c:=List.take_of_length_le (Nat.le_of_eq (Qak c))
theorem Uaq (c:Cp):(cpC c).drop 0=cpC c:=eq_of_heq (HEq.refl _)
theorem XaP (h:Nat->HB) (c:Cp):(cpC c).map (datC h)=cpC c:=eq_of_heq (HEq.refl _)
theorem waG (c:Cp):(cpC c).flatMap ownC=[]:=eq_of_heq (HEq.refl _)
theorem gE1x (K:List C->Prop) (e0 e1:List C) (r:List (List C)):getE K (e0::e1::r) 1=K e1:=by simp [getE]
theorem gE2x (K:List C->Prop) (e0 e1 e2:List C) (r:List (List C)):getE K (e0::e1::e2::r) 2=K e2:=by simp [getE]
theorem gE3x (K:List C->Prop) (e0 e1 e2 e3:List C) (r:List (List C)):getE K (e0::e1::e2::e3::r) 3=K e3:=by simp [getE]
theorem gE4x (K:List C->Prop) (e0 e1 e2 e3 e4:List C) (r:List (List C)):getE K (e0::e1::e2::e3::e4::r) 4=K e4:=by simp [getE]
theorem gE5x (K:List C->Prop) (e0 e1 e2 e3 e4 e5:List C) (r:List (List C)):getE K (e0::e1::e2::e3::e4::e5::r) 5=K e5:=by simp [getE]
attribute [go_sem] kbx vbc Qak Uap Uaq XaP waG gE1x gE2x gE3x gE4x gE5x
attribute [go_sem ↓] kbx vbc Qak Uap Uaq XaP waG gE1x gE2x gE3x gE4x gE5x
def ZL (l:List AV) (K:AV->Prop):Prop:=
 match l with
 | [c]=>onCp (λc=>cl c<=1048576/\K (.one (.lit (.bool true)))) c
 | _=>False
theorem ZO (c:AV) (K:AV->Prop):ZL [c] K=(onCp (λc=>cl c<=1048576/\K (.one (.lit (.bool true)))) c):=propext Iff.rfl
@[congr] theorem xbr {K:AV->Prop} {l l' : List AV} (h:l=l'):ZL l K=ZL l' K:=by subst h;rfl
attribute [go_sem] ZO
attribute [go_sem ↓] ZO
end Go.Abs
end
section
namespace Go.Abs
open Go.Num
variable {P:Program} {Γ:Nat->Spec}
def Zn (l:List AV) (K:AV->Prop):Prop:=
 match l with
 | [c]=>onCp (λc=>cl c<=1048576/\K (.one (.lit (.bool true)))) c
 | _=>False
theorem WR (c:AV) (K:AV->Prop):Zn [c] K=(onCp (λc=>cl c<=1048576/\K (.one (.lit (.bool true)))) c):=propext Iff.rfl
@[congr] theorem Jbr {K:AV->Prop} {l l' : List AV} (h:l=l'):Zn l K=Zn l' K:=by subst h;rfl
attribute [go_sem] WR
attribute [go_sem ↓] WR
theorem Z8:Good Zn:=Va λas=>by
 unfold Zn
 split
 .exact (yh λ_=>(.and λ_=>(.ret _)))
 .exact .of λK hk=>hk.elim
def Jb (f0 f1 f2 f3 f4 f5 f6 f7 f8 f9 f10 f11 f12 f13:Nat):AC:=(.seq (.ops false [.u 1 (.box 27 (.t 0)),.m 2 .fa])
 (.fg [1] (.seq (.seq (.ops false [.u 17 (.call f0 []),.u 18 (.un .not (.t 17)),.m 19 (.t 18),.w 20 19 false (.ld none 27 true (.t 1)),.w 21 19 false (.call f1 [(.t 20)]),.w 22 19 false (.un .not (.t 21)),.u 23 (.pick (.t 19) .tr (.t 22))])
 (.fg [1,23] (.cond (.t 23) (.seq (.ops false [.u 24 (.call f0 []),.m 2 (.t 24)])
 .ret) .skip)))
 (.fg [1] (.seq (.ops false [.u 26 (.ld none 27 true (.t 1)),.u 27 (.call f2 [(.t 26)]),.m 25 (.t 27),.u 28 (.ext 0 (.t 25)),.u 29 (.ext 1 (.t 25)),.u 3 (.alloc [(.lit (.bool false)),.emp,.emp,(.lit (.bool false)),.emp,.emp]),.n (.st none 6 (.t 3) (.t 28)),.m 4 (.t 29)])
 (.fg [1,3,4] (.seq (.ops false [.u 31 (.ld none 27 true (.t 1)),.u 32 (.call f3 [(.t 31)]),.m 30 (.t 32),.u 33 (.ext 0 (.t 30)),.u 34 (.ext 1 (.t 30)),.u 5 (.alloc [(.lit (.bool false)),.emp,.emp,(.lit (.bool false)),.emp,.emp,(.lit (.bool false)),.emp,.emp,(.lit (.bool false)),.emp,.emp,(.lit (.bool false)),.emp,.emp,(.lit (.bool false)),.emp,.emp,(.lit (.bool false)),.emp,.emp,(.lit (.bool false)),.emp,.emp,(.lit (.bool false)),.emp,.emp]),.n (.st none 27 (.t 5) (.t 33)),.m 6 (.t 34)])
 (.fg [1,3,4,5,6] (.seq (.ops false [.u 36 (.ld none 27 true (.t 1)),.u 37 (.call f4 [(.t 36)]),.m 35 (.t 37),.u 38 (.ext 0 (.t 35)),.u 39 (.ext 1 (.t 35)),.u 7 (.alloc [(.lit (.bool false)),.emp,.emp,(.lit (.bool false)),.emp,.emp,(.lit (.bool false)),.emp,.emp,(.lit (.bool false)),.emp,.emp,(.lit (.bool false)),.emp,.emp,(.lit (.bool false)),.emp,.emp,(.lit (.bool false)),.emp,.emp,(.lit (.bool false)),.emp,.emp,(.lit (.bool false)),.emp,.emp]),.n (.st none 27 (.t 7) (.t 38)),.m 8 (.t 39)])
 (.fg [1,3,4,5,6,7,8] (.seq (.ops false [.u 41 (.ld none 27 true (.t 1)),.u 42 (.call f5 [(.t 41)]),.m 40 (.t 42),.u 43 (.ext 0 (.t 40)),.u 44 (.ext 1 (.t 40)),.u 9 (.alloc [(.lit (.bool false)),.emp,.emp,(.lit (.bool false)),.emp,.emp,(.lit (.bool false)),.emp,.emp,(.lit (.bool false)),.emp,.emp,(.lit (.bool false)),.emp,.emp,(.lit (.bool false)),.emp,.emp,(.lit (.bool false)),.emp,.emp,(.lit (.bool false)),.emp,.emp,(.lit (.bool false)),.emp,.emp]),.n (.st none 27 (.t 9) (.t 43)),.m 10 (.t 44)])
 (.fg [1,3,4,5,6,7,8,9,10] (.seq (.ops false [.u 45 (.build [.z [(.lit (.bool false)),.emp,.emp,(.lit (.bool false)),.emp,.emp,(.lit (.bool false)),.emp,.emp,(.lit (.bool false)),.emp,.emp,(.lit (.bool false)),.emp,.emp,(.lit (.bool false)),.emp,.emp,(.lit (.bool false)),.emp,.emp,(.lit (.bool false)),.emp,.emp,(.lit (.bool false)),.emp,.emp]]),.u 11 (.alloc [(.lit (.bool false)),.emp,.emp,(.lit (.bool false)),.emp,.emp,(.lit (.bool false)),.emp,.emp,(.lit (.bool false)),.emp,.emp,(.lit (.bool false)),.emp,.emp,(.lit (.bool false)),.emp,.emp,(.lit (.bool false)),.emp,.emp,(.lit (.bool false)),.emp,.emp,(.lit (.bool false)),.emp,.emp]),.n (.st none 27 (.t 11) (.t 45))])
 (.fg [1,3,4,5,6,7,8,9,10,11] (.seq (.seq (.ops false [.u 46 (.ld none 27 true (.t 1)),.u 47 (.call f6 [(.t 46)]),.m 12 (.t 47)])
 (.fg [1,3,4,5,6,7,8,9,10,11,12] (.seq (.ops false [.m 48 (.t 12),.u 49 (.bin .neq (.t 48) (.i 0))])
 (.fg [1,3,4,5,6,7,8,9,10,11,12,49] (.cond (.t 49) (.seq (.ops false [.m 50 (.t 4),.u 51 (.call f7 [(.t 50)]),.m 52 (.t 12),.u 53 (.bin .eql (.t 51) (.t 52)),.m 54 (.t 53),.w 55 54 true (.mv (.t 6)),.w 56 54 true (.call f7 [(.t 55)]),.w 57 54 true (.mv (.t 12)),.w 58 54 true (.bin .eql (.t 56) (.t 57)),.u 59 (.pick (.t 54) (.t 58) .fa),.m 60 (.t 59),.w 61 60 true (.mv (.t 8)),.w 62 60 true (.call f7 [(.t 61)]),.w 63 60 true (.mv (.t 12)),.w 64 60 true (.bin .eql (.t 62) (.t 63)),.u 65 (.pick (.t 60) (.t 64) .fa),.m 66 (.t 65),.w 67 66 true (.mv (.t 10)),.w 68 66 true (.call f7 [(.t 67)]),.w 69 66 true (.mv (.t 12)),.w 70 66 true (.bin .eql (.t 68) (.t 69)),.u 71 (.pick (.t 66) (.t 70) .fa),.m 72 (.t 71),.w 73 72 true (.ld none 6 true (.t 3)),.w 74 72 true (.build [.z [(.lit (.bool false)),.emp,.emp,(.lit (.bool false)),.emp,.emp]]),.w 75 72 true (.call f8 [(.t 73),(.t 74)]),.u 76 (.pick (.t 72) (.t 75) .fa),.m 77 (.t 76),.w 78 77 true (.ld none 27 true (.t 5)),.w 79 77 true (.ld none 27 true (.t 11)),.w 80 77 true (.call f9 [(.t 78),(.t 79)]),.u 81 (.pick (.t 77) (.t 80) .fa),.m 82 (.t 81),.w 83 82 true (.ld none 27 true (.t 7)),.w 84 82 true (.ld none 27 true (.t 11)),.w 85 82 true (.call f9 [(.t 83),(.t 84)]),.u 86 (.pick (.t 82) (.t 85) .fa),.m 87 (.t 86),.w 88 87 true (.ld none 27 true (.t 9)),.w 89 87 true (.ld none 27 true (.t 11)),.w 90 87 true (.call f9 [(.t 88),(.t 89)]),.u 91 (.pick (.t 87) (.t 90) .fa),.m 2 (.t 91)])
 .ret) .skip)))))
 (.fg [1,3,4,5,6,7,8,9,10] (.seq (.ops false [.u 93 (.ld none 27 true (.t 1)),.u 94 (.call f10 [(.t 93)]),.m 92 (.t 94),.u 95 (.ext 0 (.t 92)),.u 96 (.ext 1 (.t 92)),.u 13 (.alloc [(.lit (.bool false)),.emp,.emp,(.lit (.bool false)),.emp,.emp,(.lit (.bool false)),.emp,.emp,(.lit (.bool false)),.emp,.emp,(.lit (.bool false)),.emp,.emp,(.lit (.bool false)),.emp,.emp,(.lit (.bool false)),.emp,.emp,(.lit (.bool false)),.emp,.emp,(.lit (.bool false)),.emp,.emp]),.n (.st none 27 (.t 13) (.t 95)),.m 14 (.t 96)])
 (.fg [1,3,4,5,6,7,8,9,10,13,14] (.seq (.ops false [.u 98 (.ld none 27 true (.t 1)),.u 99 (.call f11 [(.t 98)]),.m 97 (.t 99),.u 100 (.ext 0 (.t 97)),.u 101 (.ext 1 (.t 97)),.u 15 (.alloc [(.lit (.bool false)),.emp,.emp,(.lit (.bool false)),.emp,.emp,(.lit (.bool false)),.emp,.emp,(.lit (.bool false)),.emp,.emp,(.lit (.bool false)),.emp,.emp,(.lit (.bool false)),.emp,.emp,(.lit (.bool false)),.emp,.emp,(.lit (.bool false)),.emp,.emp,(.lit (.bool false)),.emp,.emp]),.n (.st none 27 (.t 15) (.t 100)),.m 16 (.t 101)])
 (.fg [1,3,4,5,6,7,8,9,10,13,14,15,16] (.seq (.ops true [.m 102 (.t 4),.u 103 (.binn .eql (.t 102) (.c (.one (.lit .nilIface)))),.m 104 (.t 103),.w 105 104 true (.mv (.t 10)),.w 106 104 true (.binn .eql (.t 105) (.c (.one (.lit .nilIface)))),.u 107 (.pick (.t 104) (.t 106) .fa),.m 108 (.t 107),.w 109 108 true (.mv (.t 6)),.w 110 108 true (.call f7 [(.t 109)]),.w 111 108 true (.mv (.t 14)),.w 112 108 true (.bin .eql (.t 110) (.t 111)),.u 113 (.pick (.t 108) (.t 112) .fa),.m 114 (.t 113),.w 115 114 true (.mv (.t 8)),.w 116 114 true (.call f7 [(.t 115)]),.w 117 114 true (.mv (.t 16)),.w 118 114 true (.bin .eql (.t 116) (.t 117)),.u 119 (.pick (.t 114) (.t 118) .fa),.m 120 (.t 119),.w 121 120 true (.ld none 6 true (.t 3)),.w 122 120 true (.ld none 27 true (.t 1)),.w 123 120 true (.call f12 [(.t 122)]),.w 124 120 true (.call f8 [(.t 121),(.t 123)]),.u 125 (.pick (.t 120) (.t 124) .fa),.m 126 (.t 125),.w 127 126 true (.ld none 27 true (.t 5)),.w 128 126 true (.ld none 27 true (.t 13)),.w 129 126 true (.call f9 [(.t 127),(.t 128)]),.u 130 (.pick (.t 126) (.t 129) .fa),.m 131 (.t 130),.w 132 131 true (.ld none 27 true (.t 7)),.w 133 131 true (.ld none 27 true (.t 15)),.w 134 131 true (.call f9 [(.t 132),(.t 133)]),.u 135 (.pick (.t 131) (.t 134) .fa),.m 136 (.t 135),.w 137 136 true (.ld none 27 true (.t 9)),.w 138 136 true (.ld none 27 true (.t 1)),.w 139 136 true (.call f13 [(.t 138)]),.w 140 136 true (.call f9 [(.t 137),(.t 139)]),.u 141 (.pick (.t 136) (.t 140) .fa),.m 2 (.t 141)])
 .ret)))))))))))))))))))))
set_option maxHeartbeats 4000000 in
theorem YS (hΓ:Holds P Γ) {f fw fs fo fi fe fx fk fn fm fq gi ge go gx tE:Nat} (hw:Γ fw=.dat true Qz) (hs:Γ fs=.dat true yD) (ho:Γ fo=.dat false (VM tE)) (hi:Γ fi=.dat false (vM tE)) (he:Γ fe=.dat false (xX tE)) (hx:Γ fx=.dat false (zY tE)) (hk:Γ fk=.dat true uE) (hn:Γ fn=.dat true (jF tE)) (hm:Γ fm=.dat true kw) (hq:Γ fq=.dat true Qs) (ki:Γ gi=.dat false JF) (ke:Γ ge=.dat false VF) (ko:Γ go=.dat false Ws) (kx:Γ gx=.dat false jE) (hc:check P f=some (142,(Jb fw fs fo fi fe fx fk fn fm fq gi ge go gx).strip,[.tmp 2])):Sound P f (.dat true Zn):=by
 refine ja hc Z8 hΓ (λargs K hcl hfi hG=>?_)
 match args,hG with
 | [a],hG=>
  obtain ⟨c,rfl,hwc,hlc,hK⟩:=hG
  refine ⟨by simp,?_⟩
  have hlc1:cl c<=4294967296:=by omega
  have hlc2:cl c<=100000000:=by omega
  cases hsc:sC c with
  | false=>
   simp only [go_sem,Jb,hw,hs,hsc,yb]
   repeat (first | (refine And.intro (by with_reducible assumption) ?_) | (refine And.intro (Nat.le_trans (by with_reducible assumption) (by decide)) ?_) | (refine And.intro (by decide) ?_))
   exact hK
  | true=>
  have c2:=ubO hsc
  have lc5:cl c<=100000:=by omega
  have lc3:cl c<=1000:=by omega
  have lc6:cl c<=1000000:=by omega
  have e0:=jc tE
  have dd:∀x:Cp,decide (x=x)=true:=λx=>decide_eq_true rfl
  have dA:∀x:Arc,decide (x=x)=true:=λx=>decide_eq_true rfl
  have dn:∀n:Int,decide (n=n)=true:=λn=>decide_eq_true rfl
  have wz:=uF z27
  have lz:=Nat.le_trans jaV (by decide:_<=4294967296)
  obtain ⟨Z,hZ⟩:∃Z,canC z27=Z:=⟨_,rfl⟩
  have nZ:cqR z27=cpA Z:=by rw [<-hZ];rfl
  rw [hZ]at wz lz
  have zO:WLA (rcan 0,rcan 0):=Wp (0,0)
  have lO:al (rcan 0,rcan 0)<=4294967296:=Nat.max_le.2 ⟨Nat.le_trans (Nat.le_of_eq rz_0) (by decide),Nat.le_trans (Nat.le_of_eq rz_0) (by decide)⟩
  by_cases h0:cchk c=0
  case neg=>
   obtain ⟨n,hn0⟩:∃n,cchk c=n:=⟨_,rfl⟩
   rw [hn0]at h0
   have m1:fiC c=n:=by unfold fiC;rw [hn0,if_pos h0]
   have m2:seC c=n:=by unfold seC;rw [hn0,if_pos h0]
   have e1:(((n:Nat):Int)=0)=False:=eq_false (by omega)
   have hzz:((rcan 0,rcan 0),(rcan 0,rcan 0),rcan 0,rcan 0,rcan 0,rcan 0,rcan 0)=Z:=hZ
   have hZZ:(Z=Z)=True:=eq_true rfl
   simp only [go_sem,Jb,hw,hs,ho,hi,he,hx,hk,hsc,yb,hn0,m1,m2,e1,h0,nZ]
   repeat (first | (refine And.intro (by with_reducible assumption) ?_) | (refine And.intro (Nat.le_trans (by with_reducible assumption) (by decide)) ?_) | (refine And.intro (by decide) ?_))
   simp only [go_sem,hn,hm,hq,yb,dn,dA,dd,hzz,hZZ,not_true_eq_false,false_implies,true_implies,and_true]
   repeat (first | (refine And.intro (by with_reducible assumption) ?_) | (refine And.intro (Nat.le_trans (by with_reducible assumption) (by decide)) ?_) | (refine And.intro (by decide) ?_))
   exact hK
  have hB:=kaL hwc c2
  have ok:=Vbh h0
  obtain ⟨V,hV⟩:∃V,cpv c=V:=⟨_,rfl⟩
  rw [hV]at hB ok
  have bF:=ybz hB
  have bS:=xbQ hB
  have bW:=ybP hB
  have lW:cl (canC (swQ V))<=4294967296:=Nat.le_trans (cl_B bW) (by decide)
  have wW:=uF (swQ V)
  have n1:fiC c=wC (cW V):=by rw [Ya5 h0,hV]
  have n2:seC c=wC (rsQ V):=by rw [Jbp h0,hV]
  obtain ⟨w,hw0⟩:∃n,wC (cW V)=n:=⟨_,rfl⟩
  obtain ⟨r,hr0⟩:∃n,wC (rsQ V)=n:=⟨_,rfl⟩
  rw [hw0]at n1
  rw [hr0]at n2
  obtain ⟨X,hX⟩:∃X,(if w=0 then fiQ V else z27)=X:=⟨_,rfl⟩
  obtain ⟨Y,hY⟩:∃Y,(if r=0 then seQ V else z27)=Y:=⟨_,rfl⟩
  have lX:cl (canC X)<=4294967296:=by
   rw [<-hX];split
   .exact Nat.le_trans (cl_B bF) (by decide)
   .exact Nat.le_trans jaV (by decide)
  have lY:cl (canC Y)<=4294967296:=by
   rw [<-hY];split
   .exact Nat.le_trans (cl_B bS) (by decide)
   .exact Nat.le_trans jaV (by decide)
  have wX:=uF X
  have wY:=uF Y
  obtain ⟨E1,hE1⟩:∃e,errV tE w=.one (.lit e):=⟨_,rfl⟩
  obtain ⟨E2,hE2⟩:∃e,errV tE r=.one (.lit e):=⟨_,rfl⟩
  have o1:∀k,onErr tE k (.one (.lit E1))=k w:=λk=>by rw [<-hE1];exact uI tE k w
  have o2:∀k,onErr tE k (.one (.lit E2))=k r:=λk=>by rw [<-hE2];exact uI tE k r
  obtain ⟨X',hX'⟩:∃x,canC X=x:=⟨_,rfl⟩
  obtain ⟨Y',hY'⟩:∃x,canC Y=x:=⟨_,rfl⟩
  obtain ⟨W',hW'⟩:∃x,canC (swQ V)=x:=⟨_,rfl⟩
  have nW:cqR (swQ V)=cpA W':=by rw [<-hW'];rfl
  have nX:cqR X=cpA X':=by rw [<-hX'];rfl
  have nY:cqR Y=cpA Y':=by rw [<-hY'];rfl
  rw [hX']at lX wX
  rw [hY']at lY wY
  rw [hW']at lW wW
  obtain ⟨D,hD⟩:∃D,foQ V=D:=⟨_,rfl⟩
  have wD:WLA (rcan D.1,rcan D.2):=Wp D
  have lD:al (rcan D.1,rcan D.2)<=4294967296:=by
   have:=ka9 hB
   rw [hD]at this
   exact Nat.le_trans this (by decide)
  have i0:((0:Nat):Int)=0:=rfl
  simp only [go_sem,Jb,hw,hs,ho,hi,he,hx,hk,ki,ke,hsc,yb,h0,e0,i0,hV,n1,n2,hX,hY,nX,nY,nW,hD,hE1,hE2]
  repeat (first | (refine And.intro (by with_reducible assumption) ?_) | (refine And.intro (Nat.le_trans (by with_reducible assumption) (by decide)) ?_) | (refine And.intro (by decide) ?_))
  simp only [go_sem,hn,hm,hq,ko,kx,yb,h0,hV,hD,o1,o2,dn,dA,dd,nW,not_true_eq_false,false_implies,true_implies,and_true]
  repeat (first | (refine And.intro (by with_reducible assumption) ?_) | (refine And.intro (Nat.le_trans (by with_reducible assumption) (by decide)) ?_) | (refine And.intro (by decide) ?_))
  exact hK
end Go.Abs
end
