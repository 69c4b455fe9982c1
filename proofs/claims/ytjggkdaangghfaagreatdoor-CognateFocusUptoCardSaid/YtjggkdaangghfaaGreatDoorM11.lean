/-
  Parts of the proof, merged: CoupL, CoupR, CogP, CogA, CogB, CogR, CogC, CogT, CogD, CogF, CogG, IntC, IntD.
-/
import Derived.Test.YtjggkdaangghfaaGreatDoorM10
set_option linter.unusedVariables false
set_option linter.unusedSimpArgs false
set_option maxRecDepth 100000
section
namespace Go.Num
open Go.Abs
def riC (c:Cp) (p:Arc):Nat:=if wV (cpv c) (av p)≠0 then 21 else if wM (cpv c) (av p)=0 then 15 else 0
def reQ (c:CpR):V2:=subQ (1,0) (cW c)
theorem cl_w {c:Cp} {b:Nat} (h:cl c<=b):al c.2.2.2.2.2<=b:=by
 unfold cl at h
 simp only [Nat.max_le]at h
 exact Nat.max_le.2 ⟨h.2.2.2.2.2.1,h.2.2.2.2.2.2⟩
theorem zbz {c:Cp} (h:cchk c=0):vldR c.2.2.1=true/\vldR c.2.2.2.1=true/\vldR c.2.2.2.2.1=true/\vldR c.2.2.2.2.2.1=true/\vldR c.2.2.2.2.2.2=true:=by
 obtain ⟨_,_,h5,_,_⟩:=Wan h
 simpa [cps5] using h5
end Go.Num
namespace Go.Abs
open Go.Num
variable {P:Program} {Γ:Nat->Spec}
def WJ (l:List AV) (K:AV->Prop):Prop:=
 match l with
 | [c]=>onCp (λc=>K (aA (c.2.2.2.2.2.1,c.2.2.2.2.2.2))) c
 | _=>False
theorem va7 (c:AV) (K:AV->Prop):WJ [c] K=(onCp (λc=>K (aA (c.2.2.2.2.2.1,c.2.2.2.2.2.2))) c):=propext Iff.rfl
@[congr] theorem ybP {K:AV->Prop} {l l' : List AV} (h:l=l'):WJ l K=WJ l' K:=by subst h;rfl
attribute [go_sem] va7
attribute [go_sem ↓] va7
theorem ya3:Good WJ:=Va λas=>by
 unfold WJ
 split
 .exact (Qo λ_=>(.ret _))
 .exact .of λK hk=>hk.elim
def QC (l:List AV) (K:AV->Prop):Prop:=
 match l with
 | [c]=>onCp (λc=>cl c<=100000000/\K (pQ (reQ (cpv c)))) c
 | _=>False
theorem zaI (c:AV) (K:AV->Prop):QC [c] K=(onCp (λc=>cl c<=100000000/\K (pQ (reQ (cpv c)))) c):=propext Iff.rfl
@[congr] theorem WbL {K:AV->Prop} {l l' : List AV} (h:l=l'):QC l K=QC l' K:=by subst h;rfl
attribute [go_sem] zaI
attribute [go_sem ↓] zaI
theorem waE:Good QC:=Va λas=>by
 unfold QC
 split
 .exact (Qo λ_=>(.and λ_=>(.ret _)))
 .exact .of λK hk=>hk.elim
def xaI (l:List AV) (K:AV->Prop):Prop:=
 match l with
 | [c,p]=>onCp (λc=>onA (λp=>cl c<=1000/\al p<=1000/\cchk c=0/\K (.tup [pQ (wN (cpv c) (av p)),rQ (wM (cpv c) (av p))])) p) c
 | _=>False
theorem ZaX (c p:AV) (K:AV->Prop):xaI [c,p] K=(onCp (λc=>onA (λp=>cl c<=1000/\al p<=1000/\cchk c=0/\K (.tup [pQ (wN (cpv c) (av p)),rQ (wM (cpv c) (av p))])) p) c):=propext Iff.rfl
@[congr] theorem zbI {K:AV->Prop} {l l' : List AV} (h:l=l'):xaI l K=xaI l' K:=by subst h;rfl
attribute [go_sem] ZaX
attribute [go_sem ↓] ZaX
def waH (l:List AV) (K:AV->Prop):Prop:=
 match l with
 | [c,p]=>onCp (λc=>onA (λp=>cl c<=1000/\al p<=1000/\cchk c=0/\K (rQ (wV (cpv c) (av p)))) p) c
 | _=>False
theorem qaE (c p:AV) (K:AV->Prop):waH [c,p] K=(onCp (λc=>onA (λp=>cl c<=1000/\al p<=1000/\cchk c=0/\K (rQ (wV (cpv c) (av p)))) p) c):=propext Iff.rfl
@[congr] theorem XbH {K:AV->Prop} {l l' : List AV} (h:l=l'):waH l K=waH l' K:=by subst h;rfl
attribute [go_sem] qaE
attribute [go_sem ↓] qaE
def vaI (l:List AV) (K:AV->Prop):Prop:=
 match l with
 | [c,p]=>onCp (λc=>onA (λp=>cl c<=1000/\al p<=1000/\cchk c=0/\K (.tup [pQ (if riC c p=0 then endA (cpv c) (av p) (zL (cpv c) (av p)) else (0,0)),pQ (if riC c p=0 then endB (cpv c) (av p) (zL (cpv c) (av p)) else (0,0)),.one (.lit (.int .i64 (riC c p:Nat)))])) p) c
 | _=>False
theorem ZaW (c p:AV) (K:AV->Prop):vaI [c,p] K=(onCp (λc=>onA (λp=>cl c<=1000/\al p<=1000/\cchk c=0/\K (.tup [pQ (if riC c p=0 then endA (cpv c) (av p) (zL (cpv c) (av p)) else (0,0)),pQ (if riC c p=0 then endB (cpv c) (av p) (zL (cpv c) (av p)) else (0,0)),.one (.lit (.int .i64 (riC c p:Nat)))])) p) c):=propext Iff.rfl
@[congr] theorem xbG {K:AV->Prop} {l l' : List AV} (h:l=l'):vaI l K=vaI l' K:=by subst h;rfl
attribute [go_sem] ZaW
attribute [go_sem ↓] ZaW
def uaI (l:List AV) (K:AV->Prop):Prop:=
 match l with
 | [c,a,b]=>onCp (λc=>onA (λa=>onA (λb=>cl c<=10000/\al a<=10000/\al b<=10000/\K (pQ (ptQ (cpv c) (av a) (av b)))) b) a) c
 | _=>False
theorem UaZ (c a b:AV) (K:AV->Prop):uaI [c,a,b] K=(onCp (λc=>onA (λa=>onA (λb=>cl c<=10000/\al a<=10000/\al b<=10000/\K (pQ (ptQ (cpv c) (av a) (av b)))) b) a) c):=propext Iff.rfl
@[congr] theorem WbI {K:AV->Prop} {l l' : List AV} (h:l=l'):uaI l K=uaI l' K:=by subst h;rfl
attribute [go_sem] UaZ
attribute [go_sem ↓] UaZ
def yaE (l:List AV) (K:AV->Prop):Prop:=
 match l with
 | [c,a,b]=>onCp (λc=>onA (λa=>onA (λb=>cl c<=10000/\al a<=10000/\al b<=10000/\K (.one (.lit (.bool (decide (hldQ (cpv c) (av a) (av b))))))) b) a) c
 | _=>False
theorem vaR (c a b:AV) (K:AV->Prop):yaE [c,a,b] K=(onCp (λc=>onA (λa=>onA (λb=>cl c<=10000/\al a<=10000/\al b<=10000/\K (.one (.lit (.bool (decide (hldQ (cpv c) (av a) (av b))))))) b) a) c):=propext Iff.rfl
@[congr] theorem ZbM {K:AV->Prop} {l l' : List AV} (h:l=l'):yaE l K=yaE l' K:=by subst h;rfl
attribute [go_sem] vaR
attribute [go_sem ↓] vaR
def Ql:AC:=(.seq (.ops false [.u 1 (.box 27 (.t 0)),.u 2 (.alloc [(.lit (.bool false)),.emp,.emp,(.lit (.bool false)),.emp,.emp])])
 (.fg [1,2] (.seq (.ops false [.u 3 (.fa 21 (.t 1)),.u 4 (.ld none 3 true (.t 3)),.u 5 (.fa 24 (.t 1)),.u 6 (.ld none 3 true (.t 5)),.u 7 (.build [.x 3 (.t 4),.x 3 (.t 6)]),.n (.st none 6 (.t 2) (.t 7))])
 .ret)))
def Vh (f0 f1 f2:Nat):AC:=(.seq (.ops false [.u 1 (.box 27 (.t 0)),.u 2 (.alloc [(.lit (.bool false)),.emp,.emp,(.lit (.bool false)),.emp,.emp])])
 (.fg [1,2] (.seq (.ops true [.u 3 (.call f0 [(.i 1)]),.u 4 (.build [.x 3 (.t 3),.z [(.lit (.bool false)),.emp,.emp]]),.u 5 (.ld none 27 true (.t 1)),.u 6 (.call f1 [(.t 5)]),.u 7 (.call f2 [(.t 4),(.t 6)]),.n (.st none 6 (.t 2) (.t 7))])
 .ret)))
theorem vaK (hΓ:Holds P Γ) {f:Nat} (hc:check P f=some (8,Ql.strip,[.cell 2 6 true])):Sound P f (.dat false WJ):=by
 refine va hc ya3 hΓ (λargs K hcl hfi hG=>?_)
 match args,hG with
 | [a],hG=>
  obtain ⟨c,rfl,hw,hK⟩:=hG
  refine ⟨by simp,?_⟩
  simp only [go_sem,Ql,cpA,cpC]
  exact hK
theorem UaA (hΓ:Holds P Γ) {f fo fw fs:Nat} (ho:Γ fo=.dat false yx) (hw' : Γ fw=.dat false WJ) (hs:Γ fs=.dat false xm) (hc:check P f=some (8,(Vh fo fw fs).strip,[.cell 2 6 true])):Sound P f (.dat false QC):=by
 refine va hc waE hΓ (λargs K hcl hfi hG=>?_)
 match args,hG with
 | [a],hG=>
  obtain ⟨c,rfl,hw,hl,hK⟩:=hG
  refine ⟨by simp,?_⟩
  have i1:((1:Int):Rat)=1:=rfl
  have w4:=hw.2.2.2.2.2.1
  have w5:=hw.2.2.2.2.2.2
  have b1:=rz_1
  have l6:al c.2.2.2.2.2<=100000000:=Nat.le_trans (cl_w hl) (by decide)
  have wW:WLA c.2.2.2.2.2:=⟨w4,w5⟩
  have wO:WLA (rcan 1,rcan 0):=Ux (1,0)
  have lO:al (rcan 1,rcan 0)<=100000000:=Nat.max_le.2 ⟨Nat.le_trans b1 (by decide),Nat.le_trans (Nat.le_of_eq rz_0) (by decide)⟩
  have aO:av (rcan 1,rcan 0)=(1,0):=Zae (1,0)
  have aW:av c.2.2.2.2.2=cW (cpv c):=rfl
  simp only [go_sem,Vh,ho,hw',hs,cpA,cpC,i1,jt,Wc,aO,aW]
  repeat (first | (refine And.intro (by with_reducible assumption) ?_) | (refine And.intro (Nat.le_trans (by with_reducible assumption) (by decide)) ?_) | (refine And.intro (by decide) ?_))
  exact hK
end Go.Abs
end
section
namespace Go.Num
open Go.Abs
theorem qbO {c:Cp} (wc:WLC c) (h:cchk c=0):canC (cpv c)=c:=by
 obtain ⟨o1,o2,h5,_,_⟩:=Wan h
 obtain ⟨v1,v2,v3,v4,v5⟩:=zbz h
 obtain ⟨wo,wq,w1,w2,w3,w4,w5⟩:=wc
 have e1:=Wa8 wo o1
 have e2:=Wa8 wq o2
 have r1:=qf w1 v1
 have r2:=qf w2 v2
 have r3:=qf w3 v3
 have r4:=qf w4 v4
 have r5:=qf w5 v5
 unfold canC cpv
 simp only [e1,e2,r1,r2,r3,r4,r5]
end Go.Num
namespace Go.Abs
open Go.Num
variable {P:Program} {Γ:Nat->Spec}
theorem ubr (p:Ps):poA p=.agg (pC p):=eq_of_heq (HEq.refl _)
theorem uaY (p:Ps):(pC p).take 10=pC p:=List.take_of_length_le (Nat.le_of_eq (ZaG p))
theorem qaW (p:Ps):(pC p).drop 0=pC p:=eq_of_heq (HEq.refl _)
theorem Wba (k:List Ps->Prop) (p:Ps):onPs k (.one (.slice [pC p]))=((∀x∈[p],WLP x)/\k [p]):=zaS k [p]
attribute [go_sem] ubr uaY qaW Wba
attribute [go_sem ↓] ubr uaY qaW Wba
def WaH (l:List AV) (K:AV->Prop):Prop:=
 match l with
 | [c,g]=>onCp (λc=>onPo (λg=>cl c<=1000/\pl g<=1000/\cchk c=0/\K (cqR (movQ38 (cpv c) (pv g)))) g) c
 | _=>False
theorem UaI (c g:AV) (K:AV->Prop):WaH [c,g] K=(onCp (λc=>onPo (λg=>cl c<=1000/\pl g<=1000/\cchk c=0/\K (cqR (movQ38 (cpv c) (pv g)))) g) c):=propext Iff.rfl
@[congr] theorem JbK {K:AV->Prop} {l l' : List AV} (h:l=l'):WaH l K=WaH l' K:=by subst h;rfl
attribute [go_sem] UaI
attribute [go_sem ↓] UaI
def jaN (l:List AV) (K:AV->Prop):Prop:=
 match l with
 | [c,k]=>onCp (λc=>onR (λk=>cl c<=1000/\rl k<=1000/\cchk c=0/\K (cqR (sclQ38 (cpv c) (rv k)))) k) c
 | _=>False
theorem waV (c k:AV) (K:AV->Prop):jaN [c,k] K=(onCp (λc=>onR (λk=>cl c<=1000/\rl k<=1000/\cchk c=0/\K (cqR (sclQ38 (cpv c) (rv k)))) k) c):=propext Iff.rfl
@[congr] theorem ubF {K:AV->Prop} {l l' : List AV} (h:l=l'):jaN l K=jaN l' K:=by subst h;rfl
attribute [go_sem] waV
attribute [go_sem ↓] waV
end Go.Abs
end
section
namespace Go.Num
def rsQ (c:CpR):V2:=subQ (1,0) (cW c)
def foQ (c:CpR):V2:=addQ c.1 (timesQ (cW c) (subQ c.2.1 c.1))
def ovQ (w:V2):V2:=(w.1 / sqQ w,-w.2 / sqQ w)
def simQ (c:CpR) (o k:V2) (a b d:Rat):CpR:=(o,foQ c,sqQ k*a,sqQ k*b,sqQ k*d,(ovQ k).1,(ovQ k).2)
def fiQ (c:CpR):CpR:=simQ c c.1 (cW c) c.2.2.2.1 c.2.2.1 c.2.2.2.2.1
def seQ (c:CpR):CpR:=simQ c c.2.1 (rsQ c) c.2.2.2.1 c.2.2.2.2.1 c.2.2.1
def swQ (c:CpR):CpR:=(c.2.1,c.1,c.2.2.2.2.1,c.2.2.2.1,c.2.2.1,(rsQ c).1,(rsQ c).2)
theorem ov_j {w:V2} (h:sqQ w≠0):∃j,sqQ w*j=1/\ovQ w=(j*w.1,j * -w.2):=by
 refine ⟨(sqQ w)⁻¹,Rat.mul_inv_cancel _ h,?_⟩
 unfold ovQ
 rw [Rat.div_def,Rat.div_def,Rat.mul_comm,Rat.mul_comm (-w.2)]
theorem rob1 (k j u v:Rat) (hk:k=u*u+v*v) (hj:k*j=1) (z1 z2 s1 s2:Rat) :
  k*(z1*(j*u)-z2*(-(j * -v)))=z1*u-z2*v/\k*(z2*(j*u)+z1*(-(j * -v)))=z2*u+z1*v/\
  k*(s1*(1-j*u)-s2*(j * -v))=s1*(k-u)+s2*v/\k*(s2*(1-j*u)+s1*(j * -v))=s2*(k-u)-s1*v:=by
 have h1:∀x,k*(j*x)=x:=λx=>by grind
 refine ⟨?_,?_,?_,?_⟩
 .have:=h1 (z1*u);have:=h1 (z2*v);grind
 .have:=h1 (z2*u);have:=h1 (z1*v);grind
 .have:=h1 (s1*u);have:=h1 (s2*v);grind
 .have:=h1 (s2*u);have:=h1 (s1*v);grind
theorem rob2 (z1 z2 d1 d2 u v A B C:Rat) :
  let k:=u*u+v*v
  let G:=z1*z1+z2*z2
  let h:=k*B-A
  let s1:=z1-(u*d1-v*d2)
  let s2:=z2-(u*d2+v*d1)
  let Q1:=z1*u+z2*v
  let Q2:=z2*u-z1*v
  let P1:=(z1-d1)*(1-u)-(z2-d2)*v
  let P2:=(z2-d2)*(1-u)+(z1-d1)*v
  let r:=(1-u)*(1-u)+v*v
  let F:=C-r*B-((z1-d1)*(z1-d1)+(z2-d2)*(z2-d2))
  let F':=k*C-(s1*s1+s2*s2)-r*A
  let R:=P1*Q1+P2*Q2
  (G-h)*(s1*(1-u)-s2*v)+F' * z1=(G-h)*(u*P1-v*P2)+(k*F-2*R)*z1/\
  (G-h)*(s2*(1-u)+s1*v)+F' * z2=(G-h)*(u*P2+v*P1)+(k*F-2*R)*z2:=by
 intro k G h s1 s2 Q1 Q2 P1 P2 r F F' R
 constructor <;> grind
theorem rob3 (z1 z2 u v h F P1 P2:Rat) :
  let k:=u*u+v*v
  let G:=z1*z1+z2*z2
  let Q1:=z1*u+z2*v
  let Q2:=z2*u-z1*v
  let R:=P1*Q1+P2*Q2
  let M:=Q1*P2-Q2*P1
  let Y1:=(G-h)*(u*P1-v*P2)+(k*F-2*R)*z1
  let Y2:=(G-h)*(u*P2+v*P1)+(k*F-2*R)*z2
  let X1:=(G+h)*P1-F*Q1
  let X2:=(G+h)*P2-F*Q2
  Y1*Y1+Y2*Y2=k*(X1*X1+X2*X2)-4*(M*M)*h:=by
 intro k G Q1 Q2 R M Y1 Y2 X1 X2
 have p0:k*G=Q1*Q1+Q2*Q2:=by grind
 have p1:(u*P1-v*P2)*z1+(u*P2+v*P1)*z2=R:=by grind
 have p2:(u*P1-v*P2)*(u*P1-v*P2)+(u*P2+v*P1)*(u*P2+v*P1)=k*(P1*P1+P2*P2):=by grind
 have p3:M*M=(P1*P1+P2*P2)*(k*G)-R*R:=by rw [p0];grind
 have y:Y1*Y1+Y2*Y2=(G-h)*(G-h)*(k*(P1*P1+P2*P2))+(k*F-2*R)*(k*F-2*R)*G+2*(G-h)*(k*F-2*R)*R:=by
  rw [<-p2,<-p1];clear_value k R;grind
 have x:X1*X1+X2*X2=(G+h)*(G+h)*(P1*P1+P2*P2)+F*F*(k*G)-2*(G+h)*F*R:=by
  rw [p0];clear_value k G;grind
 rw [y,x,p3]
 clear_value k G R
 grind
theorem rob4 {k j u v:Rat} (A:Rat) (hk:u*u+v*v=k) (hj:k*j=1):(j*u*(j*u)+j * -v*(j * -v))*(k*A)=A/\
  ((1-j*u)*(1-j*u)+j * -v*(j * -v))*(k*A)=((1-u)*(1-u)+v*v)*A:=by
 constructor
 .have:(j*u*(j*u)+j * -v*(j * -v))*(k*A)=j*j*(u*u+v*v)*(k*A):=by grind
  rw [this,hk]
  have:j*j*k*(k*A)=k*j*(k*j)*A:=by grind
  rw [this,hj];grind
 .have:((1-j*u)*(1-j*u)+j * -v*(j * -v))*(k*A)=k*A-2*(k*j)*u*A+k*j*j*(u*u+v*v)*A:=by grind
  rw [this,hk]
  have:k*A-2*(k*j)*u*A+k*j*j*k*A=k*A-2*(k*j)*u*A+k*j*(k*j)*A:=by grind
  rw [this,hj,<-hk];grind
theorem rob5 {k u v z1 z2 d1 d2 s1 s2:Rat} (hk:u*u+v*v=k) (hs1:z1-(u*d1-v*d2)=s1) (hs2:z2-(u*d2+v*d1)=s2) :
  (z1*u-z2*v)*(s2*(k-u)-s1*v)-(z2*u+z1*v)*(s1*(k-u)+s2*v) = -(k*((z1*u+z2*v)*((z2-d2)*(1-u)+(z1-d1)*v)-(z2*u-z1*v)*((z1-d1)*(1-u)-(z2-d2)*v))):=by
 rw [<-hs1,<-hs2,<-hk];grind
theorem zbr (a b c:Rat):a-b-c=a-c-b:=by grind
theorem kbs (a b c:Rat):a+(b-c)=a-(c-b):=by grind
theorem kcan {k x y:Rat} (hk:k≠0) (h:k*x=k*y):x=y:=by
 have h1:k*(x-y)=0:=by grind
 have:=(Rat.mul_eq_zero.1 h1).resolve_left hk
 grind
theorem rob6 {k u v A B e f E F a1 a2 b1 b2 z1 z2 s1 s2 P1 P2 Q1 Q2:Rat} (hk0:k≠0) (hk:u*u+v*v=k)
  (r1:k*a1=z1*u-z2*v) (r2:k*a2=z2*u+z1*v) (r3:k*b1=s1*(k-u)+s2*v) (r4:k*b2=s2*(k-u)-s1*v)
  (eM:(z1*u-z2*v)*(s2*(k-u)-s1*v)-(z2*u+z1*v)*(s1*(k-u)+s2*v) = -(k*(Q1*P2-Q2*P1)))
  (y3:(e*(s1*(1-u)-s2*v)+f*z1)*(e*(s1*(1-u)-s2*v)+f*z1)+(e*(s2*(1-u)+s1*v)+f*z2)*(e*(s2*(1-u)+s1*v)+f*z2) =
   k*((E*P1-F*Q1)*(E*P1-F*Q1)+(E*P2-F*Q2)*(E*P2-F*Q2))-4*((Q1*P2-Q2*P1)*(Q1*P2-Q2*P1))*(k*B-A)) :
  (e*b2-f*a2)*(e*b2-f*a2)+(f*a1-e*b1)*(f*a1-e*b1)-4*(k*A)*((a1*b2-a2*b1)*(a1*b2-a2*b1)) =
  (E*P2-F*Q2)*(E*P2-F*Q2)+(F*Q1-E*P1)*(F*Q1-E*P1)-4*B*((Q1*P2-Q2*P1)*(Q1*P2-Q2*P1)):=by
 have hm:k*(a1*b2-a2*b1) = -(Q1*P2-Q2*P1):=by
  refine kcan hk0 ?_
  have:k*(k*(a1*b2-a2*b1))=(k*a1)*(k*b2)-(k*a2)*(k*b1):=by clear y3 eM r1 r2 r3 r4;grind
  rw [this,r1,r2,r3,r4,eM];clear y3 eM r1 r2 r3 r4 this;grind
 clear eM
 have n1:k*(e*b2-f*a2) = -(u*(e*(s2*(1-u)+s1*v)+f*z2)+v*(e*(s1*(1-u)-s2*v)+f*z1)):=by
  have:k*(e*b2-f*a2)=e*(k*b2)-f*(k*a2):=by clear y3 hm r1 r2 r3 r4;grind
  rw [this,r2,r4,<-hk];clear y3 hm r1 r2 r3 r4 this;grind
 have n2:k*(f*a1-e*b1)=u*(e*(s1*(1-u)-s2*v)+f*z1)-v*(e*(s2*(1-u)+s1*v)+f*z2):=by
  have:k*(f*a1-e*b1)=f*(k*a1)-e*(k*b1):=by clear y3 hm n1 r1 r2 r3 r4;grind
  rw [this,r1,r3,<-hk];clear y3 hm n1 r1 r2 r3 r4 this;grind
 clear r1 r2 r3 r4
 generalize e*(s1*(1-u)-s2*v)+f*z1=Y1 at *
 generalize e*(s2*(1-u)+s1*v)+f*z2=Y2 at *
 generalize e*b2-f*a2=N1 at *
 generalize f*a1-e*b1=N2 at *
 generalize a1*b2-a2*b1=m at *
 generalize Q1*P2-Q2*P1=M at *
 have hx:F*Q1-E*P1 = -(E*P1-F*Q1):=by clear y3 hm n1 n2;grind
 rw [hx]
 generalize E*P1-F*Q1=X1 at *
 generalize E*P2-F*Q2=X2 at *
 clear hx
 have k1:k*k*(N1*N1+N2*N2)=k*(Y1*Y1+Y2*Y2):=by
  have:k*k*(N1*N1+N2*N2)=(k*N1)*(k*N1)+(k*N2)*(k*N2):=by clear y3 hm n1 n2;grind
  rw [this,n1,n2,<-hk];clear y3 hm n1 n2;grind
 have k2:k*k*(m*m)=M*M:=by
  have:k*k*(m*m)=(k*m)*(k*m):=by clear y3 hm n1 n2 k1;grind
  rw [this,hm];clear y3 hm n1 n2 k1;grind
 refine kcan hk0 (kcan hk0 ?_)
 have:k*(k*(N1*N1+N2*N2-4*(k*A)*(m*m)))=k*k*(N1*N1+N2*N2)-4*(k*A)*(k*k*(m*m)):=by clear y3 hm n1 n2 k1 k2;grind
 rw [this,k1,k2,y3];clear y3 hm n1 n2 k1 k2 this;grind
theorem QbM (c:CpR) (p:V2) (hk0:sqQ (cW c)≠0):wV (fiQ c) p=wV c p:=by
 obtain ⟨j,hj,ho⟩:=ov_j hk0
 obtain ⟨⟨o1,o2⟩,⟨q1,q2⟩,A,B,C,u,v⟩:=c
 obtain ⟨x,y⟩:=p
 have eW:cW ((o1,o2),(q1,q2),A,B,C,u,v)=(u,v):=rfl
 rw [eW]at hk0 hj ho
 have ek:sqQ (u,v)=u*u+v*v:=rfl
 rw [ek]at hk0 hj
 obtain ⟨k,hk⟩:∃k,u*u+v*v=k:=⟨_,rfl⟩
 rw [hk]at hk0 hj ek
 have e0:fiQ ((o1,o2),(q1,q2),A,B,C,u,v)=((o1,o2),foQ ((o1,o2),(q1,q2),A,B,C,u,v),k*B,k*A,k*C,j*u,j * -v):=by
  unfold fiQ simQ;rw [eW,ho,ek]
 rw [e0]
 obtain ⟨z1,hz1⟩:∃z,x-o1=z:=⟨_,rfl⟩
 obtain ⟨z2,hz2⟩:∃z,y-o2=z:=⟨_,rfl⟩
 obtain ⟨d1,hd1⟩:∃z,q1-o1=z:=⟨_,rfl⟩
 obtain ⟨d2,hd2⟩:∃z,q2-o2=z:=⟨_,rfl⟩
 have ef:foQ ((o1,o2),(q1,q2),A,B,C,u,v)=(o1+(u*d1-v*d2),o2+(u*d2+v*d1)):=by
  unfold foQ addQ timesQ subQ cW;simp only;rw [hd1,hd2]
 rw [ef]
 have f1:x-(o1+(u*d1-v*d2))=z1-(u*d1-v*d2):=by rw [<-hz1];grind
 have f2:y-(o2+(u*d2+v*d1))=z2-(u*d2+v*d1):=by rw [<-hz2];grind
 have g1:x-q1=z1-d1:=by rw [<-hz1,<-hd1];grind
 have g2:y-q2=z2-d2:=by rw [<-hz2,<-hd2];grind
 unfold wV wN wM wE wF wAl wBe cFi cSe cRe timQ sqQ subQ
 simp only [hz1,hz2,f1,f2,g1,g2]
 obtain ⟨s1,hs1⟩:∃z,z1-(u*d1-v*d2)=z:=⟨_,rfl⟩
 obtain ⟨s2,hs2⟩:∃z,z2-(u*d2+v*d1)=z:=⟨_,rfl⟩
 rw [hs1,hs2]
 obtain ⟨r1,r2,r3,r4⟩:=rob1 k j u v hk.symm hj z1 z2 s1 s2
 have y12:=rob2 z1 z2 d1 d2 u v A B C
 simp only [hs1,hs2,hk]at y12
 have y3:=rob3 z1 z2 u v (k*B-A) (C-((1-u)*(1-u)+v*v)*B-((z1-d1)*(z1-d1)+(z2-d2)*(z2-d2))) ((z1-d1)*(1-u)-(z2-d2)*v) ((z2-d2)*(1-u)+(z1-d1)*v)
 simp only [hk]at y3
 obtain ⟨eE,eF⟩:=rob4 A hk hj
 have eQ1:z1*u-z2 * -v=z1*u+z2*v:=by rw [Rat.mul_neg,Rat.sub_eq_add_neg,Rat.neg_neg]
 have eQ2:z2*u+z1 * -v=z2*u-z1*v:=by rw [Rat.mul_neg,Rat.sub_eq_add_neg]
 have eM:=rob5 hk hs1 hs2
 have hf' : k*C-((1-u)*(1-u)+v*v)*A-(s1*s1+s2*s2)=k*C-(s1*s1+s2*s2)-((1-u)*(1-u)+v*v)*A:=zbr _ _ _
 have he' : z1*z1+z2*z2+(A-k*B)=z1*z1+z2*z2-(k*B-A):=kbs _ _ _
 rw [eE,eF,eQ1,eQ2,hk,he',hf']
 rw [<-y12.1,<-y12.2]at y3
 exact rob6 hk0 hk r1 r2 r3 r4 eM y3
end Go.Num
end
section
namespace Go.Num
open Go.Abs
theorem Ybb (a b:V2):zq (timesQ a b)<=2*zq a+2*zq b+6:=by
 have a1:=zq_1 a
 have a2:=zq_2 a
 have b1:=zq_1 b
 have b2:=zq_2 b
 have m1:=xc a.1 b.1
 have m2:=xc a.2 b.2
 have m3:=xc a.1 b.2
 have m4:=xc a.2 b.1
 have s1:=xz (a.1*b.1) (a.2*b.2)
 have s2:=ZB (a.1*b.2) (a.2*b.1)
 exact Nat.max_le.2 ⟨by show rz (a.1*b.1-a.2*b.2)<=_;omega,by show rz (a.1*b.2+a.2*b.1)<=_;omega⟩
theorem kbG (a:V2):zq (ovQ a)<=5*zq a+8:=by
 have a1:=zq_1 a
 have a2:=zq_2 a
 have s:=Qab a
 have d1:=wa8 a.1 (sqQ a)
 have d2:=wa8 (-a.2) (sqQ a)
 rw [jz]at d2
 exact Nat.max_le.2 ⟨by show rz (a.1 / sqQ a)<=_;omega,by show rz (-a.2 / sqQ a)<=_;omega⟩
theorem jbA {c:CpR} {b:Nat} (h:CB' b c):zq (foQ c)<=7*b+12:=by
 obtain ⟨h1,h2,h3,h4,h5,h6,h7⟩:=h
 have w:zq (cW c)<=b:=Nat.max_le.2 ⟨h6,h7⟩
 have s:=WZ c.2.1 c.1
 have t:=Ybb (cW c) (subQ c.2.1 c.1)
 have u:=Zbr c.1 (timesQ (cW c) (subQ c.2.1 c.1))
 unfold foQ;omega
theorem Zbv {c:CpR} {b:Nat} (h:CB' b c):zq (rsQ c)<=b+4:=by
 obtain ⟨h1,h2,h3,h4,h5,h6,h7⟩:=h
 have w:zq (cW c)<=b:=Nat.max_le.2 ⟨h6,h7⟩
 have s:=WZ (1,0) (cW c)
 have e:zq (1,0)=1:=by decide +kernel
 unfold rsQ;omega
theorem kbp (a:V2):addQ a (0,0)=a:=by unfold addQ;exact Prod.ext (by simp only;grind) (by simp only;grind)
theorem Ybv (a b c d:Rat):a*b+c*d=c*d+a*b:=Rat.add_comm _ _
end Go.Num
namespace Go.Abs
open Go.Num
variable {P:Program} {Γ:Nat->Spec}
def wB (l:List AV) (K:AV->Prop):Prop:=
 match l with
 | [a]=>onA (λp=>al p<=100000000/\K (pQ (av p))) a
 | _=>False
theorem QaR (a:AV) (K:AV->Prop):wB [a] K=(onA (λp=>al p<=100000000/\K (pQ (av p))) a):=propext Iff.rfl
@[congr] theorem jbF {K:AV->Prop} {l l' : List AV} (h:l=l'):wB l K=wB l' K:=by subst h;rfl
attribute [go_sem] QaR
attribute [go_sem ↓] QaR
theorem ZaP:Good wB:=Va λas=>by
 unfold wB
 split
 .exact (Yx λ_=>(.and λ_=>(.ret _)))
 .exact .of λK hk=>hk.elim
def JB (tE:Nat) (l:List AV) (K:AV->Prop):Prop:=
 match l with
 | [a]=>onA (λp=>al p<=100000000/\K (.tup [pQ (if sqQ (av p)=0 then (0,0) else ovQ (av p)),errV tE (if sqQ (av p)=0 then 8 else 0)])) a
 | _=>False
theorem qaT (tE:Nat) (a:AV) (K:AV->Prop):JB tE [a] K=(onA (λp=>al p<=100000000/\K (.tup [pQ (if sqQ (av p)=0 then (0,0) else ovQ (av p)),errV tE (if sqQ (av p)=0 then 8 else 0)])) a):=propext Iff.rfl
@[congr] theorem JbG (tE:Nat) {K:AV->Prop} {l l' : List AV} (h:l=l'):JB tE l K=JB tE l' K:=by subst h;rfl
attribute [go_sem] qaT
attribute [go_sem ↓] qaT
theorem qaI (tE:Nat):Good (JB tE):=Va λas=>by
 unfold JB
 split
 .exact (Yx λ_=>(.and λ_=>(.ret _)))
 .exact .of λK hk=>hk.elim
def Vz (l:List AV) (K:AV->Prop):Prop:=
 match l with
 | [c]=>onCp (λc=>cl c<=1000000/\K (pQ (foQ (cpv c)))) c
 | _=>False
theorem Za0 (c:AV) (K:AV->Prop):Vz [c] K=(onCp (λc=>cl c<=1000000/\K (pQ (foQ (cpv c)))) c):=propext Iff.rfl
@[congr] theorem jbI {K:AV->Prop} {l l' : List AV} (h:l=l'):Vz l K=Vz l' K:=by subst h;rfl
attribute [go_sem] Za0
attribute [go_sem ↓] Za0
theorem waW:Good Vz:=Va λas=>by
 unfold Vz
 split
 .exact (Qo λ_=>(.and λ_=>(.ret _)))
 .exact .of λK hk=>hk.elim
def Xaf (l:List AV) (K:AV->Prop):Prop:=
 match l with
 | [c]=>onCp (λc=>cl c<=100000000/\K (cpA (canC (cpv c)))) c
 | _=>False
theorem wak (c:AV) (K:AV->Prop):Xaf [c] K=(onCp (λc=>cl c<=100000000/\K (cpA (canC (cpv c)))) c):=propext Iff.rfl
@[congr] theorem JbC {K:AV->Prop} {l l' : List AV} (h:l=l'):Xaf l K=Xaf l' K:=by subst h;rfl
attribute [go_sem] wak
attribute [go_sem ↓] wak
def qp (f0:Nat):AC:=(.seq (.ops false [.u 1 (.box 6 (.t 0)),.u 2 (.alloc [(.lit (.bool false)),.emp,.emp,(.lit (.bool false)),.emp,.emp])])
 (.fg [1,2] (.seq (.ops false [.u 3 (.ld none 6 true (.t 1)),.u 4 (.build [.z [(.lit (.bool false)),.emp,.emp,(.lit (.bool false)),.emp,.emp]]),.u 5 (.call f0 [(.t 3),(.t 4)]),.n (.st none 6 (.t 2) (.t 5))])
 .ret)))
def Jo (f0 f1 f2:Nat):AC:=(.seq (.ops false [.u 2 (.box 6 (.t 0)),.u 3 (.box 6 (.t 1)),.u 4 (.alloc [(.lit (.bool false)),.emp,.emp,(.lit (.bool false)),.emp,.emp])])
 (.fg [2,3,4] (.seq (.ops true [.u 5 (.fa 0 (.t 2)),.u 6 (.ld none 3 true (.t 5)),.u 7 (.fa 0 (.t 3)),.u 8 (.ld none 3 true (.t 7)),.u 9 (.call f0 [(.t 6),(.t 8)]),.u 10 (.fa 3 (.t 2)),.u 11 (.ld none 3 true (.t 10)),.u 12 (.fa 3 (.t 3)),.u 13 (.ld none 3 true (.t 12)),.u 14 (.call f0 [(.t 11),(.t 13)]),.u 15 (.call f1 [(.t 9),(.t 14)]),.u 16 (.fa 3 (.t 2)),.u 17 (.ld none 3 true (.t 16)),.u 18 (.fa 0 (.t 3)),.u 19 (.ld none 3 true (.t 18)),.u 20 (.call f0 [(.t 17),(.t 19)]),.u 21 (.fa 0 (.t 2)),.u 22 (.ld none 3 true (.t 21)),.u 23 (.fa 3 (.t 3)),.u 24 (.ld none 3 true (.t 23)),.u 25 (.call f0 [(.t 22),(.t 24)]),.u 26 (.call f2 [(.t 20),(.t 25)]),.u 27 (.build [.x 3 (.t 15),.x 3 (.t 26)]),.n (.st none 6 (.t 4) (.t 27))])
 .ret)))
def yg (f0 f1 f2:Nat):AC:=(.seq (.ops false [.u 1 (.box 6 (.t 0)),.u 2 (.alloc [(.lit (.bool false)),.emp,.emp,(.lit (.bool false)),.emp,.emp]),.m 3 (.c (.one (.lit .nilIface)))])
 (.fg [1,2] (.seq (.ops false [.u 8 (.ld none 6 true (.t 1)),.u 9 (.call f0 [(.t 8)]),.u 4 (.alloc [(.lit (.bool false)),.emp,.emp]),.n (.st none 3 (.t 4) (.t 9))])
 (.fg [1,2,4] (.seq (.ops false [.u 11 (.fa 0 (.t 1)),.u 12 (.ld none 3 true (.t 11)),.u 13 (.ld none 3 true (.t 4)),.u 14 (.call f1 [(.t 12),(.t 13)]),.m 10 (.t 14),.u 15 (.ext 0 (.t 10)),.u 16 (.ext 1 (.t 10)),.u 5 (.alloc [(.lit (.bool false)),.emp,.emp]),.n (.st none 3 (.t 5) (.t 15)),.m 6 (.t 16)])
 (.fg [1,2,4,5,6] (.seq (.seq (.ops false [.m 17 (.t 6),.u 18 (.binn .neq (.t 17) (.c (.one (.lit .nilIface))))])
 (.fg [1,2,4,5,6,18] (.cond (.t 18) (.seq (.ops false [.u 19 (.build [.z [(.lit (.bool false)),.emp,.emp,(.lit (.bool false)),.emp,.emp]]),.m 20 (.t 6),.n (.st none 6 (.t 2) (.t 19)),.m 3 (.t 20)])
 .ret) .skip)))
 (.fg [1,2,4,5] (.seq (.ops true [.u 22 (.fa 3 (.t 1)),.u 23 (.ld none 3 true (.t 22)),.u 24 (.call f2 [(.t 23)]),.u 25 (.ld none 3 true (.t 4)),.u 26 (.call f1 [(.t 24),(.t 25)]),.m 21 (.t 26),.u 27 (.ext 0 (.t 21)),.u 28 (.ext 1 (.t 21)),.u 7 (.alloc [(.lit (.bool false)),.emp,.emp]),.n (.st none 3 (.t 7) (.t 27)),.m 6 (.t 28)])
 (.fg [2,5,6,7] (.seq (.ops false [.u 29 (.ld none 3 true (.t 5)),.u 30 (.ld none 3 true (.t 7)),.u 31 (.build [.x 3 (.t 29),.x 3 (.t 30)]),.m 32 (.t 6),.n (.st none 6 (.t 2) (.t 31)),.m 3 (.t 32)])
 .ret)))))))))))
def yo (f0 f1 f2 f3:Nat):AC:=(.seq (.ops false [.u 1 (.box 27 (.t 0)),.u 2 (.alloc [(.lit (.bool false)),.emp,.emp,(.lit (.bool false)),.emp,.emp])])
 (.fg [1,2] (.seq (.ops true [.u 3 (.fa 0 (.t 1)),.u 4 (.ld none 6 true (.t 3)),.u 5 (.ld none 27 true (.t 1)),.u 6 (.call f0 [(.t 5)]),.u 7 (.fa 6 (.t 1)),.u 8 (.ld none 6 true (.t 7)),.u 9 (.fa 0 (.t 1)),.u 10 (.ld none 6 true (.t 9)),.u 11 (.call f1 [(.t 8),(.t 10)]),.u 12 (.call f2 [(.t 6),(.t 11)]),.u 13 (.call f3 [(.t 4),(.t 12)]),.n (.st none 6 (.t 2) (.t 13))])
 .ret)))
theorem kaz (hΓ:Holds P Γ) {f fa:Nat} (ha:Γ fa=.dat false Qm) (hc:check P f=some (6,(qp fa).strip,[.cell 2 6 true])):Sound P f (.dat false wB):=by
 refine va hc ZaP hΓ (λargs K hcl hfi hG=>?_)
 match args,hG with
 | [a],hG=>
  obtain ⟨p,rfl,wp,hl,hK⟩:=hG
  refine ⟨by simp,?_⟩
  have zz:WLA (rcan 0,rcan 0):=Ux (0,0)
  have z0:al (rcan 0,rcan 0)<=100000000:=Nat.max_le.2 ⟨Nat.le_trans (Nat.le_of_eq rz_0) (by decide),Nat.le_trans (Nat.le_of_eq rz_0) (by decide)⟩
  have e0:av (rcan 0,rcan 0)=(0,0):=Zae (0,0)
  simp only [go_sem,qp,ha,jt,Wc,e0,kbp]
  repeat (first | (refine And.intro (by with_reducible assumption) ?_) | (refine And.intro (Nat.le_trans (by with_reducible assumption) (by decide)) ?_) | (refine And.intro (by decide) ?_))
  exact hK
theorem yS (hΓ:Holds P Γ) {f fm fs fa:Nat} (hm:Γ fm=.dat false Zo) (hs:Γ fs=.dat false Yr) (ha:Γ fa=.dat false Yn) (hc:check P f=some (28,(Jo fm fs fa).strip,[.cell 4 6 true])):Sound P f (.dat false kp):=by
 refine va hc kac hΓ (λargs K hcl hfi hG=>?_)
 match args,hG with
 | [a,b],hG=>
  obtain ⟨p,rfl,wp,q,rfl,wq,hl,hl2,hK⟩:=hG
  refine ⟨by simp,?_⟩
  have w1:=wp.1
  have w2:=wp.2
  have w3:=wq.1
  have w4:=wq.2
  have l1:=(Nat.max_le.1 hl).1
  have l2:=(Nat.max_le.1 hl).2
  have l3:=(Nat.max_le.1 hl2).1
  have l4:=(Nat.max_le.1 hl2).2
  have r1:=ue w1
  have r2:=ue w2
  have r3:=ue w3
  have r4:=ue w4
  have m1:=Nat.le_trans (xc (rv p.1) (rv q.1)) (by omega:_<=1000000000)
  have m2:=Nat.le_trans (xc (rv p.2) (rv q.2)) (by omega:_<=1000000000)
  have m3:=Nat.le_trans (xc (rv p.2) (rv q.1)) (by omega:_<=1000000000)
  have m4:=Nat.le_trans (xc (rv p.1) (rv q.2)) (by omega:_<=1000000000)
  have e:pQ (timesQ (av p) (av q))=pQ (rv p.1*rv q.1-rv p.2*rv q.2,rv p.2*rv q.1+rv p.1*rv q.2):=by
   unfold timesQ av;rw [Ybv]
  rw [e]at hK
  simp only [go_sem,Jo,hm,hs,ha,jt,yb]
  repeat (first | (refine And.intro (by with_reducible assumption) ?_) | (refine And.intro (Nat.le_trans (by with_reducible assumption) (by decide)) ?_) | (refine And.intro (by decide) ?_))
  exact hK
theorem yaB (hΓ:Holds P Γ) {f fq fd fn tE:Nat} (hq:Γ fq=.dat false vK) (hd:Γ fd=.dat false (jx tE)) (hn:Γ fn=.dat false yt) (hc:check P f=some (33,(yg fq fd fn).strip,[.cell 2 6 true,.tmp 3])):Sound P f (.dat false (JB tE)):=by
 refine va hc (qaI tE) hΓ (λargs K hcl hfi hG=>?_)
 match args,hG with
 | [a],hG=>
  obtain ⟨p,rfl,wp,hl,hK⟩:=hG
  refine ⟨by simp,?_⟩
  have w1:=wp.1
  have w2:=wp.2
  have l1:=(Nat.max_le.1 hl).1
  have l2:=(Nat.max_le.1 hl).2
  have r1:=ue w1
  have r2:=ue w2
  have s:=Qab (av p)
  have z:=Z8 wp
  obtain ⟨n,hn0⟩:∃n,sqQ (av p)=n:=⟨_,rfl⟩
  rw [hn0]at s
  have s1:=Nat.le_trans s (by omega:_<=4294967296)
  have s2:rz (-rv p.2)<=4294967296:=by rw [jz];omega
  have eo:ovQ (av p)=(rv p.1 / n,-rv p.2 / n):=by unfold ovQ;rw [hn0];rfl
  rw [eo,hn0]at hK
  by_cases h0:n=0
  .have e8:=jc tE (by decide:(8:Nat)≠0)
   rw [if_pos h0,if_pos h0,e8,qaN,Jc]at hK
   simp only [go_sem,yg,hq,hd,jt,Wc,hn0,yb,if_pos h0,e8]
   repeat (first | (refine And.intro (by with_reducible assumption) ?_) | (refine And.intro (Nat.le_trans (by with_reducible assumption) (by decide)) ?_) | (refine And.intro (by decide) ?_))
   exact hK
  .have e0:=ub tE
   rw [if_neg h0,if_neg h0,e0]at hK
   simp only [go_sem,yg,hq,hd,hn,jt,Wc,hn0,yb,if_neg h0,e0]
   repeat (first | (refine And.intro (by with_reducible assumption) ?_) | (refine And.intro (Nat.le_trans (by with_reducible assumption) (by decide)) ?_) | (refine And.intro (by decide) ?_))
   exact hK
theorem vaB (hΓ:Holds P Γ) {f fw fs ft fa:Nat} (hw' : Γ fw=.dat false WJ) (hs:Γ fs=.dat false xm) (ht:Γ ft=.dat false kp) (ha:Γ fa=.dat false Qm) (hc:check P f=some (14,(yo fw fs ft fa).strip,[.cell 2 6 true])):Sound P f (.dat false Vz):=by
 refine va hc waW hΓ (λargs K hcl hfi hG=>?_)
 match args,hG with
 | [a],hG=>
  obtain ⟨c,rfl,hw,hl,hK⟩:=hG
  refine ⟨by simp,?_⟩
  have wW:WLA c.2.2.2.2.2:=⟨hw.2.2.2.2.2.1,hw.2.2.2.2.2.2⟩
  have l6:al c.2.2.2.2.2<=100000000:=Nat.le_trans (cl_w hl) (by decide)
  have hB:=Zbh hw hl
  have wo:=hw.1
  have wQ:=hw.2.1
  have lo:al c.1<=100000000:=Nat.le_trans (Nat.le_max_left _ _) (Nat.le_trans hl (by decide))
  have lq:al c.2.1<=100000000:=Nat.le_trans (Nat.le_max_left _ _) (Nat.le_trans (Nat.le_max_right _ _) (Nat.le_trans hl (by decide)))
  obtain ⟨D,hD⟩:∃D,subQ (av c.2.1) (av c.1)=D:=⟨_,rfl⟩
  obtain ⟨T,hT⟩:∃T,timesQ (av c.2.2.2.2.2) D=T:=⟨_,rfl⟩
  have z1:al (rcan D.1,rcan D.2)<=100000000:=by
   have:=WZ (av c.2.1) (av c.1)
   rw [hD]at this
   have e1:zq (av c.1)<=1000000:=hB.1
   have e2:zq (av c.2.1)<=1000000:=hB.2.1
   exact Nat.le_trans this (by omega)
  have z2:al (rcan T.1,rcan T.2)<=100000000:=by
   have:=Ybb (av c.2.2.2.2.2) D
   rw [hT]at this
   have e3:=WZ (av c.2.1) (av c.1)
   rw [hD]at e3
   have e1:zq (av c.1)<=1000000:=hB.1
   have e2:zq (av c.2.1)<=1000000:=hB.2.1
   have e4:zq (av c.2.2.2.2.2)<=1000000:=Nat.max_le.2 ⟨hB.2.2.2.2.2.1,hB.2.2.2.2.2.2⟩
   exact Nat.le_trans this (by omega)
  have wD:WLA (rcan D.1,rcan D.2):=Ux D
  have wT:WLA (rcan T.1,rcan T.2):=Ux T
  have ef:foQ (cpv c)=addQ (av c.1) T:=by rw [<-hT,<-hD];rfl
  rw [ef]at hK
  simp only [go_sem,yo,hw',hs,ht,ha,cpA,cpC,aA,jt,Wc,hD,Zae,hT]
  repeat (first | (refine And.intro (by with_reducible assumption) ?_) | (refine And.intro (Nat.le_trans (by with_reducible assumption) (by decide)) ?_) | (refine And.intro (by decide) ?_))
  exact hK
end Go.Abs
end
section
namespace Go.Num
open Go.Abs
def wC (w:V2):Nat:=if sqQ w=0 then 8 else 0
def fiC (c:Cp):Nat:=if cchk c≠0 then cchk c else wC (cW (cpv c))
def seC (c:Cp):Nat:=if cchk c≠0 then cchk c else wC (rsQ (cpv c))
def alC (c:Cp):Nat:=if fiC c≠0 then fiC c else seC c
def alL (c:Cp):List CpR:=if alC c=0 then [cpv c,fiQ (cpv c),seQ (cpv c)] else []
theorem wC_0 {w:V2}:wC w=0↔sqQ w≠0:=by
 unfold wC;split
 .rename_i h;simp [h]
 .rename_i h;simp [h]
theorem kbM {c:Cp} (h:cchk c≠0):fiC c=cchk c:=if_pos h
theorem XbG {c:Cp} (h:cchk c≠0):seC c=cchk c:=if_pos h
theorem kbk {c:Cp} (h:cchk c=0):fiC c=wC (cW (cpv c)):=by unfold fiC;rw [if_neg (by omega)]
theorem xbt {c:Cp} (h:cchk c=0):seC c=wC (rsQ (cpv c)):=by unfold seC;rw [if_neg (by omega)]
theorem va9 {c:CpR} {o k:V2} {x y z:Rat} {b:Nat} (h:CB' b c) (ho:zq o<=b) (hk:zq k<=b+4) (h1:rz x<=b) (h2:rz y<=b) (h3:rz z<=b):CB' (7*b+40) (simQ c o k x y z):=by
 have f:=jbA h
 have s:=Qab k
 have v:=kbG k
 have m1:=xc (sqQ k) x
 have m2:=xc (sqQ k) y
 have m3:=xc (sqQ k) z
 have v1:=zq_1 (ovQ k)
 have v2:=zq_2 (ovQ k)
 exact ⟨by show zq o<=_;omega,by show zq (foQ c)<=_;omega,by show rz (sqQ k*x)<=_;omega,by show rz (sqQ k*y)<=_;omega,by show rz (sqQ k*z)<=_;omega,by show rz (ovQ k).1<=_;omega,by show rz (ovQ k).2<=_;omega⟩
theorem jbz {c:CpR} {b:Nat} (h:CB' b c):CB' (7*b+40) (fiQ c):=
 va9 h h.1 (Nat.le_trans (Nat.max_le.2 ⟨h.2.2.2.2.2.1,h.2.2.2.2.2.2⟩) (by omega)) h.2.2.2.1 h.2.2.1 h.2.2.2.2.1
theorem jbG {c:CpR} {b:Nat} (h:CB' b c):CB' (7*b+40) (seQ c):=
 va9 h h.2.1 (Zbv h) h.2.2.2.1 h.2.2.2.2.1 h.2.2.1
end Go.Num
namespace Go.Abs
open Go.Num
variable {P:Program} {Γ:Nat->Spec}
def Xz (tE:Nat) (l:List AV) (K:AV->Prop):Prop:=
 match l with
 | [c,o,k,x,y,z]=>onCp (λc=>onA (λo=>onA (λk=>onR (λx=>onR (λy=>onR (λz=>cl c<=1000000/\al o<=1000000/\al k<=1000000/\rl x<=1000000/\rl y<=1000000/\rl z<=1000000/\K (.tup [cqR (if wC (av k)=0 then simQ (cpv c) (av o) (av k) (rv x) (rv y) (rv z) else z27),errV tE (wC (av k))])) z) y) x) k) o) c
 | _=>False
theorem QaN (tE:Nat) (c o k x y z:AV) (K:AV->Prop):Xz tE [c,o,k,x,y,z] K=(onCp (λc=>onA (λo=>onA (λk=>onR (λx=>onR (λy=>onR (λz=>cl c<=1000000/\al o<=1000000/\al k<=1000000/\rl x<=1000000/\rl y<=1000000/\rl z<=1000000/\K (.tup [cqR (if wC (av k)=0 then simQ (cpv c) (av o) (av k) (rv x) (rv y) (rv z) else z27),errV tE (wC (av k))])) z) y) x) k) o) c):=propext Iff.rfl
@[congr] theorem jbH (tE:Nat) {K:AV->Prop} {l l' : List AV} (h:l=l'):Xz tE l K=Xz tE l' K:=by subst h;rfl
attribute [go_sem] QaN
attribute [go_sem ↓] QaN
theorem XaP (tE:Nat):Good (Xz tE):=Va λas=>by
 unfold Xz
 split
 .exact (Qo λ_=>(Yx λ_=>(Yx λ_=>(wh λ_=>(wh λ_=>(wh λ_=>(.and λ_=>(.and λ_=>(.and λ_=>(.and λ_=>(.and λ_=>(.and λ_=>(.ret _)))))))))))))
 .exact .of λK hk=>hk.elim
def JK (tE:Nat) (l:List AV) (K:AV->Prop):Prop:=
 match l with
 | [c]=>onCp (λc=>cl c<=100000/\K (.tup [cqR (if fiC c=0 then fiQ (cpv c) else z27),errV tE (fiC c)])) c
 | _=>False
theorem xa9 (tE:Nat) (c:AV) (K:AV->Prop):JK tE [c] K=(onCp (λc=>cl c<=100000/\K (.tup [cqR (if fiC c=0 then fiQ (cpv c) else z27),errV tE (fiC c)])) c):=propext Iff.rfl
@[congr] theorem vbP (tE:Nat) {K:AV->Prop} {l l' : List AV} (h:l=l'):JK tE l K=JK tE l' K:=by subst h;rfl
attribute [go_sem] xa9
attribute [go_sem ↓] xa9
theorem xa1 (tE:Nat):Good (JK tE):=Va λas=>by
 unfold JK
 split
 .exact (Qo λ_=>(.and λ_=>(.ret _)))
 .exact .of λK hk=>hk.elim
def JR (tE:Nat) (l:List AV) (K:AV->Prop):Prop:=
 match l with
 | [c]=>onCp (λc=>cl c<=100000/\K (.tup [cqR (if seC c=0 then seQ (cpv c) else z27),errV tE (seC c)])) c
 | _=>False
theorem kba (tE:Nat) (c:AV) (K:AV->Prop):JR tE [c] K=(onCp (λc=>cl c<=100000/\K (.tup [cqR (if seC c=0 then seQ (cpv c) else z27),errV tE (seC c)])) c):=propext Iff.rfl
@[congr] theorem jbQ (tE:Nat) {K:AV->Prop} {l l' : List AV} (h:l=l'):JR tE l K=JR tE l' K:=by subst h;rfl
attribute [go_sem] kba
attribute [go_sem ↓] kba
theorem za6 (tE:Nat):Good (JR tE):=Va λas=>by
 unfold JR
 split
 .exact (Qo λ_=>(.and λ_=>(.ret _)))
 .exact .of λK hk=>hk.elim
def QK (tE:Nat) (l:List AV) (K:AV->Prop):Prop:=
 match l with
 | [c]=>onCp (λc=>cl c<=100000/\K (.tup [pQ (if cchk c=0 then foQ (cpv c) else (0,0)),errV tE (cchk c)])) c
 | _=>False
theorem xbc (tE:Nat) (c:AV) (K:AV->Prop):QK tE [c] K=(onCp (λc=>cl c<=100000/\K (.tup [pQ (if cchk c=0 then foQ (cpv c) else (0,0)),errV tE (cchk c)])) c):=propext Iff.rfl
@[congr] theorem UbP (tE:Nat) {K:AV->Prop} {l l' : List AV} (h:l=l'):QK tE l K=QK tE l' K:=by subst h;rfl
attribute [go_sem] xbc
attribute [go_sem ↓] xbc
theorem ka5 (tE:Nat):Good (QK tE):=Va λas=>by
 unfold QK
 split
 .exact (Qo λ_=>(.and λ_=>(.ret _)))
 .exact .of λK hk=>hk.elim
def jbj (tE:Nat) (l:List AV) (K:AV->Prop):Prop:=
 match l with
 | [c]=>onCp (λc=>cl c<=100000/\K (.tup [cqR (if cchk c=0 then swQ (cpv c) else z27),errV tE (cchk c)])) c
 | _=>False
theorem za7 (tE:Nat) (c:AV) (K:AV->Prop):jbj tE [c] K=(onCp (λc=>cl c<=100000/\K (.tup [cqR (if cchk c=0 then swQ (cpv c) else z27),errV tE (cchk c)])) c):=propext Iff.rfl
@[congr] theorem VbQ (tE:Nat) {K:AV->Prop} {l l' : List AV} (h:l=l'):jbj tE l K=jbj tE l' K:=by subst h;rfl
attribute [go_sem] za7
attribute [go_sem ↓] za7
def uaX (tE:Nat) (l:List AV) (K:AV->Prop):Prop:=
 match l with
 | [c]=>onCp (λc=>cl c<=10000/\K (.tup [.one (.slice ((alL c).map λX=>cpC (canC X))),errV tE (alC c)])) c
 | _=>False
theorem jaV (tE:Nat) (c:AV) (K:AV->Prop):uaX tE [c] K=(onCp (λc=>cl c<=10000/\K (.tup [.one (.slice ((alL c).map λX=>cpC (canC X))),errV tE (alC c)])) c):=propext Iff.rfl
@[congr] theorem XbJ (tE:Nat) {K:AV->Prop} {l l' : List AV} (h:l=l'):uaX tE l K=uaX tE l' K:=by subst h;rfl
attribute [go_sem] jaV
attribute [go_sem ↓] jaV
def Jg (f0 f1 f2 f3 f4:Nat):AC:=(.seq (.ops false [.u 6 (.box 27 (.t 0)),.u 7 (.box 6 (.t 1)),.u 8 (.box 6 (.t 2)),.u 9 (.box 3 (.t 3)),.u 10 (.box 3 (.t 4)),.u 11 (.box 3 (.t 5)),.u 12 (.alloc [(.lit (.bool false)),.emp,.emp,(.lit (.bool false)),.emp,.emp,(.lit (.bool false)),.emp,.emp,(.lit (.bool false)),.emp,.emp,(.lit (.bool false)),.emp,.emp,(.lit (.bool false)),.emp,.emp,(.lit (.bool false)),.emp,.emp,(.lit (.bool false)),.emp,.emp,(.lit (.bool false)),.emp,.emp]),.m 13 (.c (.one (.lit .nilIface)))])
 (.fg [6,7,8,9,10,11,12] (.seq (.ops false [.u 18 (.ld none 6 true (.t 8)),.u 19 (.call f0 [(.t 18)]),.m 17 (.t 19),.u 20 (.ext 0 (.t 17)),.u 21 (.ext 1 (.t 17)),.u 14 (.alloc [(.lit (.bool false)),.emp,.emp,(.lit (.bool false)),.emp,.emp]),.n (.st none 6 (.t 14) (.t 20)),.m 15 (.t 21)])
 (.fg [6,7,8,9,10,11,12,14,15] (.seq (.seq (.ops false [.m 22 (.t 15),.u 23 (.binn .neq (.t 22) (.c (.one (.lit .nilIface))))])
 (.fg [6,7,8,9,10,11,12,14,15,23] (.cond (.t 23) (.seq (.ops false [.u 24 (.build [.z [(.lit (.bool false)),.emp,.emp,(.lit (.bool false)),.emp,.emp,(.lit (.bool false)),.emp,.emp,(.lit (.bool false)),.emp,.emp,(.lit (.bool false)),.emp,.emp,(.lit (.bool false)),.emp,.emp,(.lit (.bool false)),.emp,.emp,(.lit (.bool false)),.emp,.emp,(.lit (.bool false)),.emp,.emp]]),.m 25 (.t 15),.n (.st none 27 (.t 12) (.t 24)),.m 13 (.t 25)])
 .ret) .skip)))
 (.fg [6,7,8,9,10,11,12,14] (.seq (.ops false [.u 26 (.ld none 6 true (.t 8)),.u 27 (.call f1 [(.t 26)]),.u 16 (.alloc [(.lit (.bool false)),.emp,.emp]),.n (.st none 3 (.t 16) (.t 27))])
 (.fg [6,7,9,10,11,12,14,16] (.seq (.ops true [.u 28 (.ld none 6 true (.t 7)),.u 29 (.call f2 [(.t 28)]),.u 30 (.ld none 27 true (.t 6)),.u 31 (.call f3 [(.t 30)]),.u 32 (.ld none 3 true (.t 16)),.u 33 (.ld none 3 true (.t 9)),.u 34 (.call f4 [(.t 32),(.t 33)]),.u 35 (.ld none 3 true (.t 16)),.u 36 (.ld none 3 true (.t 10)),.u 37 (.call f4 [(.t 35),(.t 36)]),.u 38 (.ld none 3 true (.t 16)),.u 39 (.ld none 3 true (.t 11)),.u 40 (.call f4 [(.t 38),(.t 39)]),.u 41 (.fa 0 (.t 14)),.u 42 (.ld none 3 true (.t 41)),.u 43 (.fa 3 (.t 14)),.u 44 (.ld none 3 true (.t 43)),.u 45 (.build [.x 6 (.t 29),.x 6 (.t 31),.x 3 (.t 34),.x 3 (.t 37),.x 3 (.t 40),.x 3 (.t 42),.x 3 (.t 44)]),.n (.st none 27 (.t 12) (.t 45)),.m 13 (.c (.one (.lit .nilIface)))])
 .ret)))))))))
def yj (f0 f1 f2:Nat):AC:=(.seq (.ops false [.u 1 (.box 27 (.t 0)),.u 2 (.alloc [(.lit (.bool false)),.emp,.emp,(.lit (.bool false)),.emp,.emp,(.lit (.bool false)),.emp,.emp,(.lit (.bool false)),.emp,.emp,(.lit (.bool false)),.emp,.emp,(.lit (.bool false)),.emp,.emp,(.lit (.bool false)),.emp,.emp,(.lit (.bool false)),.emp,.emp,(.lit (.bool false)),.emp,.emp]),.m 3 (.c (.one (.lit .nilIface)))])
 (.fg [1,2] (.seq (.seq (.ops false [.u 5 (.ld none 27 true (.t 1)),.u 6 (.call f0 [(.t 5)]),.m 4 (.t 6)])
 (.fg [1,2,4] (.seq (.ops false [.m 7 (.t 4),.u 8 (.binn .neq (.t 7) (.c (.one (.lit .nilIface))))])
 (.fg [1,2,4,8] (.cond (.t 8) (.seq (.ops false [.u 9 (.build [.z [(.lit (.bool false)),.emp,.emp,(.lit (.bool false)),.emp,.emp,(.lit (.bool false)),.emp,.emp,(.lit (.bool false)),.emp,.emp,(.lit (.bool false)),.emp,.emp,(.lit (.bool false)),.emp,.emp,(.lit (.bool false)),.emp,.emp,(.lit (.bool false)),.emp,.emp,(.lit (.bool false)),.emp,.emp]]),.m 10 (.t 4),.n (.st none 27 (.t 2) (.t 9)),.m 3 (.t 10)])
 .ret) .skip)))))
 (.fg [1,2] (.seq (.ops true [.u 11 (.ld none 27 true (.t 1)),.u 12 (.fa 0 (.t 1)),.u 13 (.ld none 6 true (.t 12)),.u 14 (.ld none 27 true (.t 1)),.u 15 (.call f1 [(.t 14)]),.u 16 (.fa 15 (.t 1)),.u 17 (.ld none 3 true (.t 16)),.u 18 (.fa 12 (.t 1)),.u 19 (.ld none 3 true (.t 18)),.u 20 (.fa 18 (.t 1)),.u 21 (.ld none 3 true (.t 20)),.u 22 (.call f2 [(.t 11),(.t 13),(.t 15),(.t 17),(.t 19),(.t 21)]),.u 23 (.ext 0 (.t 22)),.u 24 (.ext 1 (.t 22)),.n (.st none 27 (.t 2) (.t 23)),.m 3 (.t 24)])
 .ret)))))
def Xh (f0 f1 f2:Nat):AC:=(.seq (.ops false [.u 1 (.box 27 (.t 0)),.u 2 (.alloc [(.lit (.bool false)),.emp,.emp,(.lit (.bool false)),.emp,.emp,(.lit (.bool false)),.emp,.emp,(.lit (.bool false)),.emp,.emp,(.lit (.bool false)),.emp,.emp,(.lit (.bool false)),.emp,.emp,(.lit (.bool false)),.emp,.emp,(.lit (.bool false)),.emp,.emp,(.lit (.bool false)),.emp,.emp]),.m 3 (.c (.one (.lit .nilIface)))])
 (.fg [1,2] (.seq (.seq (.ops false [.u 5 (.ld none 27 true (.t 1)),.u 6 (.call f0 [(.t 5)]),.m 4 (.t 6)])
 (.fg [1,2,4] (.seq (.ops false [.m 7 (.t 4),.u 8 (.binn .neq (.t 7) (.c (.one (.lit .nilIface))))])
 (.fg [1,2,4,8] (.cond (.t 8) (.seq (.ops false [.u 9 (.build [.z [(.lit (.bool false)),.emp,.emp,(.lit (.bool false)),.emp,.emp,(.lit (.bool false)),.emp,.emp,(.lit (.bool false)),.emp,.emp,(.lit (.bool false)),.emp,.emp,(.lit (.bool false)),.emp,.emp,(.lit (.bool false)),.emp,.emp,(.lit (.bool false)),.emp,.emp,(.lit (.bool false)),.emp,.emp]]),.m 10 (.t 4),.n (.st none 27 (.t 2) (.t 9)),.m 3 (.t 10)])
 .ret) .skip)))))
 (.fg [1,2] (.seq (.ops true [.u 11 (.ld none 27 true (.t 1)),.u 12 (.fa 6 (.t 1)),.u 13 (.ld none 6 true (.t 12)),.u 14 (.ld none 27 true (.t 1)),.u 15 (.call f1 [(.t 14)]),.u 16 (.fa 15 (.t 1)),.u 17 (.ld none 3 true (.t 16)),.u 18 (.fa 18 (.t 1)),.u 19 (.ld none 3 true (.t 18)),.u 20 (.fa 12 (.t 1)),.u 21 (.ld none 3 true (.t 20)),.u 22 (.call f2 [(.t 11),(.t 13),(.t 15),(.t 17),(.t 19),(.t 21)]),.u 23 (.ext 0 (.t 22)),.u 24 (.ext 1 (.t 22)),.n (.st none 27 (.t 2) (.t 23)),.m 3 (.t 24)])
 .ret)))))
def jj (f0 f1:Nat):AC:=(.seq (.ops false [.u 1 (.box 27 (.t 0)),.u 2 (.alloc [(.lit (.bool false)),.emp,.emp,(.lit (.bool false)),.emp,.emp]),.m 3 (.c (.one (.lit .nilIface)))])
 (.fg [1,2] (.seq (.seq (.ops false [.u 5 (.ld none 27 true (.t 1)),.u 6 (.call f0 [(.t 5)]),.m 4 (.t 6)])
 (.fg [1,2,4] (.seq (.ops false [.m 7 (.t 4),.u 8 (.binn .neq (.t 7) (.c (.one (.lit .nilIface))))])
 (.fg [1,2,4,8] (.cond (.t 8) (.seq (.ops false [.u 9 (.build [.z [(.lit (.bool false)),.emp,.emp,(.lit (.bool false)),.emp,.emp]]),.m 10 (.t 4),.n (.st none 6 (.t 2) (.t 9)),.m 3 (.t 10)])
 .ret) .skip)))))
 (.fg [1,2] (.seq (.ops false [.u 11 (.ld none 27 true (.t 1)),.u 12 (.call f1 [(.t 11)]),.n (.st none 6 (.t 2) (.t 12)),.m 3 (.c (.one (.lit .nilIface)))])
 .ret)))))
theorem waC (hΓ:Holds P Γ) {f fi fq fc ff fm tE:Nat} (hi:Γ fi=.dat false (JB tE)) (hq:Γ fq=.dat false vK) (hcl' : Γ fc=.dat false wB) (hf:Γ ff=.dat false Vz) (hm:Γ fm=.dat false Zo) (hc:check P f=some (46,(Jg fi fq fc ff fm).strip,[.cell 12 27 true,.tmp 13])):Sound P f (.dat false (Xz tE)):=by
 refine va hc (XaP tE) hΓ (λargs K hcl hfi hG=>?_)
 match args,hG with
 | [a,b,d,e,g,h],hG=>
  obtain ⟨c,rfl,hw,o,rfl,wo,k,rfl,wk,x,rfl,wx,y,rfl,wy,z,rfl,wz,hl,lo,lk,lx,ly,lz,hK⟩:=hG
  refine ⟨by simp,?_⟩
  have lo2:al o<=100000000:=Nat.le_trans lo (by decide)
  have lk2:al k<=100000000:=Nat.le_trans lk (by decide)
  have s:=Qab (av k)
  have zk:=Z8 wk
  by_cases h0:sqQ (av k)=0
  .have ew:wC (av k)=8:=if_pos h0
   have e8:=jc tE (by decide:(8:Nat)≠0)
   rw [ew,if_neg (by decide),e8]at hK
   unfold cqR z27 at hK
   simp only [Jc]at hK
   have ip:∀{α:Type} (x y:α),(if sqQ (av k)=0 then x else y)=x:=λx y=>if_pos h0
   simp only [go_sem,Jg,hi,cpA,cpC,jt,rA,Wc,ip,e8]
   repeat (first | (refine And.intro (by with_reducible assumption) ?_) | (refine And.intro (Nat.le_trans (by with_reducible assumption) (by decide)) ?_) | (refine And.intro (by decide) ?_))
   exact hK
  .have ew:wC (av k)=0:=if_neg h0
   have e0:=ub tE
   rw [ew,if_pos rfl,e0]at hK
   obtain ⟨n,hn⟩:∃n,sqQ (av k)=n:=⟨_,rfl⟩
   rw [hn]at s h0
   have ip:∀{α:Type} (x y:α),(if n=0 then x else y)=y:=λx y=>if_neg h0
   have zn:=Nat.le_trans s (by omega:_<=10000000)
   have es:simQ (cpv c) (av o) (av k) (rv x) (rv y) (rv z)=(av o,foQ (cpv c),n*rv x,n*rv y,n*rv z,(ovQ (av k)).1,(ovQ (av k)).2):=by unfold simQ;rw [hn]
   rw [es]at hK
   simp only [go_sem,Jg,hi,hq,hcl',hf,hm,cpA,cpC,jt,rA,Wc,ip,e0,hn,yb]
   repeat (first | (refine And.intro (by with_reducible assumption) ?_) | (refine And.intro (Nat.le_trans (by with_reducible assumption) (by decide)) ?_) | (refine And.intro (by decide) ?_))
   exact hK
theorem YaW (hΓ:Holds P Γ) {f fk fr fs tE:Nat} (hk:Γ fk=.dat false (Wt tE)) (hr:Γ fr=.dat false WJ) (hs:Γ fs=.dat false (Xz tE)) (hc:check P f=some (25,(yj fk fr fs).strip,[.cell 2 27 true,.tmp 3])):Sound P f (.dat false (JK tE)):=by
 refine va hc (xa1 tE) hΓ (λargs K hcl hfi hG=>?_)
 match args,hG with
 | [a],hG=>
  obtain ⟨c,rfl,hw,hl,hK⟩:=hG
  refine ⟨by simp,?_⟩
  have hl2:cl c<=100000000:=Nat.le_trans hl (by decide)
  have hl3:cl c<=1000000:=Nat.le_trans hl (by decide)
  by_cases h0:cchk c=0
  .have e0:=ub tE
   obtain ⟨wo,wQ,w1,w2,w3,w4,w5⟩:=id hw
   have hl0:=hl3
   unfold cl at hl0
   simp only [Nat.max_le]at hl0
   obtain ⟨l1,l2,l3,l4,l5,l6,l7⟩:=hl0
   have wW:WLA c.2.2.2.2.2:=⟨w4,w5⟩
   have lW:al c.2.2.2.2.2<=1000000:=cl_w hl3
   have aW:av c.2.2.2.2.2=cW (cpv c):=rfl
   have ef:simQ (cpv c) (av c.1) (cW (cpv c)) (rv c.2.2.2.1) (rv c.2.2.1) (rv c.2.2.2.2.1)=fiQ (cpv c):=rfl
   obtain ⟨X,hX⟩:∃X,(if wC (cW (cpv c))=0 then fiQ (cpv c) else z27)=X:=⟨_,rfl⟩
   rw [kbk h0,hX]at hK
   simp only [go_sem,yj,hk,hr,hs,cpA,cpC,aA,jt,rA,Wc,h0,e0,aW,ef,hX,cqR]
   repeat (first | (refine And.intro (by with_reducible assumption) ?_) | (refine And.intro (Nat.le_trans (by with_reducible assumption) (by decide)) ?_) | (refine And.intro (by decide) ?_))
   exact hK
  .have e1:=jc tE h0
   rw [kbM h0,if_neg h0,e1]at hK
   unfold cqR z27 at hK
   simp only [Jc]at hK
   simp only [go_sem,yj,hk,cpA,cpC,Wc,e1]
   repeat (first | (refine And.intro (by with_reducible assumption) ?_) | (refine And.intro (Nat.le_trans (by with_reducible assumption) (by decide)) ?_) | (refine And.intro (by decide) ?_))
   exact hK
theorem uaT (hΓ:Holds P Γ) {f fk fr fs tE:Nat} (hk:Γ fk=.dat false (Wt tE)) (hr:Γ fr=.dat false QC) (hs:Γ fs=.dat false (Xz tE)) (hc:check P f=some (25,(Xh fk fr fs).strip,[.cell 2 27 true,.tmp 3])):Sound P f (.dat false (JR tE)):=by
 refine va hc (za6 tE) hΓ (λargs K hcl hfi hG=>?_)
 match args,hG with
 | [a],hG=>
  obtain ⟨c,rfl,hw,hl,hK⟩:=hG
  refine ⟨by simp,?_⟩
  have hl2:cl c<=100000000:=Nat.le_trans hl (by decide)
  have hl3:cl c<=1000000:=Nat.le_trans hl (by decide)
  by_cases h0:cchk c=0
  .have e0:=ub tE
   obtain ⟨wo,wQ,w1,w2,w3,w4,w5⟩:=id hw
   have hl0:=hl3
   unfold cl at hl0
   simp only [Nat.max_le]at hl0
   obtain ⟨l1,l2,l3,l4,l5,l6,l7⟩:=hl0
   obtain ⟨R,hR⟩:∃R,reQ (cpv c)=R:=⟨_,rfl⟩
   have zr:=Zbv (Zbh hw hl)
   have hR' : rsQ (cpv c)=R:=hR
   rw [hR']at zr
   have wW:WLA (rcan R.1,rcan R.2):=Ux R
   have lW:al (rcan R.1,rcan R.2)<=1000000:=Nat.le_trans zr (by decide)
   have ef:simQ (cpv c) (av c.2.1) R (rv c.2.2.2.1) (rv c.2.2.2.2.1) (rv c.2.2.1)=seQ (cpv c):=by rw [<-hR];rfl
   obtain ⟨X,hX⟩:∃X,(if wC R=0 then seQ (cpv c) else z27)=X:=⟨_,rfl⟩
   rw [xbt h0,hR',hX]at hK
   simp only [go_sem,Xh,hk,hr,hs,cpA,cpC,aA,jt,rA,Wc,h0,e0,hR,Zae,ef,hX,cqR]
   repeat (first | (refine And.intro (by with_reducible assumption) ?_) | (refine And.intro (Nat.le_trans (by with_reducible assumption) (by decide)) ?_) | (refine And.intro (by decide) ?_))
   exact hK
  .have e1:=jc tE h0
   rw [XbG h0,if_neg h0,e1]at hK
   unfold cqR z27 at hK
   simp only [Jc]at hK
   simp only [go_sem,Xh,hk,cpA,cpC,Wc,e1]
   repeat (first | (refine And.intro (by with_reducible assumption) ?_) | (refine And.intro (Nat.le_trans (by with_reducible assumption) (by decide)) ?_) | (refine And.intro (by decide) ?_))
   exact hK
theorem XaD (hΓ:Holds P Γ) {f fk ff tE:Nat} (hk:Γ fk=.dat false (Wt tE)) (hf:Γ ff=.dat false Vz) (hc:check P f=some (13,(jj fk ff).strip,[.cell 2 6 true,.tmp 3])):Sound P f (.dat false (QK tE)):=by
 refine va hc (ka5 tE) hΓ (λargs K hcl hfi hG=>?_)
 match args,hG with
 | [a],hG=>
  obtain ⟨c,rfl,hw,hl,hK⟩:=hG
  refine ⟨by simp,?_⟩
  have hl2:cl c<=100000000:=Nat.le_trans hl (by decide)
  have hl3:cl c<=1000000:=Nat.le_trans hl (by decide)
  by_cases h0:cchk c=0
  .have e0:=ub tE
   rw [h0,if_pos rfl,e0]at hK
   simp only [go_sem,jj,hk,hf,cpA,cpC,Wc,h0,e0]
   repeat (first | (refine And.intro (by with_reducible assumption) ?_) | (refine And.intro (Nat.le_trans (by with_reducible assumption) (by decide)) ?_) | (refine And.intro (by decide) ?_))
   exact hK
  .have e1:=jc tE h0
   rw [if_neg h0,e1,qaN,Jc]at hK
   simp only [go_sem,jj,hk,cpA,cpC,Wc,e1]
   repeat (first | (refine And.intro (by with_reducible assumption) ?_) | (refine And.intro (Nat.le_trans (by with_reducible assumption) (by decide)) ?_) | (refine And.intro (by decide) ?_))
   exact hK
end Go.Abs
end
section
namespace Go.Num
theorem v2e {a b:V2} (h1:a.1=b.1) (h2:a.2=b.2):a=b:=Prod.ext h1 h2
def en1 (c:CpR) (a b:V2):V2:=addQ c.1 (timesQ (cW c) (subQ b a))
def en2 (c:CpR) (a b:V2):V2:=subQ c.2.1 (timesQ (rsQ c) (subQ b a))
def en3 (c:CpR) (a b:V2):V2:=addQ (en1 c a b) (timesQ (cW c) (subQ a c.1))
def en4 (c:CpR) (a b:V2):V2:=addQ (en2 c a b) (timesQ (rsQ c) (subQ b c.2.1))
theorem Qbw (c:CpR) (a b:V2):ptQ c a b=addQ a (timesQ (cW c) (subQ b a)):=by
 unfold ptQ;congr 1
 unfold timQ timesQ cW;exact v2e (by simp only;grind) (by simp only;grind)
end Go.Num
end
section
namespace Go.Num
open Go.Abs
def enC (c:Cp) (a b:Arc):Nat:=if cchk2 c [a,b]≠0 then cchk2 c [a,b] else if hldQ (cpv c) (av a) (av b) then alC c else 21
def enL (c:CpR) (a b:V2):List V2:=[a,b,en1 c a b,en3 c a b,en2 c a b,en4 c a b]
def enR (c:Cp) (a b:Arc):List V2:=if enC c a b=0 then enL (cpv c) (av a) (av b) else []
def smC (c d:Cp):Nat:=if cchk c≠0 then cchk c else cchk d
theorem ybe {α:Type} {l m:List α} {k:Nat} {x y:α} (hx:l[k]?=some x) (hy:m[k]?=some y):(l.take (k+1)=m.take (k+1))↔(l.take k=m.take k/\x=y):=by
 rw [List.take_add_one,List.take_add_one,hx,hy]
 simp only [Option.toList_some]
 constructor
 .intro h
  have h1:=List.append_inj' h rfl
  exact ⟨h1.1,by simpa using h1.2⟩
 .rintro ⟨h1,h2⟩;rw [h1,h2]
theorem getM {p:BQ} {k:Nat} (h:k<p.length):∃u,p[k]?=some u/\(mcs p).getD k mo0=mcan u/\u∈p:=by
 refine ⟨p[k],List.getElem?_eq_getElem h,?_,List.getElem_mem h⟩
 unfold mcs
 rw [List.getD_eq_getElem?_getD,List.getElem?_map,List.getElem?_eq_getElem h]
 rfl
theorem QaY (p:BQ):(mcs p).length=p.length:=by unfold mcs;rw [List.length_map]
theorem uby {p:BQ} {u:MQ} (h:u∈p) {b:Nat} (hb:sz p<=b):rz u.2.2<=b:=Nat.le_trans (JaW h) hb
end Go.Num
namespace Go.Abs
open Go.Num
variable {P:Program} {Γ:Nat->Spec}
def XaU (tE:Nat) (l:List AV) (K:AV->Prop):Prop:=
 match l with
 | [c,a,b]=>onCp (λc=>onA (λa=>onA (λb=>cl c<=1000/\al a<=1000/\al b<=1000/\K (.tup [.one (.slice ((enR c a b).map λp=>aC (rcan p.1,rcan p.2))),errV tE (enC c a b)])) b) a) c
 | _=>False
theorem XaJ (tE:Nat) (c a b:AV) (K:AV->Prop):XaU tE [c,a,b] K=(onCp (λc=>onA (λa=>onA (λb=>cl c<=1000/\al a<=1000/\al b<=1000/\K (.tup [.one (.slice ((enR c a b).map λp=>aC (rcan p.1,rcan p.2))),errV tE (enC c a b)])) b) a) c):=propext Iff.rfl
@[congr] theorem ZbL (tE:Nat) {K:AV->Prop} {l l' : List AV} (h:l=l'):XaU tE l K=XaU tE l' K:=by subst h;rfl
attribute [go_sem] XaJ
attribute [go_sem ↓] XaJ
def kB (tE:Nat) (l:List AV) (K:AV->Prop):Prop:=
 match l with
 | [c,d]=>onCp (λc=>onCp (λd=>cl c<=1000/\cl d<=1000/\K (.tup [.one (.lit (.bool (decide (smC c d=0) && decide (cCur (cpv c)=cCur (cpv d))))),errV tE (smC c d)])) d) c
 | _=>False
theorem kaE (tE:Nat) (c d:AV) (K:AV->Prop):kB tE [c,d] K=(onCp (λc=>onCp (λd=>cl c<=1000/\cl d<=1000/\K (.tup [.one (.lit (.bool (decide (smC c d=0) && decide (cCur (cpv c)=cCur (cpv d))))),errV tE (smC c d)])) d) c):=propext Iff.rfl
@[congr] theorem YbK (tE:Nat) {K:AV->Prop} {l l' : List AV} (h:l=l'):kB tE l K=kB tE l' K:=by subst h;rfl
attribute [go_sem] kaE
attribute [go_sem ↓] kaE
theorem zaH (tE:Nat):Good (kB tE):=Va λas=>by
 unfold kB
 split
 .exact (Qo λ_=>(Qo λ_=>(.and λ_=>(.and λ_=>(.ret _)))))
 .exact .of λK hk=>hk.elim
def Xg (f0 f1:Nat):AC:=(.seq (.ops false [.u 2 (.box 27 (.t 0)),.u 3 (.box 27 (.t 1)),.m 4 .fa,.m 5 (.c (.one (.lit .nilIface)))])
 (.fg [2,3] (.seq (.ops false [.u 11 (.ld none 27 true (.t 2)),.u 12 (.call f0 [(.t 11)]),.m 10 (.t 12),.u 13 (.ext 0 (.t 10)),.u 14 (.ext 1 (.t 10)),.m 6 (.t 13),.m 7 (.t 14)])
 (.fg [3,6,7] (.seq (.seq (.ops false [.m 15 (.t 7),.u 16 (.binn .neq (.t 15) (.c (.one (.lit .nilIface))))])
 (.fg [3,6,7,16] (.cond (.t 16) (.seq (.ops false [.m 17 (.t 7),.m 4 .fa,.m 5 (.t 17)])
 .ret) .skip)))
 (.fg [3,6] (.seq (.ops false [.u 19 (.ld none 27 true (.t 3)),.u 20 (.call f0 [(.t 19)]),.m 18 (.t 20),.u 21 (.ext 0 (.t 18)),.u 22 (.ext 1 (.t 18)),.m 8 (.t 21),.m 7 (.t 22)])
 (.fg [6,7,8] (.seq (.seq (.ops false [.m 23 (.t 7),.u 24 (.binn .neq (.t 23) (.c (.one (.lit .nilIface))))])
 (.fg [6,7,8,24] (.cond (.t 24) (.seq (.ops false [.m 25 (.t 7),.m 4 .fa,.m 5 (.t 25)])
 .ret) .skip)))
 (.fg [6,8] (.seq (.seq (.ops false [.m 26 (.t 6),.u 27 (.len (.t 26)),.m 28 (.t 8),.u 29 (.len (.t 28)),.u 30 (.bin .neq (.t 27) (.t 29))])
 (.fg [6,8,30] (.cond (.t 30) (.seq (.ops false [.m 4 .fa,.m 5 (.c (.one (.lit .nilIface)))])
 .ret) .skip)))
 (.fg [6,8] (.seq (.seq (.ops false [.m 31 (.t 6),.u 32 (.len (.t 31)),.m 33 (.i 0)])
 (.fg [6,8,32,33] (.block 0 (.loop (.seq (.ops false [.u 34 (.bin .lss (.t 33) (.t 32))])
 (.fg [6,8,32,33,34] (.seq (.cond (.t 34) .skip (.exit 0))
 (.fg [6,8,32,33] (.seq (.block 1 (.seq (.ops false [.m 35 (.t 33),.m 9 (.t 35)])
 (.fg [6,8,9,32,33] (.seq (.ops true [.m 36 (.t 6),.m 37 (.t 9),.u 38 (.idx 5 (.t 36) (.t 37)),.u 39 (.fa 0 (.t 38)),.u 40 (.ld none 1 false (.t 39)),.m 41 (.t 8),.m 42 (.t 9),.u 43 (.idx 5 (.t 41) (.t 42)),.u 44 (.fa 0 (.t 43)),.u 45 (.ld none 1 false (.t 44)),.u 46 (.bin .neq (.t 40) (.t 45)),.m 47 (.t 46),.w 48 47 false (.mv (.t 6)),.w 49 47 false (.mv (.t 9)),.w 50 47 false (.idx 5 (.t 48) (.t 49)),.w 51 47 false (.fa 1 (.t 50)),.w 52 47 false (.ld none 1 false (.t 51)),.w 53 47 false (.mv (.t 8)),.w 54 47 false (.mv (.t 9)),.w 55 47 false (.idx 5 (.t 53) (.t 54)),.w 56 47 false (.fa 1 (.t 55)),.w 57 47 false (.ld none 1 false (.t 56)),.w 58 47 false (.bin .neq (.t 52) (.t 57)),.u 59 (.pick (.t 47) .tr (.t 58)),.m 60 (.t 59),.w 61 60 false (.mv (.t 6)),.w 62 60 false (.mv (.t 9)),.w 63 60 false (.idx 5 (.t 61) (.t 62)),.w 64 60 false (.fa 2 (.t 63)),.w 65 60 false (.ld none 3 true (.t 64)),.w 66 60 false (.mv (.t 8)),.w 67 60 false (.mv (.t 9)),.w 68 60 false (.idx 5 (.t 66) (.t 67)),.w 69 60 false (.fa 2 (.t 68)),.w 70 60 false (.ld none 3 true (.t 69)),.w 71 60 false (.call f1 [(.t 65),(.t 70)]),.w 72 60 false (.bin .neq (.t 71) (.i 0)),.u 73 (.pick (.t 60) .tr (.t 72))])
 (.fg [6,8,32,33,73] (.cond (.t 73) (.seq (.ops false [.m 4 .fa,.m 5 (.c (.one (.lit .nilIface)))])
 .ret) .skip))))))
 (.fg [6,8,32,33] (.ops false [.u 74 (.bin .add (.t 33) (.i 1)),.m 33 (.t 74)])))))))))))
 (.fg [] (.seq (.ops false [.m 4 .tr,.m 5 (.c (.one (.lit .nilIface)))])
 .ret)))))))))))))))
set_option maxHeartbeats 1000000 in
theorem jay (hΓ:Holds P Γ) {f fv fq tE:Nat} (hv:Γ fv=.dat false (uA tE)) (hq:Γ fq=.dat true Wg) (hc:check P f=some (75,(Xg fv fq).strip,[.tmp 4,.tmp 5])):Sound P f (.dat false (kB tE)):=by
 refine va hc (zaH tE) hΓ (λargs K hcl hfi hG=>?_)
 match args,hG with
 | [x,y],hG=>
  obtain ⟨c,rfl,hw,d,rfl,hw2,hl,hl2,hK⟩:=hG
  refine ⟨by simp,?_⟩
  have e0:=ub tE
  by_cases h0:cchk c=0
  case neg=>
   have es:smC c d=cchk c:=if_pos h0
   have e1:=jc tE h0
   rw [es,e1,decide_eq_false h0,Bool.false_and]at hK
   simp only [go_sem,Xg,hv,cpA,cpC,Wc,ky h0,e1]
   repeat (first | (refine And.intro (by with_reducible assumption) ?_) | (refine And.intro (Nat.le_trans (by with_reducible assumption) (by decide)) ?_) | (refine And.intro (by decide) ?_))
   exact hK
  have es:smC c d=cchk d:=by unfold smC;rw [if_neg (by omega)]
  rw [es]at hK
  have pc:=zam (xap hw hl)
  have i0:=Jw pc.canon.ins
  by_cases h1:cchk d=0
  case neg=>
   have e1:=jc tE h1
   rw [e1,decide_eq_false h1,Bool.false_and]at hK
   simp only [go_sem,Xg,hv,cpA,cpC,Wc,h0,e0,Zt,ky h1,e1]
   repeat (first | (refine And.intro (by with_reducible assumption) ?_) | (refine And.intro (Nat.le_trans (by with_reducible assumption) (by decide)) ?_) | (refine And.intro (by decide) ?_))
   exact hK
  rw [h1,e0,decide_eq_true rfl,Bool.true_and]at hK
  have pd:=zam (xap hw2 hl2)
  have j0:=Jw pd.canon.ins
  have lc:=xH pc.canon
  have ld:=xH pd.canon
  have sc:=pc.size
  have sd:=pd.size
  obtain ⟨p,hp⟩:∃p,cCur (cpv c)=p:=⟨_,rfl⟩
  obtain ⟨q,hq0⟩:∃q,cCur (cpv d)=q:=⟨_,rfl⟩
  rw [hp]at i0 lc sc hK
  rw [hq0]at j0 ld sd hK
  have lp:=QaY p
  have lq:=QaY q
  simp only [go_sem,Xg,hv,cpA,cpC,Wc,h0,h1,e0,Zt,hp,hq0]
  repeat (first | (refine And.intro (by with_reducible assumption) ?_) | (refine And.intro (Nat.le_trans (by with_reducible assumption) (by decide)) ?_) | (refine And.intro (by decide) ?_))
  intro _ _
  refine ⟨λhlen _=>?_,λhlen=>?_⟩
  case refine_2=>
   rw [decide_eq_false (λe=>hlen (by rw [e]))]at hK
   exact hK
  rw [lp,lq]at hlen
  refine ka (λk:Nat=>⟨mkV [(6,.one (.slice ((mcs p).map mC))),(8,.one (.slice ((mcs q).map mC))),(32,.one (.lit (.int .i64 ((mcs p).length:Nat)))),(33,.one (.lit (.int .i64 k)))],mkH []⟩) (λk=>k<=p.length/\p.take k=q.take k) (λk=>p.length-k) 0 ?_ ?_ ?_
  .exact Qa (by simp [okS,okV,okC,okL,okH,okB,okE,Za,Ja,za,ja,wsA,ws]) trivial
  .exact ⟨Nat.zero_le _,rfl⟩
  .rintro k ⟨hk,htk⟩
   rw [lp]
   by_cases hlt:k<p.length
   .obtain ⟨⟨u1,u2,u3⟩,hu,hu2,hum⟩:=getM hlt
    obtain ⟨⟨v1,v2,v3⟩,hv1,hv2,hvm⟩:=getM (by omega:k<q.length)
    have hlp:k<(mcs p).length:=by omega
    have hlq:k<(mcs q).length:=by omega
    have r1:=Nat.le_trans (uby hum sc) (by decide:_<=1073741824)
    have r2:=Nat.le_trans (uby hvm sd) (by decide:_<=1073741824)
    simp only at r1 r2
    have ts:=ybe hu hv1
    have bad:¬((u1,u2,u3)=(v1,v2,v3))->K (.tup [.one (.lit (.bool false)),.one (.lit .nilIface)]):=λh=>by
     rw [decide_eq_false (λe=>h (by rw [e,hv1]at hu;simpa using hu.symm))]at hK
     exact hK
    simp only [go_sem,hlt,hlp,hlq,hq,hu2,hv2,mC,mcan,yb]
    refine ⟨λh1=>⟨λh2=>⟨r1,r2,λh3=>⟨by omega,k+1,Qa (by simp [okS,okV,okC,okL,okH,okB,okE,Za,Ja,za,ja,wsA,ws,lp]) trivial,⟨by omega,ts.2 ⟨htk,?_⟩⟩,by omega⟩,λh3=>bad λe=>h3 ?_⟩,λh2=>bad λe=>h2 ?_⟩,λh1=>bad λe=>h1 ?_⟩
    .rw [h1,h2,Jj.1 h3]
    .simp only [Prod.mk.injEq]at e;exact Jj.2 e.2.2
    .simp only [Prod.mk.injEq]at e;exact e.2.1
    .simp only [Prod.mk.injEq]at e;exact e.1
   .have ek:k=p.length:=by omega
    rw [ek,List.take_length,hlen,List.take_length]at htk
    rw [decide_eq_true htk]at hK
    simp only [go_sem,hlt]
    exact hK
end Go.Abs
end
section
namespace Go.Num
open Go.Abs
def okT (n:Int):Prop:=n=1∨n=2∨n=4∨n=12
def tx (n:Int):ByteArray:=if n=12 then ⟨#[49,50]⟩ else if n=4 then ⟨#[52]⟩ else if n=2 then ⟨#[50]⟩ else ⟨#[49]⟩
def txR (q:Rat):ByteArray:=if q.den=1 then tx q.num else tx q.num++⟨#[47]⟩++tx (q.den:Nat)
theorem Wbr (n:Int):(tx n).size<=2:=by unfold tx;split <;> (try split) <;> (try split) <;> decide
theorem wbe {n:Int} (h:okT n):∃m:Nat,n=m/\1<=m/\m<=12:=by
 rcases h with h | h | h | h
 .exact ⟨1,h,by decide,by decide⟩
 .exact ⟨2,h,by decide,by decide⟩
 .exact ⟨4,h,by decide,by decide⟩
 .exact ⟨12,h,by decide,by decide⟩
theorem ZbA {m:Nat} (h1:1<=m) (h2:m<=12):digs m=[m]:=by rw [xp (by omega),show m / 4294967296=0 by omega,Qb,show m % 4294967296=m by omega]
end Go.Num
namespace Go.Abs
open Go.Num
variable {P:Program} {Γ:Nat->Spec}
theorem Qbc {h h' : Nat->HB} {z:Nat} {b:Bool} {w:W}:okB h h' (some ⟨[[zb w,zm w]],z,b⟩) (some ⟨[[zb w,zm w]],z,b⟩):=
 ⟨⟨rfl,rfl⟩,.inl ⟨rfl,λe he c hc=>by
  rw [List.mem_singleton.1 he]at hc
  simp only [List.mem_cons,List.not_mem_nil,or_false]at hc
  rcases hc with rfl | rfl
  .exact of_eq_true (WU _)
  .exact of_eq_true (zR _)⟩⟩
def eJ (s:ByteArray):AV:=.one (.slice [[.lit (.string s)]])
theorem ua8 (x y:ByteArray) (h:eJ x=eJ y):x=y:=by
 simp only [eJ,AV.one.injEq,C.slice.injEq,List.cons.injEq,C.lit.injEq,Value.string.injEq,and_true]at h
 exact h
def onJ (k:ByteArray->Prop) (a:AV):Prop:=onE eJ k a
@[congr] theorem kbP {k:ByteArray->Prop} {a a' : AV} (h:a=a'):onJ k a=onJ k a':=by subst h;rfl
theorem Vbu (k:ByteArray->Prop) (x:ByteArray):onJ k (.one (.slice [[.lit (.string x)]]))=k x:=km ua8 k x
theorem vbK {β:Type} {T:ByteArray->(β->Prop)->Prop} (h:∀x,GoodT (T x)) {a:AV}:GoodT λK=>onJ (λx=>T x K) a:=
 zJ (e:=eJ) (T:=T) ua8 h
attribute [go_sem] Vbu
attribute [go_sem ↓] Vbu
def Vq (l:List AV) (K:AV->Prop):Prop:=
 match l with
 | [a]=>asInt (λk n=>k=.i64/\okT n/\K (.one (.lit (.string (tx n))))) a
 | _=>False
theorem VW (a:AV) (K:AV->Prop):Vq [a] K=(asInt (λk n=>k=.i64/\okT n/\K (.one (.lit (.string (tx n))))) a):=propext Iff.rfl
@[congr] theorem Zbp {K:AV->Prop} {l l' : List AV} (h:l=l'):Vq l K=Vq l' K:=by subst h;rfl
attribute [go_sem] VW
attribute [go_sem ↓] VW
theorem zad:Good Vq:=Va λas=>by
 unfold Vq
 split
 .exact (vc (λ_ _=>(.and λ_=>(.and λ_=>(.ret _)))) _)
 .exact .of λK hk=>hk.elim
def Qx (l:List AV) (K:AV->Prop):Prop:=
 match l with
 | [a,b]=>asInt (λk n=>k=.i64/\okT n/\asInt (λk m=>k=.i64/\m=10/\K (.one (.lit (.string (tx n))))) b) a
 | _=>False
theorem WR (a b:AV) (K:AV->Prop):Qx [a,b] K=(asInt (λk n=>k=.i64/\okT n/\asInt (λk m=>k=.i64/\m=10/\K (.one (.lit (.string (tx n))))) b) a):=propext Iff.rfl
@[congr] theorem vbE {K:AV->Prop} {l l' : List AV} (h:l=l'):Qx l K=Qx l' K:=by subst h;rfl
attribute [go_sem] WR
attribute [go_sem ↓] WR
theorem jaC:Good Qx:=Va λas=>by
 unfold Qx
 split
 .exact (vc (λ_ _=>(.and λ_=>(.and λ_=>(vc (λ_ _=>(.and λ_=>(.and λ_=>(.ret _)))) _)))) _)
 .exact .of λK hk=>hk.elim
def ym (l:List AV) (K:AV->Prop):Prop:=
 match l with
 | [a]=>asInt (λk n=>k=.i64/\okT n/\K (.one (.lit (.string (tx n))))) a
 | _=>False
theorem Qas (a:AV) (K:AV->Prop):ym [a] K=(asInt (λk n=>k=.i64/\okT n/\K (.one (.lit (.string (tx n))))) a):=propext Iff.rfl
@[congr] theorem qbF {K:AV->Prop} {l l' : List AV} (h:l=l'):ym l K=ym l' K:=by subst h;rfl
attribute [go_sem] Qas
attribute [go_sem ↓] Qas
theorem kP:Good ym:=Va λas=>by
 unfold ym
 split
 .exact (vc (λ_ _=>(.and λ_=>(.and λ_=>(.ret _)))) _)
 .exact .of λK hk=>hk.elim
def qx (l:List AV) (K:AV->Prop):Prop:=
 match l with
 | [a,b]=>onJ (λs=>b=.one (.lit (.string ⟨#[]⟩))/\K (.one (.lit (.string s)))) a
 | _=>False
theorem kaw (a b:AV) (K:AV->Prop):qx [a,b] K=(onJ (λs=>b=.one (.lit (.string ⟨#[]⟩))/\K (.one (.lit (.string s)))) a):=propext Iff.rfl
@[congr] theorem qbD {K:AV->Prop} {l l' : List AV} (h:l=l'):qx l K=qx l' K:=by subst h;rfl
attribute [go_sem] kaw
attribute [go_sem ↓] kaw
theorem XaB:Good qx:=Va λas=>by
 unfold qx
 split
 .exact (vbK λ_=>(.and λ_=>(.ret _)))
 .exact .of λK hk=>hk.elim
def Qq (l:List AV) (K:AV->Prop):Prop:=
 match l with
 | [a]=>onW (λw=>okT (zv w)/\K (.one (.lit (.string (tx (zv w)))))) a
 | _=>False
theorem UY (a:AV) (K:AV->Prop):Qq [a] K=(onW (λw=>okT (zv w)/\K (.one (.lit (.string (tx (zv w)))))) a):=propext Iff.rfl
@[congr] theorem Wby {K:AV->Prop} {l l' : List AV} (h:l=l'):Qq l K=Qq l' K:=by subst h;rfl
attribute [go_sem] UY
attribute [go_sem ↓] UY
theorem uag:Good Qq:=Va λas=>by
 unfold Qq
 split
 .exact (Vl λ_=>(.and λ_=>(.ret _)))
 .exact .of λK hk=>hk.elim
def Yp (l:List AV) (K:AV->Prop):Prop:=
 match l with
 | [a]=>onR (λx=>okT (rv x).num/\okT ((rv x).den:Nat)/\rl x<=4294967296/\K (.one (.lit (.string (txR (rv x)))))) a
 | _=>False
theorem W7 (a:AV) (K:AV->Prop):Yp [a] K=(onR (λx=>okT (rv x).num/\okT ((rv x).den:Nat)/\rl x<=4294967296/\K (.one (.lit (.string (txR (rv x)))))) a):=propext Iff.rfl
@[congr] theorem Ubt {K:AV->Prop} {l l' : List AV} (h:l=l'):Yp l K=Yp l' K:=by subst h;rfl
attribute [go_sem] W7
attribute [go_sem ↓] W7
theorem Zah:Good Yp:=Va λas=>by
 unfold Yp
 split
 .exact (wh λ_=>(.and λ_=>(.and λ_=>(.and λ_=>(.ret _)))))
 .exact .of λK hk=>hk.elim
theorem XW (hΓ:Holds P Γ) {f:Nat} (hc:check P f=some (15,(vb).strip,[.tmp 2])):Sound P f (.dat false Vq):=by
 refine va hc zad hΓ (λargs K hcl hfi hG=>?_)
 match args,hG with
 | [a],hG=>
  obtain ⟨k,n,rfl,rfl,hn,hK⟩:=Ua hG
  refine ⟨by simp,?_⟩
  rcases hn with rfl | rfl | rfl | rfl
  .simp only [go_sem,vb]
   exact ⟨λ_=>⟨by decide,⟨by decide,by decide,by decide⟩,hK⟩,λh=>absurd (by decide) h⟩
  .simp only [go_sem,vb]
   exact ⟨λ_=>⟨by decide,⟨by decide,by decide,by decide⟩,hK⟩,λh=>absurd (by decide) h⟩
  .simp only [go_sem,vb]
   exact ⟨λ_=>⟨by decide,⟨by decide,by decide,by decide⟩,hK⟩,λh=>absurd (by decide) h⟩
  .simp only [go_sem,vb]
   exact ⟨λh=>absurd h (by decide),λ_=>⟨by decide,by decide,by decide,⟨by decide,by decide,by decide⟩,hK⟩⟩
theorem Uah (hΓ:Holds P Γ) {f fs fn fb fi:Nat} (hs:Γ fs=.dat false Vq) (hc:check P f=some (54,(Uc fs fn fb fi).strip,[.tmp 4])):Sound P f (.dat false Qx):=by
 refine va hc jaC hΓ (λargs K hcl hfi hG=>?_)
 match args,hG with
 | [a,b],hG=>
  rw [WR]at hG
  obtain ⟨k,n,rfl,rfl,hn,hG'⟩:=Ua hG
  obtain ⟨k',n',rfl,rfl,rfl,hK⟩:=Ua hG'
  clear hG hG'
  refine ⟨by simp,?_⟩
  have a1:(0:Int)<=n:=by rcases hn with rfl | rfl | rfl | rfl <;> decide
  have a2:n<100:=by rcases hn with rfl | rfl | rfl | rfl <;> decide
  simp only [go_sem,Uc,hs,a1,a2,hn]
  exact hK
theorem Xah (hΓ:Holds P Γ) {f fs:Nat} (hs:Γ fs=.dat false Qx) (hc:check P f=some (5,(ve fs).strip,[.tmp 2])):Sound P f (.dat false ym):=by
 refine va hc kP hΓ (λargs K hcl hfi hG=>?_)
 match args,hG with
 | [a],hG=>
  obtain ⟨k,n,rfl,rfl,hn,hK⟩:=Ua hG
  refine ⟨by simp,?_⟩
  simp only [go_sem,ve,hs,hn]
  exact hK
theorem kW (hΓ:Holds P Γ) {f fs:Nat} (hs:Γ fs=.dat false ym) (hc:check P f=some (5,(yr fs).strip,[.tmp 2])):Sound P f (.dat false ym):=by
 refine va hc kP hΓ (λargs K hcl hfi hG=>?_)
 match args,hG with
 | [a],hG=>
  obtain ⟨k,n,rfl,rfl,hn,hK⟩:=Ua hG
  refine ⟨by simp,?_⟩
  simp only [go_sem,yr,hs,hn]
  exact hK
theorem wah (hΓ:Holds P Γ) {f fg fw fs:Nat} (hc:check P f=some (75,(Xr fg fw fs).strip,[.tmp 4])):Sound P f (.dat false qx):=by
 refine va hc XaB hΓ (λargs K hcl hfi hG=>?_)
 match args,hG with
 | [a,b],hG=>
  obtain ⟨s,rfl,rfl,hK⟩:=hG
  refine ⟨by simp,?_⟩
  simp only [go_sem,Xr,eJ]
  exact ⟨λ_=>⟨by decide,hK⟩,λh=>absurd rfl h⟩
theorem VY (hΓ:Holds P Γ) {f fm fs fi fr fj fn:Nat} (hm:Γ fm=.dat false Ji) (hs:Γ fs=.dat false zu) (hi:Γ fi=.dat false ym) (hj:Γ fj=.dat false qx) (hn:Γ fn=.dat true Qf) (hc:check P f=some (44,(Ws fm fs fi fr fj fn).strip,[.tmp 2])):Sound P f (.dat false Qq):=by
  refine va hc uag hΓ (λargs K hcl hfi hG=>?_)
  match args,hG with
  | [a],hG=>
    obtain ⟨w,rfl,hw,h1,hK⟩:=hG
    refine ⟨by simp,?_⟩
    obtain ⟨m,hm1,m1,m2⟩:=wbe h1
    rw [hm1]at h1 hK
    have d1:digs m=[m]:=ZbA m1 m2
    have d0:=Qb
    have v1 : val [m] / 1000000000 = 0 := by have : val [m] = m := by simp [val]
                                             omega
    have v2 : val [m] % 1000000000 = m := by have : val [m] = m := by simp [val]
                                             omega
    have n0:¬((m:Int)<0):=by omega
    have w1:WL [m]:=Yb.2 ⟨by omega,Xb⟩
    simp only [go_sem,Ws,hm,hs,hi,hj,hn,hw,hm1,Int.natAbs_natCast,d1]
    refine ka (λk:Nat=>if k=0 then ⟨mkV [(1,.one (.ptr 1 1 0 0)),(3,wsA [m]),(4,.one .emp)],mkH [(1,⟨1,some ⟨[[zb w,zm w]],2,true⟩⟩)]⟩ else ⟨mkV [(1,.one (.ptr 1 1 0 0)),(3,wsA []),(4,.one (.full [[.lit (.string (tx m))]]))],mkH [(1,⟨1,some ⟨[[zb w,zm w]],2,true⟩⟩)]⟩) (λ_=>True) (λk=>1-k) 0 ?_ trivial ?_
    . rw [if_pos rfl];exact Qa (by simp [okS,okV,okC,okL,okH,okB,okE,Za,Ja,za,ja,wsA,ws,wc]) ⟨Qbc,trivial⟩
    . intro k _
      by_cases hk:k=0
      . subst hk
        rw [if_pos rfl]
        simp only [go_sem,hs,hi,v1,v2,d0,h1]
        refine ⟨w1,by decide,by decide,by omega,λe he=>by simp at he,1,?_,by decide⟩
        rw [if_neg (by decide)]
        exact Qa (by simp [okS,okV,okC,okL,okH,okB,okE,Za,Ja,za,ja,wsA,ws,wc]) ⟨Qbc,trivial⟩
      . rw [if_neg hk]
        simp only [go_sem,hj,hn,hw,hm1,n0]
        exact hK
theorem Y6 (hΓ:Holds P Γ) {f fp fo fc ft:Nat} (hp:Γ fp=.dat false wd) (ho:Γ fo=.dat false zo) (hc' : Γ fc=.dat true Zy) (ht:Γ ft=.dat false Qq) (hc:check P f=some (22,(Uj fp fo fc ft).strip,[.tmp 2])):Sound P f (.dat false Yp):=by
 refine va hc Zah hΓ (λargs K hcl hfi hG=>?_)
 match args,hG with
 | [a],hG=>
  obtain ⟨x,rfl,hx,h1,h2,hl,hK⟩:=hG
  refine ⟨by simp,?_⟩
  obtain ⟨q,hq⟩:∃q,rv x=q:=⟨_,rfl⟩
  rw [hq]at h1 h2 hK
  unfold txR at hK
  have e1:ordI ((q.den:Nat):Int) 1=0↔q.den=1:=by unfold ordI;split <;> (try split) <;> omega
  by_cases hd:q.den=1
  .rw [if_pos hd]at hK
   simp only [go_sem,Uj,hp,ho,hc',ht,hx,hq]
   exact ⟨hl,λ_=>⟨h1,hK⟩,λh=>absurd (e1.2 hd) h⟩
  .rw [if_neg hd]at hK
   simp only [go_sem,Uj,hp,ho,hc',ht,hx,hq]
   have z1:=Wbr q.num
   have z2:=Wbr (q.den:Nat)
   have z3:(ByteArray.mk #[47]).size=1:=rfl
   exact ⟨hl,λh=>absurd (e1.1 h) hd,λ_=>⟨h1,by omega,h2,by rw [ByteArray.size_append];omega,hK⟩⟩
end Go.Abs
end
section
namespace Go.Num
open Go.Abs
theorem QbH (w:V2):0<=sqQ w:=by
 have h:∀x:Rat,0<=x*x:=λx=>by
  rcases Rat.le_total (a:=0) (b:=x) with h | h
  .exact Rat.mul_nonneg h h
  .have h2:0<=-x:=by grind
   have:=Rat.mul_nonneg h2 h2
   grind
 unfold sqQ
 have h1:=h w.1
 have h2:=h w.2
 grind
theorem Jbs {w:V2} (h:sqQ w≠0):0<sqQ w:=by have:=QbH w;grind
theorem Ya0 {w:V2} (h:sqQ w=0):w=(0,0):=by
 have hh:∀x:Rat,0<=x*x:=λx=>by
  rcases Rat.le_total (a:=0) (b:=x) with h | h
  .exact Rat.mul_nonneg h h
  .have h2:0<=-x:=by grind
   have:=Rat.mul_nonneg h2 h2
   grind
 unfold sqQ at h
 have h1:=hh w.1
 have h2:=hh w.2
 have e1:w.1*w.1=0:=by grind
 have e2:w.2*w.2=0:=by grind
 have f1:w.1=0:=by rcases Rat.mul_eq_zero.1 e1 with h | h <;> exact h
 have f2:w.2=0:=by rcases Rat.mul_eq_zero.1 e2 with h | h <;> exact h
 exact Prod.ext f1 f2
theorem zbq (a b:V2):sqQ (timesQ a b)=sqQ a*sqQ b:=by unfold sqQ timesQ;simp only;grind
theorem cchkC {X:CpR} (h1:0<X.2.2.1) (h2:0<X.2.2.2.1) (h3:0<X.2.2.2.2.1) (h4:X.1≠X.2.1):cchk (canC X)=0:=by
 have a1:avld (canC X).1=true:=Ua7 X.1
 have a2:avld (canC X).2.1=true:=Ua7 X.2.1
 have a3:(cps5 (canC X)).all vldR=true:=by simp [cps5,canC,kg]
 have a4:(cps3 (canC X)).all gt0R=true:=by simp [cps3,canC,gt0R,yb,h1,h2,h3]
 have a5:av (canC X).1≠av (canC X).2.1:=by
  have e1:av (canC X).1=X.1:=Zae X.1
  have e2:av (canC X).2.1=X.2.1:=Zae X.2.1
  rw [e1,e2];exact h4
 unfold cchk
 rw [if_neg (by simp [a1,a2]),if_neg (by simp [a3]),if_neg (by simp [a4]),if_neg a5]
theorem cchkG {c:Cp} (h:cchk c=0):0<(cpv c).2.2.1/\0<(cpv c).2.2.2.1/\0<(cpv c).2.2.2.2.1/\(cpv c).1≠(cpv c).2.1:=by
 obtain ⟨_,_,_,h4,h5⟩:=Wan h
 simp only [cps3,gt0R,List.all_cons,List.all_nil,Bool.and_true,Bool.and_eq_true,decide_eq_true_eq]at h4
 exact ⟨h4.1,h4.2.1,h4.2.2,h5⟩
def okQ (c:CpR):Prop:=0<c.2.2.1/\0<c.2.2.2.1/\0<c.2.2.2.2.1/\c.1≠c.2.1
theorem Jba {c:Cp} (h:cchk c=0):okQ (cpv c):=cchkG h
theorem wbm {X:CpR} (h:okQ X):cchk (canC X)=0:=cchkC h.1 h.2.1 h.2.2.1 h.2.2.2
theorem Jbv {c:CpR} (h:okQ c) (hw:sqQ (cW c)≠0):okQ (fiQ c):=by
 obtain ⟨h1,h2,h3,h4⟩:=h
 have p:=Jbs hw
 refine ⟨Rat.mul_pos p h2,Rat.mul_pos p h1,Rat.mul_pos p h3,λe=>?_⟩
 have e' : c.1=addQ c.1 (timesQ (cW c) (subQ c.2.1 c.1)):=e
 have t:timesQ (cW c) (subQ c.2.1 c.1)=(0,0):=by
  obtain ⟨T,hT⟩:∃T,timesQ (cW c) (subQ c.2.1 c.1)=T:=⟨_,rfl⟩
  rw [hT]at e' ⊢
  unfold addQ at e'
  have e1:=congrArg Prod.fst e'
  have e2:=congrArg Prod.snd e'
  simp only at e1 e2
  exact Prod.ext (by simp only;grind) (by simp only;grind)
 have s:=zbq (cW c) (subQ c.2.1 c.1)
 rw [t]at s
 have s0:sqQ ((0:Rat),(0:Rat))=0:=by decide +kernel
 rw [s0]at s
 have s1:=(Rat.mul_eq_zero.1 s.symm).resolve_left hw
 have s2:=Ya0 s1
 unfold subQ at s2
 have e1:=congrArg Prod.fst s2
 have e2:=congrArg Prod.snd s2
 simp only at e1 e2
 exact h4 (Prod.ext (by grind) (by grind))
theorem cb_B {c:CpR} {b:Nat} (h:CB' b c) (hb:b<=1000):CB c:=by
 obtain ⟨h1,h2,h3,h4,h5,h6,h7⟩:=h
 have a1:=zq_1 c.1
 have a2:=zq_2 c.1
 have a3:=zq_1 c.2.1
 have a4:=zq_2 c.2.1
 exact ⟨by omega,by omega,by omega,by omega,by omega,by omega,by omega,by omega,by omega⟩
theorem cl_B {c:CpR} {b:Nat} (h:CB' b c):cl (canC c)<=b:=by
 obtain ⟨h1,h2,h3,h4,h5,h6,h7⟩:=h
 rw [xbu]
 simp only [Nat.max_le]
 exact ⟨h1,h2,h3,h4,h5,h6,h7⟩
theorem uQ (c:CpR):WLC (canC c):=⟨Ux _,Ux _,Ud _,Ud _,Ud _,Ud _,Ud _⟩
theorem Zbl {c d:CpR} (hc:CB c) (hd:CB d) (h:∀p,wV c p=wV d p):cCur c=cCur d:=
 Va2 (zam hc).canon (zam hd).canon λx y=>by
  have h1:=Zba hc (x,y)
  have h2:=Zba hd (x,y)
  simp only at h1 h2
  rw [h1,h2,h]
theorem qbv {c:CpR} (hc:CB c) (hd:CB (fiQ c)) (hw:sqQ (cW c)≠0):cCur (fiQ c)=cCur c:=Zbl hd hc λp=>QbM c p hw
theorem ex_w:sqQ (cW exQ)≠0:=by decide +kernel
theorem zbs:fiQ exQ=((0,0),(2,0),4,1 / 4,1 / 4,2,0):=by decide +kernel
theorem ybJ:foQ exQ=(2,0):=by decide +kernel
theorem vbm:CB' 16 exQ:=by unfold CB';decide +kernel
theorem WaK:CB' 200 (fiQ exQ):=by
 have:=jbz vbm
 obtain ⟨h1,h2,h3,h4,h5,h6,h7⟩:=this
 exact ⟨by omega,by omega,by omega,by omega,by omega,by omega,by omega⟩
end Go.Num
namespace Go.Abs
open Go.Num
variable {P:Program} {Γ:Nat->Spec}
def vw (l:List AV) (K:AV->Prop):Prop:=
 match l with
 | []=>K (.one (.lit (.bool true)))
 | _=>False
theorem jar (K:AV->Prop):vw [] K=(K (.one (.lit (.bool true)))):=propext Iff.rfl
@[congr] theorem QbC {K:AV->Prop} {l l' : List AV} (h:l=l'):vw l K=vw l' K:=by subst h;rfl
attribute [go_sem] jar
attribute [go_sem ↓] jar
theorem JaA:Good vw:=Va λas=>by
 unfold vw
 split
 .exact (.ret _)
 .exact .of λK hk=>hk.elim
def Qd (f0 f1 f2 f3 f4:Nat):List AO:=[.m 23 (.t 2),.u 24 (.binn .eql (.t 23) (.c (.one (.lit .nilIface)))),.m 25 (.t 24),.w 26 25 true (.mv (.t 4)),.w 27 25 true (.binn .eql (.t 26) (.c (.one (.lit .nilIface)))),.u 28 (.pick (.t 25) (.t 27) .fa),.m 29 (.t 28),.w 30 29 true (.mv (.t 6)),.w 31 29 true (.binn .eql (.t 30) (.c (.one (.lit .nilIface)))),.u 32 (.pick (.t 29) (.t 31) .fa),.m 33 (.t 32),.w 34 33 true (.mv (.t 5))]
theorem yn {f0 f1 f2 f3 f4:Nat} (Γ:Nat->Spec) (dr:Bool) (Q:S->Prop) (s:S):wpL Γ dr Q (Qd f0 f1 f2 f3 f4) s=wpL Γ dr Q [.m 23 (.t 2),.u 24 (.binn .eql (.t 23) (.c (.one (.lit .nilIface)))),.m 25 (.t 24),.w 26 25 true (.mv (.t 4)),.w 27 25 true (.binn .eql (.t 26) (.c (.one (.lit .nilIface)))),.u 28 (.pick (.t 25) (.t 27) .fa),.m 29 (.t 28),.w 30 29 true (.mv (.t 6)),.w 31 29 true (.binn .eql (.t 30) (.c (.one (.lit .nilIface)))),.u 32 (.pick (.t 29) (.t 31) .fa),.m 33 (.t 32),.w 34 33 true (.mv (.t 5))] s:=eq_of_heq (HEq.refl _)
def zd (f0 f1 f2 f3 f4:Nat):List AO:=[.u 35 (.pick (.t 33) (.t 34) .fa),.m 36 (.t 35),.w 37 36 true (.fa 0 (.t 1)),.w 38 36 true (.ld none 3 true (.t 37)),.w 39 36 true (.call f4 [(.t 38)]),.w 40 36 true (.sop 1 [(.t 39),(.c (.one (.lit (.string ⟨#[50]⟩))))]),.u 41 (.pick (.t 36) (.t 40) .fa),.m 42 (.t 41),.w 43 42 true (.fa 12 (.t 3)),.w 44 42 true (.ld none 3 true (.t 43)),.w 45 42 true (.call f4 [(.t 44)]),.w 46 42 true (.sop 1 [(.t 45),(.c (.one (.lit (.string ⟨#[52]⟩))))])]
theorem Un {f0 f1 f2 f3 f4:Nat} (Γ:Nat->Spec) (dr:Bool) (Q:S->Prop) (s:S):wpL Γ dr Q (zd f0 f1 f2 f3 f4) s=wpL Γ dr Q [.u 35 (.pick (.t 33) (.t 34) .fa),.m 36 (.t 35),.w 37 36 true (.fa 0 (.t 1)),.w 38 36 true (.ld none 3 true (.t 37)),.w 39 36 true (.call f4 [(.t 38)]),.w 40 36 true (.sop 1 [(.t 39),(.c (.one (.lit (.string ⟨#[50]⟩))))]),.u 41 (.pick (.t 36) (.t 40) .fa),.m 42 (.t 41),.w 43 42 true (.fa 12 (.t 3)),.w 44 42 true (.ld none 3 true (.t 43)),.w 45 42 true (.call f4 [(.t 44)]),.w 46 42 true (.sop 1 [(.t 45),(.c (.one (.lit (.string ⟨#[52]⟩))))])] s:=eq_of_heq (HEq.refl _)
def Jd (f0 f1 f2 f3 f4:Nat):List AO:=[.u 47 (.pick (.t 42) (.t 46) .fa),.m 48 (.t 47),.w 49 48 true (.fa 15 (.t 3)),.w 50 48 true (.ld none 3 true (.t 49)),.w 51 48 true (.call f4 [(.t 50)]),.w 52 48 true (.sop 1 [(.t 51),(.c (.one (.lit (.string ⟨#[49,47,52]⟩))))]),.u 53 (.pick (.t 48) (.t 52) .fa),.m 54 (.t 53),.w 55 54 true (.fa 21 (.t 3)),.w 56 54 true (.ld none 3 true (.t 55)),.w 57 54 true (.call f4 [(.t 56)]),.w 58 54 true (.sop 1 [(.t 57),(.c (.one (.lit (.string ⟨#[50]⟩))))])]
theorem xn {f0 f1 f2 f3 f4:Nat} (Γ:Nat->Spec) (dr:Bool) (Q:S->Prop) (s:S):wpL Γ dr Q (Jd f0 f1 f2 f3 f4) s=wpL Γ dr Q [.u 47 (.pick (.t 42) (.t 46) .fa),.m 48 (.t 47),.w 49 48 true (.fa 15 (.t 3)),.w 50 48 true (.ld none 3 true (.t 49)),.w 51 48 true (.call f4 [(.t 50)]),.w 52 48 true (.sop 1 [(.t 51),(.c (.one (.lit (.string ⟨#[49,47,52]⟩))))]),.u 53 (.pick (.t 48) (.t 52) .fa),.m 54 (.t 53),.w 55 54 true (.fa 21 (.t 3)),.w 56 54 true (.ld none 3 true (.t 55)),.w 57 54 true (.call f4 [(.t 56)]),.w 58 54 true (.sop 1 [(.t 57),(.c (.one (.lit (.string ⟨#[50]⟩))))])] s:=eq_of_heq (HEq.refl _)
def Zd (f0 f1 f2 f3 f4:Nat):List AO:=[.u 59 (.pick (.t 54) (.t 58) .fa),.m 0 (.t 59)]
theorem Xn {f0 f1 f2 f3 f4:Nat} (Γ:Nat->Spec) (dr:Bool) (Q:S->Prop) (s:S):wpL Γ dr Q (Zd f0 f1 f2 f3 f4) s=wpL Γ dr Q [.u 59 (.pick (.t 54) (.t 58) .fa),.m 0 (.t 59)] s:=eq_of_heq (HEq.refl _)
def zj (f0 f1 f2 f3 f4:Nat):AC:=(.seq (.ops false (Qd f0 f1 f2 f3 f4++(zd f0 f1 f2 f3 f4++(Jd f0 f1 f2 f3 f4++(Zd f0 f1 f2 f3 f4)))))
 .ret)
theorem Xs {f0 f1 f2 f3 f4:Nat} (Γ:Nat->Spec) (Q:Ex->S->Prop) (s:S):wpA Γ (zj f0 f1 f2 f3 f4) Q s=wpA Γ (.seq (.ops false (Qd f0 f1 f2 f3 f4++(zd f0 f1 f2 f3 f4++(Jd f0 f1 f2 f3 f4++(Zd f0 f1 f2 f3 f4)))))
 .ret) Q s:=eq_of_heq (HEq.refl _)
def xf (f0 f1 f2 f3 f4:Nat):AC:=(.seq (.ops false [.m 0 .fa])
 (.fg [] (.seq (.ops false [.u 8 (.call f0 []),.u 9 (.call f1 [(.t 8)]),.m 7 (.t 9),.u 10 (.ext 0 (.t 7)),.u 11 (.ext 1 (.t 7)),.u 1 (.alloc [(.lit (.bool false)),.emp,.emp,(.lit (.bool false)),.emp,.emp]),.n (.st none 6 (.t 1) (.t 10)),.m 2 (.t 11)])
 (.fg [1,2] (.seq (.ops false [.u 13 (.call f0 []),.u 14 (.call f2 [(.t 13)]),.m 12 (.t 14),.u 15 (.ext 0 (.t 12)),.u 16 (.ext 1 (.t 12)),.u 3 (.alloc [(.lit (.bool false)),.emp,.emp,(.lit (.bool false)),.emp,.emp,(.lit (.bool false)),.emp,.emp,(.lit (.bool false)),.emp,.emp,(.lit (.bool false)),.emp,.emp,(.lit (.bool false)),.emp,.emp,(.lit (.bool false)),.emp,.emp,(.lit (.bool false)),.emp,.emp,(.lit (.bool false)),.emp,.emp]),.n (.st none 27 (.t 3) (.t 15)),.m 4 (.t 16)])
 (.fg [1,2,3,4] (.seq (.ops true [.u 18 (.call f0 []),.u 19 (.ld none 27 true (.t 3)),.u 20 (.call f3 [(.t 18),(.t 19)]),.m 17 (.t 20),.u 21 (.ext 0 (.t 17)),.u 22 (.ext 1 (.t 17)),.m 5 (.t 21),.m 6 (.t 22)])
 (.fg [1,2,3,4,5,6] (zj f0 f1 f2 f3 f4)))))))))
set_option maxHeartbeats 2000000 in
theorem zah (hΓ:Holds P Γ) {f fe ff fi fs ft tE:Nat} (he:Γ fe=.dat false Jz) (hf:Γ ff=.dat false (QK tE)) (hi:Γ fi=.dat false (JK tE)) (hs:Γ fs=.dat false (kB tE)) (ht:Γ ft=.dat false Yp) (hc:check P f=some (60,(xf fe ff fi fs ft).strip,[.tmp 0])):Sound P f (.dat true vw):=by
 refine va hc JaA hΓ (λargs K hcl hfi hG=>?_)
 match args,hG with
 | [],hK=>
  refine ⟨by simp,?_⟩
  have kE:=Xbg
  have wE:=uQ exQ
  have lE:=cl_B vbm
  have vE:=uab exQ
  obtain ⟨E,hE⟩:∃E,canC exQ=E:=⟨_,rfl⟩
  have eE:cqR exQ=cpA E:=by rw [<-hE];rfl
  rw [hE]at kE wE lE vE
  have kF:=wbm (Jbv (by have:=Jba kE;rw [vE]at this;exact this) ex_w)
  have wF:=uQ (fiQ exQ)
  have lF:=cl_B WaK
  have vF:=uab (fiQ exQ)
  have hcur:cCur (fiQ exQ)=cCur exQ:=qbv (cb_B vbm (by decide)) (cb_B WaK (by decide)) ex_w
  obtain ⟨Y,hY⟩:∃Y,fiQ exQ=Y:=⟨_,rfl⟩
  rw [hY]at kF wF lF vF hcur
  rw [zbs]at hY
  obtain ⟨F,hF⟩:∃F,canC Y=F:=⟨_,rfl⟩
  have eF:cqR Y=cpA F:=by rw [<-hF];rfl
  rw [hF]at kF wF lF vF
  have cE:fiC E=0:=by rw [kbk kE,vE];exact wC_0.2 ex_w
  have sE:smC E F=0:=by unfold smC;rw [if_neg (by omega)];exact kF
  have l1:cl E<=100000:=Nat.le_trans lE (by decide)
  have l2:cl E<=1000:=Nat.le_trans lE (by decide)
  have l3:cl F<=1000:=Nat.le_trans lF (by decide)
  have dc:=decide_eq_true hcur.symm
  have g0:decide (0=0)=true:=rfl
  have e0:=ub tE
  have a2:rv F.2.2.1=4:=by rw [<-hF,<-hY];exact yb _
  have b2:rv F.2.2.2.1=1 / 4:=by rw [<-hF,<-hY];exact yb _
  have u2:rv F.2.2.2.2.2.1=2:=by rw [<-hF,<-hY];exact yb _
  have hYY:fiQ exQ=Y:=by rw [zbs,hY]
  have t2:txR 2=⟨#[50]⟩:=by decide +kernel
  have t4:txR 4=⟨#[52]⟩:=by decide +kernel
  have tq:txR (1 / 4)=⟨#[49,47,52]⟩:=by decide +kernel
  simp only [go_sem,xf,he,hf,hi,hs,eE,kE,vE,cE,hYY,eF,ybJ,e0,cpA,cpC,Wc,sE,vF,dc,g0,Bool.true_and]
  repeat (first | (refine And.intro (by with_reducible assumption) ?_) | (refine And.intro (Nat.le_trans (by with_reducible assumption) (by decide)) ?_) | (refine And.intro (by decide) ?_))
  have wF1:=wF.2.2.1
  have wF2:=wF.2.2.2.1
  have wF3:=wF.2.2.2.2.2.1
  have hl0:=lF
  unfold cl at hl0
  simp only [Nat.max_le]at hl0
  have lF1:=Nat.le_trans hl0.2.2.1 (by decide:_<=4294967296)
  have lF2:=Nat.le_trans hl0.2.2.2.1 (by decide:_<=4294967296)
  have lF3:=Nat.le_trans hl0.2.2.2.2.2.1 (by decide:_<=4294967296)
  have l22:rz 2<=4294967296:=Nat.le_trans rz_2 (by decide)
  have k1:okT (Rat.num 2):=Or.inr (Or.inl rfl)
  have k2:okT ((Rat.den 2:Nat):Int):=Or.inl rfl
  have k3:okT (Rat.num 4):=Or.inr (Or.inr (Or.inl rfl))
  have k4:okT ((Rat.den 4:Nat):Int):=Or.inl rfl
  have k5:okT (Rat.num (1 / 4)):=Or.inl (by decide +kernel)
  have k6:okT ((Rat.den (1 / 4):Nat):Int):=Or.inr (Or.inr (Or.inl (by decide +kernel)))
  rw [Xs,vbq,vak,vak,vak]
  rw [yn]
  simp only [go_sem]
  rw [Un]
  have bb:∀l:List UInt8,(l == l)=true:=λl=>beq_self_eq_true l
  simp only [go_sem,ht,yb,t2,t4,tq,a2,b2,u2,bb]
  repeat (first | (refine And.intro (by with_reducible assumption) ?_) | (refine And.intro (Nat.le_trans (by with_reducible assumption) (by decide)) ?_) | (refine And.intro (by decide) ?_))
  rw [xn]
  simp only [go_sem,ht,yb,t2,t4,tq,a2,b2,u2,bb]
  repeat (first | (refine And.intro (by with_reducible assumption) ?_) | (refine And.intro (Nat.le_trans (by with_reducible assumption) (by decide)) ?_) | (refine And.intro (by decide) ?_))
  rw [Xn]
  simp only [go_sem,ht,yb,t2,t4,tq,a2,b2,u2,bb]
  exact hK
end Go.Abs
end
section
namespace Go.Num
open Go.Abs
end Go.Num
namespace Go.Abs
open Go.Num
variable {P:Program} {Γ:Nat->Spec}
theorem qbp (c:Cp):cpA c=.agg (cpC c):=eq_of_heq (HEq.refl _)
theorem zbc (k:Cp->Prop) (c:Cp):onCp k (.agg (cpC c))=(WLC c/\k c):=km QaF (λc=>WLC c/\k c) c
theorem UD (c:Cp):(cpC c).length=27:=eq_of_heq (HEq.refl _)
theorem uai (c:Cp):(cpC c).take 27=cpC c:=List.take_of_length_le (Nat.le_of_eq (UD c))
theorem xat (c:Cp):(cpC c).drop 0=cpC c:=eq_of_heq (HEq.refl _)
theorem YaT (h:Nat->HB) (c:Cp):(cpC c).map (datC h)=cpC c:=eq_of_heq (HEq.refl _)
theorem jaO (c:Cp):(cpC c).flatMap ownC=[]:=eq_of_heq (HEq.refl _)
theorem gE1x (K:List C->Prop) (e0 e1:List C) (r:List (List C)):getE K (e0::e1::r) 1=K e1:=by simp [getE]
theorem gE2x (K:List C->Prop) (e0 e1 e2:List C) (r:List (List C)):getE K (e0::e1::e2::r) 2=K e2:=by simp [getE]
theorem gE3x (K:List C->Prop) (e0 e1 e2 e3:List C) (r:List (List C)):getE K (e0::e1::e2::e3::r) 3=K e3:=by simp [getE]
theorem gE4x (K:List C->Prop) (e0 e1 e2 e3 e4:List C) (r:List (List C)):getE K (e0::e1::e2::e3::e4::r) 4=K e4:=by simp [getE]
theorem gE5x (K:List C->Prop) (e0 e1 e2 e3 e4 e5:List C) (r:List (List C)):getE K (e0::e1::e2::e3::e4::e5::r) 5=K e5:=by simp [getE]
attribute [go_sem] qbp zbc UD uai xat YaT jaO gE1x gE2x gE3x gE4x gE5x
attribute [go_sem ↓] qbp zbc UD uai xat YaT jaO gE1x gE2x gE3x gE4x gE5x
def yG (l:List AV) (K:AV->Prop):Prop:=
 match l with
 | [c]=>onCp (λc=>cl c<=1048576/\K (.one (.lit (.bool true)))) c
 | _=>False
theorem qN (c:AV) (K:AV->Prop):yG [c] K=(onCp (λc=>cl c<=1048576/\K (.one (.lit (.bool true)))) c):=propext Iff.rfl
@[congr] theorem xbn {K:AV->Prop} {l l' : List AV} (h:l=l'):yG l K=yG l' K:=by subst h;rfl
attribute [go_sem] qN
attribute [go_sem ↓] qN
end Go.Abs
end
section
namespace Go.Num
open Go.Abs
theorem JbF (c:CpR):ptQ c c.1 c.2.1=foQ c:=by rw [Qbw];rfl
theorem qa8 {c:CpR}:sqQ (cW c)=0↔c.2.2.2.2.2.2=0/\c.2.2.2.2.2.1=0:=by
 constructor
 .intro h
  have e:=Ya0 h
  exact ⟨congrArg Prod.snd e,congrArg Prod.fst e⟩
 .rintro ⟨h1,h2⟩;unfold sqQ cW;simp only;rw [h1,h2];decide +kernel
theorem UaM {c:CpR}:sqQ (rsQ c)=0↔c.2.2.2.2.2.2=0/\c.2.2.2.2.2.1=1:=by
 have e1:(rsQ c).1=1-c.2.2.2.2.2.1:=rfl
 have e2:(rsQ c).2=0-c.2.2.2.2.2.2:=rfl
 constructor
 .intro h
  have e:=Ya0 h
  have h1:=congrArg Prod.fst e
  have h2:=congrArg Prod.snd e
  rw [e1]at h1
  rw [e2]at h2
  simp only at h1 h2
  exact ⟨by grind,by grind⟩
 .rintro ⟨h1,h2⟩;unfold sqQ;rw [e1,e2,h1,h2];decide +kernel
end Go.Num
namespace Go.Abs
open Go.Num
variable {P:Program} {Γ:Nat->Spec}
theorem cp_o (c:Cp):(cpC c).take 6=[cb c.1.1,cn c.1.1,cd c.1.1,cb c.1.2,cn c.1.2,cd c.1.2]:=eq_of_heq (HEq.refl _)
theorem cp_q (c:Cp):((cpC c).drop 6).take 6=[cb c.2.1.1,cn c.2.1.1,cd c.2.1.1,cb c.2.1.2,cn c.2.1.2,cd c.2.1.2]:=eq_of_heq (HEq.refl _)
theorem cp_u (c:Cp):((cpC c).drop 21).take 3=[cb c.2.2.2.2.2.1,cn c.2.2.2.2.2.1,cd c.2.2.2.2.2.1]:=eq_of_heq (HEq.refl _)
theorem cp_v (c:Cp):((cpC c).drop 24).take 3=[cb c.2.2.2.2.2.2,cn c.2.2.2.2.2.2,cd c.2.2.2.2.2.2]:=eq_of_heq (HEq.refl _)
theorem lp6 (c:Cp):6<=((cpC c).drop 6).length:=by rw [List.length_drop,UD];decide
theorem lp21 (c:Cp):3<=((cpC c).drop 21).length:=by rw [List.length_drop,UD];decide
theorem lp24 (c:Cp):3<=((cpC c).drop 24).length:=by rw [List.length_drop,UD];decide
def jl (l:List AV) (K:AV->Prop):Prop:=
 match l with
 | [c]=>onCp (λc=>cl c<=1048576/\K (.one (.lit (.bool true)))) c
 | _=>False
theorem xO (c:AV) (K:AV->Prop):jl [c] K=(onCp (λc=>cl c<=1048576/\K (.one (.lit (.bool true)))) c):=propext Iff.rfl
@[congr] theorem zbo {K:AV->Prop} {l l' : List AV} (h:l=l'):jl l K=jl l' K:=by subst h;rfl
attribute [go_sem] xO
attribute [go_sem ↓] xO
theorem U5:Good jl:=Va λas=>by
 unfold jl
 split
 .exact (Qo λ_=>(.and λ_=>(.ret _)))
 .exact .of λK hk=>hk.elim
def Jb (f0 f1 f2 f3 f4 f5 f6 f7 f8 f9 f10:Nat):AC:=(.seq (.ops false [.u 1 (.box 27 (.t 0)),.m 2 .fa])
 (.fg [1] (.seq (.seq (.ops false [.u 13 (.call f0 []),.u 14 (.un .not (.t 13)),.m 15 (.t 14),.w 16 15 false (.ld none 27 true (.t 1)),.w 17 15 false (.call f1 [(.t 16)]),.w 18 15 false (.un .not (.t 17)),.u 19 (.pick (.t 15) .tr (.t 18)),.m 20 (.t 19),.w 21 20 false (.ld none 27 true (.t 1)),.w 22 20 false (.call f2 [(.t 21)]),.w 23 20 false (.binn .neq (.t 22) (.c (.one (.lit .nilIface)))),.u 24 (.pick (.t 20) .tr (.t 23))])
 (.fg [1,24] (.cond (.t 24) (.seq (.ops false [.u 25 (.call f0 []),.m 2 (.t 25)])
 .ret) .skip)))
 (.fg [1] (.seq (.ops false [.u 27 (.ld none 27 true (.t 1)),.u 28 (.call f3 [(.t 27)]),.m 26 (.t 28),.u 29 (.ext 0 (.t 26)),.u 30 (.ext 1 (.t 26)),.u 3 (.alloc [(.lit (.bool false)),.emp,.emp,(.lit (.bool false)),.emp,.emp]),.n (.st none 6 (.t 3) (.t 29)),.m 4 (.t 30)])
 (.fg [1,3,4] (.seq (.ops false [.u 32 (.ld none 27 true (.t 1)),.u 33 (.fa 0 (.t 1)),.u 34 (.ld none 6 true (.t 33)),.u 35 (.fa 6 (.t 1)),.u 36 (.ld none 6 true (.t 35)),.u 37 (.call f4 [(.t 32),(.t 34),(.t 36)]),.m 31 (.t 37),.u 38 (.ext 0 (.t 31)),.u 39 (.ext 1 (.t 31)),.u 5 (.alloc [(.lit (.bool false)),.emp,.emp,(.lit (.bool false)),.emp,.emp]),.n (.st none 6 (.t 5) (.t 38)),.m 6 (.t 39)])
 (.fg [1,3,4,5,6] (.seq (.ops false [.u 41 (.ld none 27 true (.t 1)),.u 42 (.call f5 [(.t 41)]),.m 40 (.t 42),.u 43 (.ext 0 (.t 40)),.u 44 (.ext 1 (.t 40)),.u 7 (.alloc [(.lit (.bool false)),.emp,.emp,(.lit (.bool false)),.emp,.emp,(.lit (.bool false)),.emp,.emp,(.lit (.bool false)),.emp,.emp,(.lit (.bool false)),.emp,.emp,(.lit (.bool false)),.emp,.emp,(.lit (.bool false)),.emp,.emp,(.lit (.bool false)),.emp,.emp,(.lit (.bool false)),.emp,.emp]),.n (.st none 27 (.t 7) (.t 43)),.m 8 (.t 44)])
 (.fg [1,3,4,5,6,7,8] (.seq (.ops false [.u 46 (.ld none 27 true (.t 1)),.u 47 (.call f6 [(.t 46)]),.m 45 (.t 47),.u 48 (.ext 0 (.t 45)),.u 49 (.ext 1 (.t 45)),.u 9 (.alloc [(.lit (.bool false)),.emp,.emp,(.lit (.bool false)),.emp,.emp,(.lit (.bool false)),.emp,.emp,(.lit (.bool false)),.emp,.emp,(.lit (.bool false)),.emp,.emp,(.lit (.bool false)),.emp,.emp,(.lit (.bool false)),.emp,.emp,(.lit (.bool false)),.emp,.emp,(.lit (.bool false)),.emp,.emp]),.n (.st none 27 (.t 9) (.t 48)),.m 10 (.t 49)])
 (.fg [1,3,4,5,6,7,8,9,10] (.seq (.seq (.ops false [.m 50 (.t 4),.u 51 (.binn .neq (.t 50) (.c (.one (.lit .nilIface)))),.m 52 (.t 51),.w 53 52 false (.mv (.t 6)),.w 54 52 false (.binn .neq (.t 53) (.c (.one (.lit .nilIface)))),.u 55 (.pick (.t 52) .tr (.t 54)),.m 56 (.t 55),.w 57 56 false (.ld none 6 true (.t 3)),.w 58 56 false (.ld none 6 true (.t 5)),.w 59 56 false (.call f7 [(.t 57),(.t 58)]),.w 60 56 false (.un .not (.t 59)),.u 61 (.pick (.t 56) .tr (.t 60))])
 (.fg [1,3,7,8,9,10,61] (.cond (.t 61) (.seq (.ops false [.m 2 .fa])
 .ret) .skip)))
 (.fg [1,3,7,8,9,10] (.seq (.seq (.ops false [.m 62 (.t 8),.u 63 (.binn .eql (.t 62) (.c (.one (.lit .nilIface)))),.m 64 (.t 63),.w 65 64 true (.fa 0 (.t 7)),.w 66 64 true (.ld none 6 true (.t 65)),.w 67 64 true (.fa 0 (.t 1)),.w 68 64 true (.ld none 6 true (.t 67)),.w 69 64 true (.call f7 [(.t 66),(.t 68)]),.w 70 64 true (.un .not (.t 69)),.w 71 64 true (.mv (.t 70)),.w 72 71 false (.fa 6 (.t 7)),.w 73 71 false (.ld none 6 true (.t 72)),.w 74 71 false (.ld none 6 true (.t 3)),.w 75 71 false (.call f7 [(.t 73),(.t 74)]),.w 76 71 false (.un .not (.t 75)),.w 77 64 true (.pick (.t 71) .tr (.t 76)),.u 78 (.pick (.t 64) (.t 77) .fa)])
 (.fg [1,3,8,9,10,78] (.cond (.t 78) (.seq (.ops false [.m 2 .fa])
 .ret) .skip)))
 (.fg [1,3,8,9,10] (.seq (.seq (.ops false [.m 79 (.t 10),.u 80 (.binn .eql (.t 79) (.c (.one (.lit .nilIface)))),.m 81 (.t 80),.w 82 81 true (.fa 0 (.t 9)),.w 83 81 true (.ld none 6 true (.t 82)),.w 84 81 true (.fa 6 (.t 1)),.w 85 81 true (.ld none 6 true (.t 84)),.w 86 81 true (.call f7 [(.t 83),(.t 85)]),.w 87 81 true (.un .not (.t 86)),.w 88 81 true (.mv (.t 87)),.w 89 88 false (.fa 6 (.t 9)),.w 90 88 false (.ld none 6 true (.t 89)),.w 91 88 false (.ld none 6 true (.t 3)),.w 92 88 false (.call f7 [(.t 90),(.t 91)]),.w 93 88 false (.un .not (.t 92)),.w 94 81 true (.pick (.t 88) .tr (.t 93)),.u 95 (.pick (.t 81) (.t 94) .fa)])
 (.fg [1,8,10,95] (.cond (.t 95) (.seq (.ops false [.m 2 .fa])
 .ret) .skip)))
 (.fg [1,8,10] (.seq (.ops false [.u 96 (.fa 24 (.t 1)),.u 97 (.ld none 3 true (.t 96)),.u 98 (.call f8 [(.t 97)]),.u 99 (.bin .eql (.t 98) (.i 0)),.m 100 (.t 99),.w 101 100 true (.fa 21 (.t 1)),.w 102 100 true (.ld none 3 true (.t 101)),.w 103 100 true (.call f8 [(.t 102)]),.w 104 100 true (.bin .eql (.t 103) (.i 0)),.u 105 (.pick (.t 100) (.t 104) .fa),.m 11 (.t 105)])
 (.fg [1,8,10,11] (.seq (.ops true [.u 106 (.fa 24 (.t 1)),.u 107 (.ld none 3 true (.t 106)),.u 108 (.call f8 [(.t 107)]),.u 109 (.bin .eql (.t 108) (.i 0)),.m 110 (.t 109),.w 111 110 true (.fa 21 (.t 1)),.w 112 110 true (.ld none 3 true (.t 111)),.w 113 110 true (.call f9 [(.i 1)]),.w 114 110 true (.call f10 [(.t 112),(.t 113)]),.w 115 110 true (.bin .eql (.t 114) (.i 0)),.u 116 (.pick (.t 110) (.t 115) .fa),.m 12 (.t 116)])
 (.fg [8,10,11,12] (.seq (.ops false [.m 117 (.t 8),.u 118 (.binn .neq (.t 117) (.c (.one (.lit .nilIface)))),.m 119 (.t 11),.u 120 (.binb .eql (.t 118) (.t 119)),.m 121 (.t 120),.w 122 121 true (.mv (.t 10)),.w 123 121 true (.binn .neq (.t 122) (.c (.one (.lit .nilIface)))),.w 124 121 true (.mv (.t 12)),.w 125 121 true (.binb .eql (.t 123) (.t 124)),.u 126 (.pick (.t 121) (.t 125) .fa),.m 2 (.t 126)])
 .ret)))))))))))))))))))))))
set_option maxHeartbeats 4000000 in
theorem qT (hΓ:Holds P Γ) {f fw fs fk fo fp fi fe fm fg ff fq tE:Nat} (hw:Γ fw=.dat true vw) (hs:Γ fs=.dat true xA) (hk:Γ fk=.dat false (Wt tE)) (ho:Γ fo=.dat false (QK tE)) (hp:Γ fp=.dat false (qB tE)) (hi:Γ fi=.dat false (JK tE)) (he:Γ fe=.dat false (JR tE)) (hm:Γ fm=.dat true kx) (hg:Γ fg=.dat true jk) (hf:Γ ff=.dat false yx) (hq:Γ fq=.dat true Wg) (hc:check P f=some (127,(Jb fw fs fk fo fp fi fe fm fg ff fq).strip,[.tmp 2])):Sound P f (.dat true jl):=by
 refine va hc U5 hΓ (λargs K hcl hfi hG=>?_)
 match args,hG with
 | [a],hG=>
  obtain ⟨c,rfl,hwc,hlc,hK⟩:=hG
  refine ⟨by simp,?_⟩
  have hlc1:cl c<=4294967296:=by omega
  have hlc2:cl c<=100000000:=by omega
  cases hsc:sC c with
  | false=>
   simp only [go_sem,Jb,hw,hs,hsc,Wc]
   repeat (first | (refine And.intro (by with_reducible assumption) ?_) | (refine And.intro (Nat.le_trans (by with_reducible assumption) (by decide)) ?_) | (refine And.intro (by decide) ?_))
   exact hK
  | true=>
  have e0:=ub tE
  by_cases h0:cchk c=0
  case neg=>
   have e1:=jc tE h0
   simp only [go_sem,Jb,hw,hs,hk,hsc,Wc,e1]
   repeat (first | (refine And.intro (by with_reducible assumption) ?_) | (refine And.intro (Nat.le_trans (by with_reducible assumption) (by decide)) ?_) | (refine And.intro (by decide) ?_))
   exact hK
  have c2:=qbG hsc
  have hB:=Zbh hwc c2
  have hcan:=qbO hwc h0
  have ok:=Jba h0
  obtain ⟨v1,v2,_,_,_⟩:=Wan h0
  have k2:cchk2 c [c.1,c.2.1]=0:=qa5 h0 (by simp [v1,v2])
  have wo:=hwc.1
  have wQ:=hwc.2.1
  have wu:=hwc.2.2.2.2.2.1
  have wv:=hwc.2.2.2.2.2.2
  have lo:al c.1<=10000:=Nat.le_trans (Nat.le_max_left _ _) (Nat.le_trans c2 (by decide))
  have lq:al c.2.1<=10000:=Nat.le_trans (Nat.le_max_left _ _) (Nat.le_trans (Nat.le_max_right _ _) (Nat.le_trans c2 (by decide)))
  have lo2:=Nat.le_trans lo (by decide:_<=4294967296)
  have lq2:=Nat.le_trans lq (by decide:_<=4294967296)
  have luv:=cl_w c2
  have lu:=Nat.le_trans (Nat.max_le.1 luv).1 (by decide:_<=1073741824)
  have lv:=Nat.le_trans (Nat.max_le.1 luv).2 (by decide:_<=1073741824)
  have lu4:=Nat.le_trans (Nat.max_le.1 luv).1 (by decide:_<=4294967296)
  have lv4:=Nat.le_trans (Nat.max_le.1 luv).2 (by decide:_<=4294967296)
  have hpt:ptQ (cpv c) (av c.1) (av c.2.1)=foQ (cpv c):=JbF (cpv c)
  obtain ⟨V,hV⟩:∃V,cpv c=V:=⟨_,rfl⟩
  have vu:rv c.2.2.2.2.2.1=V.2.2.2.2.2.1:=by rw [<-hV];rfl
  have vv:rv c.2.2.2.2.2.2=V.2.2.2.2.2.2:=by rw [<-hV];rfl
  rw [hV]at hB hcan ok hpt
  have bF:=jbz hB
  have bS:=jbG hB
  have lF:=Nat.le_trans (cl_B bF) (by decide:_<=100000)
  have lS:=Nat.le_trans (cl_B bS) (by decide:_<=100000)
  have n1:fiC c=wC (cW V):=by rw [kbk h0,hV]
  have n2:seC c=wC (rsQ V):=by rw [xbt h0,hV]
  have lc5:cl c<=100000:=by omega
  have lc4:cl c<=10000:=by omega
  obtain ⟨D,hD⟩:∃D,foQ V=D:=⟨_,rfl⟩
  have wD:WLA (rcan D.1,rcan D.2):=Ux D
  have lD:al (rcan D.1,rcan D.2)<=4294967296:=by
   have:=jbA hB
   rw [hD]at this
   exact Nat.le_trans this (by decide)
  have dA:∀x:Arc,decide (x=x)=true:=λx=>decide_eq_true rfl
  have d0:decide (0=0)=true:=rfl
  have i1:((1:Int):Rat)=1:=rfl
  have l1:rz 1<=1073741824:=Nat.le_trans rz_1 (by decide)
  obtain ⟨w,hw0⟩:∃n,wC (cW V)=n:=⟨_,rfl⟩
  obtain ⟨r,hr0⟩:∃n,wC (rsQ V)=n:=⟨_,rfl⟩
  rw [hw0]at n1
  rw [hr0]at n2
  obtain ⟨X,hX⟩:∃X,(if w=0 then fiQ V else z27)=X:=⟨_,rfl⟩
  obtain ⟨Y,hY⟩:∃Y,(if r=0 then seQ V else z27)=Y:=⟨_,rfl⟩
  have wX:=uQ X
  have wY:=uQ Y
  obtain ⟨E1,hE1⟩:∃e,errV tE w=.one (.lit e):=⟨_,rfl⟩
  obtain ⟨E2,hE2⟩:∃e,errV tE r=.one (.lit e):=⟨_,rfl⟩
  obtain ⟨X',hX'⟩:∃x,canC X=x:=⟨_,rfl⟩
  obtain ⟨Y',hY'⟩:∃x,canC Y=x:=⟨_,rfl⟩
  have nX:cqR X=cpA X':=by rw [<-hX'];rfl
  have nY:cqR Y=cpA Y':=by rw [<-hY'];rfl
  rw [hX']at wX
  rw [hY']at wY
  simp only [go_sem,Jb,hw,hs,hk,ho,hp,hi,he,hsc,Wc,h0,e0,hV,k2,hpt,hD,n1,n2,hX,hY,nX,nY,hE1,hE2,cp_o,cp_q]
  repeat (first | (refine And.intro (by with_reducible assumption) ?_) | (refine And.intro (Nat.le_trans (by with_reducible assumption) (by decide)) ?_) | (refine And.intro (by decide) ?_))
  have sX:∀(h:w=0),X'.1=c.1/\X'.2.1=(rcan D.1,rcan D.2):=λh=>by
   rw [<-hX',<-hX,if_pos h]
   exact ⟨by rw [<-hcan];rfl,by rw [<-hD];rfl⟩
  have sY:∀(h:r=0),Y'.1=c.2.1/\Y'.2.1=(rcan D.1,rcan D.2):=λh=>by
   rw [<-hY',<-hY,if_pos h]
   exact ⟨by rw [<-hcan];rfl,by rw [<-hD];rfl⟩
  have wX1:=wX.1
  have wX2:=wX.2.1
  have wY1:=wY.1
  have wY2:=wY.2.1
  have dq:∀x y:Rat,decide (ordQ x y=0)=decide (x=y):=λx y=>by rw [decide_eq_decide];exact Jj
  have dz:decide ((0:Rat)=0)=true:=rfl
  have dz1:decide ((1:Rat)=1)=true:=rfl
  have bf:∀b:Bool,(b == b)=true:=λb=>beq_self_eq_true b
  have g1:=lp6 c
  have g2:=lp6 X'
  have g3:=lp6 Y'
  have g4:=lp21 c
  have g5:=lp24 c
  by_cases hw1:w=0
  .have wn:=wC_0.1 (hw0.trans hw1)
   rw [hw1,e0]at hE1
   simp only [AV.one.injEq,C.lit.injEq]at hE1
   subst hE1
   obtain ⟨q1,q2⟩:=sX hw1
   rw [q1]at wX1
   rw [q2]at wX2
   by_cases hr1:r=0
   .have rn:=wC_0.1 (hr0.trans hr1)
    rw [hr1,e0]at hE2
    simp only [AV.one.injEq,C.lit.injEq]at hE2
    subst hE2
    obtain ⟨q3,q4⟩:=sY hr1
    rw [q3]at wY1
    rw [q4]at wY2
    have nw:¬(V.2.2.2.2.2.2=0/\V.2.2.2.2.2.1=0):=λh=>wn (qa8.2 h)
    have nr:¬(V.2.2.2.2.2.2=0/\V.2.2.2.2.2.1=1):=λh=>rn (UaM.2 h)
    by_cases hv:V.2.2.2.2.2.2=0
    .have u0:¬V.2.2.2.2.2.1=0:=λh=>nw ⟨hv,h⟩
     have u1:¬V.2.2.2.2.2.1=1:=λh=>nr ⟨hv,h⟩
     have du0:=decide_eq_false u0
     have du1:=decide_eq_false u1
     simp only [go_sem,hm,hg,hf,hq,Wc,cp_o,cp_q,cp_u,cp_v,dA,q1,q2,q3,q4,i1,vu,vv,yb,dq,hv,du0,du1,dz,bf]
     repeat (first | (refine And.intro (by with_reducible assumption) ?_) | (refine And.intro (Nat.le_trans (by with_reducible assumption) (by decide)) ?_) | (refine And.intro (by decide) ?_))
     exact hK
    .have dv:=decide_eq_false hv
     simp only [go_sem,hm,hg,hf,hq,Wc,cp_o,cp_q,cp_u,cp_v,dA,q1,q2,q3,q4,i1,vu,vv,yb,dq,hv,dv,bf]
     repeat (first | (refine And.intro (by with_reducible assumption) ?_) | (refine And.intro (Nat.le_trans (by with_reducible assumption) (by decide)) ?_) | (refine And.intro (by decide) ?_))
     exact hK
   .have hr2:sqQ (rsQ V)=0:=Decidable.byContradiction λh=>hr1 (by rw [<-hr0];exact wC_0.2 h)
    obtain ⟨hv,hu⟩:=UaM.1 hr2
    have hs2:=jc tE hr1
    rw [hs2]at hE2
    simp only [AV.one.injEq,C.lit.injEq]at hE2
    subst hE2
    have du0:decide ((1:Rat)=0)=false:=rfl
    simp only [go_sem,hm,hg,hf,hq,Wc,cp_o,cp_q,cp_u,cp_v,dA,q1,q2,i1,vu,vv,yb,dq,hv,hu,du0,dz,dz1,bf]
    repeat (first | (refine And.intro (by with_reducible assumption) ?_) | (refine And.intro (Nat.le_trans (by with_reducible assumption) (by decide)) ?_) | (refine And.intro (by decide) ?_))
    exact hK
  .have hw2:sqQ (cW V)=0:=Decidable.byContradiction λh=>hw1 (by rw [<-hw0];exact wC_0.2 h)
   obtain ⟨hv,hu⟩:=qa8.1 hw2
   have hs1:=jc tE hw1
   rw [hs1]at hE1
   simp only [AV.one.injEq,C.lit.injEq]at hE1
   subst hE1
   have hr1:r=0:=by
    rw [<-hr0]
    refine wC_0.2 λh=>?_
    obtain ⟨_,h2⟩:=UaM.1 h
    rw [hu]at h2
    exact absurd h2 (by decide)
   rw [hr1,e0]at hE2
   simp only [AV.one.injEq,C.lit.injEq]at hE2
   subst hE2
   obtain ⟨q3,q4⟩:=sY hr1
   rw [q3]at wY1
   rw [q4]at wY2
   have du1:decide ((0:Rat)=1)=false:=rfl
   simp only [go_sem,hm,hg,hf,hq,Wc,cp_o,cp_q,cp_u,cp_v,dA,q3,q4,i1,vu,vv,yb,dq,hv,hu,du1,dz,bf]
   repeat (first | (refine And.intro (by with_reducible assumption) ?_) | (refine And.intro (Nat.le_trans (by with_reducible assumption) (by decide)) ?_) | (refine And.intro (by decide) ?_))
   exact hK
end Go.Abs
end
section
namespace Go.Abs
open Go.Num
variable {P:Program} {Γ:Nat->Spec}
def Ys:AC:=(.seq (.ops false [.m 2 (.c (.one .emp))])
 (.fg [0] (.seq (.ops false [.m 4 (.t 0),.u 5 (.len (.t 4)),.m 3 (.t 5)])
 (.fg [0,3] (.seq (.block 0 (.loop (.seq (.seq (.ops false [.m 6 (.t 3),.u 7 (.bin .gtr (.t 6) (.i 0)),.m 8 (.t 7),.w 9 8 true (.mv (.t 0)),.w 10 8 true (.mv (.t 3)),.w 11 8 true (.bin .sub (.t 10) (.i 1)),.w 12 8 true (.idx 1 (.t 9) (.t 11)),.w 13 8 true (.ld none 1 false (.t 12)),.w 14 8 true (.bin .eql (.t 13) (.c (.one (.lit (.int .u32 0))))),.u 15 (.pick (.t 8) (.t 14) .fa)])
 (.fg [0,3,15] (.cond (.t 15) .skip (.exit 0))))
 (.fg [0,3] (.block 1 (.ops false [.m 16 (.t 3),.u 17 (.bin .sub (.t 16) (.i 1)),.m 3 (.t 17)]))))))
 (.fg [0,3] (.seq (.seq (.ops false [.m 18 (.t 3),.u 19 (.bin .eql (.t 18) (.i 0))])
 (.fg [0,3,19] (.cond (.t 19) (.seq (.ops false [.m 2 (.c (.one .emp))])
 .ret) .skip)))
 (.fg [0,3] (.seq (.ops false [.m 20 (.c (.one .emp)),.m 21 (.t 0),.m 22 (.t 3),.u 23 (.sl 1 (.t 21) none (some (.t 22))),.u 24 (.app0 1 (.t 20) (.t 23)),.m 2 (.t 24)])
 .ret)))))))))
def xl:AC:=(.seq (.ops false [.m 4 (.c (.one (.lit (.int .u64 0))))])
 (.fg [0,1] (.seq (.seq (.ops false [.m 5 (.t 1),.m 6 (.t 0),.u 7 (.len (.t 6)),.u 8 (.bin .lss (.t 5) (.t 7))])
 (.fg [0,1,8] (.cond (.t 8) (.seq (.ops false [.m 9 (.t 0),.m 10 (.t 1),.u 11 (.idx 1 (.t 9) (.t 10)),.u 12 (.ld none 1 false (.t 11)),.u 13 (.conv .u64 (.t 12)),.m 4 (.t 13)])
 .ret) .skip)))
 (.fg [] (.seq (.ops false [.m 4 (.c (.one (.lit (.int .u64 0))))])
 .ret)))))
def jr (f0 f1:Nat):AC:=(.seq (.ops false [.m 4 (.c (.one .emp))])
 (.fg [0,1] (.seq (.ops false [.m 8 (.t 0),.u 9 (.len (.t 8)),.m 10 (.t 1),.u 11 (.len (.t 10)),.u 12 (.max [(.t 9),(.t 11)]),.u 13 (.bin .add (.t 12) (.i 1)),.u 14 (.mk 1 [(.lit (.int .u32 0))] (.t 13) (.t 13)),.m 5 (.t 14)])
 (.fg [0,1,5] (.seq (.ops false [.m 6 (.c (.one (.lit (.int .u64 0))))])
 (.fg [0,1,5,6] (.seq (.seq (.ops false [.m 15 (.t 5),.u 16 (.len (.t 15)),.m 17 (.i 0)])
 (.fg [0,1,5,6,16,17] (.block 0 (.loop (.seq (.ops false [.u 18 (.bin .lss (.t 17) (.t 16))])
 (.fg [0,1,5,6,16,17,18] (.seq (.cond (.t 18) .skip (.exit 0))
 (.fg [0,1,5,6,16,17] (.seq (.block 1 (.seq (.ops false [.m 19 (.t 17),.m 7 (.t 19)])
 (.fg [0,1,5,6,7,16,17] (.seq (.ops false [.m 20 (.t 6),.m 21 (.t 0),.m 22 (.t 7),.u 23 (.call f0 [(.t 21),(.t 22)]),.m 24 (.t 1),.m 25 (.t 7),.u 26 (.call f0 [(.t 24),(.t 25)]),.u 27 (.bin .add (.t 23) (.t 26)),.u 28 (.bin .add (.t 20) (.t 27)),.m 6 (.t 28)])
 (.fg [0,1,5,6,7,16,17] (.seq (.ops false [.m 29 (.t 5),.m 30 (.t 7),.m 31 (.t 6),.u 32 (.conv .u32 (.t 31)),.u 33 (.idx 1 (.t 29) (.t 30)),.n (.st none 1 (.t 33) (.t 32))])
 (.fg [0,1,5,6,16,17] (.ops false [.m 34 (.t 6),.u 35 (.bin .shr (.t 34) (.c (.one (.lit (.int .u64 32))))),.m 6 (.t 35)]))))))))
 (.fg [0,1,5,6,16,17] (.ops false [.u 36 (.bin .add (.t 17) (.i 1)),.m 17 (.t 36)])))))))))))
 (.fg [5] (.seq (.ops false [.m 37 (.t 5),.u 38 (.call f1 [(.t 37)]),.m 4 (.t 38)])
 .ret)))))))))
theorem ZaA (hΓ:Holds P Γ) {f:Nat} (hc:check P f=some (25,Ys.strip,[.tmp 2])):Sound P f (.dat false Us):=by
 refine va hc jaE hΓ (λargs K hcl hfi hG=>?_)
 match args,hG with
 | [a],hG=>
  obtain ⟨l,rfl,hl,hlen,hK⟩:=hG
  refine ⟨by simp,?_⟩
  simp only [go_sem,Ys]
  intro hmax
  refine ka (λn:Nat=>⟨mkV [(0,wsA l),(3,.one (.lit (.int .i64 n)))],mkH []⟩) (λn=>n<=l.length/\val (l.take n)=val l) id l.length ?_ ?_ ?_
  .exact Qa (by simp [okS,okV,okC,okL,okH,okB,okE,Za,Ja,za,ja,wsA,ws]) trivial
  .simp
  .rintro n ⟨hn,ht⟩
   simp only [go_sem]
   refine ⟨λh=>⟨by omega,by omega,by omega,λh0=>⟨by omega,n-1,Qa (by simp [okS,okV,okC,okL,okH,okB,okE,Za,Ja,za,ja,wsA,ws];omega) trivial,⟨by omega,?_⟩,?_⟩,λh0=>⟨λh1=>by omega,λ_=>⟨by omega,by simp;omega,?_⟩⟩⟩,λh=>⟨λh1=>?_,λh1=>by omega⟩⟩
   .rw [show ((n:Int)-1).toNat=n-1 by omega]at h0
    have:=Vb l (n-1)
    rw [show n-1+1=n by omega,h0,Nat.mul_zero,Nat.add_zero]at this
    rw [<-this];exact ht
   .simp only [id];omega
   .rw [show ((n:Int)-1).toNat=n-1 by omega]at h0
    have:=Vd (Xw hl n) (zK h hn h0)
    rw [<-this,ht];exact hK
   .subst h1
    have:val l=0:=by rw [<-ht];simp [val]
    rw [this,Qb]at hK;exact hK
theorem VM (hΓ:Holds P Γ) {f:Nat} (hc:check P f=some (14,xl.strip,[.tmp 4])):Sound P f (.dat true Yk):=by
 refine va hc zaQ hΓ (λargs K hcl hfi hG=>?_)
 match args,hG with
 | [a,b],hG=>
  obtain ⟨l,rfl,hl,hG⟩:=hG
  obtain ⟨k,i,rfl,rfl,hi,hK⟩:=Ua hG
  refine ⟨by simp,?_⟩
  simp only [go_sem,xl]
  intro hmax
  refine ⟨λh=>⟨hi,by omega,?_⟩,λh=>?_⟩
  .have:=jb hl i.toNat
   rw [Nat.mod_eq_of_lt (by omega)];exact hK
  .rw [List.getD_eq_getElem?_getD,List.getElem?_eq_none (by omega)]at hK;exact hK
theorem zaB (hΓ:Holds P Γ) {f fw ft:Nat} (hw:Γ fw=.dat true Yk) (ht:Γ ft=.dat false Us) (hc:check P f=some (39,(jr fw ft).strip,[.tmp 4])):Sound P f (.dat false Qp):=by
 refine va hc V8 hΓ (λargs K hcl hfi hG=>?_)
 match args,hG with
 | [a,b],hG=>
  obtain ⟨x,rfl,hx,y,rfl,hy,hxl,hyl,hK⟩:=hG
  refine ⟨by simp,?_⟩
  simp only [go_sem,jr,hw,ht]
  intro h1 h2
  refine ⟨by omega,by omega,λhN=>?_⟩
  generalize hNN:max x.length y.length+1=N at hN
  refine ka (λp:List Nat×Nat=>⟨mkV [(0,wsA x),(1,wsA y),(5,.one (.own 14 1 1 0 N)),(6,.one (.lit (.int .u64 p.2))),(16,.one (.lit (.int .i64 N))),(17,.one (.lit (.int .i64 p.1.length)))],mkH [(14,⟨1,some ⟨(p.1++List.replicate (N-p.1.length) 0).map wc,1,true⟩⟩)]⟩)
   (λp=>p.1.length<=N/\WL p.1/\p.2<=1/\val p.1+4294967296 ^ p.1.length*p.2=val (x.take p.1.length)+val (y.take p.1.length)) (λp=>N-p.1.length) ([],0) ?_ ?_ ?_
  .exact Qa (by simp [okS,okV,okC,okL,okH,okB,okE,Za,Ja,za,ja,wsA,ws]) (Vf (by simp))
  .simp [Xb,val]
  .rintro ⟨o,c⟩ ⟨hoN,ho,hc1,hval⟩
   simp only at hoN ho hc1 hval
   have hlen:(o++List.replicate (N-o.length) 0).length=N:=by simp;omega
   simp only [go_sem,hw,ht,hlen]
   refine ⟨λhlt=>⟨hx,hy,hlt,hlt,by omega,by omega,?_⟩,λhge=>?_⟩
   .have g1:=jb hx o.length
    have g2:=jb hy o.length
    rw [Nat.mod_eq_of_lt (show x.getD o.length 0+y.getD o.length 0<18446744073709551616 by omega),Nat.mod_eq_of_lt (show c+(x.getD o.length 0+y.getD o.length 0)<18446744073709551616 by omega)]
    generalize hs:c+(x.getD o.length 0+y.getD o.length 0)=s
    refine ⟨(o++[s % 4294967296],s / 4294967296),Qa (by simp [okS,okV,okC,okL,okH,okB,okE,Za,Ja,za,ja,wsA,ws]) (Vf ?_),⟨by simp;omega,ud.2 ⟨ho,Yb.2 ⟨Nat.mod_lt _ (by omega),Xb⟩⟩,by simp only;omega,?_⟩,by simp;omega⟩
    .rw [show N-o.length=N-(o.length+1)+1 by omega,wad];simp
    .simp only [List.length_append,List.length_cons,List.length_nil,Nat.zero_add,Vb,Wb,uh,vm,Nat.mul_zero,Nat.add_zero,Nat.pow_succ]
     rw [Nat.mul_assoc,Nat.add_assoc,<-Nat.mul_add,Nat.mod_add_div,<-hs,Nat.mul_add,<-Nat.add_assoc,hval,Nat.mul_add]
     omega
   .have e:o.length=N:=by omega
    simp only [e,Nat.sub_self,List.replicate_zero,List.append_nil,Nat.le_refl,if_true,yE]
    have hv:val o=val x+val y:=by
     rw [e,Qi (by omega),Qi (by omega)]at hval
     exact qaj hx hy (by omega) (by omega) (by omega) hval
    refine ⟨ho,by omega,?_⟩
    rw [hv];exact hK
end Go.Abs
end
section
namespace Go.Abs
open Go.Num
variable {P:Program} {Γ:Nat->Spec}
def Jr (f0 f1:Nat):AC:=(.seq (.ops false [.m 4 (.c (.one .emp))])
 (.fg [0,1] (.seq (.ops false [.m 9 (.t 0),.u 10 (.len (.t 9)),.u 11 (.mk 1 [(.lit (.int .u32 0))] (.t 10) (.t 10)),.m 5 (.t 11)])
 (.fg [0,1,5] (.seq (.ops false [.m 6 (.c (.one (.lit (.int .u64 0))))])
 (.fg [0,1,5,6] (.seq (.seq (.ops false [.m 12 (.t 5),.u 13 (.len (.t 12)),.m 14 (.i 0)])
 (.fg [0,1,5,6,13,14] (.block 0 (.loop (.seq (.ops false [.u 15 (.bin .lss (.t 14) (.t 13))])
 (.fg [0,1,5,6,13,14,15] (.seq (.cond (.t 15) .skip (.exit 0))
 (.fg [0,1,5,6,13,14] (.seq (.block 1 (.seq (.ops false [.m 16 (.t 14),.m 7 (.t 16)])
 (.fg [0,1,5,6,7,13,14] (.seq (.ops true [.m 17 (.t 0),.m 18 (.t 7),.u 19 (.idx 1 (.t 17) (.t 18)),.u 20 (.ld none 1 false (.t 19)),.u 21 (.conv .u64 (.t 20)),.m 22 (.t 1),.m 23 (.t 7),.u 24 (.call f0 [(.t 22),(.t 23)]),.u 25 (.bin .sub (.t 21) (.t 24)),.m 26 (.t 6),.u 27 (.bin .sub (.t 25) (.t 26)),.m 8 (.t 27)])
 (.fg [0,1,5,7,8,13,14] (.seq (.ops false [.m 28 (.t 5),.m 29 (.t 7),.m 30 (.t 8),.u 31 (.conv .u32 (.t 30)),.u 32 (.idx 1 (.t 28) (.t 29)),.n (.st none 1 (.t 32) (.t 31))])
 (.fg [0,1,5,8,13,14] (.ops false [.m 33 (.t 8),.u 34 (.bin .shr (.t 33) (.c (.one (.lit (.int .u64 63))))),.m 6 (.t 34)]))))))))
 (.fg [0,1,5,6,13,14] (.ops false [.u 35 (.bin .add (.t 14) (.i 1)),.m 14 (.t 35)])))))))))))
 (.fg [5] (.seq (.ops false [.m 36 (.t 5),.u 37 (.call f1 [(.t 36)]),.m 4 (.t 37)])
 .ret)))))))))
def Wl:AC:=(.seq (.ops false [.m 4 (.i 0)])
 (.fg [0,1] (.seq (.seq (.ops false [.m 6 (.t 0),.u 7 (.len (.t 6)),.m 8 (.t 1),.u 9 (.len (.t 8)),.u 10 (.bin .neq (.t 7) (.t 9))])
 (.fg [0,1,10] (.cond (.t 10) (.seq (.seq (.ops false [.m 11 (.t 0),.u 12 (.len (.t 11)),.m 13 (.t 1),.u 14 (.len (.t 13)),.u 15 (.bin .lss (.t 12) (.t 14))])
 (.fg [15] (.cond (.t 15) (.seq (.ops false [.m 4 (.i (-1))])
 .ret) .skip)))
 (.fg [] (.seq (.ops false [.m 4 (.i 1)])
 .ret))) .skip)))
 (.fg [0,1] (.seq (.seq (.ops false [.m 16 (.t 0),.u 17 (.len (.t 16)),.u 18 (.bin .sub (.t 17) (.i 1)),.m 5 (.t 18)])
 (.fg [0,1,5] (.block 0 (.loop (.seq (.seq (.ops false [.m 19 (.t 5),.u 20 (.bin .geq (.t 19) (.i 0))])
 (.fg [0,1,5,20] (.cond (.t 20) .skip (.exit 0))))
 (.fg [0,1,5] (.seq (.block 1 (.seq (.ops true [.m 23 (.t 0),.m 24 (.t 5),.u 25 (.idx 1 (.t 23) (.t 24)),.u 26 (.ld none 1 false (.t 25)),.m 27 (.t 1),.m 28 (.t 5),.u 29 (.idx 1 (.t 27) (.t 28)),.u 30 (.ld none 1 false (.t 29)),.u 31 (.bin .neq (.t 26) (.t 30))])
 (.fg [0,1,5,31] (.cond (.t 31) (.seq (.seq (.ops true [.m 32 (.t 0),.m 33 (.t 5),.u 34 (.idx 1 (.t 32) (.t 33)),.u 35 (.ld none 1 false (.t 34)),.m 36 (.t 1),.m 37 (.t 5),.u 38 (.idx 1 (.t 36) (.t 37)),.u 39 (.ld none 1 false (.t 38)),.u 40 (.bin .lss (.t 35) (.t 39))])
 (.fg [40] (.cond (.t 40) (.seq (.ops false [.m 4 (.i (-1))])
 .ret) .skip)))
 (.fg [] (.seq (.ops false [.m 4 (.i 1)])
 .ret))) .skip))))
 (.fg [0,1,5] (.ops false [.m 21 (.t 5),.u 22 (.bin .sub (.t 21) (.i 1)),.m 5 (.t 22)])))))))))
 (.fg [] (.seq (.ops false [.m 4 (.i 0)])
 .ret)))))))
def Zp (f0:Nat):AC:=(.seq (.ops false [.m 4 (.c (.one .emp)),.m 5 (.c (.one (.lit (.int .u32 0))))])
 (.fg [0,1] (.seq (.ops false [.m 9 (.t 0),.u 10 (.len (.t 9)),.u 11 (.mk 1 [(.lit (.int .u32 0))] (.t 10) (.t 10)),.m 6 (.t 11)])
 (.fg [0,1,6] (.seq (.ops false [.m 7 (.c (.one (.lit (.int .u64 0))))])
 (.fg [0,1,6,7] (.seq (.seq (.ops false [.m 12 (.t 0),.u 13 (.len (.t 12)),.u 14 (.bin .sub (.t 13) (.i 1)),.m 8 (.t 14)])
 (.fg [0,1,6,7,8] (.block 0 (.loop (.seq (.seq (.ops false [.m 15 (.t 8),.u 16 (.bin .geq (.t 15) (.i 0))])
 (.fg [0,1,6,7,8,16] (.cond (.t 16) .skip (.exit 0))))
 (.fg [0,1,6,7,8] (.seq (.block 1 (.seq (.ops false [.m 19 (.t 7),.u 20 (.bin .shl (.t 19) (.c (.one (.lit (.int .u64 32))))),.m 21 (.t 0),.m 22 (.t 8),.u 23 (.idx 1 (.t 21) (.t 22)),.u 24 (.ld none 1 false (.t 23)),.u 25 (.conv .u64 (.t 24)),.u 26 (.bin .or (.t 20) (.t 25)),.m 7 (.t 26)])
 (.fg [0,1,6,7,8] (.seq (.ops false [.m 27 (.t 6),.m 28 (.t 8),.m 29 (.t 7),.m 30 (.t 1),.u 31 (.conv .u64 (.t 30)),.u 32 (.bin .quo (.t 29) (.t 31)),.u 33 (.conv .u32 (.t 32)),.u 34 (.idx 1 (.t 27) (.t 28)),.n (.st none 1 (.t 34) (.t 33))])
 (.fg [0,1,6,7,8] (.ops false [.m 35 (.t 7),.m 36 (.t 1),.u 37 (.conv .u64 (.t 36)),.u 38 (.bin .rem (.t 35) (.t 37)),.m 7 (.t 38)]))))))
 (.fg [0,1,6,7,8] (.ops false [.m 17 (.t 8),.u 18 (.bin .sub (.t 17) (.i 1)),.m 8 (.t 18)])))))))))
 (.fg [6,7] (.seq (.ops false [.m 39 (.t 6),.u 40 (.call f0 [(.t 39)]),.m 41 (.t 7),.u 42 (.conv .u32 (.t 41)),.m 4 (.t 40),.m 5 (.t 42)])
 .ret)))))))))
theorem Zaz (hΓ:Holds P Γ) {f fw ft:Nat} (hw:Γ fw=.dat true Yk) (ht:Γ ft=.dat false Us) (hc:check P f=some (38,(Jr fw ft).strip,[.tmp 4])):Sound P f (.dat false Uq):=by
 refine va hc YZ hΓ (λargs K hcl hfi hG=>?_)
 match args,hG with
 | [a,b],hG=>
  obtain ⟨x,rfl,hx,y,rfl,hy,hxl,hle,hK⟩:=hG
  refine ⟨by simp,?_⟩
  simp only [go_sem,Jr,hw,ht]
  intro h1
  refine ⟨by omega,λ_=>?_⟩
  generalize hN:x.length=N at h1 hxl
  refine ka (λp:List Nat×Nat=>⟨mkV [(0,wsA x),(1,wsA y),(5,.one (.own 11 1 1 0 N)),(6,.one (.lit (.int .u64 p.2))),(13,.one (.lit (.int .i64 N))),(14,.one (.lit (.int .i64 p.1.length)))],mkH [(11,⟨1,some ⟨(p.1++List.replicate (N-p.1.length) 0).map wc,1,true⟩⟩)]⟩)
   (λp=>p.1.length<=N/\WL p.1/\p.2<=1/\val p.1+val (y.take p.1.length)=val (x.take p.1.length)+4294967296 ^ p.1.length*p.2) (λp=>N-p.1.length) ([],0) ?_ ?_ ?_
  .exact Qa (by simp [okS,okV,okC,okL,okH,okB,okE,Za,Ja,za,ja,wsA,ws]) (Vf (by simp))
  .simp [Xb,val]
  .rintro ⟨o,c⟩ ⟨hoN,ho,hc1,hval⟩
   simp only at hoN ho hc1 hval
   have hlen:(o++List.replicate (N-o.length) 0).length=N:=by simp;omega
   simp only [go_sem,hw,ht,hlen]
   refine ⟨λhlt=>⟨by omega,hy,hlt,hlt,by omega,by omega,?_⟩,λhge=>?_⟩
   .have g1:=jb hx o.length
    have g2:=jb hy o.length
    rw [Nat.mod_eq_of_lt (show x.getD o.length 0<18446744073709551616 by omega)]
    obtain ⟨s1,s2⟩:=Uaj g1 g2 hc1
    generalize sub64 (sub64 (x.getD o.length 0) (y.getD o.length 0)) c=s at s1 s2
    refine ⟨(o++[s % 4294967296],s / 9223372036854775808),Qa (by simp [okS,okV,okC,okL,okH,okB,okE,Za,Ja,za,ja,wsA,ws]) (Vf ?_),⟨by simp;omega,ud.2 ⟨ho,Yb.2 ⟨Nat.mod_lt _ (by omega),Xb⟩⟩,s2,?_⟩,by simp;omega⟩
    .rw [show N-o.length=N-(o.length+1)+1 by omega,wad];simp
    .simp only [List.length_append,List.length_cons,List.length_nil,Nat.zero_add,Vb,Wb,uh,vm,Nat.mul_zero,Nat.add_zero,Nat.pow_succ]
     exact qF hval s1
   .have e:o.length=N:=by omega
    have hv:=zF ho hx (by omega) hle hval
    simp only [e,Nat.sub_self,List.replicate_zero,List.append_nil]
    refine ⟨ho,by omega,?_⟩
    rw [hv];exact hK
theorem jU (hΓ:Holds P Γ) {f:Nat} (hc:check P f=some (41,Wl.strip,[.tmp 4])):Sound P f (.dat false xh):=by
 refine va hc Zaa hΓ (λargs K hcl hfi hG=>?_)
 match args,hG with
 | [a,b],hG=>
  obtain ⟨x,rfl,hx,y,rfl,hy,hzx,hzy,hK⟩:=hG
  refine ⟨by simp,?_⟩
  simp only [go_sem,Wl]
  intro h1 h2
  refine ⟨λhl _=>⟨by omega,?_⟩,λhne _ _=>⟨λhlt=>?_,λhge=>?_⟩⟩
  rotate_left
  .rw [ZU (xJ hx hzy hlt)]at hK;exact hK
  .rw [jah (xJ hy hzx (by omega))]at hK;exact hK
  refine ka (λn:Nat=>⟨mkV [(0,wsA x),(1,wsA y),(5,.one (.lit (.int .i64 ((n:Int)-1))))],mkH []⟩) (λn=>n<=x.length/\x.drop n=y.drop n) id x.length ?_ ?_ ?_
  .exact Qa (by simp [okS,okV,okC,okL,okH,okB,okE,Za,Ja,za,ja,wsA,ws]) trivial
  .simp [hl]
  .rintro n ⟨hn,hd⟩
   simp only [go_sem]
   refine ⟨λh=>⟨by omega,by omega,by omega,by omega,λhe=>⟨by omega,n-1,Qa (by simp [okS,okV,okC,okL,okH,okB,okE,Za,Ja,za,ja,wsA,ws];omega) trivial,⟨by omega,?_⟩,by simp only [id];omega⟩,λhne=>?_⟩,λh=>?_⟩
   .rw [show ((n:Int)-1).toNat=n-1 by omega]at he
    rw [List.getD_eq_getElem?_getD,List.getD_eq_getElem?_getD,List.getElem?_eq_getElem (by omega),List.getElem?_eq_getElem (by omega)]at he
    have e1:=List.getElem_cons_drop (as:=x) (i:=n-1) (by omega)
    have e2:=List.getElem_cons_drop (as:=y) (i:=n-1) (by omega)
    rw [show n-1+1=n by omega]at e1 e2
    rw [<-e1,<-e2,hd]
    simp only [Option.getD_some]at he
    rw [he]
   .rw [show ((n:Int)-1).toNat=n-1 by omega]at hne ⊢
    refine ⟨by omega,by omega,by omega,by omega,λhlt=>?_,λhge=>?_⟩
    .rw [ZU (Xa8 (i:=n-1) hx hl (by omega) (by rw [show n-1+1=n by omega];exact hd) hlt)]at hK;exact hK
    .rw [jah (Xa8 (i:=n-1) hy hl.symm (by omega) (by rw [show n-1+1=n by omega];exact hd.symm) (by omega))]at hK;exact hK
   .have:n=0:=by omega
    subst this
    simp only [List.drop_zero]at hd
    rw [hd,WaT]at hK;exact hK
theorem Jaf (hΓ:Holds P Γ) {f ft:Nat} (ht:Γ ft=.dat false Us) (hc:check P f=some (43,(Zp ft).strip,[.tmp 4,.tmp 5])):Sound P f (.dat false zu):=by
 refine va hc YaA hΓ (λargs K hcl hfi hG=>?_)
 match args,hG with
 | [a,b],hG=>
  obtain ⟨x,rfl,hx,hG⟩:=hG
  obtain ⟨k,m,rfl,rfl,hm,hmB,hxl,hK⟩:=Ua hG
  obtain ⟨m,rfl⟩:∃n:Nat,m=n:=⟨m.toNat,by omega⟩
  simp only [Int.toNat_natCast]at hK
  refine ⟨by simp,?_⟩
  simp only [go_sem,Zp,ht]
  intro h1
  refine ⟨hxl,λ_=>⟨by omega,?_⟩⟩
  refine ka (λp:List Nat×Nat=>⟨mkV [(0,wsA x),(1,.one (.lit (.int .u32 m))),(6,.one (.own 11 1 1 0 x.length)),(7,.one (.lit (.int .u64 p.2))),(8,.one (.lit (.int .i64 ((x.length:Int)-p.1.length-1))))],mkH [(11,⟨1,some ⟨(List.replicate (x.length-p.1.length) 0++p.1).map wc,1,true⟩⟩)]⟩)
   (λp=>p.1.length<=x.length/\WL p.1/\p.2<m/\val p.1*m+p.2=val (x.drop (x.length-p.1.length))) (λp=>x.length-p.1.length) ([],0) ?_ ?_ ?_
  .exact Qa (by simp [okS,okV,okC,okL,okH,okB,okE,Za,Ja,za,ja,wsA,ws]) (Vf (by simp))
  .simp [Xb,val];omega
  .rintro ⟨q,r⟩ ⟨hq,hqw,hr,hval⟩
   simp only at hq hqw hr hval
   have hlen:(List.replicate (x.length-q.length) 0++q).length=x.length:=by simp;omega
   simp only [go_sem,ht,hlen]
   refine ⟨λh=>?_,λh=>?_⟩
   .obtain ⟨n,hn⟩:∃n,n=x.length-q.length:=⟨_,rfl⟩
    have hn0:0<n:=by omega
    have hi:((x.length:Int)-q.length-1).toNat=n-1:=by omega
    have g1:=jb hx (n-1)
    have hd:=JG x hn0 (by omega)
    obtain ⟨s1,s2⟩:=Va4 (by omega) hr g1
    have s3:=WaP (B:=4294967296) (a:=x.getD (n-1) 0) (by omega) (hn▸hval)
    have e1:r*4294967296 % 18446744073709551616=r*4294967296:=by omega
    have e2:x.getD (n-1) 0 % 18446744073709551616=x.getD (n-1) 0:=by omega
    have e3:m % 18446744073709551616=m:=by omega
    rw [hi,<-hn,e1,e2,e3,or32 _ _ g1]
    generalize hs:r*4294967296+x.getD (n-1) 0=s at s1 s2 s3
    rw [Nat.mod_eq_of_lt (show s / m<18446744073709551616 by omega),Nat.mod_eq_of_lt s1]
    have hm0:s % m<m:=Nat.mod_lt _ (by omega)
    refine ⟨⟨rfl,by omega⟩,by omega,by omega,⟨rfl,by omega,by omega⟩,by omega,⟨by omega,by omega⟩,by omega,by omega,by omega,(s / m::q,s % m),Qa (by simp [okS,okV,okC,okL,okH,okB,okE,Za,Ja,za,ja,wsA,ws];omega) (Vf ?_),⟨by simp;omega,Yb.2 ⟨s1,hqw⟩,hm0,?_⟩,by simp;omega⟩
    .simp only [List.length_cons]
     rw [xr q _ hn0,show x.length-(q.length+1)=n-1 by omega]
    .rw [uh,List.length_cons,show x.length-(q.length+1)=n-1 by omega,hd];exact s3
   .have e:x.length-q.length=0:=by omega
    simp only [e,List.replicate_zero,List.nil_append,List.drop_zero]at hval ⊢
    have h1:=Nat.div_mod_unique (show 0<m by omega) (a:=val x) (c:=r) (d:=val q)
    obtain ⟨h2,h3⟩:=h1.2 ⟨by rw [<-hval,Nat.mul_comm m,Nat.add_comm],hr⟩
    rw [h2,h3]at hK
    refine ⟨hqw,by omega,?_⟩
    rw [Nat.mod_eq_of_lt (by omega)];exact hK
end Go.Abs
end
