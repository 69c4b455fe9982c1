/-
  Parts of the proof, merged: CoupL, CoupR, CogP, CogA, CogB, CogR, CogC, CogT, CogD, CogF, CogW, CogH, IntC, IntD.
-/
import Derived.Test.YtjggkdaangghfaaGreatDoorM10
set_option linter.unusedVariables false
set_option linter.unusedSimpArgs false
set_option maxRecDepth 100000
section
namespace Go.Num
open Go.Abs
def riC (c:Cp) (p:Arc):Nat:=if wV (cpv c) (av p)≠0 then 21 else if wM (cpv c) (av p)=0 then 15 else 0
def reQ (c:CpR):V2:=subQ (1,0) (cW c)
theorem cl_w {c:Cp} {b:Nat} (h:cl c<=b):al c.2.2.2.2.2<=b:=by
 unfold cl at h
 simp only [Nat.max_le]at h
 exact Nat.max_le.2 ⟨h.2.2.2.2.2.1,h.2.2.2.2.2.2⟩
end Go.Num
namespace Go.Abs
open Go.Num
variable {P:Program} {Γ:Nat->Spec}
def zF (l:List AV) (K:AV->Prop):Prop:=
 match l with
 | [c]=>onCp (λc=>K (aA (c.2.2.2.2.2.1,c.2.2.2.2.2.2))) c
 | _=>False
theorem ka8 (c:AV) (K:AV->Prop):zF [c] K=(onCp (λc=>K (aA (c.2.2.2.2.2.1,c.2.2.2.2.2.2))) c):=propext Iff.rfl
@[congr] theorem YbO {K:AV->Prop} {l l' : List AV} (h:l=l'):zF l K=zF l' K:=by subst h;rfl
attribute [go_sem] ka8
attribute [go_sem ↓] ka8
theorem xa1:Good zF:=Va λas=>by
 unfold zF
 split
 .exact (Vm λ_=>(.ret _))
 .exact .of λK hk=>hk.elim
def jy (l:List AV) (K:AV->Prop):Prop:=
 match l with
 | [c]=>onCp (λc=>cl c<=100000000/\K (pQ (reQ (cpv c)))) c
 | _=>False
theorem kaL (c:AV) (K:AV->Prop):jy [c] K=(onCp (λc=>cl c<=100000000/\K (pQ (reQ (cpv c)))) c):=propext Iff.rfl
@[congr] theorem XbF {K:AV->Prop} {l l' : List AV} (h:l=l'):jy l K=jy l' K:=by subst h;rfl
attribute [go_sem] kaL
attribute [go_sem ↓] kaL
theorem vaO:Good jy:=Va λas=>by
 unfold jy
 split
 .exact (Vm λ_=>(.and λ_=>(.ret _)))
 .exact .of λK hk=>hk.elim
def YaG (l:List AV) (K:AV->Prop):Prop:=
 match l with
 | [c,p]=>onCp (λc=>onA (λp=>cl c<=1000/\al p<=1000/\cchk c=0/\K (.tup [pQ (wN (cpv c) (av p)),rQ (wM (cpv c) (av p))])) p) c
 | _=>False
theorem xaT (c p:AV) (K:AV->Prop):YaG [c,p] K=(onCp (λc=>onA (λp=>cl c<=1000/\al p<=1000/\cchk c=0/\K (.tup [pQ (wN (cpv c) (av p)),rQ (wM (cpv c) (av p))])) p) c):=propext Iff.rfl
@[congr] theorem UbH {K:AV->Prop} {l l' : List AV} (h:l=l'):YaG l K=YaG l' K:=by subst h;rfl
attribute [go_sem] xaT
attribute [go_sem ↓] xaT
def QaQ (l:List AV) (K:AV->Prop):Prop:=
 match l with
 | [c,p]=>onCp (λc=>onA (λp=>cl c<=1000/\al p<=1000/\cchk c=0/\K (rQ (wV (cpv c) (av p)))) p) c
 | _=>False
theorem vaM (c p:AV) (K:AV->Prop):QaQ [c,p] K=(onCp (λc=>onA (λp=>cl c<=1000/\al p<=1000/\cchk c=0/\K (rQ (wV (cpv c) (av p)))) p) c):=propext Iff.rfl
@[congr] theorem ybH {K:AV->Prop} {l l' : List AV} (h:l=l'):QaQ l K=QaQ l' K:=by subst h;rfl
attribute [go_sem] vaM
attribute [go_sem ↓] vaM
def ZaJ (l:List AV) (K:AV->Prop):Prop:=
 match l with
 | [c,p]=>onCp (λc=>onA (λp=>cl c<=1000/\al p<=1000/\cchk c=0/\K (.tup [pQ (if riC c p=0 then endA (cpv c) (av p) (zL (cpv c) (av p)) else (0,0)),pQ (if riC c p=0 then endB (cpv c) (av p) (zL (cpv c) (av p)) else (0,0)),.one (.lit (.int .i64 (riC c p:Nat)))])) p) c
 | _=>False
theorem waH (c p:AV) (K:AV->Prop):ZaJ [c,p] K=(onCp (λc=>onA (λp=>cl c<=1000/\al p<=1000/\cchk c=0/\K (.tup [pQ (if riC c p=0 then endA (cpv c) (av p) (zL (cpv c) (av p)) else (0,0)),pQ (if riC c p=0 then endB (cpv c) (av p) (zL (cpv c) (av p)) else (0,0)),.one (.lit (.int .i64 (riC c p:Nat)))])) p) c):=propext Iff.rfl
@[congr] theorem qbK {K:AV->Prop} {l l' : List AV} (h:l=l'):ZaJ l K=ZaJ l' K:=by subst h;rfl
attribute [go_sem] waH
attribute [go_sem ↓] waH
def XaG (l:List AV) (K:AV->Prop):Prop:=
 match l with
 | [c,a,b]=>onCp (λc=>onA (λa=>onA (λb=>cl c<=10000/\al a<=10000/\al b<=10000/\K (pQ (ptQ (cpv c) (av a) (av b)))) b) a) c
 | _=>False
theorem uaK (c a b:AV) (K:AV->Prop):XaG [c,a,b] K=(onCp (λc=>onA (λa=>onA (λb=>cl c<=10000/\al a<=10000/\al b<=10000/\K (pQ (ptQ (cpv c) (av a) (av b)))) b) a) c):=propext Iff.rfl
@[congr] theorem QbF {K:AV->Prop} {l l' : List AV} (h:l=l'):XaG l K=XaG l' K:=by subst h;rfl
attribute [go_sem] uaK
attribute [go_sem ↓] uaK
def VaY (l:List AV) (K:AV->Prop):Prop:=
 match l with
 | [c,a,b]=>onCp (λc=>onA (λa=>onA (λb=>cl c<=10000/\al a<=10000/\al b<=10000/\K (.one (.lit (.bool (decide (hldQ (cpv c) (av a) (av b))))))) b) a) c
 | _=>False
theorem yaU (c a b:AV) (K:AV->Prop):VaY [c,a,b] K=(onCp (λc=>onA (λa=>onA (λb=>cl c<=10000/\al a<=10000/\al b<=10000/\K (.one (.lit (.bool (decide (hldQ (cpv c) (av a) (av b))))))) b) a) c):=propext Iff.rfl
@[congr] theorem WbM {K:AV->Prop} {l l' : List AV} (h:l=l'):VaY l K=VaY l' K:=by subst h;rfl
attribute [go_sem] yaU
attribute [go_sem ↓] yaU
def vk:AC:=(.seq (.ops false [.u 1 (.box 27 (.t 0)),.u 2 (.alloc [(.lit (.bool false)),.emp,.emp,(.lit (.bool false)),.emp,.emp])])
 (.fg [1,2] (.seq (.ops false [.u 3 (.fa 21 (.t 1)),.u 4 (.ld none 3 true (.t 3)),.u 5 (.fa 24 (.t 1)),.u 6 (.ld none 3 true (.t 5)),.u 7 (.build [.x 3 (.t 4),.x 3 (.t 6)]),.n (.st none 6 (.t 2) (.t 7))])
 .ret)))
def yg (f0 f1 f2:Nat):AC:=(.seq (.ops false [.u 1 (.box 27 (.t 0)),.u 2 (.alloc [(.lit (.bool false)),.emp,.emp,(.lit (.bool false)),.emp,.emp])])
 (.fg [1,2] (.seq (.ops true [.u 3 (.call f0 [(.i 1)]),.u 4 (.build [.x 3 (.t 3),.z [(.lit (.bool false)),.emp,.emp]]),.u 5 (.ld none 27 true (.t 1)),.u 6 (.call f1 [(.t 5)]),.u 7 (.call f2 [(.t 4),(.t 6)]),.n (.st none 6 (.t 2) (.t 7))])
 .ret)))
theorem YaS (hΓ:Holds P Γ) {f:Nat} (hc:check P f=some (8,vk.strip,[.cell 2 6 true])):Sound P f (.dat false zF):=by
 refine va hc xa1 hΓ (λargs K hcl hfi hG=>?_)
 match args,hG with
 | [a],hG=>
  obtain ⟨c,rfl,hw,hK⟩:=hG
  refine ⟨by simp,?_⟩
  simp only [go_sem,vk,cpA,cpC]
  exact hK
theorem xaw (hΓ:Holds P Γ) {f fo fw fs:Nat} (ho:Γ fo=.dat false qx) (hw' : Γ fw=.dat false zF) (hs:Γ fs=.dat false kt) (hc:check P f=some (8,(yg fo fw fs).strip,[.cell 2 6 true])):Sound P f (.dat false jy):=by
 refine va hc vaO hΓ (λargs K hcl hfi hG=>?_)
 match args,hG with
 | [a],hG=>
  obtain ⟨c,rfl,hw,hl,hK⟩:=hG
  refine ⟨by simp,?_⟩
  have i1:((1:Int):Rat)=1:=rfl
  have w4:=hw.2.2.2.2.2.1
  have w5:=hw.2.2.2.2.2.2
  have b1:=rz_1
  have l6:al c.2.2.2.2.2<=100000000:=Nat.le_trans (cl_w hl) (by decide)
  have wW:WLA c.2.2.2.2.2:=⟨w4,w5⟩
  have wO:WLA (rcan 1,rcan 0):=jz (1,0)
  have lO:al (rcan 1,rcan 0)<=100000000:=Nat.max_le.2 ⟨Nat.le_trans b1 (by decide),Nat.le_trans (Nat.le_of_eq rz_0) (by decide)⟩
  have aO:av (rcan 1,rcan 0)=(1,0):=yaA (1,0)
  have aW:av c.2.2.2.2.2=cW (cpv c):=rfl
  simp only [go_sem,yg,ho,hw',hs,cpA,cpC,i1,Ux,Wc,aO,aW]
  repeat (first | (refine And.intro (by with_reducible assumption) ?_) | (refine And.intro (Nat.le_trans (by with_reducible assumption) (by decide)) ?_) | (refine And.intro (by decide) ?_))
  exact hK
end Go.Abs
end
section
namespace Go.Num
open Go.Abs
end Go.Num
namespace Go.Abs
open Go.Num
variable {P:Program} {Γ:Nat->Spec}
theorem ubt (p:Ps):poA p=.agg (pC p):=eq_of_heq (HEq.refl _)
theorem qaN (p:Ps):(pC p).take 10=pC p:=List.take_of_length_le (Nat.le_of_eq (YaM p))
theorem waX (p:Ps):(pC p).drop 0=pC p:=eq_of_heq (HEq.refl _)
theorem Vbb (k:List Ps->Prop) (p:Ps):onPs k (.one (.slice [pC p]))=((∀x∈[p],WLP x)/\k [p]):=uaI k [p]
attribute [go_sem] ubt qaN waX Vbb
attribute [go_sem ↓] ubt qaN waX Vbb
def YaU (l:List AV) (K:AV->Prop):Prop:=
 match l with
 | [c,g]=>onCp (λc=>onPo (λg=>cl c<=1000/\pl g<=1000/\cchk c=0/\K (cqR (movQ38 (cpv c) (pv g)))) g) c
 | _=>False
theorem VaJ (c g:AV) (K:AV->Prop):YaU [c,g] K=(onCp (λc=>onPo (λg=>cl c<=1000/\pl g<=1000/\cchk c=0/\K (cqR (movQ38 (cpv c) (pv g)))) g) c):=propext Iff.rfl
@[congr] theorem ZbJ {K:AV->Prop} {l l' : List AV} (h:l=l'):YaU l K=YaU l' K:=by subst h;rfl
attribute [go_sem] VaJ
attribute [go_sem ↓] VaJ
def yaL (l:List AV) (K:AV->Prop):Prop:=
 match l with
 | [c,k]=>onCp (λc=>onR (λk=>cl c<=1000/\rl k<=1000/\cchk c=0/\K (cqR (sclQ38 (cpv c) (rv k)))) k) c
 | _=>False
theorem UaL (c k:AV) (K:AV->Prop):yaL [c,k] K=(onCp (λc=>onR (λk=>cl c<=1000/\rl k<=1000/\cchk c=0/\K (cqR (sclQ38 (cpv c) (rv k)))) k) c):=propext Iff.rfl
@[congr] theorem vbM {K:AV->Prop} {l l' : List AV} (h:l=l'):yaL l K=yaL l' K:=by subst h;rfl
attribute [go_sem] UaL
attribute [go_sem ↓] UaL
end Go.Abs
end
section
namespace Go.Num
def rsQ (c:CpR):V2:=subQ (1,0) (cW c)
def foQ (c:CpR):V2:=addQ c.1 (timesQ (cW c) (subQ c.2.1 c.1))
def ovQ (w:V2):V2:=(w.1 / sqQ w,-w.2 / sqQ w)
def simQ (c:CpR) (o k:V2) (a b d:Rat):CpR:=(o,foQ c,sqQ k*a,sqQ k*b,sqQ k*d,(ovQ k).1,(ovQ k).2)
def fiQ (c:CpR):CpR:=simQ c c.1 (cW c) c.2.2.2.1 c.2.2.1 c.2.2.2.2.1
def seQ (c:CpR):CpR:=simQ c c.2.1 (rsQ c) c.2.2.2.1 c.2.2.2.2.1 c.2.2.1
def swQ (c:CpR):CpR:=(c.2.1,c.1,c.2.2.2.2.1,c.2.2.2.1,c.2.2.1,(rsQ c).1,(rsQ c).2)
theorem w_sw (c:CpR):cW (swQ c)=rsQ c:=rfl
theorem jbF (c:CpR):foQ (swQ c)=foQ c:=by
 unfold foQ;rw [w_sw]
 unfold rsQ swQ cW addQ timesQ subQ;exact Prod.ext (by simp only;grind) (by simp only;grind)
theorem xby (c:CpR):fiQ (swQ c)=seQ c:=by
 unfold fiQ seQ simQ;rw [jbF,w_sw];rfl
theorem zbx (c:CpR) (p:V2):wV (swQ c) p=wV c p:=by
 have e1:wAl (swQ c) p=wBe c p:=by
  unfold wAl wBe swQ rsQ cW timQ subQ cRe;exact Prod.ext (by simp only;grind) (by simp only;grind)
 have e2:wBe (swQ c) p=wAl c p:=by
  unfold wAl wBe swQ rsQ cW timQ subQ cRe;exact Prod.ext (by simp only;grind) (by simp only;grind)
 have e3:wE (swQ c) p = -wF c p:=by
  unfold wE wF swQ cFi cSe rsQ cW sqQ subQ cRe;simp only;grind
 have e4:wF (swQ c) p = -wE c p:=by
  unfold wE wF swQ cFi cSe rsQ cW sqQ subQ cRe;simp only;grind
 have e5:wM (swQ c) p = -wM c p:=by unfold wM;rw [e1,e2];grind
 have e6:wN (swQ c) p=wN c p:=by
  unfold wN;rw [e1,e2,e3,e4];exact Prod.ext (by simp only;grind) (by simp only;grind)
 have e7:(swQ c).2.2.2.1=c.2.2.2.1:=rfl
 unfold wV
 rw [e5,e6,e7];grind
theorem ov_j {w:V2} (h:sqQ w≠0):∃j,sqQ w*j=1/\ovQ w=(j*w.1,j * -w.2):=by
 refine ⟨(sqQ w)⁻¹,Rat.mul_inv_cancel _ h,?_⟩
 unfold ovQ
 rw [Rat.div_def,Rat.div_def,Rat.mul_comm,Rat.mul_comm (-w.2)]
theorem rob1 (k j u v:Rat) (hk:k=u*u+v*v) (hj:k*j=1) (z1 z2 s1 s2:Rat) :
  k*(z1*(j*u)-z2*(-(j * -v)))=z1*u-z2*v/\k*(z2*(j*u)+z1*(-(j * -v)))=z2*u+z1*v/\
  k*(s1*(1-j*u)-s2*(j * -v))=s1*(k-u)+s2*v/\k*(s2*(1-j*u)+s1*(j * -v))=s2*(k-u)-s1*v:=by
 have h1:∀x,k*(j*x)=x:=λx=>by grind
 refine ⟨?_,?_,?_,?_⟩
 .have:=h1 (z1*u);have:=h1 (z2*v);grind
 .have:=h1 (z2*u);have:=h1 (z1*v);grind
 .have:=h1 (s1*u);have:=h1 (s2*v);grind
 .have:=h1 (s2*u);have:=h1 (s1*v);grind
theorem rob2 (z1 z2 d1 d2 u v A B C:Rat) :
  let k:=u*u+v*v
  let G:=z1*z1+z2*z2
  let h:=k*B-A
  let s1:=z1-(u*d1-v*d2)
  let s2:=z2-(u*d2+v*d1)
  let Q1:=z1*u+z2*v
  let Q2:=z2*u-z1*v
  let P1:=(z1-d1)*(1-u)-(z2-d2)*v
  let P2:=(z2-d2)*(1-u)+(z1-d1)*v
  let r:=(1-u)*(1-u)+v*v
  let F:=C-r*B-((z1-d1)*(z1-d1)+(z2-d2)*(z2-d2))
  let F':=k*C-(s1*s1+s2*s2)-r*A
  let R:=P1*Q1+P2*Q2
  (G-h)*(s1*(1-u)-s2*v)+F' * z1=(G-h)*(u*P1-v*P2)+(k*F-2*R)*z1/\
  (G-h)*(s2*(1-u)+s1*v)+F' * z2=(G-h)*(u*P2+v*P1)+(k*F-2*R)*z2:=by
 intro k G h s1 s2 Q1 Q2 P1 P2 r F F' R
 constructor <;> grind
theorem rob3 (z1 z2 u v h F P1 P2:Rat) :
  let k:=u*u+v*v
  let G:=z1*z1+z2*z2
  let Q1:=z1*u+z2*v
  let Q2:=z2*u-z1*v
  let R:=P1*Q1+P2*Q2
  let M:=Q1*P2-Q2*P1
  let Y1:=(G-h)*(u*P1-v*P2)+(k*F-2*R)*z1
  let Y2:=(G-h)*(u*P2+v*P1)+(k*F-2*R)*z2
  let X1:=(G+h)*P1-F*Q1
  let X2:=(G+h)*P2-F*Q2
  Y1*Y1+Y2*Y2=k*(X1*X1+X2*X2)-4*(M*M)*h:=by
 intro k G Q1 Q2 R M Y1 Y2 X1 X2
 have p0:k*G=Q1*Q1+Q2*Q2:=by grind
 have p1:(u*P1-v*P2)*z1+(u*P2+v*P1)*z2=R:=by grind
 have p2:(u*P1-v*P2)*(u*P1-v*P2)+(u*P2+v*P1)*(u*P2+v*P1)=k*(P1*P1+P2*P2):=by grind
 have p3:M*M=(P1*P1+P2*P2)*(k*G)-R*R:=by rw [p0];grind
 have y:Y1*Y1+Y2*Y2=(G-h)*(G-h)*(k*(P1*P1+P2*P2))+(k*F-2*R)*(k*F-2*R)*G+2*(G-h)*(k*F-2*R)*R:=by
  rw [<-p2,<-p1];clear_value k R;grind
 have x:X1*X1+X2*X2=(G+h)*(G+h)*(P1*P1+P2*P2)+F*F*(k*G)-2*(G+h)*F*R:=by
  rw [p0];clear_value k G;grind
 rw [y,x,p3]
 clear_value k G R
 grind
theorem rob4 {k j u v:Rat} (A:Rat) (hk:u*u+v*v=k) (hj:k*j=1):(j*u*(j*u)+j * -v*(j * -v))*(k*A)=A/\
  ((1-j*u)*(1-j*u)+j * -v*(j * -v))*(k*A)=((1-u)*(1-u)+v*v)*A:=by
 constructor
 .have:(j*u*(j*u)+j * -v*(j * -v))*(k*A)=j*j*(u*u+v*v)*(k*A):=by grind
  rw [this,hk]
  have:j*j*k*(k*A)=k*j*(k*j)*A:=by grind
  rw [this,hj];grind
 .have:((1-j*u)*(1-j*u)+j * -v*(j * -v))*(k*A)=k*A-2*(k*j)*u*A+k*j*j*(u*u+v*v)*A:=by grind
  rw [this,hk]
  have:k*A-2*(k*j)*u*A+k*j*j*k*A=k*A-2*(k*j)*u*A+k*j*(k*j)*A:=by grind
  rw [this,hj,<-hk];grind
theorem rob5 {k u v z1 z2 d1 d2 s1 s2:Rat} (hk:u*u+v*v=k) (hs1:z1-(u*d1-v*d2)=s1) (hs2:z2-(u*d2+v*d1)=s2) :
  (z1*u-z2*v)*(s2*(k-u)-s1*v)-(z2*u+z1*v)*(s1*(k-u)+s2*v) = -(k*((z1*u+z2*v)*((z2-d2)*(1-u)+(z1-d1)*v)-(z2*u-z1*v)*((z1-d1)*(1-u)-(z2-d2)*v))):=by
 rw [<-hs1,<-hs2,<-hk];grind
theorem Qbr (a b c:Rat):a-b-c=a-c-b:=by grind
theorem wbp (a b c:Rat):a+(b-c)=a-(c-b):=by grind
theorem kcan {k x y:Rat} (hk:k≠0) (h:k*x=k*y):x=y:=by
 have h1:k*(x-y)=0:=by grind
 have:=(Rat.mul_eq_zero.1 h1).resolve_left hk
 grind
theorem rob6 {k u v A B e f E F a1 a2 b1 b2 z1 z2 s1 s2 P1 P2 Q1 Q2:Rat} (hk0:k≠0) (hk:u*u+v*v=k)
  (r1:k*a1=z1*u-z2*v) (r2:k*a2=z2*u+z1*v) (r3:k*b1=s1*(k-u)+s2*v) (r4:k*b2=s2*(k-u)-s1*v)
  (eM:(z1*u-z2*v)*(s2*(k-u)-s1*v)-(z2*u+z1*v)*(s1*(k-u)+s2*v) = -(k*(Q1*P2-Q2*P1)))
  (y3:(e*(s1*(1-u)-s2*v)+f*z1)*(e*(s1*(1-u)-s2*v)+f*z1)+(e*(s2*(1-u)+s1*v)+f*z2)*(e*(s2*(1-u)+s1*v)+f*z2) =
   k*((E*P1-F*Q1)*(E*P1-F*Q1)+(E*P2-F*Q2)*(E*P2-F*Q2))-4*((Q1*P2-Q2*P1)*(Q1*P2-Q2*P1))*(k*B-A)) :
  (e*b2-f*a2)*(e*b2-f*a2)+(f*a1-e*b1)*(f*a1-e*b1)-4*(k*A)*((a1*b2-a2*b1)*(a1*b2-a2*b1)) =
  (E*P2-F*Q2)*(E*P2-F*Q2)+(F*Q1-E*P1)*(F*Q1-E*P1)-4*B*((Q1*P2-Q2*P1)*(Q1*P2-Q2*P1)):=by
 have hm:k*(a1*b2-a2*b1) = -(Q1*P2-Q2*P1):=by
  refine kcan hk0 ?_
  have:k*(k*(a1*b2-a2*b1))=(k*a1)*(k*b2)-(k*a2)*(k*b1):=by clear y3 eM r1 r2 r3 r4;grind
  rw [this,r1,r2,r3,r4,eM];clear y3 eM r1 r2 r3 r4 this;grind
 clear eM
 have n1:k*(e*b2-f*a2) = -(u*(e*(s2*(1-u)+s1*v)+f*z2)+v*(e*(s1*(1-u)-s2*v)+f*z1)):=by
  have:k*(e*b2-f*a2)=e*(k*b2)-f*(k*a2):=by clear y3 hm r1 r2 r3 r4;grind
  rw [this,r2,r4,<-hk];clear y3 hm r1 r2 r3 r4 this;grind
 have n2:k*(f*a1-e*b1)=u*(e*(s1*(1-u)-s2*v)+f*z1)-v*(e*(s2*(1-u)+s1*v)+f*z2):=by
  have:k*(f*a1-e*b1)=f*(k*a1)-e*(k*b1):=by clear y3 hm n1 r1 r2 r3 r4;grind
  rw [this,r1,r3,<-hk];clear y3 hm n1 r1 r2 r3 r4 this;grind
 clear r1 r2 r3 r4
 generalize e*(s1*(1-u)-s2*v)+f*z1=Y1 at *
 generalize e*(s2*(1-u)+s1*v)+f*z2=Y2 at *
 generalize e*b2-f*a2=N1 at *
 generalize f*a1-e*b1=N2 at *
 generalize a1*b2-a2*b1=m at *
 generalize Q1*P2-Q2*P1=M at *
 have hx:F*Q1-E*P1 = -(E*P1-F*Q1):=by clear y3 hm n1 n2;grind
 rw [hx]
 generalize E*P1-F*Q1=X1 at *
 generalize E*P2-F*Q2=X2 at *
 clear hx
 have k1:k*k*(N1*N1+N2*N2)=k*(Y1*Y1+Y2*Y2):=by
  have:k*k*(N1*N1+N2*N2)=(k*N1)*(k*N1)+(k*N2)*(k*N2):=by clear y3 hm n1 n2;grind
  rw [this,n1,n2,<-hk];clear y3 hm n1 n2;grind
 have k2:k*k*(m*m)=M*M:=by
  have:k*k*(m*m)=(k*m)*(k*m):=by clear y3 hm n1 n2 k1;grind
  rw [this,hm];clear y3 hm n1 n2 k1;grind
 refine kcan hk0 (kcan hk0 ?_)
 have:k*(k*(N1*N1+N2*N2-4*(k*A)*(m*m)))=k*k*(N1*N1+N2*N2)-4*(k*A)*(k*k*(m*m)):=by clear y3 hm n1 n2 k1 k2;grind
 rw [this,k1,k2,y3];clear y3 hm n1 n2 k1 k2 this;grind
theorem Ubp (c:CpR) (p:V2) (hk0:sqQ (cW c)≠0):wV (fiQ c) p=wV c p:=by
 obtain ⟨j,hj,ho⟩:=ov_j hk0
 obtain ⟨⟨o1,o2⟩,⟨q1,q2⟩,A,B,C,u,v⟩:=c
 obtain ⟨x,y⟩:=p
 have eW:cW ((o1,o2),(q1,q2),A,B,C,u,v)=(u,v):=rfl
 rw [eW]at hk0 hj ho
 have ek:sqQ (u,v)=u*u+v*v:=rfl
 rw [ek]at hk0 hj
 obtain ⟨k,hk⟩:∃k,u*u+v*v=k:=⟨_,rfl⟩
 rw [hk]at hk0 hj ek
 have e0:fiQ ((o1,o2),(q1,q2),A,B,C,u,v)=((o1,o2),foQ ((o1,o2),(q1,q2),A,B,C,u,v),k*B,k*A,k*C,j*u,j * -v):=by
  unfold fiQ simQ;rw [eW,ho,ek]
 rw [e0]
 obtain ⟨z1,hz1⟩:∃z,x-o1=z:=⟨_,rfl⟩
 obtain ⟨z2,hz2⟩:∃z,y-o2=z:=⟨_,rfl⟩
 obtain ⟨d1,hd1⟩:∃z,q1-o1=z:=⟨_,rfl⟩
 obtain ⟨d2,hd2⟩:∃z,q2-o2=z:=⟨_,rfl⟩
 have ef:foQ ((o1,o2),(q1,q2),A,B,C,u,v)=(o1+(u*d1-v*d2),o2+(u*d2+v*d1)):=by
  unfold foQ addQ timesQ subQ cW;simp only;rw [hd1,hd2]
 rw [ef]
 have f1:x-(o1+(u*d1-v*d2))=z1-(u*d1-v*d2):=by rw [<-hz1];grind
 have f2:y-(o2+(u*d2+v*d1))=z2-(u*d2+v*d1):=by rw [<-hz2];grind
 have g1:x-q1=z1-d1:=by rw [<-hz1,<-hd1];grind
 have g2:y-q2=z2-d2:=by rw [<-hz2,<-hd2];grind
 unfold wV wN wM wE wF wAl wBe cFi cSe cRe timQ sqQ subQ
 simp only [hz1,hz2,f1,f2,g1,g2]
 obtain ⟨s1,hs1⟩:∃z,z1-(u*d1-v*d2)=z:=⟨_,rfl⟩
 obtain ⟨s2,hs2⟩:∃z,z2-(u*d2+v*d1)=z:=⟨_,rfl⟩
 rw [hs1,hs2]
 obtain ⟨r1,r2,r3,r4⟩:=rob1 k j u v hk.symm hj z1 z2 s1 s2
 have y12:=rob2 z1 z2 d1 d2 u v A B C
 simp only [hs1,hs2,hk]at y12
 have y3:=rob3 z1 z2 u v (k*B-A) (C-((1-u)*(1-u)+v*v)*B-((z1-d1)*(z1-d1)+(z2-d2)*(z2-d2))) ((z1-d1)*(1-u)-(z2-d2)*v) ((z2-d2)*(1-u)+(z1-d1)*v)
 simp only [hk]at y3
 obtain ⟨eE,eF⟩:=rob4 A hk hj
 have eQ1:z1*u-z2 * -v=z1*u+z2*v:=by rw [Rat.mul_neg,Rat.sub_eq_add_neg,Rat.neg_neg]
 have eQ2:z2*u+z1 * -v=z2*u-z1*v:=by rw [Rat.mul_neg,Rat.sub_eq_add_neg]
 have eM:=rob5 hk hs1 hs2
 have hf' : k*C-((1-u)*(1-u)+v*v)*A-(s1*s1+s2*s2)=k*C-(s1*s1+s2*s2)-((1-u)*(1-u)+v*v)*A:=Qbr _ _ _
 have he' : z1*z1+z2*z2+(A-k*B)=z1*z1+z2*z2-(k*B-A):=wbp _ _ _
 rw [eE,eF,eQ1,eQ2,hk,he',hf']
 rw [<-y12.1,<-y12.2]at y3
 exact rob6 hk0 hk r1 r2 r3 r4 eM y3
end Go.Num
end
section
namespace Go.Num
open Go.Abs
theorem ya6 (a b:V2):zq (timesQ a b)<=2*zq a+2*zq b+6:=by
 have a1:=zq_1 a
 have a2:=zq_2 a
 have b1:=zq_1 b
 have b2:=zq_2 b
 have m1:=ze a.1 b.1
 have m2:=ze a.2 b.2
 have m3:=ze a.1 b.2
 have m4:=ze a.2 b.1
 have s1:=UD (a.1*b.1) (a.2*b.2)
 have s2:=uD (a.1*b.2) (a.2*b.1)
 exact Nat.max_le.2 ⟨by show rz (a.1*b.1-a.2*b.2)<=_;omega,by show rz (a.1*b.2+a.2*b.1)<=_;omega⟩
theorem JbN (a:V2):zq (ovQ a)<=5*zq a+8:=by
 have a1:=zq_1 a
 have a2:=zq_2 a
 have s:=V0 a
 have d1:=Ua9 a.1 (sqQ a)
 have d2:=Ua9 (-a.2) (sqQ a)
 rw [qy]at d2
 exact Nat.max_le.2 ⟨by show rz (a.1 / sqQ a)<=_;omega,by show rz (-a.2 / sqQ a)<=_;omega⟩
theorem xbG {c:CpR} {b:Nat} (h:CB' b c):zq (foQ c)<=7*b+12:=by
 obtain ⟨h1,h2,h3,h4,h5,h6,h7⟩:=h
 have w:zq (cW c)<=b:=Nat.max_le.2 ⟨h6,h7⟩
 have s:=xak c.2.1 c.1
 have t:=ya6 (cW c) (subQ c.2.1 c.1)
 have u:=Xbq c.1 (timesQ (cW c) (subQ c.2.1 c.1))
 unfold foQ;omega
theorem ubk {c:CpR} {b:Nat} (h:CB' b c):zq (rsQ c)<=b+4:=by
 obtain ⟨h1,h2,h3,h4,h5,h6,h7⟩:=h
 have w:zq (cW c)<=b:=Nat.max_le.2 ⟨h6,h7⟩
 have s:=xak (1,0) (cW c)
 have e:zq (1,0)=1:=by decide +kernel
 unfold rsQ;omega
theorem Wbv (a:V2):addQ a (0,0)=a:=by unfold addQ;exact Prod.ext (by simp only;grind) (by simp only;grind)
theorem JbA (a b c d:Rat):a*b+c*d=c*d+a*b:=Rat.add_comm _ _
end Go.Num
namespace Go.Abs
open Go.Num
variable {P:Program} {Γ:Nat->Spec}
def vy (l:List AV) (K:AV->Prop):Prop:=
 match l with
 | [a]=>onA (λp=>al p<=100000000/\K (pQ (av p))) a
 | _=>False
theorem WaL (a:AV) (K:AV->Prop):vy [a] K=(onA (λp=>al p<=100000000/\K (pQ (av p))) a):=propext Iff.rfl
@[congr] theorem ybL {K:AV->Prop} {l l' : List AV} (h:l=l'):vy l K=vy l' K:=by subst h;rfl
attribute [go_sem] WaL
attribute [go_sem ↓] WaL
theorem uaO:Good vy:=Va λas=>by
 unfold vy
 split
 .exact (QD λ_=>(.and λ_=>(.ret _)))
 .exact .of λK hk=>hk.elim
def JB (tE:Nat) (l:List AV) (K:AV->Prop):Prop:=
 match l with
 | [a]=>onA (λp=>al p<=100000000/\K (.tup [pQ (if sqQ (av p)=0 then (0,0) else ovQ (av p)),errV tE (if sqQ (av p)=0 then 8 else 0)])) a
 | _=>False
theorem kaT (tE:Nat) (a:AV) (K:AV->Prop):JB tE [a] K=(onA (λp=>al p<=100000000/\K (.tup [pQ (if sqQ (av p)=0 then (0,0) else ovQ (av p)),errV tE (if sqQ (av p)=0 then 8 else 0)])) a):=propext Iff.rfl
@[congr] theorem XbM (tE:Nat) {K:AV->Prop} {l l' : List AV} (h:l=l'):JB tE l K=JB tE l' K:=by subst h;rfl
attribute [go_sem] kaT
attribute [go_sem ↓] kaT
theorem QaJ (tE:Nat):Good (JB tE):=Va λas=>by
 unfold JB
 split
 .exact (QD λ_=>(.and λ_=>(.ret _)))
 .exact .of λK hk=>hk.elim
def Vy (l:List AV) (K:AV->Prop):Prop:=
 match l with
 | [c]=>onCp (λc=>cl c<=1000000/\K (pQ (foQ (cpv c)))) c
 | _=>False
theorem XaZ (c:AV) (K:AV->Prop):Vy [c] K=(onCp (λc=>cl c<=1000000/\K (pQ (foQ (cpv c)))) c):=propext Iff.rfl
@[congr] theorem kbG {K:AV->Prop} {l l' : List AV} (h:l=l'):Vy l K=Vy l' K:=by subst h;rfl
attribute [go_sem] XaZ
attribute [go_sem ↓] XaZ
theorem JaH:Good Vy:=Va λas=>by
 unfold Vy
 split
 .exact (Vm λ_=>(.and λ_=>(.ret _)))
 .exact .of λK hk=>hk.elim
def jv (l:List AV) (K:AV->Prop):Prop:=
 match l with
 | [c]=>onCp (λc=>cl c<=100000000/\K (cpA (canC (cpv c)))) c
 | _=>False
theorem wao (c:AV) (K:AV->Prop):jv [c] K=(onCp (λc=>cl c<=100000000/\K (cpA (canC (cpv c)))) c):=propext Iff.rfl
@[congr] theorem WbB {K:AV->Prop} {l l' : List AV} (h:l=l'):jv l K=jv l' K:=by subst h;rfl
attribute [go_sem] wao
attribute [go_sem ↓] wao
theorem jaB:Good jv:=Va λas=>by
 unfold jv
 split
 .exact (Vm λ_=>(.and λ_=>(.ret _)))
 .exact .of λK hk=>hk.elim
def Xm (f0:Nat):AC:=(.seq (.ops false [.u 1 (.box 6 (.t 0)),.u 2 (.alloc [(.lit (.bool false)),.emp,.emp,(.lit (.bool false)),.emp,.emp])])
 (.fg [1,2] (.seq (.ops false [.u 3 (.ld none 6 true (.t 1)),.u 4 (.build [.z [(.lit (.bool false)),.emp,.emp,(.lit (.bool false)),.emp,.emp]]),.u 5 (.call f0 [(.t 3),(.t 4)]),.n (.st none 6 (.t 2) (.t 5))])
 .ret)))
def Zn (f0 f1 f2:Nat):AC:=(.seq (.ops false [.u 2 (.box 6 (.t 0)),.u 3 (.box 6 (.t 1)),.u 4 (.alloc [(.lit (.bool false)),.emp,.emp,(.lit (.bool false)),.emp,.emp])])
 (.fg [2,3,4] (.seq (.ops true [.u 5 (.fa 0 (.t 2)),.u 6 (.ld none 3 true (.t 5)),.u 7 (.fa 0 (.t 3)),.u 8 (.ld none 3 true (.t 7)),.u 9 (.call f0 [(.t 6),(.t 8)]),.u 10 (.fa 3 (.t 2)),.u 11 (.ld none 3 true (.t 10)),.u 12 (.fa 3 (.t 3)),.u 13 (.ld none 3 true (.t 12)),.u 14 (.call f0 [(.t 11),(.t 13)]),.u 15 (.call f1 [(.t 9),(.t 14)]),.u 16 (.fa 3 (.t 2)),.u 17 (.ld none 3 true (.t 16)),.u 18 (.fa 0 (.t 3)),.u 19 (.ld none 3 true (.t 18)),.u 20 (.call f0 [(.t 17),(.t 19)]),.u 21 (.fa 0 (.t 2)),.u 22 (.ld none 3 true (.t 21)),.u 23 (.fa 3 (.t 3)),.u 24 (.ld none 3 true (.t 23)),.u 25 (.call f0 [(.t 22),(.t 24)]),.u 26 (.call f2 [(.t 20),(.t 25)]),.u 27 (.build [.x 3 (.t 15),.x 3 (.t 26)]),.n (.st none 6 (.t 4) (.t 27))])
 .ret)))
def Qg (f0 f1 f2:Nat):AC:=(.seq (.ops false [.u 1 (.box 6 (.t 0)),.u 2 (.alloc [(.lit (.bool false)),.emp,.emp,(.lit (.bool false)),.emp,.emp]),.m 3 (.c (.one (.lit .nilIface)))])
 (.fg [1,2] (.seq (.ops false [.u 8 (.ld none 6 true (.t 1)),.u 9 (.call f0 [(.t 8)]),.u 4 (.alloc [(.lit (.bool false)),.emp,.emp]),.n (.st none 3 (.t 4) (.t 9))])
 (.fg [1,2,4] (.seq (.ops false [.u 11 (.fa 0 (.t 1)),.u 12 (.ld none 3 true (.t 11)),.u 13 (.ld none 3 true (.t 4)),.u 14 (.call f1 [(.t 12),(.t 13)]),.m 10 (.t 14),.u 15 (.ext 0 (.t 10)),.u 16 (.ext 1 (.t 10)),.u 5 (.alloc [(.lit (.bool false)),.emp,.emp]),.n (.st none 3 (.t 5) (.t 15)),.m 6 (.t 16)])
 (.fg [1,2,4,5,6] (.seq (.seq (.ops false [.m 17 (.t 6),.u 18 (.binn .neq (.t 17) (.c (.one (.lit .nilIface))))])
 (.fg [1,2,4,5,6,18] (.cond (.t 18) (.seq (.ops false [.u 19 (.build [.z [(.lit (.bool false)),.emp,.emp,(.lit (.bool false)),.emp,.emp]]),.m 20 (.t 6),.n (.st none 6 (.t 2) (.t 19)),.m 3 (.t 20)])
 .ret) .skip)))
 (.fg [1,2,4,5] (.seq (.ops true [.u 22 (.fa 3 (.t 1)),.u 23 (.ld none 3 true (.t 22)),.u 24 (.call f2 [(.t 23)]),.u 25 (.ld none 3 true (.t 4)),.u 26 (.call f1 [(.t 24),(.t 25)]),.m 21 (.t 26),.u 27 (.ext 0 (.t 21)),.u 28 (.ext 1 (.t 21)),.u 7 (.alloc [(.lit (.bool false)),.emp,.emp]),.n (.st none 3 (.t 7) (.t 27)),.m 6 (.t 28)])
 (.fg [2,5,6,7] (.seq (.ops false [.u 29 (.ld none 3 true (.t 5)),.u 30 (.ld none 3 true (.t 7)),.u 31 (.build [.x 3 (.t 29),.x 3 (.t 30)]),.m 32 (.t 6),.n (.st none 6 (.t 2) (.t 31)),.m 3 (.t 32)])
 .ret)))))))))))
def Wn (f0 f1 f2 f3:Nat):AC:=(.seq (.ops false [.u 1 (.box 27 (.t 0)),.u 2 (.alloc [(.lit (.bool false)),.emp,.emp,(.lit (.bool false)),.emp,.emp])])
 (.fg [1,2] (.seq (.ops true [.u 3 (.fa 0 (.t 1)),.u 4 (.ld none 6 true (.t 3)),.u 5 (.ld none 27 true (.t 1)),.u 6 (.call f0 [(.t 5)]),.u 7 (.fa 6 (.t 1)),.u 8 (.ld none 6 true (.t 7)),.u 9 (.fa 0 (.t 1)),.u 10 (.ld none 6 true (.t 9)),.u 11 (.call f1 [(.t 8),(.t 10)]),.u 12 (.call f2 [(.t 6),(.t 11)]),.u 13 (.call f3 [(.t 4),(.t 12)]),.n (.st none 6 (.t 2) (.t 13))])
 .ret)))
def vl (f0 f1:Nat):AC:=(.seq (.ops false [.u 1 (.box 27 (.t 0)),.u 2 (.alloc [(.lit (.bool false)),.emp,.emp,(.lit (.bool false)),.emp,.emp,(.lit (.bool false)),.emp,.emp,(.lit (.bool false)),.emp,.emp,(.lit (.bool false)),.emp,.emp,(.lit (.bool false)),.emp,.emp,(.lit (.bool false)),.emp,.emp,(.lit (.bool false)),.emp,.emp,(.lit (.bool false)),.emp,.emp])])
 (.fg [1,2] (.seq (.ops false [.u 4 (.build [.z [(.lit (.bool false)),.emp,.emp]]),.u 3 (.alloc [(.lit (.bool false)),.emp,.emp]),.n (.st none 3 (.t 3) (.t 4))])
 (.fg [1,2,3] (.seq (.ops true [.u 5 (.fa 0 (.t 1)),.u 6 (.ld none 6 true (.t 5)),.u 7 (.call f0 [(.t 6)]),.u 8 (.fa 6 (.t 1)),.u 9 (.ld none 6 true (.t 8)),.u 10 (.call f0 [(.t 9)]),.u 11 (.fa 12 (.t 1)),.u 12 (.ld none 3 true (.t 11)),.u 13 (.ld none 3 true (.t 3)),.u 14 (.call f1 [(.t 12),(.t 13)]),.u 15 (.fa 15 (.t 1)),.u 16 (.ld none 3 true (.t 15)),.u 17 (.ld none 3 true (.t 3)),.u 18 (.call f1 [(.t 16),(.t 17)]),.u 19 (.fa 18 (.t 1)),.u 20 (.ld none 3 true (.t 19)),.u 21 (.ld none 3 true (.t 3)),.u 22 (.call f1 [(.t 20),(.t 21)]),.u 23 (.fa 21 (.t 1)),.u 24 (.ld none 3 true (.t 23)),.u 25 (.ld none 3 true (.t 3)),.u 26 (.call f1 [(.t 24),(.t 25)]),.u 27 (.fa 24 (.t 1)),.u 28 (.ld none 3 true (.t 27)),.u 29 (.ld none 3 true (.t 3)),.u 30 (.call f1 [(.t 28),(.t 29)]),.u 31 (.build [.x 6 (.t 7),.x 6 (.t 10),.x 3 (.t 14),.x 3 (.t 18),.x 3 (.t 22),.x 3 (.t 26),.x 3 (.t 30)]),.n (.st none 27 (.t 2) (.t 31))])
 .ret)))))
theorem waz (hΓ:Holds P Γ) {f fa:Nat} (ha:Γ fa=.dat false Zt) (hc:check P f=some (6,(Xm fa).strip,[.cell 2 6 true])):Sound P f (.dat false vy):=by
 refine va hc uaO hΓ (λargs K hcl hfi hG=>?_)
 match args,hG with
 | [a],hG=>
  obtain ⟨p,rfl,wp,hl,hK⟩:=hG
  refine ⟨by simp,?_⟩
  have zz:WLA (rcan 0,rcan 0):=jz (0,0)
  have z0:al (rcan 0,rcan 0)<=100000000:=Nat.max_le.2 ⟨Nat.le_trans (Nat.le_of_eq rz_0) (by decide),Nat.le_trans (Nat.le_of_eq rz_0) (by decide)⟩
  have e0:av (rcan 0,rcan 0)=(0,0):=yaA (0,0)
  simp only [go_sem,Xm,ha,Ux,Wc,e0,Wbv]
  repeat (first | (refine And.intro (by with_reducible assumption) ?_) | (refine And.intro (Nat.le_trans (by with_reducible assumption) (by decide)) ?_) | (refine And.intro (by decide) ?_))
  exact hK
theorem YT (hΓ:Holds P Γ) {f fm fs fa:Nat} (hm:Γ fm=.dat false Yn) (hs:Γ fs=.dat false Yw) (ha:Γ fa=.dat false vp) (hc:check P f=some (28,(Zn fm fs fa).strip,[.cell 4 6 true])):Sound P f (.dat false Zo):=by
 refine va hc Wad hΓ (λargs K hcl hfi hG=>?_)
 match args,hG with
 | [a,b],hG=>
  obtain ⟨p,rfl,wp,q,rfl,wq,hl,hl2,hK⟩:=hG
  refine ⟨by simp,?_⟩
  have w1:=wp.1
  have w2:=wp.2
  have w3:=wq.1
  have w4:=wq.2
  have l1:=(Nat.max_le.1 hl).1
  have l2:=(Nat.max_le.1 hl).2
  have l3:=(Nat.max_le.1 hl2).1
  have l4:=(Nat.max_le.1 hl2).2
  have r1:=jj w1
  have r2:=jj w2
  have r3:=jj w3
  have r4:=jj w4
  have m1:=Nat.le_trans (ze (rv p.1) (rv q.1)) (by omega:_<=1000000000)
  have m2:=Nat.le_trans (ze (rv p.2) (rv q.2)) (by omega:_<=1000000000)
  have m3:=Nat.le_trans (ze (rv p.2) (rv q.1)) (by omega:_<=1000000000)
  have m4:=Nat.le_trans (ze (rv p.1) (rv q.2)) (by omega:_<=1000000000)
  have e:pQ (timesQ (av p) (av q))=pQ (rv p.1*rv q.1-rv p.2*rv q.2,rv p.2*rv q.1+rv p.1*rv q.2):=by
   unfold timesQ av;rw [JbA]
  rw [e]at hK
  simp only [go_sem,Zn,hm,hs,ha,Ux,Xb]
  repeat (first | (refine And.intro (by with_reducible assumption) ?_) | (refine And.intro (Nat.le_trans (by with_reducible assumption) (by decide)) ?_) | (refine And.intro (by decide) ?_))
  exact hK
theorem vaz (hΓ:Holds P Γ) {f fq fd fn tE:Nat} (hq:Γ fq=.dat false UI) (hd:Γ fd=.dat false (Xv tE)) (hn:Γ fn=.dat false kw) (hc:check P f=some (33,(Qg fq fd fn).strip,[.cell 2 6 true,.tmp 3])):Sound P f (.dat false (JB tE)):=by
 refine va hc (QaJ tE) hΓ (λargs K hcl hfi hG=>?_)
 match args,hG with
 | [a],hG=>
  obtain ⟨p,rfl,wp,hl,hK⟩:=hG
  refine ⟨by simp,?_⟩
  have w1:=wp.1
  have w2:=wp.2
  have l1:=(Nat.max_le.1 hl).1
  have l2:=(Nat.max_le.1 hl).2
  have r1:=jj w1
  have r2:=jj w2
  have s:=V0 (av p)
  have z:=wax wp
  obtain ⟨n,hn0⟩:∃n,sqQ (av p)=n:=⟨_,rfl⟩
  rw [hn0]at s
  have s1:=Nat.le_trans s (by omega:_<=4294967296)
  have s2:rz (-rv p.2)<=4294967296:=by rw [qy];omega
  have eo:ovQ (av p)=(rv p.1 / n,-rv p.2 / n):=by unfold ovQ;rw [hn0];rfl
  rw [eo,hn0]at hK
  by_cases h0:n=0
  .have e8:=vc tE (by decide:(8:Nat)≠0)
   rw [if_pos h0,if_pos h0,e8,za4,jc]at hK
   simp only [go_sem,Qg,hq,hd,Ux,Wc,hn0,Xb,if_pos h0,e8]
   repeat (first | (refine And.intro (by with_reducible assumption) ?_) | (refine And.intro (Nat.le_trans (by with_reducible assumption) (by decide)) ?_) | (refine And.intro (by decide) ?_))
   exact hK
  .have e0:=Zc tE
   rw [if_neg h0,if_neg h0,e0]at hK
   simp only [go_sem,Qg,hq,hd,hn,Ux,Wc,hn0,Xb,if_neg h0,e0]
   repeat (first | (refine And.intro (by with_reducible assumption) ?_) | (refine And.intro (Nat.le_trans (by with_reducible assumption) (by decide)) ?_) | (refine And.intro (by decide) ?_))
   exact hK
theorem vax (hΓ:Holds P Γ) {f fw fs ft fa:Nat} (hw' : Γ fw=.dat false zF) (hs:Γ fs=.dat false kt) (ht:Γ ft=.dat false Zo) (ha:Γ fa=.dat false Zt) (hc:check P f=some (14,(Wn fw fs ft fa).strip,[.cell 2 6 true])):Sound P f (.dat false Vy):=by
 refine va hc JaH hΓ (λargs K hcl hfi hG=>?_)
 match args,hG with
 | [a],hG=>
  obtain ⟨c,rfl,hw,hl,hK⟩:=hG
  refine ⟨by simp,?_⟩
  have wW:WLA c.2.2.2.2.2:=⟨hw.2.2.2.2.2.1,hw.2.2.2.2.2.2⟩
  have l6:al c.2.2.2.2.2<=100000000:=Nat.le_trans (cl_w hl) (by decide)
  have hB:=Qbf hw hl
  have wo:=hw.1
  have wQ:=hw.2.1
  have lo:al c.1<=100000000:=Nat.le_trans (Nat.le_max_left _ _) (Nat.le_trans hl (by decide))
  have lq:al c.2.1<=100000000:=Nat.le_trans (Nat.le_max_left _ _) (Nat.le_trans (Nat.le_max_right _ _) (Nat.le_trans hl (by decide)))
  obtain ⟨D,hD⟩:∃D,subQ (av c.2.1) (av c.1)=D:=⟨_,rfl⟩
  obtain ⟨T,hT⟩:∃T,timesQ (av c.2.2.2.2.2) D=T:=⟨_,rfl⟩
  have z1:al (rcan D.1,rcan D.2)<=100000000:=by
   have:=xak (av c.2.1) (av c.1)
   rw [hD]at this
   have e1:zq (av c.1)<=1000000:=hB.1
   have e2:zq (av c.2.1)<=1000000:=hB.2.1
   exact Nat.le_trans this (by omega)
  have z2:al (rcan T.1,rcan T.2)<=100000000:=by
   have:=ya6 (av c.2.2.2.2.2) D
   rw [hT]at this
   have e3:=xak (av c.2.1) (av c.1)
   rw [hD]at e3
   have e1:zq (av c.1)<=1000000:=hB.1
   have e2:zq (av c.2.1)<=1000000:=hB.2.1
   have e4:zq (av c.2.2.2.2.2)<=1000000:=Nat.max_le.2 ⟨hB.2.2.2.2.2.1,hB.2.2.2.2.2.2⟩
   exact Nat.le_trans this (by omega)
  have wD:WLA (rcan D.1,rcan D.2):=jz D
  have wT:WLA (rcan T.1,rcan T.2):=jz T
  have ef:foQ (cpv c)=addQ (av c.1) T:=by rw [<-hT,<-hD];rfl
  rw [ef]at hK
  simp only [go_sem,Wn,hw',hs,ht,ha,cpA,cpC,aA,Ux,Wc,hD,yaA,hT]
  repeat (first | (refine And.intro (by with_reducible assumption) ?_) | (refine And.intro (Nat.le_trans (by with_reducible assumption) (by decide)) ?_) | (refine And.intro (by decide) ?_))
  exact hK
theorem kaf (hΓ:Holds P Γ) {f fc fa:Nat} (hcl' : Γ fc=.dat false vy) (ha:Γ fa=.dat false vp) (hc:check P f=some (32,(vl fc fa).strip,[.cell 2 27 true])):Sound P f (.dat false jv):=by
 refine va hc jaB hΓ (λargs K hcl hfi hG=>?_)
 match args,hG with
 | [a],hG=>
  obtain ⟨c,rfl,hw,hl,hK⟩:=hG
  refine ⟨by simp,?_⟩
  obtain ⟨wo,wQ,w1,w2,w3,w4,w5⟩:=id hw
  have hl0:=hl
  unfold cl at hl0
  simp only [Nat.max_le]at hl0
  obtain ⟨l1,l2,l3,l4,l5,l6,l7⟩:=hl0
  have lz:rz 0<=4294967296:=Nat.le_trans (Nat.le_of_eq rz_0) (by decide)
  have m1:∀x:Rat,x+0=x:=λx=>by grind
  simp only [go_sem,vl,hcl',ha,cpA,cpC,Ux,rA,Wc,Xb,m1]
  repeat (first | (refine And.intro (by with_reducible assumption) ?_) | (refine And.intro (Nat.le_trans (by with_reducible assumption) (by decide)) ?_) | (refine And.intro (by decide) ?_))
  exact hK
end Go.Abs
end
section
namespace Go.Num
open Go.Abs
def wC (w:V2):Nat:=if sqQ w=0 then 8 else 0
def fiC (c:Cp):Nat:=if cchk c≠0 then cchk c else wC (cW (cpv c))
def seC (c:Cp):Nat:=if cchk c≠0 then cchk c else wC (rsQ (cpv c))
def alC (c:Cp):Nat:=if fiC c≠0 then fiC c else seC c
def alL (c:Cp):List CpR:=if alC c=0 then [cpv c,fiQ (cpv c),seQ (cpv c)] else []
theorem wC_0 {w:V2}:wC w=0↔sqQ w≠0:=by
 unfold wC;split
 .rename_i h;simp [h]
 .rename_i h;simp [h]
theorem QbK {c:Cp} (h:cchk c≠0):fiC c=cchk c:=if_pos h
theorem QbH {c:Cp} (h:cchk c≠0):seC c=cchk c:=if_pos h
theorem wbf {c:Cp} (h:cchk c=0):fiC c=wC (cW (cpv c)):=by unfold fiC;rw [if_neg (by omega)]
theorem qbt {c:Cp} (h:cchk c=0):seC c=wC (rsQ (cpv c)):=by unfold seC;rw [if_neg (by omega)]
theorem zbb {c:CpR} {o k:V2} {x y z:Rat} {b:Nat} (h:CB' b c) (ho:zq o<=b) (hk:zq k<=b+4) (h1:rz x<=b) (h2:rz y<=b) (h3:rz z<=b):CB' (7*b+40) (simQ c o k x y z):=by
 have f:=xbG h
 have s:=V0 k
 have v:=JbN k
 have m1:=ze (sqQ k) x
 have m2:=ze (sqQ k) y
 have m3:=ze (sqQ k) z
 have v1:=zq_1 (ovQ k)
 have v2:=zq_2 (ovQ k)
 exact ⟨by show zq o<=_;omega,by show zq (foQ c)<=_;omega,by show rz (sqQ k*x)<=_;omega,by show rz (sqQ k*y)<=_;omega,by show rz (sqQ k*z)<=_;omega,by show rz (ovQ k).1<=_;omega,by show rz (ovQ k).2<=_;omega⟩
theorem Vbr {c:CpR} {b:Nat} (h:CB' b c):CB' (7*b+40) (fiQ c):=
 zbb h h.1 (Nat.le_trans (Nat.max_le.2 ⟨h.2.2.2.2.2.1,h.2.2.2.2.2.2⟩) (by omega)) h.2.2.2.1 h.2.2.1 h.2.2.2.2.1
theorem ubK {c:CpR} {b:Nat} (h:CB' b c):CB' (7*b+40) (seQ c):=
 zbb h h.2.1 (ubk h) h.2.2.2.1 h.2.2.2.2.1 h.2.2.1
theorem zbL {c:CpR} {b:Nat} (h:CB' b c):CB' (b+4) (swQ c):=by
 have r:=ubk h
 have v1:=zq_1 (rsQ c)
 have v2:=zq_2 (rsQ c)
 obtain ⟨h1,h2,h3,h4,h5,h6,h7⟩:=h
 exact ⟨by show zq c.2.1<=_;omega,by show zq c.1<=_;omega,by show rz c.2.2.2.2.1<=_;omega,by show rz c.2.2.2.1<=_;omega,by show rz c.2.2.1<=_;omega,by show rz (rsQ c).1<=_;omega,by show rz (rsQ c).2<=_;omega⟩
end Go.Num
namespace Go.Abs
open Go.Num
variable {P:Program} {Γ:Nat->Spec}
def Zy (tE:Nat) (l:List AV) (K:AV->Prop):Prop:=
 match l with
 | [c,o,k,x,y,z]=>onCp (λc=>onA (λo=>onA (λk=>onR (λx=>onR (λy=>onR (λz=>cl c<=1000000/\al o<=1000000/\al k<=1000000/\rl x<=1000000/\rl y<=1000000/\rl z<=1000000/\K (.tup [cqR (if wC (av k)=0 then simQ (cpv c) (av o) (av k) (rv x) (rv y) (rv z) else z27),errV tE (wC (av k))])) z) y) x) k) o) c
 | _=>False
theorem JaV (tE:Nat) (c o k x y z:AV) (K:AV->Prop):Zy tE [c,o,k,x,y,z] K=(onCp (λc=>onA (λo=>onA (λk=>onR (λx=>onR (λy=>onR (λz=>cl c<=1000000/\al o<=1000000/\al k<=1000000/\rl x<=1000000/\rl y<=1000000/\rl z<=1000000/\K (.tup [cqR (if wC (av k)=0 then simQ (cpv c) (av o) (av k) (rv x) (rv y) (rv z) else z27),errV tE (wC (av k))])) z) y) x) k) o) c):=propext Iff.rfl
@[congr] theorem WbF (tE:Nat) {K:AV->Prop} {l l' : List AV} (h:l=l'):Zy tE l K=Zy tE l' K:=by subst h;rfl
attribute [go_sem] JaV
attribute [go_sem ↓] JaV
theorem WaG (tE:Nat):Good (Zy tE):=Va λas=>by
 unfold Zy
 split
 .exact (Vm λ_=>(QD λ_=>(QD λ_=>(Uh λ_=>(Uh λ_=>(Uh λ_=>(.and λ_=>(.and λ_=>(.and λ_=>(.and λ_=>(.and λ_=>(.and λ_=>(.ret _)))))))))))))
 .exact .of λK hk=>hk.elim
def ZJ (tE:Nat) (l:List AV) (K:AV->Prop):Prop:=
 match l with
 | [c]=>onCp (λc=>cl c<=100000/\K (.tup [cqR (if fiC c=0 then fiQ (cpv c) else z27),errV tE (fiC c)])) c
 | _=>False
theorem Za6 (tE:Nat) (c:AV) (K:AV->Prop):ZJ tE [c] K=(onCp (λc=>cl c<=100000/\K (.tup [cqR (if fiC c=0 then fiQ (cpv c) else z27),errV tE (fiC c)])) c):=propext Iff.rfl
@[congr] theorem VbP (tE:Nat) {K:AV->Prop} {l l' : List AV} (h:l=l'):ZJ tE l K=ZJ tE l' K:=by subst h;rfl
attribute [go_sem] Za6
attribute [go_sem ↓] Za6
theorem za3 (tE:Nat):Good (ZJ tE):=Va λas=>by
 unfold ZJ
 split
 .exact (Vm λ_=>(.and λ_=>(.ret _)))
 .exact .of λK hk=>hk.elim
def UP (tE:Nat) (l:List AV) (K:AV->Prop):Prop:=
 match l with
 | [c]=>onCp (λc=>cl c<=100000/\K (.tup [cqR (if seC c=0 then seQ (cpv c) else z27),errV tE (seC c)])) c
 | _=>False
theorem ua9 (tE:Nat) (c:AV) (K:AV->Prop):UP tE [c] K=(onCp (λc=>cl c<=100000/\K (.tup [cqR (if seC c=0 then seQ (cpv c) else z27),errV tE (seC c)])) c):=propext Iff.rfl
@[congr] theorem UbO (tE:Nat) {K:AV->Prop} {l l' : List AV} (h:l=l'):UP tE l K=UP tE l' K:=by subst h;rfl
attribute [go_sem] ua9
attribute [go_sem ↓] ua9
theorem va4 (tE:Nat):Good (UP tE):=Va λas=>by
 unfold UP
 split
 .exact (Vm λ_=>(.and λ_=>(.ret _)))
 .exact .of λK hk=>hk.elim
def YP (tE:Nat) (l:List AV) (K:AV->Prop):Prop:=
 match l with
 | [c]=>onCp (λc=>cl c<=100000/\K (.tup [pQ (if cchk c=0 then foQ (cpv c) else (0,0)),errV tE (cchk c)])) c
 | _=>False
theorem wa7 (tE:Nat) (c:AV) (K:AV->Prop):YP tE [c] K=(onCp (λc=>cl c<=100000/\K (.tup [pQ (if cchk c=0 then foQ (cpv c) else (0,0)),errV tE (cchk c)])) c):=propext Iff.rfl
@[congr] theorem vbP (tE:Nat) {K:AV->Prop} {l l' : List AV} (h:l=l'):YP tE l K=YP tE l' K:=by subst h;rfl
attribute [go_sem] wa7
attribute [go_sem ↓] wa7
theorem Ua5 (tE:Nat):Good (YP tE):=Va λas=>by
 unfold YP
 split
 .exact (Vm λ_=>(.and λ_=>(.ret _)))
 .exact .of λK hk=>hk.elim
def uO (tE:Nat) (l:List AV) (K:AV->Prop):Prop:=
 match l with
 | [c]=>onCp (λc=>cl c<=100000/\K (.tup [cqR (if cchk c=0 then swQ (cpv c) else z27),errV tE (cchk c)])) c
 | _=>False
theorem Ya7 (tE:Nat) (c:AV) (K:AV->Prop):uO tE [c] K=(onCp (λc=>cl c<=100000/\K (.tup [cqR (if cchk c=0 then swQ (cpv c) else z27),errV tE (cchk c)])) c):=propext Iff.rfl
@[congr] theorem JbP (tE:Nat) {K:AV->Prop} {l l' : List AV} (h:l=l'):uO tE l K=uO tE l' K:=by subst h;rfl
attribute [go_sem] Ya7
attribute [go_sem ↓] Ya7
theorem Wa5 (tE:Nat):Good (uO tE):=Va λas=>by
 unfold uO
 split
 .exact (Vm λ_=>(.and λ_=>(.ret _)))
 .exact .of λK hk=>hk.elim
def waW (tE:Nat) (l:List AV) (K:AV->Prop):Prop:=
 match l with
 | [c]=>onCp (λc=>cl c<=10000/\K (.tup [.one (.slice ((alL c).map λX=>cpC (canC X))),errV tE (alC c)])) c
 | _=>False
theorem uaZ (tE:Nat) (c:AV) (K:AV->Prop):waW tE [c] K=(onCp (λc=>cl c<=10000/\K (.tup [.one (.slice ((alL c).map λX=>cpC (canC X))),errV tE (alC c)])) c):=propext Iff.rfl
@[congr] theorem VbH (tE:Nat) {K:AV->Prop} {l l' : List AV} (h:l=l'):waW tE l K=waW tE l' K:=by subst h;rfl
attribute [go_sem] uaZ
attribute [go_sem ↓] uaZ
def Uf (f0 f1 f2 f3 f4:Nat):AC:=(.seq (.ops false [.u 6 (.box 27 (.t 0)),.u 7 (.box 6 (.t 1)),.u 8 (.box 6 (.t 2)),.u 9 (.box 3 (.t 3)),.u 10 (.box 3 (.t 4)),.u 11 (.box 3 (.t 5)),.u 12 (.alloc [(.lit (.bool false)),.emp,.emp,(.lit (.bool false)),.emp,.emp,(.lit (.bool false)),.emp,.emp,(.lit (.bool false)),.emp,.emp,(.lit (.bool false)),.emp,.emp,(.lit (.bool false)),.emp,.emp,(.lit (.bool false)),.emp,.emp,(.lit (.bool false)),.emp,.emp,(.lit (.bool false)),.emp,.emp]),.m 13 (.c (.one (.lit .nilIface)))])
 (.fg [6,7,8,9,10,11,12] (.seq (.ops false [.u 18 (.ld none 6 true (.t 8)),.u 19 (.call f0 [(.t 18)]),.m 17 (.t 19),.u 20 (.ext 0 (.t 17)),.u 21 (.ext 1 (.t 17)),.u 14 (.alloc [(.lit (.bool false)),.emp,.emp,(.lit (.bool false)),.emp,.emp]),.n (.st none 6 (.t 14) (.t 20)),.m 15 (.t 21)])
 (.fg [6,7,8,9,10,11,12,14,15] (.seq (.seq (.ops false [.m 22 (.t 15),.u 23 (.binn .neq (.t 22) (.c (.one (.lit .nilIface))))])
 (.fg [6,7,8,9,10,11,12,14,15,23] (.cond (.t 23) (.seq (.ops false [.u 24 (.build [.z [(.lit (.bool false)),.emp,.emp,(.lit (.bool false)),.emp,.emp,(.lit (.bool false)),.emp,.emp,(.lit (.bool false)),.emp,.emp,(.lit (.bool false)),.emp,.emp,(.lit (.bool false)),.emp,.emp,(.lit (.bool false)),.emp,.emp,(.lit (.bool false)),.emp,.emp,(.lit (.bool false)),.emp,.emp]]),.m 25 (.t 15),.n (.st none 27 (.t 12) (.t 24)),.m 13 (.t 25)])
 .ret) .skip)))
 (.fg [6,7,8,9,10,11,12,14] (.seq (.ops false [.u 26 (.ld none 6 true (.t 8)),.u 27 (.call f1 [(.t 26)]),.u 16 (.alloc [(.lit (.bool false)),.emp,.emp]),.n (.st none 3 (.t 16) (.t 27))])
 (.fg [6,7,9,10,11,12,14,16] (.seq (.ops true [.u 28 (.ld none 6 true (.t 7)),.u 29 (.call f2 [(.t 28)]),.u 30 (.ld none 27 true (.t 6)),.u 31 (.call f3 [(.t 30)]),.u 32 (.ld none 3 true (.t 16)),.u 33 (.ld none 3 true (.t 9)),.u 34 (.call f4 [(.t 32),(.t 33)]),.u 35 (.ld none 3 true (.t 16)),.u 36 (.ld none 3 true (.t 10)),.u 37 (.call f4 [(.t 35),(.t 36)]),.u 38 (.ld none 3 true (.t 16)),.u 39 (.ld none 3 true (.t 11)),.u 40 (.call f4 [(.t 38),(.t 39)]),.u 41 (.fa 0 (.t 14)),.u 42 (.ld none 3 true (.t 41)),.u 43 (.fa 3 (.t 14)),.u 44 (.ld none 3 true (.t 43)),.u 45 (.build [.x 6 (.t 29),.x 6 (.t 31),.x 3 (.t 34),.x 3 (.t 37),.x 3 (.t 40),.x 3 (.t 42),.x 3 (.t 44)]),.n (.st none 27 (.t 12) (.t 45)),.m 13 (.c (.one (.lit .nilIface)))])
 .ret)))))))))
def zj (f0 f1 f2:Nat):AC:=(.seq (.ops false [.u 1 (.box 27 (.t 0)),.u 2 (.alloc [(.lit (.bool false)),.emp,.emp,(.lit (.bool false)),.emp,.emp,(.lit (.bool false)),.emp,.emp,(.lit (.bool false)),.emp,.emp,(.lit (.bool false)),.emp,.emp,(.lit (.bool false)),.emp,.emp,(.lit (.bool false)),.emp,.emp,(.lit (.bool false)),.emp,.emp,(.lit (.bool false)),.emp,.emp]),.m 3 (.c (.one (.lit .nilIface)))])
 (.fg [1,2] (.seq (.seq (.ops false [.u 5 (.ld none 27 true (.t 1)),.u 6 (.call f0 [(.t 5)]),.m 4 (.t 6)])
 (.fg [1,2,4] (.seq (.ops false [.m 7 (.t 4),.u 8 (.binn .neq (.t 7) (.c (.one (.lit .nilIface))))])
 (.fg [1,2,4,8] (.cond (.t 8) (.seq (.ops false [.u 9 (.build [.z [(.lit (.bool false)),.emp,.emp,(.lit (.bool false)),.emp,.emp,(.lit (.bool false)),.emp,.emp,(.lit (.bool false)),.emp,.emp,(.lit (.bool false)),.emp,.emp,(.lit (.bool false)),.emp,.emp,(.lit (.bool false)),.emp,.emp,(.lit (.bool false)),.emp,.emp,(.lit (.bool false)),.emp,.emp]]),.m 10 (.t 4),.n (.st none 27 (.t 2) (.t 9)),.m 3 (.t 10)])
 .ret) .skip)))))
 (.fg [1,2] (.seq (.ops true [.u 11 (.ld none 27 true (.t 1)),.u 12 (.fa 0 (.t 1)),.u 13 (.ld none 6 true (.t 12)),.u 14 (.ld none 27 true (.t 1)),.u 15 (.call f1 [(.t 14)]),.u 16 (.fa 15 (.t 1)),.u 17 (.ld none 3 true (.t 16)),.u 18 (.fa 12 (.t 1)),.u 19 (.ld none 3 true (.t 18)),.u 20 (.fa 18 (.t 1)),.u 21 (.ld none 3 true (.t 20)),.u 22 (.call f2 [(.t 11),(.t 13),(.t 15),(.t 17),(.t 19),(.t 21)]),.u 23 (.ext 0 (.t 22)),.u 24 (.ext 1 (.t 22)),.n (.st none 27 (.t 2) (.t 23)),.m 3 (.t 24)])
 .ret)))))
def Vh (f0 f1 f2:Nat):AC:=(.seq (.ops false [.u 1 (.box 27 (.t 0)),.u 2 (.alloc [(.lit (.bool false)),.emp,.emp,(.lit (.bool false)),.emp,.emp,(.lit (.bool false)),.emp,.emp,(.lit (.bool false)),.emp,.emp,(.lit (.bool false)),.emp,.emp,(.lit (.bool false)),.emp,.emp,(.lit (.bool false)),.emp,.emp,(.lit (.bool false)),.emp,.emp,(.lit (.bool false)),.emp,.emp]),.m 3 (.c (.one (.lit .nilIface)))])
 (.fg [1,2] (.seq (.seq (.ops false [.u 5 (.ld none 27 true (.t 1)),.u 6 (.call f0 [(.t 5)]),.m 4 (.t 6)])
 (.fg [1,2,4] (.seq (.ops false [.m 7 (.t 4),.u 8 (.binn .neq (.t 7) (.c (.one (.lit .nilIface))))])
 (.fg [1,2,4,8] (.cond (.t 8) (.seq (.ops false [.u 9 (.build [.z [(.lit (.bool false)),.emp,.emp,(.lit (.bool false)),.emp,.emp,(.lit (.bool false)),.emp,.emp,(.lit (.bool false)),.emp,.emp,(.lit (.bool false)),.emp,.emp,(.lit (.bool false)),.emp,.emp,(.lit (.bool false)),.emp,.emp,(.lit (.bool false)),.emp,.emp,(.lit (.bool false)),.emp,.emp]]),.m 10 (.t 4),.n (.st none 27 (.t 2) (.t 9)),.m 3 (.t 10)])
 .ret) .skip)))))
 (.fg [1,2] (.seq (.ops true [.u 11 (.ld none 27 true (.t 1)),.u 12 (.fa 6 (.t 1)),.u 13 (.ld none 6 true (.t 12)),.u 14 (.ld none 27 true (.t 1)),.u 15 (.call f1 [(.t 14)]),.u 16 (.fa 15 (.t 1)),.u 17 (.ld none 3 true (.t 16)),.u 18 (.fa 18 (.t 1)),.u 19 (.ld none 3 true (.t 18)),.u 20 (.fa 12 (.t 1)),.u 21 (.ld none 3 true (.t 20)),.u 22 (.call f2 [(.t 11),(.t 13),(.t 15),(.t 17),(.t 19),(.t 21)]),.u 23 (.ext 0 (.t 22)),.u 24 (.ext 1 (.t 22)),.n (.st none 27 (.t 2) (.t 23)),.m 3 (.t 24)])
 .ret)))))
def xi (f0 f1:Nat):AC:=(.seq (.ops false [.u 1 (.box 27 (.t 0)),.u 2 (.alloc [(.lit (.bool false)),.emp,.emp,(.lit (.bool false)),.emp,.emp]),.m 3 (.c (.one (.lit .nilIface)))])
 (.fg [1,2] (.seq (.seq (.ops false [.u 5 (.ld none 27 true (.t 1)),.u 6 (.call f0 [(.t 5)]),.m 4 (.t 6)])
 (.fg [1,2,4] (.seq (.ops false [.m 7 (.t 4),.u 8 (.binn .neq (.t 7) (.c (.one (.lit .nilIface))))])
 (.fg [1,2,4,8] (.cond (.t 8) (.seq (.ops false [.u 9 (.build [.z [(.lit (.bool false)),.emp,.emp,(.lit (.bool false)),.emp,.emp]]),.m 10 (.t 4),.n (.st none 6 (.t 2) (.t 9)),.m 3 (.t 10)])
 .ret) .skip)))))
 (.fg [1,2] (.seq (.ops false [.u 11 (.ld none 27 true (.t 1)),.u 12 (.call f1 [(.t 11)]),.n (.st none 6 (.t 2) (.t 12)),.m 3 (.c (.one (.lit .nilIface)))])
 .ret)))))
def Xk (f0 f1 f2:Nat):AC:=(.seq (.ops false [.u 1 (.box 27 (.t 0)),.u 2 (.alloc [(.lit (.bool false)),.emp,.emp,(.lit (.bool false)),.emp,.emp,(.lit (.bool false)),.emp,.emp,(.lit (.bool false)),.emp,.emp,(.lit (.bool false)),.emp,.emp,(.lit (.bool false)),.emp,.emp,(.lit (.bool false)),.emp,.emp,(.lit (.bool false)),.emp,.emp,(.lit (.bool false)),.emp,.emp]),.m 3 (.c (.one (.lit .nilIface)))])
 (.fg [1,2] (.seq (.seq (.ops false [.u 7 (.ld none 27 true (.t 1)),.u 8 (.call f0 [(.t 7)]),.m 4 (.t 8)])
 (.fg [1,2,4] (.seq (.ops false [.m 9 (.t 4),.u 10 (.binn .neq (.t 9) (.c (.one (.lit .nilIface))))])
 (.fg [1,2,4,10] (.cond (.t 10) (.seq (.ops false [.u 11 (.build [.z [(.lit (.bool false)),.emp,.emp,(.lit (.bool false)),.emp,.emp,(.lit (.bool false)),.emp,.emp,(.lit (.bool false)),.emp,.emp,(.lit (.bool false)),.emp,.emp,(.lit (.bool false)),.emp,.emp,(.lit (.bool false)),.emp,.emp,(.lit (.bool false)),.emp,.emp,(.lit (.bool false)),.emp,.emp]]),.m 12 (.t 4),.n (.st none 27 (.t 2) (.t 11)),.m 3 (.t 12)])
 .ret) .skip)))))
 (.fg [1,2] (.seq (.ops false [.u 13 (.ld none 27 true (.t 1)),.u 14 (.call f1 [(.t 13)]),.u 5 (.alloc [(.lit (.bool false)),.emp,.emp,(.lit (.bool false)),.emp,.emp,(.lit (.bool false)),.emp,.emp,(.lit (.bool false)),.emp,.emp,(.lit (.bool false)),.emp,.emp,(.lit (.bool false)),.emp,.emp,(.lit (.bool false)),.emp,.emp,(.lit (.bool false)),.emp,.emp,(.lit (.bool false)),.emp,.emp]),.n (.st none 27 (.t 5) (.t 14))])
 (.fg [1,2,5] (.seq (.ops false [.u 15 (.fa 6 (.t 5)),.u 16 (.ld none 6 true (.t 15)),.u 17 (.fa 0 (.t 5)),.u 18 (.ld none 6 true (.t 17)),.u 19 (.fa 0 (.t 5)),.n (.st none 6 (.t 19) (.t 16)),.u 20 (.fa 6 (.t 5)),.n (.st none 6 (.t 20) (.t 18))])
 (.fg [1,2,5] (.seq (.ops false [.u 21 (.fa 18 (.t 5)),.u 22 (.ld none 3 true (.t 21)),.u 23 (.fa 12 (.t 5)),.u 24 (.ld none 3 true (.t 23)),.u 25 (.fa 12 (.t 5)),.n (.st none 3 (.t 25) (.t 22)),.u 26 (.fa 18 (.t 5)),.n (.st none 3 (.t 26) (.t 24))])
 (.fg [1,2,5] (.seq (.ops false [.u 27 (.ld none 27 true (.t 1)),.u 28 (.call f2 [(.t 27)]),.u 6 (.alloc [(.lit (.bool false)),.emp,.emp,(.lit (.bool false)),.emp,.emp]),.n (.st none 6 (.t 6) (.t 28))])
 (.fg [2,5,6] (.seq (.ops true [.u 29 (.fa 0 (.t 6)),.u 30 (.ld (some 6) 3 true (.t 29)),.u 31 (.fa 3 (.t 6)),.u 32 (.ld (some 6) 3 true (.t 31)),.u 33 (.fa 21 (.t 5)),.n (.st (some 5) 3 (.t 33) (.t 30)),.u 34 (.fa 24 (.t 5)),.n (.st (some 5) 3 (.t 34) (.t 32))])
 (.fg [2,5] (.seq (.ops false [.u 35 (.ld none 27 true (.t 5)),.n (.st none 27 (.t 2) (.t 35)),.m 3 (.c (.one (.lit .nilIface)))])
 .ret)))))))))))))))
theorem kay (hΓ:Holds P Γ) {f fi fq fc ff fm tE:Nat} (hi:Γ fi=.dat false (JB tE)) (hq:Γ fq=.dat false UI) (hcl' : Γ fc=.dat false vy) (hf:Γ ff=.dat false Vy) (hm:Γ fm=.dat false Yn) (hc:check P f=some (46,(Uf fi fq fc ff fm).strip,[.cell 12 27 true,.tmp 13])):Sound P f (.dat false (Zy tE)):=by
 refine va hc (WaG tE) hΓ (λargs K hcl hfi hG=>?_)
 match args,hG with
 | [a,b,d,e,g,h],hG=>
  obtain ⟨c,rfl,hw,o,rfl,wo,k,rfl,wk,x,rfl,wx,y,rfl,wy,z,rfl,wz,hl,lo,lk,lx,ly,lz,hK⟩:=hG
  refine ⟨by simp,?_⟩
  have lo2:al o<=100000000:=Nat.le_trans lo (by decide)
  have lk2:al k<=100000000:=Nat.le_trans lk (by decide)
  have s:=V0 (av k)
  have zk:=wax wk
  by_cases h0:sqQ (av k)=0
  .have ew:wC (av k)=8:=if_pos h0
   have e8:=vc tE (by decide:(8:Nat)≠0)
   rw [ew,if_neg (by decide),e8]at hK
   unfold cqR z27 at hK
   simp only [jc]at hK
   have ip:∀{α:Type} (x y:α),(if sqQ (av k)=0 then x else y)=x:=λx y=>if_pos h0
   simp only [go_sem,Uf,hi,cpA,cpC,Ux,rA,Wc,ip,e8]
   repeat (first | (refine And.intro (by with_reducible assumption) ?_) | (refine And.intro (Nat.le_trans (by with_reducible assumption) (by decide)) ?_) | (refine And.intro (by decide) ?_))
   exact hK
  .have ew:wC (av k)=0:=if_neg h0
   have e0:=Zc tE
   rw [ew,if_pos rfl,e0]at hK
   obtain ⟨n,hn⟩:∃n,sqQ (av k)=n:=⟨_,rfl⟩
   rw [hn]at s h0
   have ip:∀{α:Type} (x y:α),(if n=0 then x else y)=y:=λx y=>if_neg h0
   have zn:=Nat.le_trans s (by omega:_<=10000000)
   have es:simQ (cpv c) (av o) (av k) (rv x) (rv y) (rv z)=(av o,foQ (cpv c),n*rv x,n*rv y,n*rv z,(ovQ (av k)).1,(ovQ (av k)).2):=by unfold simQ;rw [hn]
   rw [es]at hK
   simp only [go_sem,Uf,hi,hq,hcl',hf,hm,cpA,cpC,Ux,rA,Wc,ip,e0,hn,Xb]
   repeat (first | (refine And.intro (by with_reducible assumption) ?_) | (refine And.intro (Nat.le_trans (by with_reducible assumption) (by decide)) ?_) | (refine And.intro (by decide) ?_))
   exact hK
theorem YaW (hΓ:Holds P Γ) {f fk fr fs tE:Nat} (hk:Γ fk=.dat false (Yr tE)) (hr:Γ fr=.dat false zF) (hs:Γ fs=.dat false (Zy tE)) (hc:check P f=some (25,(zj fk fr fs).strip,[.cell 2 27 true,.tmp 3])):Sound P f (.dat false (ZJ tE)):=by
 refine va hc (za3 tE) hΓ (λargs K hcl hfi hG=>?_)
 match args,hG with
 | [a],hG=>
  obtain ⟨c,rfl,hw,hl,hK⟩:=hG
  refine ⟨by simp,?_⟩
  have hl2:cl c<=100000000:=Nat.le_trans hl (by decide)
  have hl3:cl c<=1000000:=Nat.le_trans hl (by decide)
  by_cases h0:cchk c=0
  .have e0:=Zc tE
   obtain ⟨wo,wQ,w1,w2,w3,w4,w5⟩:=id hw
   have hl0:=hl3
   unfold cl at hl0
   simp only [Nat.max_le]at hl0
   obtain ⟨l1,l2,l3,l4,l5,l6,l7⟩:=hl0
   have wW:WLA c.2.2.2.2.2:=⟨w4,w5⟩
   have lW:al c.2.2.2.2.2<=1000000:=cl_w hl3
   have aW:av c.2.2.2.2.2=cW (cpv c):=rfl
   have ef:simQ (cpv c) (av c.1) (cW (cpv c)) (rv c.2.2.2.1) (rv c.2.2.1) (rv c.2.2.2.2.1)=fiQ (cpv c):=rfl
   obtain ⟨X,hX⟩:∃X,(if wC (cW (cpv c))=0 then fiQ (cpv c) else z27)=X:=⟨_,rfl⟩
   rw [wbf h0,hX]at hK
   simp only [go_sem,zj,hk,hr,hs,cpA,cpC,aA,Ux,rA,Wc,h0,e0,aW,ef,hX,cqR]
   repeat (first | (refine And.intro (by with_reducible assumption) ?_) | (refine And.intro (Nat.le_trans (by with_reducible assumption) (by decide)) ?_) | (refine And.intro (by decide) ?_))
   exact hK
  .have e1:=vc tE h0
   rw [QbK h0,if_neg h0,e1]at hK
   unfold cqR z27 at hK
   simp only [jc]at hK
   simp only [go_sem,zj,hk,cpA,cpC,Wc,e1]
   repeat (first | (refine And.intro (by with_reducible assumption) ?_) | (refine And.intro (Nat.le_trans (by with_reducible assumption) (by decide)) ?_) | (refine And.intro (by decide) ?_))
   exact hK
theorem xaJ (hΓ:Holds P Γ) {f fk fr fs tE:Nat} (hk:Γ fk=.dat false (Yr tE)) (hr:Γ fr=.dat false jy) (hs:Γ fs=.dat false (Zy tE)) (hc:check P f=some (25,(Vh fk fr fs).strip,[.cell 2 27 true,.tmp 3])):Sound P f (.dat false (UP tE)):=by
 refine va hc (va4 tE) hΓ (λargs K hcl hfi hG=>?_)
 match args,hG with
 | [a],hG=>
  obtain ⟨c,rfl,hw,hl,hK⟩:=hG
  refine ⟨by simp,?_⟩
  have hl2:cl c<=100000000:=Nat.le_trans hl (by decide)
  have hl3:cl c<=1000000:=Nat.le_trans hl (by decide)
  by_cases h0:cchk c=0
  .have e0:=Zc tE
   obtain ⟨wo,wQ,w1,w2,w3,w4,w5⟩:=id hw
   have hl0:=hl3
   unfold cl at hl0
   simp only [Nat.max_le]at hl0
   obtain ⟨l1,l2,l3,l4,l5,l6,l7⟩:=hl0
   obtain ⟨R,hR⟩:∃R,reQ (cpv c)=R:=⟨_,rfl⟩
   have zr:=ubk (Qbf hw hl)
   have hR' : rsQ (cpv c)=R:=hR
   rw [hR']at zr
   have wW:WLA (rcan R.1,rcan R.2):=jz R
   have lW:al (rcan R.1,rcan R.2)<=1000000:=Nat.le_trans zr (by decide)
   have ef:simQ (cpv c) (av c.2.1) R (rv c.2.2.2.1) (rv c.2.2.2.2.1) (rv c.2.2.1)=seQ (cpv c):=by rw [<-hR];rfl
   obtain ⟨X,hX⟩:∃X,(if wC R=0 then seQ (cpv c) else z27)=X:=⟨_,rfl⟩
   rw [qbt h0,hR',hX]at hK
   simp only [go_sem,Vh,hk,hr,hs,cpA,cpC,aA,Ux,rA,Wc,h0,e0,hR,yaA,ef,hX,cqR]
   repeat (first | (refine And.intro (by with_reducible assumption) ?_) | (refine And.intro (Nat.le_trans (by with_reducible assumption) (by decide)) ?_) | (refine And.intro (by decide) ?_))
   exact hK
  .have e1:=vc tE h0
   rw [QbH h0,if_neg h0,e1]at hK
   unfold cqR z27 at hK
   simp only [jc]at hK
   simp only [go_sem,Vh,hk,cpA,cpC,Wc,e1]
   repeat (first | (refine And.intro (by with_reducible assumption) ?_) | (refine And.intro (Nat.le_trans (by with_reducible assumption) (by decide)) ?_) | (refine And.intro (by decide) ?_))
   exact hK
theorem UaH (hΓ:Holds P Γ) {f fk ff tE:Nat} (hk:Γ fk=.dat false (Yr tE)) (hf:Γ ff=.dat false Vy) (hc:check P f=some (13,(xi fk ff).strip,[.cell 2 6 true,.tmp 3])):Sound P f (.dat false (YP tE)):=by
 refine va hc (Ua5 tE) hΓ (λargs K hcl hfi hG=>?_)
 match args,hG with
 | [a],hG=>
  obtain ⟨c,rfl,hw,hl,hK⟩:=hG
  refine ⟨by simp,?_⟩
  have hl2:cl c<=100000000:=Nat.le_trans hl (by decide)
  have hl3:cl c<=1000000:=Nat.le_trans hl (by decide)
  by_cases h0:cchk c=0
  .have e0:=Zc tE
   rw [h0,if_pos rfl,e0]at hK
   simp only [go_sem,xi,hk,hf,cpA,cpC,Wc,h0,e0]
   repeat (first | (refine And.intro (by with_reducible assumption) ?_) | (refine And.intro (Nat.le_trans (by with_reducible assumption) (by decide)) ?_) | (refine And.intro (by decide) ?_))
   exact hK
  .have e1:=vc tE h0
   rw [if_neg h0,e1,za4,jc]at hK
   simp only [go_sem,xi,hk,cpA,cpC,Wc,e1]
   repeat (first | (refine And.intro (by with_reducible assumption) ?_) | (refine And.intro (Nat.le_trans (by with_reducible assumption) (by decide)) ?_) | (refine And.intro (by decide) ?_))
   exact hK
theorem qaT (hΓ:Holds P Γ) {f fk fc fr tE:Nat} (hk:Γ fk=.dat false (Yr tE)) (hcp:Γ fc=.dat false jv) (hr:Γ fr=.dat false jy) (hc:check P f=some (36,(Xk fk fc fr).strip,[.cell 2 27 true,.tmp 3])):Sound P f (.dat false (uO tE)):=by
 refine va hc (Wa5 tE) hΓ (λargs K hcl hfi hG=>?_)
 match args,hG with
 | [a],hG=>
  obtain ⟨c,rfl,hw,hl,hK⟩:=hG
  refine ⟨by simp,?_⟩
  have hl2:cl c<=100000000:=Nat.le_trans hl (by decide)
  by_cases h0:cchk c=0
  .have e0:=Zc tE
   rw [h0,if_pos rfl,e0]at hK
   obtain ⟨R,hR⟩:∃R,reQ (cpv c)=R:=⟨_,rfl⟩
   have es:swQ (cpv c)=(av c.2.1,av c.1,rv c.2.2.2.2.1,rv c.2.2.2.1,rv c.2.2.1,R.1,R.2):=by rw [<-hR];rfl
   rw [es]at hK
   simp only [go_sem,Xk,hk,hcp,hr,cpA,cpC,Wc,h0,e0,hR,canC]
   repeat (first | (refine And.intro (by with_reducible assumption) ?_) | (refine And.intro (Nat.le_trans (by with_reducible assumption) (by decide)) ?_) | (refine And.intro (by decide) ?_))
   exact hK
  .have e1:=vc tE h0
   rw [if_neg h0,e1]at hK
   unfold cqR z27 at hK
   simp only [jc]at hK
   simp only [go_sem,Xk,hk,cpA,cpC,Wc,e1]
   repeat (first | (refine And.intro (by with_reducible assumption) ?_) | (refine And.intro (Nat.le_trans (by with_reducible assumption) (by decide)) ?_) | (refine And.intro (by decide) ?_))
   exact hK
end Go.Abs
end
section
namespace Go.Num
def en1 (c:CpR) (a b:V2):V2:=addQ c.1 (timesQ (cW c) (subQ b a))
def en2 (c:CpR) (a b:V2):V2:=subQ c.2.1 (timesQ (rsQ c) (subQ b a))
def en3 (c:CpR) (a b:V2):V2:=addQ (en1 c a b) (timesQ (cW c) (subQ a c.1))
def en4 (c:CpR) (a b:V2):V2:=addQ (en2 c a b) (timesQ (rsQ c) (subQ b c.2.1))
end Go.Num
end
section
namespace Go.Num
open Go.Abs
def enC (c:Cp) (a b:Arc):Nat:=if cchk2 c [a,b]≠0 then cchk2 c [a,b] else if hldQ (cpv c) (av a) (av b) then alC c else 21
def enL (c:CpR) (a b:V2):List V2:=[a,b,en1 c a b,en3 c a b,en2 c a b,en4 c a b]
def enR (c:Cp) (a b:Arc):List V2:=if enC c a b=0 then enL (cpv c) (av a) (av b) else []
def smC (c d:Cp):Nat:=if cchk c≠0 then cchk c else cchk d
theorem Ybf {α:Type} {l m:List α} {k:Nat} {x y:α} (hx:l[k]?=some x) (hy:m[k]?=some y):(l.take (k+1)=m.take (k+1))↔(l.take k=m.take k/\x=y):=by
 rw [List.take_add_one,List.take_add_one,hx,hy]
 simp only [Option.toList_some]
 constructor
 .intro h
  have h1:=List.append_inj' h rfl
  exact ⟨h1.1,by simpa using h1.2⟩
 .rintro ⟨h1,h2⟩;rw [h1,h2]
theorem getM {p:BQ} {k:Nat} (h:k<p.length):∃u,p[k]?=some u/\(mcs p).getD k mo0=mcan u/\u∈p:=by
 refine ⟨p[k],List.getElem?_eq_getElem h,?_,List.getElem_mem h⟩
 unfold mcs
 rw [List.getD_eq_getElem?_getD,List.getElem?_map,List.getElem?_eq_getElem h]
 rfl
theorem uaf (p:BQ):(mcs p).length=p.length:=by unfold mcs;rw [List.length_map]
theorem qbo {p:BQ} {u:MQ} (h:u∈p) {b:Nat} (hb:sz p<=b):rz u.2.2<=b:=Nat.le_trans (QaV h) hb
end Go.Num
namespace Go.Abs
open Go.Num
variable {P:Program} {Γ:Nat->Spec}
def jaS (tE:Nat) (l:List AV) (K:AV->Prop):Prop:=
 match l with
 | [c,a,b]=>onCp (λc=>onA (λa=>onA (λb=>cl c<=1000/\al a<=1000/\al b<=1000/\K (.tup [.one (.slice ((enR c a b).map λp=>aC (rcan p.1,rcan p.2))),errV tE (enC c a b)])) b) a) c
 | _=>False
theorem vaI (tE:Nat) (c a b:AV) (K:AV->Prop):jaS tE [c,a,b] K=(onCp (λc=>onA (λa=>onA (λb=>cl c<=1000/\al a<=1000/\al b<=1000/\K (.tup [.one (.slice ((enR c a b).map λp=>aC (rcan p.1,rcan p.2))),errV tE (enC c a b)])) b) a) c):=propext Iff.rfl
@[congr] theorem vbJ (tE:Nat) {K:AV->Prop} {l l' : List AV} (h:l=l'):jaS tE l K=jaS tE l' K:=by subst h;rfl
attribute [go_sem] vaI
attribute [go_sem ↓] vaI
def wB (tE:Nat) (l:List AV) (K:AV->Prop):Prop:=
 match l with
 | [c,d]=>onCp (λc=>onCp (λd=>cl c<=1000/\cl d<=1000/\K (.tup [.one (.lit (.bool (decide (smC c d=0) && decide (cCur (cpv c)=cCur (cpv d))))),errV tE (smC c d)])) d) c
 | _=>False
theorem VaM (tE:Nat) (c d:AV) (K:AV->Prop):wB tE [c,d] K=(onCp (λc=>onCp (λd=>cl c<=1000/\cl d<=1000/\K (.tup [.one (.lit (.bool (decide (smC c d=0) && decide (cCur (cpv c)=cCur (cpv d))))),errV tE (smC c d)])) d) c):=propext Iff.rfl
@[congr] theorem zbI (tE:Nat) {K:AV->Prop} {l l' : List AV} (h:l=l'):wB tE l K=wB tE l' K:=by subst h;rfl
attribute [go_sem] VaM
attribute [go_sem ↓] VaM
theorem kaV (tE:Nat):Good (wB tE):=Va λas=>by
 unfold wB
 split
 .exact (Vm λ_=>(Vm λ_=>(.and λ_=>(.and λ_=>(.ret _)))))
 .exact .of λK hk=>hk.elim
def vg (f0 f1:Nat):AC:=(.seq (.ops false [.u 2 (.box 27 (.t 0)),.u 3 (.box 27 (.t 1)),.m 4 .fa,.m 5 (.c (.one (.lit .nilIface)))])
 (.fg [2,3] (.seq (.ops false [.u 11 (.ld none 27 true (.t 2)),.u 12 (.call f0 [(.t 11)]),.m 10 (.t 12),.u 13 (.ext 0 (.t 10)),.u 14 (.ext 1 (.t 10)),.m 6 (.t 13),.m 7 (.t 14)])
 (.fg [3,6,7] (.seq (.seq (.ops false [.m 15 (.t 7),.u 16 (.binn .neq (.t 15) (.c (.one (.lit .nilIface))))])
 (.fg [3,6,7,16] (.cond (.t 16) (.seq (.ops false [.m 17 (.t 7),.m 4 .fa,.m 5 (.t 17)])
 .ret) .skip)))
 (.fg [3,6] (.seq (.ops false [.u 19 (.ld none 27 true (.t 3)),.u 20 (.call f0 [(.t 19)]),.m 18 (.t 20),.u 21 (.ext 0 (.t 18)),.u 22 (.ext 1 (.t 18)),.m 8 (.t 21),.m 7 (.t 22)])
 (.fg [6,7,8] (.seq (.seq (.ops false [.m 23 (.t 7),.u 24 (.binn .neq (.t 23) (.c (.one (.lit .nilIface))))])
 (.fg [6,7,8,24] (.cond (.t 24) (.seq (.ops false [.m 25 (.t 7),.m 4 .fa,.m 5 (.t 25)])
 .ret) .skip)))
 (.fg [6,8] (.seq (.seq (.ops false [.m 26 (.t 6),.u 27 (.len (.t 26)),.m 28 (.t 8),.u 29 (.len (.t 28)),.u 30 (.bin .neq (.t 27) (.t 29))])
 (.fg [6,8,30] (.cond (.t 30) (.seq (.ops false [.m 4 .fa,.m 5 (.c (.one (.lit .nilIface)))])
 .ret) .skip)))
 (.fg [6,8] (.seq (.seq (.ops false [.m 31 (.t 6),.u 32 (.len (.t 31)),.m 33 (.i 0)])
 (.fg [6,8,32,33] (.block 0 (.loop (.seq (.ops false [.u 34 (.bin .lss (.t 33) (.t 32))])
 (.fg [6,8,32,33,34] (.seq (.cond (.t 34) .skip (.exit 0))
 (.fg [6,8,32,33] (.seq (.block 1 (.seq (.ops false [.m 35 (.t 33),.m 9 (.t 35)])
 (.fg [6,8,9,32,33] (.seq (.ops true [.m 36 (.t 6),.m 37 (.t 9),.u 38 (.idx 5 (.t 36) (.t 37)),.u 39 (.fa 0 (.t 38)),.u 40 (.ld none 1 false (.t 39)),.m 41 (.t 8),.m 42 (.t 9),.u 43 (.idx 5 (.t 41) (.t 42)),.u 44 (.fa 0 (.t 43)),.u 45 (.ld none 1 false (.t 44)),.u 46 (.bin .neq (.t 40) (.t 45)),.m 47 (.t 46),.w 48 47 false (.mv (.t 6)),.w 49 47 false (.mv (.t 9)),.w 50 47 false (.idx 5 (.t 48) (.t 49)),.w 51 47 false (.fa 1 (.t 50)),.w 52 47 false (.ld none 1 false (.t 51)),.w 53 47 false (.mv (.t 8)),.w 54 47 false (.mv (.t 9)),.w 55 47 false (.idx 5 (.t 53) (.t 54)),.w 56 47 false (.fa 1 (.t 55)),.w 57 47 false (.ld none 1 false (.t 56)),.w 58 47 false (.bin .neq (.t 52) (.t 57)),.u 59 (.pick (.t 47) .tr (.t 58)),.m 60 (.t 59),.w 61 60 false (.mv (.t 6)),.w 62 60 false (.mv (.t 9)),.w 63 60 false (.idx 5 (.t 61) (.t 62)),.w 64 60 false (.fa 2 (.t 63)),.w 65 60 false (.ld none 3 true (.t 64)),.w 66 60 false (.mv (.t 8)),.w 67 60 false (.mv (.t 9)),.w 68 60 false (.idx 5 (.t 66) (.t 67)),.w 69 60 false (.fa 2 (.t 68)),.w 70 60 false (.ld none 3 true (.t 69)),.w 71 60 false (.call f1 [(.t 65),(.t 70)]),.w 72 60 false (.bin .neq (.t 71) (.i 0)),.u 73 (.pick (.t 60) .tr (.t 72))])
 (.fg [6,8,32,33,73] (.cond (.t 73) (.seq (.ops false [.m 4 .fa,.m 5 (.c (.one (.lit .nilIface)))])
 .ret) .skip))))))
 (.fg [6,8,32,33] (.ops false [.u 74 (.bin .add (.t 33) (.i 1)),.m 33 (.t 74)])))))))))))
 (.fg [] (.seq (.ops false [.m 4 .tr,.m 5 (.c (.one (.lit .nilIface)))])
 .ret)))))))))))))))
set_option maxHeartbeats 1000000 in
theorem Zaw (hΓ:Holds P Γ) {f fv fq tE:Nat} (hv:Γ fv=.dat false (yy tE)) (hq:Γ fq=.dat true ul) (hc:check P f=some (75,(vg fv fq).strip,[.tmp 4,.tmp 5])):Sound P f (.dat false (wB tE)):=by
 refine va hc (kaV tE) hΓ (λargs K hcl hfi hG=>?_)
 match args,hG with
 | [x,y],hG=>
  obtain ⟨c,rfl,hw,d,rfl,hw2,hl,hl2,hK⟩:=hG
  refine ⟨by simp,?_⟩
  have e0:=Zc tE
  by_cases h0:cchk c=0
  case neg=>
   have es:smC c d=cchk c:=if_pos h0
   have e1:=vc tE h0
   rw [es,e1,decide_eq_false h0,Bool.false_and]at hK
   simp only [go_sem,vg,hv,cpA,cpC,Wc,vx h0,e1]
   repeat (first | (refine And.intro (by with_reducible assumption) ?_) | (refine And.intro (Nat.le_trans (by with_reducible assumption) (by decide)) ?_) | (refine And.intro (by decide) ?_))
   exact hK
  have es:smC c d=cchk d:=by unfold smC;rw [if_neg (by omega)]
  rw [es]at hK
  have pc:=ZV (J6 hw hl)
  have i0:=qt pc.canon.ins
  by_cases h1:cchk d=0
  case neg=>
   have e1:=vc tE h1
   rw [e1,decide_eq_false h1,Bool.false_and]at hK
   simp only [go_sem,vg,hv,cpA,cpC,Wc,h0,e0,yk,vx h1,e1]
   repeat (first | (refine And.intro (by with_reducible assumption) ?_) | (refine And.intro (Nat.le_trans (by with_reducible assumption) (by decide)) ?_) | (refine And.intro (by decide) ?_))
   exact hK
  rw [h1,e0,decide_eq_true rfl,Bool.true_and]at hK
  have pd:=ZV (J6 hw2 hl2)
  have j0:=qt pd.canon.ins
  have lc:=Uz pc.canon
  have ld:=Uz pd.canon
  have sc:=pc.size
  have sd:=pd.size
  obtain ⟨p,hp⟩:∃p,cCur (cpv c)=p:=⟨_,rfl⟩
  obtain ⟨q,hq0⟩:∃q,cCur (cpv d)=q:=⟨_,rfl⟩
  rw [hp]at i0 lc sc hK
  rw [hq0]at j0 ld sd hK
  have lp:=uaf p
  have lq:=uaf q
  simp only [go_sem,vg,hv,cpA,cpC,Wc,h0,h1,e0,yk,hp,hq0]
  repeat (first | (refine And.intro (by with_reducible assumption) ?_) | (refine And.intro (Nat.le_trans (by with_reducible assumption) (by decide)) ?_) | (refine And.intro (by decide) ?_))
  intro _ _
  refine ⟨λhlen _=>?_,λhlen=>?_⟩
  case refine_2=>
   rw [decide_eq_false (λe=>hlen (by rw [e]))]at hK
   exact hK
  rw [lp,lq]at hlen
  refine ka (λk:Nat=>⟨mkV [(6,.one (.slice ((mcs p).map mC))),(8,.one (.slice ((mcs q).map mC))),(32,.one (.lit (.int .i64 ((mcs p).length:Nat)))),(33,.one (.lit (.int .i64 k)))],mkH []⟩) (λk=>k<=p.length/\p.take k=q.take k) (λk=>p.length-k) 0 ?_ ?_ ?_
  .exact Qa (by simp [okS,okV,okC,okL,okH,okB,okE,Za,ja,za,Ja,wsA,ws]) trivial
  .exact ⟨Nat.zero_le _,rfl⟩
  .rintro k ⟨hk,htk⟩
   rw [lp]
   by_cases hlt:k<p.length
   .obtain ⟨⟨u1,u2,u3⟩,hu,hu2,hum⟩:=getM hlt
    obtain ⟨⟨v1,v2,v3⟩,hv1,hv2,hvm⟩:=getM (by omega:k<q.length)
    have hlp:k<(mcs p).length:=by omega
    have hlq:k<(mcs q).length:=by omega
    have r1:=Nat.le_trans (qbo hum sc) (by decide:_<=1073741824)
    have r2:=Nat.le_trans (qbo hvm sd) (by decide:_<=1073741824)
    simp only at r1 r2
    have ts:=Ybf hu hv1
    have bad:¬((u1,u2,u3)=(v1,v2,v3))->K (.tup [.one (.lit (.bool false)),.one (.lit .nilIface)]):=λh=>by
     rw [decide_eq_false (λe=>h (by rw [e,hv1]at hu;simpa using hu.symm))]at hK
     exact hK
    simp only [go_sem,hlt,hlp,hlq,hq,hu2,hv2,mC,mcan,Xb]
    refine ⟨λh1=>⟨λh2=>⟨r1,r2,λh3=>⟨by omega,k+1,Qa (by simp [okS,okV,okC,okL,okH,okB,okE,Za,ja,za,Ja,wsA,ws,lp]) trivial,⟨by omega,ts.2 ⟨htk,?_⟩⟩,by omega⟩,λh3=>bad λe=>h3 ?_⟩,λh2=>bad λe=>h2 ?_⟩,λh1=>bad λe=>h1 ?_⟩
    .rw [h1,h2,Xj.1 h3]
    .simp only [Prod.mk.injEq]at e;exact Xj.2 e.2.2
    .simp only [Prod.mk.injEq]at e;exact e.2.1
    .simp only [Prod.mk.injEq]at e;exact e.1
   .have ek:k=p.length:=by omega
    rw [ek,List.take_length,hlen,List.take_length]at htk
    rw [decide_eq_true htk]at hK
    simp only [go_sem,hlt]
    exact hK
end Go.Abs
end
section
namespace Go.Num
open Go.Abs
def okT (n:Int):Prop:=n=1∨n=2∨n=4∨n=12
def tx (n:Int):ByteArray:=if n=12 then ⟨#[49,50]⟩ else if n=4 then ⟨#[52]⟩ else if n=2 then ⟨#[50]⟩ else ⟨#[49]⟩
def txR (q:Rat):ByteArray:=if q.den=1 then tx q.num else tx q.num++⟨#[47]⟩++tx (q.den:Nat)
theorem Ybr (n:Int):(tx n).size<=2:=by unfold tx;split <;> (try split) <;> (try split) <;> decide
theorem Vbe {n:Int} (h:okT n):∃m:Nat,n=m/\1<=m/\m<=12:=by
 rcases h with h | h | h | h
 .exact ⟨1,h,by decide,by decide⟩
 .exact ⟨2,h,by decide,by decide⟩
 .exact ⟨4,h,by decide,by decide⟩
 .exact ⟨12,h,by decide,by decide⟩
theorem Ybu {m:Nat} (h1:1<=m) (h2:m<=12):digs m=[m]:=by rw [yo (by omega),show m / 4294967296=0 by omega,Qb,show m % 4294967296=m by omega]
end Go.Num
namespace Go.Abs
open Go.Num
variable {P:Program} {Γ:Nat->Spec}
theorem ja8 {h h' : Nat->HB} {z:Nat} {b:Bool} {w:W}:okB h h' (some ⟨[[zb w,zm w]],z,b⟩) (some ⟨[[zb w,zm w]],z,b⟩):=
 ⟨⟨rfl,rfl⟩,.inl ⟨rfl,λe he c hc=>by
  rw [List.mem_singleton.1 he]at hc
  simp only [List.mem_cons,List.not_mem_nil,or_false]at hc
  rcases hc with rfl | rfl
  .exact of_eq_true (XS _)
  .exact of_eq_true (XO _)⟩⟩
def eJ (s:ByteArray):AV:=.one (.slice [[.lit (.string s)]])
theorem ua7 (x y:ByteArray) (h:eJ x=eJ y):x=y:=by
 simp only [eJ,AV.one.injEq,C.slice.injEq,List.cons.injEq,C.lit.injEq,Value.string.injEq,and_true]at h
 exact h
def onJ (k:ByteArray->Prop) (a:AV):Prop:=onE eJ k a
@[congr] theorem kbP {k:ByteArray->Prop} {a a' : AV} (h:a=a'):onJ k a=onJ k a':=by subst h;rfl
theorem QbA (k:ByteArray->Prop) (x:ByteArray):onJ k (.one (.slice [[.lit (.string x)]]))=k x:=wl ua7 k x
theorem qbF {β:Type} {T:ByteArray->(β->Prop)->Prop} (h:∀x,GoodT (T x)) {a:AV}:GoodT λK=>onJ (λx=>T x K) a:=
 zE (e:=eJ) (T:=T) ua7 h
attribute [go_sem] QbA
attribute [go_sem ↓] QbA
def jo (l:List AV) (K:AV->Prop):Prop:=
 match l with
 | [a]=>asInt (λk n=>k=.i64/\okT n/\K (.one (.lit (.string (tx n))))) a
 | _=>False
theorem X4 (a:AV) (K:AV->Prop):jo [a] K=(asInt (λk n=>k=.i64/\okT n/\K (.one (.lit (.string (tx n))))) a):=propext Iff.rfl
@[congr] theorem Jby {K:AV->Prop} {l l' : List AV} (h:l=l'):jo l K=jo l' K:=by subst h;rfl
attribute [go_sem] X4
attribute [go_sem ↓] X4
theorem Xae:Good jo:=Va λas=>by
 unfold jo
 split
 .exact (ub (λ_ _=>(.and λ_=>(.and λ_=>(.ret _)))) _)
 .exact .of λK hk=>hk.elim
def Yu (l:List AV) (K:AV->Prop):Prop:=
 match l with
 | [a,b]=>asInt (λk n=>k=.i64/\okT n/\asInt (λk m=>k=.i64/\m=10/\K (.one (.lit (.string (tx n))))) b) a
 | _=>False
theorem xR (a b:AV) (K:AV->Prop):Yu [a,b] K=(asInt (λk n=>k=.i64/\okT n/\asInt (λk m=>k=.i64/\m=10/\K (.one (.lit (.string (tx n))))) b) a):=propext Iff.rfl
@[congr] theorem UbA {K:AV->Prop} {l l' : List AV} (h:l=l'):Yu l K=Yu l' K:=by subst h;rfl
attribute [go_sem] xR
attribute [go_sem ↓] xR
theorem Wax:Good Yu:=Va λas=>by
 unfold Yu
 split
 .exact (ub (λ_ _=>(.and λ_=>(.and λ_=>(ub (λ_ _=>(.and λ_=>(.and λ_=>(.ret _)))) _)))) _)
 .exact .of λK hk=>hk.elim
def jl (l:List AV) (K:AV->Prop):Prop:=
 match l with
 | [a]=>asInt (λk n=>k=.i64/\okT n/\K (.one (.lit (.string (tx n))))) a
 | _=>False
theorem jao (a:AV) (K:AV->Prop):jl [a] K=(asInt (λk n=>k=.i64/\okT n/\K (.one (.lit (.string (tx n))))) a):=propext Iff.rfl
@[congr] theorem JbE {K:AV->Prop} {l l' : List AV} (h:l=l'):jl l K=jl l' K:=by subst h;rfl
attribute [go_sem] jao
attribute [go_sem ↓] jao
theorem VJ:Good jl:=Va λas=>by
 unfold jl
 split
 .exact (ub (λ_ _=>(.and λ_=>(.and λ_=>(.ret _)))) _)
 .exact .of λK hk=>hk.elim
def Jw (l:List AV) (K:AV->Prop):Prop:=
 match l with
 | [a,b]=>onJ (λs=>b=.one (.lit (.string ⟨#[]⟩))/\K (.one (.lit (.string s)))) a
 | _=>False
theorem waq (a b:AV) (K:AV->Prop):Jw [a,b] K=(onJ (λs=>b=.one (.lit (.string ⟨#[]⟩))/\K (.one (.lit (.string s)))) a):=propext Iff.rfl
@[congr] theorem XbC {K:AV->Prop} {l l' : List AV} (h:l=l'):Jw l K=Jw l' K:=by subst h;rfl
attribute [go_sem] waq
attribute [go_sem ↓] waq
theorem vay:Good Jw:=Va λas=>by
 unfold Jw
 split
 .exact (qbF λ_=>(.and λ_=>(.ret _)))
 .exact .of λK hk=>hk.elim
def ko (l:List AV) (K:AV->Prop):Prop:=
 match l with
 | [a]=>onW (λw=>okT (zv w)/\K (.one (.lit (.string (tx (zv w)))))) a
 | _=>False
theorem kV (a:AV) (K:AV->Prop):ko [a] K=(onW (λw=>okT (zv w)/\K (.one (.lit (.string (tx (zv w)))))) a):=propext Iff.rfl
@[congr] theorem vbt {K:AV->Prop} {l l' : List AV} (h:l=l'):ko l K=ko l' K:=by subst h;rfl
attribute [go_sem] kV
attribute [go_sem ↓] kV
theorem Jaf:Good ko:=Va λas=>by
 unfold ko
 split
 .exact (Qn λ_=>(.and λ_=>(.ret _)))
 .exact .of λK hk=>hk.elim
def Uo (l:List AV) (K:AV->Prop):Prop:=
 match l with
 | [a]=>onR (λx=>okT (rv x).num/\okT ((rv x).den:Nat)/\rl x<=4294967296/\K (.one (.lit (.string (txR (rv x)))))) a
 | _=>False
theorem Q8 (a:AV) (K:AV->Prop):Uo [a] K=(onR (λx=>okT (rv x).num/\okT ((rv x).den:Nat)/\rl x<=4294967296/\K (.one (.lit (.string (txR (rv x)))))) a):=propext Iff.rfl
@[congr] theorem xbq {K:AV->Prop} {l l' : List AV} (h:l=l'):Uo l K=Uo l' K:=by subst h;rfl
attribute [go_sem] Q8
attribute [go_sem ↓] Q8
theorem qac:Good Uo:=Va λas=>by
 unfold Uo
 split
 .exact (Uh λ_=>(.and λ_=>(.and λ_=>(.and λ_=>(.ret _)))))
 .exact .of λK hk=>hk.elim
theorem X6 (hΓ:Holds P Γ) {f:Nat} (hc:check P f=some (15,(Jb).strip,[.tmp 2])):Sound P f (.dat false jo):=by
 refine va hc Xae hΓ (λargs K hcl hfi hG=>?_)
 match args,hG with
 | [a],hG=>
  obtain ⟨k,n,rfl,rfl,hn,hK⟩:=Ua hG
  refine ⟨by simp,?_⟩
  rcases hn with rfl | rfl | rfl | rfl
  .simp only [go_sem,Jb]
   exact ⟨λ_=>⟨by decide,⟨by decide,by decide,by decide⟩,hK⟩,λh=>absurd (by decide) h⟩
  .simp only [go_sem,Jb]
   exact ⟨λ_=>⟨by decide,⟨by decide,by decide,by decide⟩,hK⟩,λh=>absurd (by decide) h⟩
  .simp only [go_sem,Jb]
   exact ⟨λ_=>⟨by decide,⟨by decide,by decide,by decide⟩,hK⟩,λh=>absurd (by decide) h⟩
  .simp only [go_sem,Jb]
   exact ⟨λh=>absurd h (by decide),λ_=>⟨by decide,by decide,by decide,⟨by decide,by decide,by decide⟩,hK⟩⟩
theorem xae (hΓ:Holds P Γ) {f fs fn fb fi:Nat} (hs:Γ fs=.dat false jo) (hc:check P f=some (54,(xc fs fn fb fi).strip,[.tmp 4])):Sound P f (.dat false Yu):=by
 refine va hc Wax hΓ (λargs K hcl hfi hG=>?_)
 match args,hG with
 | [a,b],hG=>
  rw [xR]at hG
  obtain ⟨k,n,rfl,rfl,hn,hG'⟩:=Ua hG
  obtain ⟨k',n',rfl,rfl,rfl,hK⟩:=Ua hG'
  clear hG hG'
  refine ⟨by simp,?_⟩
  have a1:(0:Int)<=n:=by rcases hn with rfl | rfl | rfl | rfl <;> decide
  have a2:n<100:=by rcases hn with rfl | rfl | rfl | rfl <;> decide
  simp only [go_sem,xc,hs,a1,a2,hn]
  exact hK
theorem vad (hΓ:Holds P Γ) {f fs:Nat} (hs:Γ fs=.dat false Yu) (hc:check P f=some (5,(je fs).strip,[.tmp 2])):Sound P f (.dat false jl):=by
 refine va hc VJ hΓ (λargs K hcl hfi hG=>?_)
 match args,hG with
 | [a],hG=>
  obtain ⟨k,n,rfl,rfl,hn,hK⟩:=Ua hG
  refine ⟨by simp,?_⟩
  simp only [go_sem,je,hs,hn]
  exact hK
theorem XV (hΓ:Holds P Γ) {f fs:Nat} (hs:Γ fs=.dat false jl) (hc:check P f=some (5,(Up fs).strip,[.tmp 2])):Sound P f (.dat false jl):=by
 refine va hc VJ hΓ (λargs K hcl hfi hG=>?_)
 match args,hG with
 | [a],hG=>
  obtain ⟨k,n,rfl,rfl,hn,hK⟩:=Ua hG
  refine ⟨by simp,?_⟩
  simp only [go_sem,Up,hs,hn]
  exact hK
theorem Vab (hΓ:Holds P Γ) {f fg fw fs:Nat} (hc:check P f=some (75,(xp fg fw fs).strip,[.tmp 4])):Sound P f (.dat false Jw):=by
 refine va hc vay hΓ (λargs K hcl hfi hG=>?_)
 match args,hG with
 | [a,b],hG=>
  obtain ⟨s,rfl,rfl,hK⟩:=hG
  refine ⟨by simp,?_⟩
  simp only [go_sem,xp,eJ]
  exact ⟨λ_=>⟨by decide,hK⟩,λh=>absurd rfl h⟩
theorem WU (hΓ:Holds P Γ) {f fm fs fi fr fj fn:Nat} (hm:Γ fm=.dat false Qi) (hs:Γ fs=.dat false wt) (hi:Γ fi=.dat false jl) (hj:Γ fj=.dat false Jw) (hn:Γ fn=.dat true Vf) (hc:check P f=some (44,(Yp fm fs fi fr fj fn).strip,[.tmp 2])):Sound P f (.dat false ko):=by
  refine va hc Jaf hΓ (λargs K hcl hfi hG=>?_)
  match args,hG with
  | [a],hG=>
    obtain ⟨w,rfl,hw,h1,hK⟩:=hG
    refine ⟨by simp,?_⟩
    obtain ⟨m,hm1,m1,m2⟩:=Vbe h1
    rw [hm1]at h1 hK
    have d1:digs m=[m]:=Ybu m1 m2
    have d0:=Qb
    have v1 : val [m] / 1000000000 = 0 := by have : val [m] = m := by simp [val]
                                             omega
    have v2 : val [m] % 1000000000 = m := by have : val [m] = m := by simp [val]
                                             omega
    have n0:¬((m:Int)<0):=by omega
    have w1:WL [m]:=yb.2 ⟨by omega,Yb⟩
    simp only [go_sem,Yp,hm,hs,hi,hj,hn,hw,hm1,Int.natAbs_natCast,d1]
    refine ka (λk:Nat=>if k=0 then ⟨mkV [(1,.one (.ptr 1 1 0 0)),(3,wsA [m]),(4,.one .emp)],mkH [(1,⟨1,some ⟨[[zb w,zm w]],2,true⟩⟩)]⟩ else ⟨mkV [(1,.one (.ptr 1 1 0 0)),(3,wsA []),(4,.one (.full [[.lit (.string (tx m))]]))],mkH [(1,⟨1,some ⟨[[zb w,zm w]],2,true⟩⟩)]⟩) (λ_=>True) (λk=>1-k) 0 ?_ trivial ?_
    . rw [if_pos rfl];exact Qa (by simp [okS,okV,okC,okL,okH,okB,okE,Za,ja,za,Ja,wsA,ws,wc]) ⟨ja8,trivial⟩
    . intro k _
      by_cases hk:k=0
      . subst hk
        rw [if_pos rfl]
        simp only [go_sem,hs,hi,v1,v2,d0,h1]
        refine ⟨w1,by decide,by decide,by omega,λe he=>by simp at he,1,?_,by decide⟩
        rw [if_neg (by decide)]
        exact Qa (by simp [okS,okV,okC,okL,okH,okB,okE,Za,ja,za,Ja,wsA,ws,wc]) ⟨ja8,trivial⟩
      . rw [if_neg hk]
        simp only [go_sem,hj,hn,hw,hm1,n0]
        exact hK
theorem jV (hΓ:Holds P Γ) {f fp fo fc ft:Nat} (hp:Γ fp=.dat false Xe) (ho:Γ fo=.dat false jp) (hc' : Γ fc=.dat true Zx) (ht:Γ ft=.dat false ko) (hc:check P f=some (22,(yi fp fo fc ft).strip,[.tmp 2])):Sound P f (.dat false Uo):=by
 refine va hc qac hΓ (λargs K hcl hfi hG=>?_)
 match args,hG with
 | [a],hG=>
  obtain ⟨x,rfl,hx,h1,h2,hl,hK⟩:=hG
  refine ⟨by simp,?_⟩
  obtain ⟨q,hq⟩:∃q,rv x=q:=⟨_,rfl⟩
  rw [hq]at h1 h2 hK
  unfold txR at hK
  have e1:ordI ((q.den:Nat):Int) 1=0↔q.den=1:=by unfold ordI;split <;> (try split) <;> omega
  by_cases hd:q.den=1
  .rw [if_pos hd]at hK
   simp only [go_sem,yi,hp,ho,hc',ht,hx,hq]
   exact ⟨hl,λ_=>⟨h1,hK⟩,λh=>absurd (e1.2 hd) h⟩
  .rw [if_neg hd]at hK
   simp only [go_sem,yi,hp,ho,hc',ht,hx,hq]
   have z1:=Ybr q.num
   have z2:=Ybr (q.den:Nat)
   have z3:(ByteArray.mk #[47]).size=1:=rfl
   exact ⟨hl,λh=>absurd (e1.1 h) hd,λ_=>⟨h1,by omega,h2,by rw [ByteArray.size_append];omega,hK⟩⟩
end Go.Abs
end
section
namespace Go.Num
open Go.Abs
theorem kbM (w:V2):0<=sqQ w:=by
 have h:∀x:Rat,0<=x*x:=λx=>by
  rcases Rat.le_total (a:=0) (b:=x) with h | h
  .exact Rat.mul_nonneg h h
  .have h2:0<=-x:=by grind
   have:=Rat.mul_nonneg h2 h2
   grind
 unfold sqQ
 have h1:=h w.1
 have h2:=h w.2
 grind
theorem zbz {w:V2} (h:sqQ w≠0):0<sqQ w:=by have:=kbM w;grind
theorem ubn {w:V2} (h:sqQ w=0):w=(0,0):=by
 have hh:∀x:Rat,0<=x*x:=λx=>by
  rcases Rat.le_total (a:=0) (b:=x) with h | h
  .exact Rat.mul_nonneg h h
  .have h2:0<=-x:=by grind
   have:=Rat.mul_nonneg h2 h2
   grind
 unfold sqQ at h
 have h1:=hh w.1
 have h2:=hh w.2
 have e1:w.1*w.1=0:=by grind
 have e2:w.2*w.2=0:=by grind
 have f1:w.1=0:=by rcases Rat.mul_eq_zero.1 e1 with h | h <;> exact h
 have f2:w.2=0:=by rcases Rat.mul_eq_zero.1 e2 with h | h <;> exact h
 exact Prod.ext f1 f2
theorem jbA (a b:V2):sqQ (timesQ a b)=sqQ a*sqQ b:=by unfold sqQ timesQ;simp only;grind
theorem cchkC {X:CpR} (h1:0<X.2.2.1) (h2:0<X.2.2.2.1) (h3:0<X.2.2.2.2.1) (h4:X.1≠X.2.1):cchk (canC X)=0:=by
 have a1:avld (canC X).1=true:=Zbd X.1
 have a2:avld (canC X).2.1=true:=Zbd X.2.1
 have a3:(cps5 (canC X)).all vldR=true:=by simp [cps5,canC,Zg]
 have a4:(cps3 (canC X)).all gt0R=true:=by simp [cps3,canC,gt0R,Xb,h1,h2,h3]
 have a5:av (canC X).1≠av (canC X).2.1:=by
  have e1:av (canC X).1=X.1:=yaA X.1
  have e2:av (canC X).2.1=X.2.1:=yaA X.2.1
  rw [e1,e2];exact h4
 unfold cchk
 rw [if_neg (by simp [a1,a2]),if_neg (by simp [a3]),if_neg (by simp [a4]),if_neg a5]
theorem cchkG {c:Cp} (h:cchk c=0):0<(cpv c).2.2.1/\0<(cpv c).2.2.2.1/\0<(cpv c).2.2.2.2.1/\(cpv c).1≠(cpv c).2.1:=by
 obtain ⟨_,_,_,h4,h5⟩:=kbt h
 simp only [cps3,gt0R,List.all_cons,List.all_nil,Bool.and_true,Bool.and_eq_true,decide_eq_true_eq]at h4
 exact ⟨h4.1,h4.2.1,h4.2.2,h5⟩
def okQ (c:CpR):Prop:=0<c.2.2.1/\0<c.2.2.2.1/\0<c.2.2.2.2.1/\c.1≠c.2.1
theorem Za7 {c:Cp} (h:cchk c=0):okQ (cpv c):=cchkG h
theorem JP {X:CpR} (h:okQ X):cchk (canC X)=0:=cchkC h.1 h.2.1 h.2.2.1 h.2.2.2
theorem qaJ {c:CpR} (h:okQ c) (hw:sqQ (cW c)≠0):okQ (fiQ c):=by
 obtain ⟨h1,h2,h3,h4⟩:=h
 have p:=zbz hw
 refine ⟨Rat.mul_pos p h2,Rat.mul_pos p h1,Rat.mul_pos p h3,λe=>?_⟩
 have e' : c.1=addQ c.1 (timesQ (cW c) (subQ c.2.1 c.1)):=e
 have t:timesQ (cW c) (subQ c.2.1 c.1)=(0,0):=by
  obtain ⟨T,hT⟩:∃T,timesQ (cW c) (subQ c.2.1 c.1)=T:=⟨_,rfl⟩
  rw [hT]at e' ⊢
  unfold addQ at e'
  have e1:=congrArg Prod.fst e'
  have e2:=congrArg Prod.snd e'
  simp only at e1 e2
  exact Prod.ext (by simp only;grind) (by simp only;grind)
 have s:=jbA (cW c) (subQ c.2.1 c.1)
 rw [t]at s
 have s0:sqQ ((0:Rat),(0:Rat))=0:=by decide +kernel
 rw [s0]at s
 have s1:=(Rat.mul_eq_zero.1 s.symm).resolve_left hw
 have s2:=ubn s1
 unfold subQ at s2
 have e1:=congrArg Prod.fst s2
 have e2:=congrArg Prod.snd s2
 simp only at e1 e2
 exact h4 (Prod.ext (by grind) (by grind))
theorem za9 {c:CpR} (h:okQ c):okQ (swQ c):=⟨h.2.2.1,h.2.1,h.1,λe=>h.2.2.2 e.symm⟩
theorem xbs {c:CpR} (h:okQ c) (hw:sqQ (rsQ c)≠0):okQ (seQ c):=by
 rw [<-xby];exact qaJ (za9 h) hw
theorem cb_B {c:CpR} {b:Nat} (h:CB' b c) (hb:b<=1000):CB c:=by
 obtain ⟨h1,h2,h3,h4,h5,h6,h7⟩:=h
 have a1:=zq_1 c.1
 have a2:=zq_2 c.1
 have a3:=zq_1 c.2.1
 have a4:=zq_2 c.2.1
 exact ⟨by omega,by omega,by omega,by omega,by omega,by omega,by omega,by omega,by omega⟩
theorem cl_B {c:CpR} {b:Nat} (h:CB' b c):cl (canC c)<=b:=by
 obtain ⟨h1,h2,h3,h4,h5,h6,h7⟩:=h
 rw [Ybt]
 simp only [Nat.max_le]
 exact ⟨h1,h2,h3,h4,h5,h6,h7⟩
theorem VG (c:CpR):WLC (canC c):=⟨jz _,jz _,Yd _,Yd _,Yd _,Yd _,Yd _⟩
theorem Wab {c d:CpR} (hc:CB c) (hd:CB d) (h:∀p,wV c p=wV d p):cCur c=cCur d:=
 ya2 (ZV hc).canon (ZV hd).canon λx y=>by
  have h1:=wa9 hc (x,y)
  have h2:=wa9 hd (x,y)
  simp only at h1 h2
  rw [h1,h2,h]
theorem Ua6 {c:CpR} (hc:CB c) (hd:CB (fiQ c)) (hw:sqQ (cW c)≠0):cCur (fiQ c)=cCur c:=Wab hd hc λp=>Ubp c p hw
theorem wbt {c:CpR} (hc:CB c) (hd:CB (swQ c)):cCur (swQ c)=cCur c:=Wab hd hc λp=>zbx c p
theorem ZbL (c:CpR) (p:V2) (hw:sqQ (rsQ c)≠0):wV (seQ c) p=wV c p:=by rw [<-xby,Ubp (swQ c) p hw,zbx]
theorem Wbr {c:CpR} (hc:CB c) (hd:CB (seQ c)) (hw:sqQ (rsQ c)≠0):cCur (seQ c)=cCur c:=Wab hd hc λp=>ZbL c p hw
theorem ex_w:sqQ (cW exQ)≠0:=by decide +kernel
theorem ybu:fiQ exQ=((0,0),(2,0),4,1 / 4,1 / 4,2,0):=by decide +kernel
theorem vbN:foQ exQ=(2,0):=by decide +kernel
theorem Zbk:CB' 16 exQ:=by unfold CB';decide +kernel
theorem uaP:CB' 200 (fiQ exQ):=by
 have:=Vbr Zbk
 obtain ⟨h1,h2,h3,h4,h5,h6,h7⟩:=this
 exact ⟨by omega,by omega,by omega,by omega,by omega,by omega,by omega⟩
end Go.Num
namespace Go.Abs
open Go.Num
variable {P:Program} {Γ:Nat->Spec}
def yu (l:List AV) (K:AV->Prop):Prop:=
 match l with
 | []=>K (.one (.lit (.bool true)))
 | _=>False
theorem vak (K:AV->Prop):yu [] K=(K (.one (.lit (.bool true)))):=propext Iff.rfl
@[congr] theorem zbD {K:AV->Prop} {l l' : List AV} (h:l=l'):yu l K=yu l' K:=by subst h;rfl
attribute [go_sem] vak
attribute [go_sem ↓] vak
theorem xax:Good yu:=Va λas=>by
 unfold yu
 split
 .exact (.ret _)
 .exact .of λK hk=>hk.elim
def uc (f0 f1 f2 f3 f4:Nat):List AO:=[.m 23 (.t 2),.u 24 (.binn .eql (.t 23) (.c (.one (.lit .nilIface)))),.m 25 (.t 24),.w 26 25 true (.mv (.t 4)),.w 27 25 true (.binn .eql (.t 26) (.c (.one (.lit .nilIface)))),.u 28 (.pick (.t 25) (.t 27) .fa),.m 29 (.t 28),.w 30 29 true (.mv (.t 6)),.w 31 29 true (.binn .eql (.t 30) (.c (.one (.lit .nilIface)))),.u 32 (.pick (.t 29) (.t 31) .fa),.m 33 (.t 32),.w 34 33 true (.mv (.t 5))]
theorem Ym {f0 f1 f2 f3 f4:Nat} (Γ:Nat->Spec) (dr:Bool) (Q:S->Prop) (s:S):wpL Γ dr Q (uc f0 f1 f2 f3 f4) s=wpL Γ dr Q [.m 23 (.t 2),.u 24 (.binn .eql (.t 23) (.c (.one (.lit .nilIface)))),.m 25 (.t 24),.w 26 25 true (.mv (.t 4)),.w 27 25 true (.binn .eql (.t 26) (.c (.one (.lit .nilIface)))),.u 28 (.pick (.t 25) (.t 27) .fa),.m 29 (.t 28),.w 30 29 true (.mv (.t 6)),.w 31 29 true (.binn .eql (.t 30) (.c (.one (.lit .nilIface)))),.u 32 (.pick (.t 29) (.t 31) .fa),.m 33 (.t 32),.w 34 33 true (.mv (.t 5))] s:=eq_of_heq (HEq.refl _)
def Zd (f0 f1 f2 f3 f4:Nat):List AO:=[.u 35 (.pick (.t 33) (.t 34) .fa),.m 36 (.t 35),.w 37 36 true (.fa 0 (.t 1)),.w 38 36 true (.ld none 3 true (.t 37)),.w 39 36 true (.call f4 [(.t 38)]),.w 40 36 true (.sop 1 [(.t 39),(.c (.one (.lit (.string ⟨#[50]⟩))))]),.u 41 (.pick (.t 36) (.t 40) .fa),.m 42 (.t 41),.w 43 42 true (.fa 12 (.t 3)),.w 44 42 true (.ld none 3 true (.t 43)),.w 45 42 true (.call f4 [(.t 44)]),.w 46 42 true (.sop 1 [(.t 45),(.c (.one (.lit (.string ⟨#[52]⟩))))])]
theorem wm {f0 f1 f2 f3 f4:Nat} (Γ:Nat->Spec) (dr:Bool) (Q:S->Prop) (s:S):wpL Γ dr Q (Zd f0 f1 f2 f3 f4) s=wpL Γ dr Q [.u 35 (.pick (.t 33) (.t 34) .fa),.m 36 (.t 35),.w 37 36 true (.fa 0 (.t 1)),.w 38 36 true (.ld none 3 true (.t 37)),.w 39 36 true (.call f4 [(.t 38)]),.w 40 36 true (.sop 1 [(.t 39),(.c (.one (.lit (.string ⟨#[50]⟩))))]),.u 41 (.pick (.t 36) (.t 40) .fa),.m 42 (.t 41),.w 43 42 true (.fa 12 (.t 3)),.w 44 42 true (.ld none 3 true (.t 43)),.w 45 42 true (.call f4 [(.t 44)]),.w 46 42 true (.sop 1 [(.t 45),(.c (.one (.lit (.string ⟨#[52]⟩))))])] s:=eq_of_heq (HEq.refl _)
def jd (f0 f1 f2 f3 f4:Nat):List AO:=[.u 47 (.pick (.t 42) (.t 46) .fa),.m 48 (.t 47),.w 49 48 true (.fa 15 (.t 3)),.w 50 48 true (.ld none 3 true (.t 49)),.w 51 48 true (.call f4 [(.t 50)]),.w 52 48 true (.sop 1 [(.t 51),(.c (.one (.lit (.string ⟨#[49,47,52]⟩))))]),.u 53 (.pick (.t 48) (.t 52) .fa),.m 54 (.t 53),.w 55 54 true (.fa 21 (.t 3)),.w 56 54 true (.ld none 3 true (.t 55)),.w 57 54 true (.call f4 [(.t 56)]),.w 58 54 true (.sop 1 [(.t 57),(.c (.one (.lit (.string ⟨#[50]⟩))))])]
theorem Wm {f0 f1 f2 f3 f4:Nat} (Γ:Nat->Spec) (dr:Bool) (Q:S->Prop) (s:S):wpL Γ dr Q (jd f0 f1 f2 f3 f4) s=wpL Γ dr Q [.u 47 (.pick (.t 42) (.t 46) .fa),.m 48 (.t 47),.w 49 48 true (.fa 15 (.t 3)),.w 50 48 true (.ld none 3 true (.t 49)),.w 51 48 true (.call f4 [(.t 50)]),.w 52 48 true (.sop 1 [(.t 51),(.c (.one (.lit (.string ⟨#[49,47,52]⟩))))]),.u 53 (.pick (.t 48) (.t 52) .fa),.m 54 (.t 53),.w 55 54 true (.fa 21 (.t 3)),.w 56 54 true (.ld none 3 true (.t 55)),.w 57 54 true (.call f4 [(.t 56)]),.w 58 54 true (.sop 1 [(.t 57),(.c (.one (.lit (.string ⟨#[50]⟩))))])] s:=eq_of_heq (HEq.refl _)
def Uc (f0 f1 f2 f3 f4:Nat):List AO:=[.u 59 (.pick (.t 54) (.t 58) .fa),.m 0 (.t 59)]
theorem km {f0 f1 f2 f3 f4:Nat} (Γ:Nat->Spec) (dr:Bool) (Q:S->Prop) (s:S):wpL Γ dr Q (Uc f0 f1 f2 f3 f4) s=wpL Γ dr Q [.u 59 (.pick (.t 54) (.t 58) .fa),.m 0 (.t 59)] s:=eq_of_heq (HEq.refl _)
def Vi (f0 f1 f2 f3 f4:Nat):AC:=(.seq (.ops false (uc f0 f1 f2 f3 f4++(Zd f0 f1 f2 f3 f4++(jd f0 f1 f2 f3 f4++(Uc f0 f1 f2 f3 f4)))))
 .ret)
theorem jr {f0 f1 f2 f3 f4:Nat} (Γ:Nat->Spec) (Q:Ex->S->Prop) (s:S):wpA Γ (Vi f0 f1 f2 f3 f4) Q s=wpA Γ (.seq (.ops false (uc f0 f1 f2 f3 f4++(Zd f0 f1 f2 f3 f4++(jd f0 f1 f2 f3 f4++(Uc f0 f1 f2 f3 f4)))))
 .ret) Q s:=eq_of_heq (HEq.refl _)
def Jf (f0 f1 f2 f3 f4:Nat):AC:=(.seq (.ops false [.m 0 .fa])
 (.fg [] (.seq (.ops false [.u 8 (.call f0 []),.u 9 (.call f1 [(.t 8)]),.m 7 (.t 9),.u 10 (.ext 0 (.t 7)),.u 11 (.ext 1 (.t 7)),.u 1 (.alloc [(.lit (.bool false)),.emp,.emp,(.lit (.bool false)),.emp,.emp]),.n (.st none 6 (.t 1) (.t 10)),.m 2 (.t 11)])
 (.fg [1,2] (.seq (.ops false [.u 13 (.call f0 []),.u 14 (.call f2 [(.t 13)]),.m 12 (.t 14),.u 15 (.ext 0 (.t 12)),.u 16 (.ext 1 (.t 12)),.u 3 (.alloc [(.lit (.bool false)),.emp,.emp,(.lit (.bool false)),.emp,.emp,(.lit (.bool false)),.emp,.emp,(.lit (.bool false)),.emp,.emp,(.lit (.bool false)),.emp,.emp,(.lit (.bool false)),.emp,.emp,(.lit (.bool false)),.emp,.emp,(.lit (.bool false)),.emp,.emp,(.lit (.bool false)),.emp,.emp]),.n (.st none 27 (.t 3) (.t 15)),.m 4 (.t 16)])
 (.fg [1,2,3,4] (.seq (.ops true [.u 18 (.call f0 []),.u 19 (.ld none 27 true (.t 3)),.u 20 (.call f3 [(.t 18),(.t 19)]),.m 17 (.t 20),.u 21 (.ext 0 (.t 17)),.u 22 (.ext 1 (.t 17)),.m 5 (.t 21),.m 6 (.t 22)])
 (.fg [1,2,3,4,5,6] (Vi f0 f1 f2 f3 f4)))))))))
set_option maxHeartbeats 2000000 in
theorem xag (hΓ:Holds P Γ) {f fe ff fi fs ft tE:Nat} (he:Γ fe=.dat false Wy) (hf:Γ ff=.dat false (YP tE)) (hi:Γ fi=.dat false (ZJ tE)) (hs:Γ fs=.dat false (wB tE)) (ht:Γ ft=.dat false Uo) (hc:check P f=some (60,(Jf fe ff fi fs ft).strip,[.tmp 0])):Sound P f (.dat true yu):=by
 refine va hc xax hΓ (λargs K hcl hfi hG=>?_)
 match args,hG with
 | [],hK=>
  refine ⟨by simp,?_⟩
  have kE:=zbm
  have wE:=VG exQ
  have lE:=cl_B Zbk
  have vE:=yC exQ
  obtain ⟨E,hE⟩:∃E,canC exQ=E:=⟨_,rfl⟩
  have eE:cqR exQ=cpA E:=by rw [<-hE];rfl
  rw [hE]at kE wE lE vE
  have kF:=JP (qaJ (by have:=Za7 kE;rw [vE]at this;exact this) ex_w)
  have wF:=VG (fiQ exQ)
  have lF:=cl_B uaP
  have vF:=yC (fiQ exQ)
  have hcur:cCur (fiQ exQ)=cCur exQ:=Ua6 (cb_B Zbk (by decide)) (cb_B uaP (by decide)) ex_w
  obtain ⟨Y,hY⟩:∃Y,fiQ exQ=Y:=⟨_,rfl⟩
  rw [hY]at kF wF lF vF hcur
  rw [ybu]at hY
  obtain ⟨F,hF⟩:∃F,canC Y=F:=⟨_,rfl⟩
  have eF:cqR Y=cpA F:=by rw [<-hF];rfl
  rw [hF]at kF wF lF vF
  have cE:fiC E=0:=by rw [wbf kE,vE];exact wC_0.2 ex_w
  have sE:smC E F=0:=by unfold smC;rw [if_neg (by omega)];exact kF
  have l1:cl E<=100000:=Nat.le_trans lE (by decide)
  have l2:cl E<=1000:=Nat.le_trans lE (by decide)
  have l3:cl F<=1000:=Nat.le_trans lF (by decide)
  have dc:=decide_eq_true hcur.symm
  have g0:decide (0=0)=true:=rfl
  have e0:=Zc tE
  have a2:rv F.2.2.1=4:=by rw [<-hF,<-hY];exact Xb _
  have b2:rv F.2.2.2.1=1 / 4:=by rw [<-hF,<-hY];exact Xb _
  have u2:rv F.2.2.2.2.2.1=2:=by rw [<-hF,<-hY];exact Xb _
  have hYY:fiQ exQ=Y:=by rw [ybu,hY]
  have t2:txR 2=⟨#[50]⟩:=by decide +kernel
  have t4:txR 4=⟨#[52]⟩:=by decide +kernel
  have tq:txR (1 / 4)=⟨#[49,47,52]⟩:=by decide +kernel
  simp only [go_sem,Jf,he,hf,hi,hs,eE,kE,vE,cE,hYY,eF,vbN,e0,cpA,cpC,Wc,sE,vF,dc,g0,Bool.true_and]
  repeat (first | (refine And.intro (by with_reducible assumption) ?_) | (refine And.intro (Nat.le_trans (by with_reducible assumption) (by decide)) ?_) | (refine And.intro (by decide) ?_))
  have wF1:=wF.2.2.1
  have wF2:=wF.2.2.2.1
  have wF3:=wF.2.2.2.2.2.1
  have hl0:=lF
  unfold cl at hl0
  simp only [Nat.max_le]at hl0
  have lF1:=Nat.le_trans hl0.2.2.1 (by decide:_<=4294967296)
  have lF2:=Nat.le_trans hl0.2.2.2.1 (by decide:_<=4294967296)
  have lF3:=Nat.le_trans hl0.2.2.2.2.2.1 (by decide:_<=4294967296)
  have l22:rz 2<=4294967296:=Nat.le_trans rz_2 (by decide)
  have k1:okT (Rat.num 2):=Or.inr (Or.inl rfl)
  have k2:okT ((Rat.den 2:Nat):Int):=Or.inl rfl
  have k3:okT (Rat.num 4):=Or.inr (Or.inr (Or.inl rfl))
  have k4:okT ((Rat.den 4:Nat):Int):=Or.inl rfl
  have k5:okT (Rat.num (1 / 4)):=Or.inl (by decide +kernel)
  have k6:okT ((Rat.den (1 / 4):Nat):Int):=Or.inr (Or.inr (Or.inl (by decide +kernel)))
  rw [jr,qbw,vaq,vaq,vaq]
  rw [Ym]
  simp only [go_sem]
  rw [wm]
  have bb:∀l:List UInt8,(l == l)=true:=λl=>beq_self_eq_true l
  simp only [go_sem,ht,Xb,t2,t4,tq,a2,b2,u2,bb]
  repeat (first | (refine And.intro (by with_reducible assumption) ?_) | (refine And.intro (Nat.le_trans (by with_reducible assumption) (by decide)) ?_) | (refine And.intro (by decide) ?_))
  rw [Wm]
  simp only [go_sem,ht,Xb,t2,t4,tq,a2,b2,u2,bb]
  repeat (first | (refine And.intro (by with_reducible assumption) ?_) | (refine And.intro (Nat.le_trans (by with_reducible assumption) (by decide)) ?_) | (refine And.intro (by decide) ?_))
  rw [km]
  simp only [go_sem,ht,Xb,t2,t4,tq,a2,b2,u2,bb]
  exact hK
end Go.Abs
end
section
namespace Go.Num
open Go.Abs
end Go.Num
namespace Go.Abs
open Go.Num
variable {P:Program} {Γ:Nat->Spec}
theorem qbp (c:Cp):cpA c=.agg (cpC c):=eq_of_heq (HEq.refl _)
theorem Uba (k:Cp->Prop) (c:Cp):onCp k (.agg (cpC c))=(WLC c/\k c):=wl WaC (λc=>WLC c/\k c) c
theorem uad (c:Cp):(cpC c).length=27:=eq_of_heq (HEq.refl _)
theorem Yav (c:Cp):(cpC c).take 27=cpC c:=List.take_of_length_le (Nat.le_of_eq (uad c))
theorem qar (c:Cp):(cpC c).drop 0=cpC c:=eq_of_heq (HEq.refl _)
theorem XaY (h:Nat->HB) (c:Cp):(cpC c).map (datC h)=cpC c:=eq_of_heq (HEq.refl _)
theorem yaQ (c:Cp):(cpC c).flatMap ownC=[]:=eq_of_heq (HEq.refl _)
theorem gE1x (K:List C->Prop) (e0 e1:List C) (r:List (List C)):getE K (e0::e1::r) 1=K e1:=by simp [getE]
theorem gE2x (K:List C->Prop) (e0 e1 e2:List C) (r:List (List C)):getE K (e0::e1::e2::r) 2=K e2:=by simp [getE]
theorem gE3x (K:List C->Prop) (e0 e1 e2 e3:List C) (r:List (List C)):getE K (e0::e1::e2::e3::r) 3=K e3:=by simp [getE]
theorem gE4x (K:List C->Prop) (e0 e1 e2 e3 e4:List C) (r:List (List C)):getE K (e0::e1::e2::e3::e4::r) 4=K e4:=by simp [getE]
theorem gE5x (K:List C->Prop) (e0 e1 e2 e3 e4 e5:List C) (r:List (List C)):getE K (e0::e1::e2::e3::e4::e5::r) 5=K e5:=by simp [getE]
attribute [go_sem] qbp Uba uad Yav qar XaY yaQ gE1x gE2x gE3x gE4x gE5x
attribute [go_sem ↓] qbp Uba uad Yav qar XaY yaQ gE1x gE2x gE3x gE4x gE5x
def YI (l:List AV) (K:AV->Prop):Prop:=
 match l with
 | [c]=>onCp (λc=>cl c<=1048576/\K (.one (.lit (.bool true)))) c
 | _=>False
theorem vN (c:AV) (K:AV->Prop):YI [c] K=(onCp (λc=>cl c<=1048576/\K (.one (.lit (.bool true)))) c):=propext Iff.rfl
@[congr] theorem vbn {K:AV->Prop} {l l' : List AV} (h:l=l'):YI l K=YI l' K:=by subst h;rfl
attribute [go_sem] vN
attribute [go_sem ↓] vN
end Go.Abs
end
section
namespace Go.Abs
open Go.Num
variable {P:Program} {Γ:Nat->Spec}
def Qo (l:List AV) (K:AV->Prop):Prop:=
 match l with
 | [a,b]=>onMs (λl=>onMs (λl'=>l=l'/\l.length<=1000000/\(∀t∈l,rl t.2.2<=4294967296)/\K (.one (.lit (.bool true)))) b) a
 | _=>False
theorem ZX (a b:AV) (K:AV->Prop):Qo [a,b] K=(onMs (λl=>onMs (λl'=>l=l'/\l.length<=1000000/\(∀t∈l,rl t.2.2<=4294967296)/\K (.one (.lit (.bool true)))) b) a):=propext Iff.rfl
@[congr] theorem Qbw {K:AV->Prop} {l l' : List AV} (h:l=l'):Qo l K=Qo l' K:=by subst h;rfl
attribute [go_sem] ZX
attribute [go_sem ↓] ZX
theorem Yae:Good Qo:=Va λas=>by
 unfold Qo
 split
 .repeat (first | exact .ret _ | exact .of (λK hk=>hk.elim) | (refine .and λ_=>?_) | (refine Je λ_=>?_) | (refine Vp λ_=>?_) | (refine ub (λ_ _=>?_) _) | (refine qw (λ_=>?_) _) | (refine zE ?_ ?_) | (intro _) | assumption)
 .exact .of λK hk=>hk.elim
def xf (f0:Nat):AC:=(.seq (.ops false [.m 4 .fa])
 (.fg [0,1] (.seq (.seq (.ops false [.m 6 (.t 0),.u 7 (.len (.t 6)),.m 8 (.t 1),.u 9 (.len (.t 8)),.u 10 (.bin .neq (.t 7) (.t 9))])
 (.fg [0,1,10] (.cond (.t 10) (.seq (.ops false [.m 4 .fa])
 .ret) .skip)))
 (.fg [0,1] (.seq (.seq (.ops false [.m 11 (.t 0),.u 12 (.len (.t 11)),.m 13 (.i 0)])
 (.fg [0,1,12,13] (.block 0 (.loop (.seq (.ops false [.u 14 (.bin .lss (.t 13) (.t 12))])
 (.fg [0,1,12,13,14] (.seq (.cond (.t 14) .skip (.exit 0))
 (.fg [0,1,12,13] (.seq (.block 1 (.seq (.ops false [.m 15 (.t 13),.m 5 (.t 15)])
 (.fg [0,1,5,12,13] (.seq (.ops true [.m 16 (.t 0),.m 17 (.t 5),.u 18 (.idx 5 (.t 16) (.t 17)),.u 19 (.fa 0 (.t 18)),.u 20 (.ld none 1 false (.t 19)),.m 21 (.t 1),.m 22 (.t 5),.u 23 (.idx 5 (.t 21) (.t 22)),.u 24 (.fa 0 (.t 23)),.u 25 (.ld none 1 false (.t 24)),.u 26 (.bin .neq (.t 20) (.t 25)),.m 27 (.t 26),.w 28 27 false (.mv (.t 0)),.w 29 27 false (.mv (.t 5)),.w 30 27 false (.idx 5 (.t 28) (.t 29)),.w 31 27 false (.fa 1 (.t 30)),.w 32 27 false (.ld none 1 false (.t 31)),.w 33 27 false (.mv (.t 1)),.w 34 27 false (.mv (.t 5)),.w 35 27 false (.idx 5 (.t 33) (.t 34)),.w 36 27 false (.fa 1 (.t 35)),.w 37 27 false (.ld none 1 false (.t 36)),.w 38 27 false (.bin .neq (.t 32) (.t 37)),.u 39 (.pick (.t 27) .tr (.t 38)),.m 40 (.t 39),.w 41 40 false (.mv (.t 0)),.w 42 40 false (.mv (.t 5)),.w 43 40 false (.idx 5 (.t 41) (.t 42)),.w 44 40 false (.fa 2 (.t 43)),.w 45 40 false (.ld none 3 true (.t 44)),.w 46 40 false (.mv (.t 1)),.w 47 40 false (.mv (.t 5)),.w 48 40 false (.idx 5 (.t 46) (.t 47)),.w 49 40 false (.fa 2 (.t 48)),.w 50 40 false (.ld none 3 true (.t 49)),.w 51 40 false (.call f0 [(.t 45),(.t 50)]),.w 52 40 false (.un .not (.t 51)),.u 53 (.pick (.t 40) .tr (.t 52))])
 (.fg [0,1,12,13,53] (.cond (.t 53) (.seq (.ops false [.m 4 .fa])
 .ret) .skip))))))
 (.fg [0,1,12,13] (.ops false [.u 54 (.bin .add (.t 13) (.i 1)),.m 13 (.t 54)])))))))))))
 (.fg [] (.seq (.ops false [.m 4 .tr])
 .ret)))))))
theorem jU (hΓ:Holds P Γ) {f fr:Nat} (hr:Γ fr=.dat true uA) (hc:check P f=some (55,(xf fr).strip,[.tmp 4])):Sound P f (.dat false Qo):=by
 refine va hc Yae hΓ (λargs K hcl hfi hG=>?_)
 match args,hG with
 | [a,b],hG=>
  obtain ⟨l,rfl,hw,l',rfl,hw',rfl,hl,hrl,hK⟩:=hG
  refine ⟨by simp,?_⟩
  simp only [go_sem,xf,hr]
  intro _ _ _
  refine ka (λk:Nat=>⟨mkV [(0,.one (ms l)),(1,.one (ms l)),(12,.one (.lit (.int .i64 l.length))),(13,.one (.lit (.int .i64 k)))],mkH []⟩) (λk=>k<=l.length) (λk=>l.length-k) 0 ?_ ?_ ?_
  .exact Qa (by simp [okS,okV,okC,okL,okH,okB,okE,Za,ja,za,Ja,wsA,ws,ms]) trivial
  .exact Nat.zero_le _
  .intro k hk
   by_cases hlt:k<l.length
   .obtain ⟨y,hy⟩:∃y,l.getD k mo0=y:=⟨_,rfl⟩
    have hy0:=getDm hlt hy
    have hym:=List.mem_of_getElem? hy0
    have hwy:=hw y hym
    have hry:=hrl y hym
    simp only [go_sem,hlt,hy,hr,mC]
    exact ⟨hwy.2.2,hwy.2.2,hry,by omega,k+1,Qa (by simp [okS,okV,okC,okL,okH,okB,okE,Za,ja,za,Ja,wsA,ws,ms]) trivial,by omega,by omega⟩
   .simp only [go_sem,hlt]
    exact hK
end Go.Abs
end
section
namespace Go.Num
open Go.Abs
theorem wC_8 {w:V2} (h:wC w≠0):wC w=8:=by
 unfold wC at h ⊢;split
 .rfl
 .rename_i h1;rw [if_neg h1]at h;exact absurd rfl h
end Go.Num
namespace Go.Abs
open Go.Num
variable {P:Program} {Γ:Nat->Spec}
def Uk (l:List AV) (K:AV->Prop):Prop:=
 match l with
 | [c]=>onCp (λc=>cl c<=1048576/\K (.one (.lit (.bool true)))) c
 | _=>False
theorem QN (c:AV) (K:AV->Prop):Uk [c] K=(onCp (λc=>cl c<=1048576/\K (.one (.lit (.bool true)))) c):=propext Iff.rfl
@[congr] theorem Zbn {K:AV->Prop} {l l' : List AV} (h:l=l'):Uk l K=Uk l' K:=by subst h;rfl
attribute [go_sem] QN
attribute [go_sem ↓] QN
theorem U5:Good Uk:=Va λas=>by
 unfold Uk
 split
 .exact (Vm λ_=>(.and λ_=>(.ret _)))
 .exact .of λK hk=>hk.elim
def jb (f0 f1 f2 f3 f4 f5 f6 f7 f8:Nat):AC:=(.seq (.ops false [.u 1 (.box 27 (.t 0)),.m 2 .fa])
 (.fg [1] (.seq (.seq (.ops false [.u 16 (.call f0 []),.u 17 (.un .not (.t 16)),.m 18 (.t 17),.w 19 18 false (.ld none 27 true (.t 1)),.w 20 18 false (.call f1 [(.t 19)]),.w 21 18 false (.un .not (.t 20)),.u 22 (.pick (.t 18) .tr (.t 21)),.m 23 (.t 22),.w 24 23 false (.ld none 27 true (.t 1)),.w 25 23 false (.call f2 [(.t 24)]),.w 26 23 false (.binn .neq (.t 25) (.c (.one (.lit .nilIface)))),.u 27 (.pick (.t 23) .tr (.t 26))])
 (.fg [1,27] (.cond (.t 27) (.seq (.ops false [.u 28 (.call f0 []),.m 2 (.t 28)])
 .ret) .skip)))
 (.fg [1] (.seq (.ops false [.u 30 (.ld none 27 true (.t 1)),.u 31 (.call f3 [(.t 30)]),.m 29 (.t 31),.u 32 (.ext 0 (.t 29)),.u 33 (.ext 1 (.t 29)),.m 3 (.t 32),.m 4 (.t 33)])
 (.fg [1,3,4] (.seq (.seq (.ops false [.m 34 (.t 4),.u 35 (.binn .neq (.t 34) (.c (.one (.lit .nilIface))))])
 (.fg [1,3,35] (.cond (.t 35) (.seq (.ops false [.m 2 .fa])
 .ret) .skip)))
 (.fg [1,3] (.seq (.ops false [.u 37 (.ld none 27 true (.t 1)),.u 38 (.call f4 [(.t 37)]),.m 36 (.t 38),.u 39 (.ext 0 (.t 36)),.u 40 (.ext 1 (.t 36)),.u 5 (.alloc [(.lit (.bool false)),.emp,.emp,(.lit (.bool false)),.emp,.emp,(.lit (.bool false)),.emp,.emp,(.lit (.bool false)),.emp,.emp,(.lit (.bool false)),.emp,.emp,(.lit (.bool false)),.emp,.emp,(.lit (.bool false)),.emp,.emp,(.lit (.bool false)),.emp,.emp,(.lit (.bool false)),.emp,.emp]),.n (.st none 27 (.t 5) (.t 39)),.m 6 (.t 40)])
 (.fg [1,3,5,6] (.seq (.ops false [.u 42 (.ld none 27 true (.t 1)),.u 43 (.call f5 [(.t 42)]),.m 41 (.t 43),.u 44 (.ext 0 (.t 41)),.u 45 (.ext 1 (.t 41)),.u 7 (.alloc [(.lit (.bool false)),.emp,.emp,(.lit (.bool false)),.emp,.emp,(.lit (.bool false)),.emp,.emp,(.lit (.bool false)),.emp,.emp,(.lit (.bool false)),.emp,.emp,(.lit (.bool false)),.emp,.emp,(.lit (.bool false)),.emp,.emp,(.lit (.bool false)),.emp,.emp,(.lit (.bool false)),.emp,.emp]),.n (.st none 27 (.t 7) (.t 44)),.m 8 (.t 45)])
 (.fg [1,3,5,6,7,8] (.seq (.ops false [.u 47 (.ld none 27 true (.t 1)),.u 48 (.call f6 [(.t 47)]),.m 46 (.t 48),.u 49 (.ext 0 (.t 46)),.u 50 (.ext 1 (.t 46)),.u 9 (.alloc [(.lit (.bool false)),.emp,.emp,(.lit (.bool false)),.emp,.emp,(.lit (.bool false)),.emp,.emp,(.lit (.bool false)),.emp,.emp,(.lit (.bool false)),.emp,.emp,(.lit (.bool false)),.emp,.emp,(.lit (.bool false)),.emp,.emp,(.lit (.bool false)),.emp,.emp,(.lit (.bool false)),.emp,.emp]),.n (.st none 27 (.t 9) (.t 49)),.m 10 (.t 50)])
 (.fg [3,5,6,7,8,9,10] (.seq (.ops false [.m 51 (.t 6),.m 52 (.t 8),.m 53 (.t 10),.u 54 (.row 1 [[.x 1 (.t 51)],[.x 1 (.t 52)],[.x 1 (.t 53)]]),.m 11 (.t 54)])
 (.fg [3,5,7,9,11] (.seq (.seq (.ops false [.u 55 (.ld none 27 true (.t 5)),.u 56 (.ld none 27 true (.t 7)),.u 57 (.ld none 27 true (.t 9)),.u 58 (.row 27 [[.x 27 (.t 55)],[.x 27 (.t 56)],[.x 27 (.t 57)]]),.u 59 (.len (.t 58)),.m 60 (.i 0)])
 (.fg [3,11,58,59,60] (.block 0 (.loop (.seq (.ops false [.u 61 (.bin .lss (.t 60) (.t 59))])
 (.fg [3,11,58,59,60,61] (.seq (.cond (.t 61) .skip (.exit 0))
 (.fg [3,11,58,59,60] (.seq (.block 1 (.seq (.ops false [.m 62 (.t 60),.u 63 (.idx 27 (.t 58) (.t 60)),.u 64 (.ld none 27 true (.t 63)),.u 13 (.alloc [(.lit (.bool false)),.emp,.emp,(.lit (.bool false)),.emp,.emp,(.lit (.bool false)),.emp,.emp,(.lit (.bool false)),.emp,.emp,(.lit (.bool false)),.emp,.emp,(.lit (.bool false)),.emp,.emp,(.lit (.bool false)),.emp,.emp,(.lit (.bool false)),.emp,.emp,(.lit (.bool false)),.emp,.emp]),.m 12 (.t 62),.n (.st none 27 (.t 13) (.t 64))])
 (.fg [3,11,12,13,58,59,60] (.seq (.seq (.ops false [.m 65 (.t 11),.m 66 (.t 12),.u 67 (.idx 1 (.t 65) (.t 66)),.u 68 (.ld none 1 false (.t 67)),.u 69 (.binn .neq (.t 68) (.c (.one (.lit .nilIface))))])
 (.fg [3,11,12,13,58,59,60,69] (.cond (.t 69) (.seq (.seq (.ops false [.m 70 (.t 12),.u 71 (.bin .eql (.t 70) (.i 2)),.m 72 (.t 71),.w 73 72 false (.mv (.t 11)),.w 74 72 false (.mv (.t 12)),.w 75 72 false (.idx 1 (.t 73) (.t 74)),.w 76 72 false (.ld none 1 false (.t 75)),.w 77 72 false (.call f7 [(.t 76),(.i 8)]),.w 78 72 false (.un .not (.t 77)),.u 79 (.pick (.t 72) .tr (.t 78))])
 (.fg [3,11,58,59,60,79] (.cond (.t 79) (.seq (.ops false [.m 2 .fa])
 .ret) .skip)))
 (.exit 1)) .skip)))
 (.fg [3,11,13,58,59,60] (.seq (.ops false [.u 81 (.ld none 27 true (.t 13)),.u 82 (.call f3 [(.t 81)]),.m 80 (.t 82),.u 83 (.ext 0 (.t 80)),.u 84 (.ext 1 (.t 80)),.m 14 (.t 83),.m 15 (.t 84)])
 (.fg [3,11,14,15,58,59,60] (.seq (.ops false [.m 85 (.t 15),.u 86 (.binn .neq (.t 85) (.c (.one (.lit .nilIface)))),.m 87 (.t 86),.w 88 87 false (.mv (.t 14)),.w 89 87 false (.mv (.t 3)),.w 90 87 false (.call f8 [(.t 88),(.t 89)]),.w 91 87 false (.un .not (.t 90)),.u 92 (.pick (.t 87) .tr (.t 91))])
 (.fg [3,11,58,59,60,92] (.cond (.t 92) (.seq (.ops false [.m 2 .fa])
 .ret) .skip))))))))))
 (.fg [3,11,58,59,60] (.ops false [.u 93 (.bin .add (.t 60) (.i 1)),.m 60 (.t 93)])))))))))))
 (.fg [] (.seq (.ops false [.m 2 .tr])
 .ret)))))))))))))))))))
set_option maxHeartbeats 4000000 in
theorem jT (hΓ:Holds P Γ) {f fw fs fk fv fi fe fx fb ft tE:Nat} (hw:Γ fw=.dat true yu) (hs:Γ fs=.dat true vB) (hk:Γ fk=.dat false (Yr tE)) (hv:Γ fv=.dat false (yy tE)) (hi:Γ fi=.dat false (ZJ tE)) (he:Γ fe=.dat false (UP tE)) (hx:Γ fx=.dat false (uO tE)) (hb:Γ fb=.dat true (WS tE)) (ht:Γ ft=.dat false Qo) (hc:check P f=some (94,(jb fw fs fk fv fi fe fx fb ft).strip,[.tmp 2])):Sound P f (.dat true Uk):=by
 refine va hc U5 hΓ (λargs K hcl hfi hG=>?_)
 match args,hG with
 | [a],hG=>
  obtain ⟨c,rfl,hwc,hlc,hK⟩:=hG
  refine ⟨by simp,?_⟩
  have hlc1:cl c<=4294967296:=by omega
  have hlc2:cl c<=100000000:=by omega
  cases hsc:sC c with
  | false=>
   simp only [go_sem,jb,hw,hs,hsc,Wc]
   repeat (first | (refine And.intro (by with_reducible assumption) ?_) | (refine And.intro (Nat.le_trans (by with_reducible assumption) (by decide)) ?_) | (refine And.intro (by decide) ?_))
   exact hK
  | true=>
  have e0:=Zc tE
  by_cases h0:cchk c=0
  case neg=>
   have e1:=vc tE h0
   simp only [go_sem,jb,hw,hs,hk,hsc,Wc,e1]
   repeat (first | (refine And.intro (by with_reducible assumption) ?_) | (refine And.intro (Nat.le_trans (by with_reducible assumption) (by decide)) ?_) | (refine And.intro (by decide) ?_))
   exact hK
  have c2:=zbF hsc
  have hB:=Qbf hwc c2
  have ok:=Za7 h0
  have cB:=J6 hwc (Nat.le_trans c2 (by decide))
  obtain ⟨V,hV⟩:∃V,cpv c=V:=⟨_,rfl⟩
  rw [hV]at hB ok cB
  have pc:=ZV cB
  have i0:=qt pc.canon.ins
  have i1:=kD (p:=cCur V) (N:=1000000000) (Nat.le_trans pc.size (by decide))
  have i2:∀t∈mcs (cCur V),rl t.2.2<=4294967296:=λt ht=>Nat.le_trans (i1 t ht) (by decide)
  have i3:(mcs (cCur V)).length<=1000000:=by rw [uaf];exact Nat.le_trans (Uz pc.canon) (by decide)
  have bF:=Vbr hB
  have bS:=ubK hB
  have bW:=zbL hB
  have n1:fiC c=wC (cW V):=by rw [wbf h0,hV]
  have n2:seC c=wC (rsQ V):=by rw [qbt h0,hV]
  have lc5:cl c<=100000:=by omega
  have lc3:cl c<=1000:=by omega
  have d0:decide (0=0)=true:=rfl
  obtain ⟨w,hw0⟩:∃n,wC (cW V)=n:=⟨_,rfl⟩
  obtain ⟨r,hr0⟩:∃n,wC (rsQ V)=n:=⟨_,rfl⟩
  rw [hw0]at n1
  rw [hr0]at n2
  obtain ⟨X,hX⟩:∃X,(if w=0 then fiQ V else z27)=X:=⟨_,rfl⟩
  obtain ⟨Y,hY⟩:∃Y,(if r=0 then seQ V else z27)=Y:=⟨_,rfl⟩
  obtain ⟨E1,hE1⟩:∃e,errV tE w=.one (.lit e):=⟨_,rfl⟩
  obtain ⟨E2,hE2⟩:∃e,errV tE r=.one (.lit e):=⟨_,rfl⟩
  obtain ⟨X',hX'⟩:∃x,canC X=x:=⟨_,rfl⟩
  obtain ⟨Y',hY'⟩:∃x,canC Y=x:=⟨_,rfl⟩
  obtain ⟨W',hW'⟩:∃x,canC (swQ V)=x:=⟨_,rfl⟩
  have nX:cqR X=cpA X':=by rw [<-hX'];rfl
  have nY:cqR Y=cpA Y':=by rw [<-hY'];rfl
  have nW:cqR (swQ V)=cpA W':=by rw [<-hW'];rfl
  have wX:WLC X':=by rw [<-hX'];exact VG X
  have wY:WLC Y':=by rw [<-hY'];exact VG Y
  have wW:WLC W':=by rw [<-hW'];exact VG _
  have lW:cl W'<=1000:=by rw [<-hW'];exact Nat.le_trans (cl_B bW) (by decide)
  have kW:cchk W' = 0:=by rw [<-hW'];exact JP (za9 ok)
  have uW:cCur (cpv W')=cCur V:=by rw [<-hW',yC];exact wbt cB (cb_B bW (by decide))
  simp only [go_sem,jb,hw,hs,hk,hv,hi,he,hx,hsc,Wc,h0,e0,hV,n1,n2,hX,hY,nX,nY,nW,hE1,hE2,yk]
  repeat (first | (refine And.intro (by with_reducible assumption) ?_) | (refine And.intro (Nat.le_trans (by with_reducible assumption) (by decide)) ?_) | (refine And.intro (by decide) ?_))
  have e8:=vc tE (by decide:(8:Nat)≠0)
  have o8:∀k,onErr tE k (.one (.lit (.iface tE (.int .i64 ((8:Nat):Int)))))=k 8:=λk=>by
   have e:=uS tE k 8
   rw [e8]at e
   exact e
  have d8:(((8:Nat):Int)=8)=True:=eq_true rfl
  have n02:(((0:Nat):Int)=2)=False:=eq_false (by decide)
  have n12:(((1:Nat):Int)=2)=False:=eq_false (by decide)
  refine ka (λk:Nat=>⟨mkV [(3,.one (.slice ((mcs (cCur V)).map mC))),(11,.one (.full [[.lit E1],[.lit E2],[.lit .nilIface]])),(58,.one (.full [cpC X',cpC Y',cpC W'])),(59,.one (.lit (.int .i64 3))),(60,.one (.lit (.int .i64 k)))],mkH []⟩) (λk=>k<=3) (λk=>3-k) 0 ?_ ?_ ?_
  .exact Qa (by simp [okS,okV,okC,okL,okH,okB,okE,Za,ja,za,Ja,wsA,ws]) trivial
  .exact Nat.zero_le _
  .intro k hk3
   match k,hk3 with
   | 0,_=>
    by_cases hw1:w=0
    .rw [hw1,e0]at hE1
     simp only [AV.one.injEq,C.lit.injEq]at hE1
     subst hE1
     have wn:=wC_0.1 (hw0.trans hw1)
     rw [if_pos hw1]at hX
     have lX:cl X'<=1000:=by rw [<-hX',<-hX];exact Nat.le_trans (cl_B bF) (by decide)
     have kX:cchk X' = 0:=by rw [<-hX',<-hX];exact JP (qaJ ok wn)
     have uX:cCur (cpv X')=cCur V:=by rw [<-hX',<-hX,yC];exact Ua6 cB (cb_B bF (by decide)) wn
     simp only [go_sem,hv,ht,Wc,kX,uX,e0,yk]
     refine ⟨λ_=>?_,λh=>absurd (by decide) h⟩
     repeat (first | (refine And.intro (by with_reducible assumption) ?_) | (refine And.intro (Nat.le_trans (by with_reducible assumption) (by decide)) ?_) | (refine And.intro (by decide) ?_))
     exact ⟨1,Qa (by simp [okS,okV,okC,okL,okH,okB,okE,Za,ja,za,Ja,wsA,ws]) trivial,by decide,by decide⟩
    .have w8:w=8:=by rw [<-hw0];exact wC_8 (by rw [hw0];exact hw1)
     rw [w8,e8]at hE1
     simp only [AV.one.injEq,C.lit.injEq]at hE1
     subst hE1
     simp only [go_sem,hb,Wc,o8,d8,n02,true_implies,not_true_eq_false,false_implies,and_true]
     refine ⟨λ_=>?_,λh=>absurd (by decide) h⟩
     exact ⟨by decide,1,Qa (by simp [okS,okV,okC,okL,okH,okB,okE,Za,ja,za,Ja,wsA,ws]) trivial,by decide,by decide⟩
   | 1,_=>
    by_cases hr1:r=0
    .rw [hr1,e0]at hE2
     simp only [AV.one.injEq,C.lit.injEq]at hE2
     subst hE2
     have rn:=wC_0.1 (hr0.trans hr1)
     rw [if_pos hr1]at hY
     have lY:cl Y'<=1000:=by rw [<-hY',<-hY];exact Nat.le_trans (cl_B bS) (by decide)
     have kY:cchk Y' = 0:=by rw [<-hY',<-hY];exact JP (xbs ok rn)
     have uY:cCur (cpv Y')=cCur V:=by rw [<-hY',<-hY,yC];exact Wbr cB (cb_B bS (by decide)) rn
     simp only [go_sem,hv,ht,Wc,kY,uY,e0,yk]
     refine ⟨λ_=>?_,λh=>absurd (by decide) h⟩
     repeat (first | (refine And.intro (by with_reducible assumption) ?_) | (refine And.intro (Nat.le_trans (by with_reducible assumption) (by decide)) ?_) | (refine And.intro (by decide) ?_))
     exact ⟨2,Qa (by simp [okS,okV,okC,okL,okH,okB,okE,Za,ja,za,Ja,wsA,ws]) trivial,by decide,by decide⟩
    .have r8:r=8:=by rw [<-hr0];exact wC_8 (by rw [hr0];exact hr1)
     rw [r8,e8]at hE2
     simp only [AV.one.injEq,C.lit.injEq]at hE2
     subst hE2
     simp only [go_sem,hb,Wc,o8,d8,n12,true_implies,not_true_eq_false,false_implies,and_true]
     refine ⟨λ_=>?_,λh=>absurd (by decide) h⟩
     exact ⟨by decide,2,Qa (by simp [okS,okV,okC,okL,okH,okB,okE,Za,ja,za,Ja,wsA,ws]) trivial,by decide,by decide⟩
   | 2,_=>
    simp only [go_sem,hv,ht,Wc,kW,uW,e0,yk]
    refine ⟨λ_=>?_,λh=>absurd (by decide) h⟩
    repeat (first | (refine And.intro (by with_reducible assumption) ?_) | (refine And.intro (Nat.le_trans (by with_reducible assumption) (by decide)) ?_) | (refine And.intro (by decide) ?_))
    exact ⟨3,Qa (by simp [okS,okV,okC,okL,okH,okB,okE,Za,ja,za,Ja,wsA,ws]) trivial,by decide,by decide⟩
   | 3,_=>
    simp only [go_sem]
    exact ⟨λh=>absurd h (by decide),λ_=>hK⟩
end Go.Abs
end
section
namespace Go.Abs
open Go.Num
variable {P:Program} {Γ:Nat->Spec}
def jq:AC:=(.seq (.ops false [.m 2 (.c (.one .emp))])
 (.fg [0] (.seq (.ops false [.m 4 (.t 0),.u 5 (.len (.t 4)),.m 3 (.t 5)])
 (.fg [0,3] (.seq (.block 0 (.loop (.seq (.seq (.ops false [.m 6 (.t 3),.u 7 (.bin .gtr (.t 6) (.i 0)),.m 8 (.t 7),.w 9 8 true (.mv (.t 0)),.w 10 8 true (.mv (.t 3)),.w 11 8 true (.bin .sub (.t 10) (.i 1)),.w 12 8 true (.idx 1 (.t 9) (.t 11)),.w 13 8 true (.ld none 1 false (.t 12)),.w 14 8 true (.bin .eql (.t 13) (.c (.one (.lit (.int .u32 0))))),.u 15 (.pick (.t 8) (.t 14) .fa)])
 (.fg [0,3,15] (.cond (.t 15) .skip (.exit 0))))
 (.fg [0,3] (.block 1 (.ops false [.m 16 (.t 3),.u 17 (.bin .sub (.t 16) (.i 1)),.m 3 (.t 17)]))))))
 (.fg [0,3] (.seq (.seq (.ops false [.m 18 (.t 3),.u 19 (.bin .eql (.t 18) (.i 0))])
 (.fg [0,3,19] (.cond (.t 19) (.seq (.ops false [.m 2 (.c (.one .emp))])
 .ret) .skip)))
 (.fg [0,3] (.seq (.ops false [.m 20 (.c (.one .emp)),.m 21 (.t 0),.m 22 (.t 3),.u 23 (.sl 1 (.t 21) none (some (.t 22))),.u 24 (.app0 1 (.t 20) (.t 23)),.m 2 (.t 24)])
 .ret)))))))))
def xk:AC:=(.seq (.ops false [.m 4 (.c (.one (.lit (.int .u64 0))))])
 (.fg [0,1] (.seq (.seq (.ops false [.m 5 (.t 1),.m 6 (.t 0),.u 7 (.len (.t 6)),.u 8 (.bin .lss (.t 5) (.t 7))])
 (.fg [0,1,8] (.cond (.t 8) (.seq (.ops false [.m 9 (.t 0),.m 10 (.t 1),.u 11 (.idx 1 (.t 9) (.t 10)),.u 12 (.ld none 1 false (.t 11)),.u 13 (.conv .u64 (.t 12)),.m 4 (.t 13)])
 .ret) .skip)))
 (.fg [] (.seq (.ops false [.m 4 (.c (.one (.lit (.int .u64 0))))])
 .ret)))))
def yq (f0 f1:Nat):AC:=(.seq (.ops false [.m 4 (.c (.one .emp))])
 (.fg [0,1] (.seq (.ops false [.m 8 (.t 0),.u 9 (.len (.t 8)),.m 10 (.t 1),.u 11 (.len (.t 10)),.u 12 (.max [(.t 9),(.t 11)]),.u 13 (.bin .add (.t 12) (.i 1)),.u 14 (.mk 1 [(.lit (.int .u32 0))] (.t 13) (.t 13)),.m 5 (.t 14)])
 (.fg [0,1,5] (.seq (.ops false [.m 6 (.c (.one (.lit (.int .u64 0))))])
 (.fg [0,1,5,6] (.seq (.seq (.ops false [.m 15 (.t 5),.u 16 (.len (.t 15)),.m 17 (.i 0)])
 (.fg [0,1,5,6,16,17] (.block 0 (.loop (.seq (.ops false [.u 18 (.bin .lss (.t 17) (.t 16))])
 (.fg [0,1,5,6,16,17,18] (.seq (.cond (.t 18) .skip (.exit 0))
 (.fg [0,1,5,6,16,17] (.seq (.block 1 (.seq (.ops false [.m 19 (.t 17),.m 7 (.t 19)])
 (.fg [0,1,5,6,7,16,17] (.seq (.ops false [.m 20 (.t 6),.m 21 (.t 0),.m 22 (.t 7),.u 23 (.call f0 [(.t 21),(.t 22)]),.m 24 (.t 1),.m 25 (.t 7),.u 26 (.call f0 [(.t 24),(.t 25)]),.u 27 (.bin .add (.t 23) (.t 26)),.u 28 (.bin .add (.t 20) (.t 27)),.m 6 (.t 28)])
 (.fg [0,1,5,6,7,16,17] (.seq (.ops false [.m 29 (.t 5),.m 30 (.t 7),.m 31 (.t 6),.u 32 (.conv .u32 (.t 31)),.u 33 (.idx 1 (.t 29) (.t 30)),.n (.st none 1 (.t 33) (.t 32))])
 (.fg [0,1,5,6,16,17] (.ops false [.m 34 (.t 6),.u 35 (.bin .shr (.t 34) (.c (.one (.lit (.int .u64 32))))),.m 6 (.t 35)]))))))))
 (.fg [0,1,5,6,16,17] (.ops false [.u 36 (.bin .add (.t 17) (.i 1)),.m 17 (.t 36)])))))))))))
 (.fg [5] (.seq (.ops false [.m 37 (.t 5),.u 38 (.call f1 [(.t 37)]),.m 4 (.t 38)])
 .ret)))))))))
theorem QaB (hΓ:Holds P Γ) {f:Nat} (hc:check P f=some (25,jq.strip,[.tmp 2])):Sound P f (.dat false uq):=by
 refine va hc JaX hΓ (λargs K hcl hfi hG=>?_)
 match args,hG with
 | [a],hG=>
  obtain ⟨l,rfl,hl,hlen,hK⟩:=hG
  refine ⟨by simp,?_⟩
  simp only [go_sem,jq]
  intro hmax
  refine ka (λn:Nat=>⟨mkV [(0,wsA l),(3,.one (.lit (.int .i64 n)))],mkH []⟩) (λn=>n<=l.length/\val (l.take n)=val l) id l.length ?_ ?_ ?_
  .exact Qa (by simp [okS,okV,okC,okL,okH,okB,okE,Za,ja,za,Ja,wsA,ws]) trivial
  .simp
  .rintro n ⟨hn,ht⟩
   simp only [go_sem]
   refine ⟨λh=>⟨by omega,by omega,by omega,λh0=>⟨by omega,n-1,Qa (by simp [okS,okV,okC,okL,okH,okB,okE,Za,ja,za,Ja,wsA,ws];omega) trivial,⟨by omega,?_⟩,?_⟩,λh0=>⟨λh1=>by omega,λ_=>⟨by omega,by simp;omega,?_⟩⟩⟩,λh=>⟨λh1=>?_,λh1=>by omega⟩⟩
   .rw [show ((n:Int)-1).toNat=n-1 by omega]at h0
    have:=Vb l (n-1)
    rw [show n-1+1=n by omega,h0,Nat.mul_zero,Nat.add_zero]at this
    rw [<-this];exact ht
   .simp only [id];omega
   .rw [show ((n:Int)-1).toNat=n-1 by omega]at h0
    have:=uf (Vv hl n) (JF h hn h0)
    rw [<-this,ht];exact hK
   .subst h1
    have:val l=0:=by rw [<-ht];simp [val]
    rw [this,Qb]at hK;exact hK
theorem kK (hΓ:Holds P Γ) {f:Nat} (hc:check P f=some (14,xk.strip,[.tmp 4])):Sound P f (.dat true Wj):=by
 refine va hc ZaP hΓ (λargs K hcl hfi hG=>?_)
 match args,hG with
 | [a,b],hG=>
  obtain ⟨l,rfl,hl,hG⟩:=hG
  obtain ⟨k,i,rfl,rfl,hi,hK⟩:=Ua hG
  refine ⟨by simp,?_⟩
  simp only [go_sem,xk]
  intro hmax
  refine ⟨λh=>⟨hi,by omega,?_⟩,λh=>?_⟩
  .have:=vb hl i.toNat
   rw [Nat.mod_eq_of_lt (by omega)];exact hK
  .rw [List.getD_eq_getElem?_getD,List.getElem?_eq_none (by omega)]at hK;exact hK
theorem yay (hΓ:Holds P Γ) {f fw ft:Nat} (hw:Γ fw=.dat true Wj) (ht:Γ ft=.dat false uq) (hc:check P f=some (39,(yq fw ft).strip,[.tmp 4])):Sound P f (.dat false Vq):=by
 refine va hc J5 hΓ (λargs K hcl hfi hG=>?_)
 match args,hG with
 | [a,b],hG=>
  obtain ⟨x,rfl,hx,y,rfl,hy,hxl,hyl,hK⟩:=hG
  refine ⟨by simp,?_⟩
  simp only [go_sem,yq,hw,ht]
  intro h1 h2
  refine ⟨by omega,by omega,λhN=>?_⟩
  generalize hNN:max x.length y.length+1=N at hN
  refine ka (λp:List Nat×Nat=>⟨mkV [(0,wsA x),(1,wsA y),(5,.one (.own 14 1 1 0 N)),(6,.one (.lit (.int .u64 p.2))),(16,.one (.lit (.int .i64 N))),(17,.one (.lit (.int .i64 p.1.length)))],mkH [(14,⟨1,some ⟨(p.1++List.replicate (N-p.1.length) 0).map wc,1,true⟩⟩)]⟩)
   (λp=>p.1.length<=N/\WL p.1/\p.2<=1/\val p.1+4294967296 ^ p.1.length*p.2=val (x.take p.1.length)+val (y.take p.1.length)) (λp=>N-p.1.length) ([],0) ?_ ?_ ?_
  .exact Qa (by simp [okS,okV,okC,okL,okH,okB,okE,Za,ja,za,Ja,wsA,ws]) (vh (by simp))
  .simp [Yb,val]
  .rintro ⟨o,c⟩ ⟨hoN,ho,hc1,hval⟩
   simp only at hoN ho hc1 hval
   have hlen:(o++List.replicate (N-o.length) 0).length=N:=by simp;omega
   simp only [go_sem,hw,ht,hlen]
   refine ⟨λhlt=>⟨hx,hy,hlt,hlt,by omega,by omega,?_⟩,λhge=>?_⟩
   .have g1:=vb hx o.length
    have g2:=vb hy o.length
    rw [Nat.mod_eq_of_lt (show x.getD o.length 0+y.getD o.length 0<18446744073709551616 by omega),Nat.mod_eq_of_lt (show c+(x.getD o.length 0+y.getD o.length 0)<18446744073709551616 by omega)]
    generalize hs:c+(x.getD o.length 0+y.getD o.length 0)=s
    refine ⟨(o++[s % 4294967296],s / 4294967296),Qa (by simp [okS,okV,okC,okL,okH,okB,okE,Za,ja,za,Ja,wsA,ws]) (vh ?_),⟨by simp;omega,wd.2 ⟨ho,yb.2 ⟨Nat.mod_lt _ (by omega),Yb⟩⟩,by simp only;omega,?_⟩,by simp;omega⟩
    .rw [show N-o.length=N-(o.length+1)+1 by omega,wab];simp
    .simp only [List.length_append,List.length_cons,List.length_nil,Nat.zero_add,Vb,Wb,kh,yl,Nat.mul_zero,Nat.add_zero,Nat.pow_succ]
     rw [Nat.mul_assoc,Nat.add_assoc,<-Nat.mul_add,Nat.mod_add_div,<-hs,Nat.mul_add,<-Nat.add_assoc,hval,Nat.mul_add]
     omega
   .have e:o.length=N:=by omega
    simp only [e,Nat.sub_self,List.replicate_zero,List.append_nil,Nat.le_refl,if_true,XD]
    have hv:val o=val x+val y:=by
     rw [e,Wi (by omega),Wi (by omega)]at hval
     exact Uas hx hy (by omega) (by omega) (by omega) hval
    refine ⟨ho,by omega,?_⟩
    rw [hv];exact hK
end Go.Abs
end
section
namespace Go.Abs
open Go.Num
variable {P:Program} {Γ:Nat->Spec}
def Jr (f0 f1:Nat):AC:=(.seq (.ops false [.m 4 (.c (.one .emp))])
 (.fg [0,1] (.seq (.ops false [.m 9 (.t 0),.u 10 (.len (.t 9)),.u 11 (.mk 1 [(.lit (.int .u32 0))] (.t 10) (.t 10)),.m 5 (.t 11)])
 (.fg [0,1,5] (.seq (.ops false [.m 6 (.c (.one (.lit (.int .u64 0))))])
 (.fg [0,1,5,6] (.seq (.seq (.ops false [.m 12 (.t 5),.u 13 (.len (.t 12)),.m 14 (.i 0)])
 (.fg [0,1,5,6,13,14] (.block 0 (.loop (.seq (.ops false [.u 15 (.bin .lss (.t 14) (.t 13))])
 (.fg [0,1,5,6,13,14,15] (.seq (.cond (.t 15) .skip (.exit 0))
 (.fg [0,1,5,6,13,14] (.seq (.block 1 (.seq (.ops false [.m 16 (.t 14),.m 7 (.t 16)])
 (.fg [0,1,5,6,7,13,14] (.seq (.ops true [.m 17 (.t 0),.m 18 (.t 7),.u 19 (.idx 1 (.t 17) (.t 18)),.u 20 (.ld none 1 false (.t 19)),.u 21 (.conv .u64 (.t 20)),.m 22 (.t 1),.m 23 (.t 7),.u 24 (.call f0 [(.t 22),(.t 23)]),.u 25 (.bin .sub (.t 21) (.t 24)),.m 26 (.t 6),.u 27 (.bin .sub (.t 25) (.t 26)),.m 8 (.t 27)])
 (.fg [0,1,5,7,8,13,14] (.seq (.ops false [.m 28 (.t 5),.m 29 (.t 7),.m 30 (.t 8),.u 31 (.conv .u32 (.t 30)),.u 32 (.idx 1 (.t 28) (.t 29)),.n (.st none 1 (.t 32) (.t 31))])
 (.fg [0,1,5,8,13,14] (.ops false [.m 33 (.t 8),.u 34 (.bin .shr (.t 33) (.c (.one (.lit (.int .u64 63))))),.m 6 (.t 34)]))))))))
 (.fg [0,1,5,6,13,14] (.ops false [.u 35 (.bin .add (.t 14) (.i 1)),.m 14 (.t 35)])))))))))))
 (.fg [5] (.seq (.ops false [.m 36 (.t 5),.u 37 (.call f1 [(.t 36)]),.m 4 (.t 37)])
 .ret)))))))))
def uk:AC:=(.seq (.ops false [.m 4 (.i 0)])
 (.fg [0,1] (.seq (.seq (.ops false [.m 6 (.t 0),.u 7 (.len (.t 6)),.m 8 (.t 1),.u 9 (.len (.t 8)),.u 10 (.bin .neq (.t 7) (.t 9))])
 (.fg [0,1,10] (.cond (.t 10) (.seq (.seq (.ops false [.m 11 (.t 0),.u 12 (.len (.t 11)),.m 13 (.t 1),.u 14 (.len (.t 13)),.u 15 (.bin .lss (.t 12) (.t 14))])
 (.fg [15] (.cond (.t 15) (.seq (.ops false [.m 4 (.i (-1))])
 .ret) .skip)))
 (.fg [] (.seq (.ops false [.m 4 (.i 1)])
 .ret))) .skip)))
 (.fg [0,1] (.seq (.seq (.ops false [.m 16 (.t 0),.u 17 (.len (.t 16)),.u 18 (.bin .sub (.t 17) (.i 1)),.m 5 (.t 18)])
 (.fg [0,1,5] (.block 0 (.loop (.seq (.seq (.ops false [.m 19 (.t 5),.u 20 (.bin .geq (.t 19) (.i 0))])
 (.fg [0,1,5,20] (.cond (.t 20) .skip (.exit 0))))
 (.fg [0,1,5] (.seq (.block 1 (.seq (.ops true [.m 23 (.t 0),.m 24 (.t 5),.u 25 (.idx 1 (.t 23) (.t 24)),.u 26 (.ld none 1 false (.t 25)),.m 27 (.t 1),.m 28 (.t 5),.u 29 (.idx 1 (.t 27) (.t 28)),.u 30 (.ld none 1 false (.t 29)),.u 31 (.bin .neq (.t 26) (.t 30))])
 (.fg [0,1,5,31] (.cond (.t 31) (.seq (.seq (.ops true [.m 32 (.t 0),.m 33 (.t 5),.u 34 (.idx 1 (.t 32) (.t 33)),.u 35 (.ld none 1 false (.t 34)),.m 36 (.t 1),.m 37 (.t 5),.u 38 (.idx 1 (.t 36) (.t 37)),.u 39 (.ld none 1 false (.t 38)),.u 40 (.bin .lss (.t 35) (.t 39))])
 (.fg [40] (.cond (.t 40) (.seq (.ops false [.m 4 (.i (-1))])
 .ret) .skip)))
 (.fg [] (.seq (.ops false [.m 4 (.i 1)])
 .ret))) .skip))))
 (.fg [0,1,5] (.ops false [.m 21 (.t 5),.u 22 (.bin .sub (.t 21) (.i 1)),.m 5 (.t 22)])))))))))
 (.fg [] (.seq (.ops false [.m 4 (.i 0)])
 .ret)))))))
def vn (f0:Nat):AC:=(.seq (.ops false [.m 4 (.c (.one .emp)),.m 5 (.c (.one (.lit (.int .u32 0))))])
 (.fg [0,1] (.seq (.ops false [.m 9 (.t 0),.u 10 (.len (.t 9)),.u 11 (.mk 1 [(.lit (.int .u32 0))] (.t 10) (.t 10)),.m 6 (.t 11)])
 (.fg [0,1,6] (.seq (.ops false [.m 7 (.c (.one (.lit (.int .u64 0))))])
 (.fg [0,1,6,7] (.seq (.seq (.ops false [.m 12 (.t 0),.u 13 (.len (.t 12)),.u 14 (.bin .sub (.t 13) (.i 1)),.m 8 (.t 14)])
 (.fg [0,1,6,7,8] (.block 0 (.loop (.seq (.seq (.ops false [.m 15 (.t 8),.u 16 (.bin .geq (.t 15) (.i 0))])
 (.fg [0,1,6,7,8,16] (.cond (.t 16) .skip (.exit 0))))
 (.fg [0,1,6,7,8] (.seq (.block 1 (.seq (.ops false [.m 19 (.t 7),.u 20 (.bin .shl (.t 19) (.c (.one (.lit (.int .u64 32))))),.m 21 (.t 0),.m 22 (.t 8),.u 23 (.idx 1 (.t 21) (.t 22)),.u 24 (.ld none 1 false (.t 23)),.u 25 (.conv .u64 (.t 24)),.u 26 (.bin .or (.t 20) (.t 25)),.m 7 (.t 26)])
 (.fg [0,1,6,7,8] (.seq (.ops false [.m 27 (.t 6),.m 28 (.t 8),.m 29 (.t 7),.m 30 (.t 1),.u 31 (.conv .u64 (.t 30)),.u 32 (.bin .quo (.t 29) (.t 31)),.u 33 (.conv .u32 (.t 32)),.u 34 (.idx 1 (.t 27) (.t 28)),.n (.st none 1 (.t 34) (.t 33))])
 (.fg [0,1,6,7,8] (.ops false [.m 35 (.t 7),.m 36 (.t 1),.u 37 (.conv .u64 (.t 36)),.u 38 (.bin .rem (.t 35) (.t 37)),.m 7 (.t 38)]))))))
 (.fg [0,1,6,7,8] (.ops false [.m 17 (.t 8),.u 18 (.bin .sub (.t 17) (.i 1)),.m 8 (.t 18)])))))))))
 (.fg [6,7] (.seq (.ops false [.m 39 (.t 6),.u 40 (.call f0 [(.t 39)]),.m 41 (.t 7),.u 42 (.conv .u32 (.t 41)),.m 4 (.t 40),.m 5 (.t 42)])
 .ret)))))))))
theorem Vay (hΓ:Holds P Γ) {f fw ft:Nat} (hw:Γ fw=.dat true Wj) (ht:Γ ft=.dat false uq) (hc:check P f=some (38,(Jr fw ft).strip,[.tmp 4])):Sound P f (.dat false yr):=by
 refine va hc U9 hΓ (λargs K hcl hfi hG=>?_)
 match args,hG with
 | [a,b],hG=>
  obtain ⟨x,rfl,hx,y,rfl,hy,hxl,hle,hK⟩:=hG
  refine ⟨by simp,?_⟩
  simp only [go_sem,Jr,hw,ht]
  intro h1
  refine ⟨by omega,λ_=>?_⟩
  generalize hN:x.length=N at h1 hxl
  refine ka (λp:List Nat×Nat=>⟨mkV [(0,wsA x),(1,wsA y),(5,.one (.own 11 1 1 0 N)),(6,.one (.lit (.int .u64 p.2))),(13,.one (.lit (.int .i64 N))),(14,.one (.lit (.int .i64 p.1.length)))],mkH [(11,⟨1,some ⟨(p.1++List.replicate (N-p.1.length) 0).map wc,1,true⟩⟩)]⟩)
   (λp=>p.1.length<=N/\WL p.1/\p.2<=1/\val p.1+val (y.take p.1.length)=val (x.take p.1.length)+4294967296 ^ p.1.length*p.2) (λp=>N-p.1.length) ([],0) ?_ ?_ ?_
  .exact Qa (by simp [okS,okV,okC,okL,okH,okB,okE,Za,ja,za,Ja,wsA,ws]) (vh (by simp))
  .simp [Yb,val]
  .rintro ⟨o,c⟩ ⟨hoN,ho,hc1,hval⟩
   simp only at hoN ho hc1 hval
   have hlen:(o++List.replicate (N-o.length) 0).length=N:=by simp;omega
   simp only [go_sem,hw,ht,hlen]
   refine ⟨λhlt=>⟨by omega,hy,hlt,hlt,by omega,by omega,?_⟩,λhge=>?_⟩
   .have g1:=vb hx o.length
    have g2:=vb hy o.length
    rw [Nat.mod_eq_of_lt (show x.getD o.length 0<18446744073709551616 by omega)]
    obtain ⟨s1,s2⟩:=uap g1 g2 hc1
    generalize sub64 (sub64 (x.getD o.length 0) (y.getD o.length 0)) c=s at s1 s2
    refine ⟨(o++[s % 4294967296],s / 9223372036854775808),Qa (by simp [okS,okV,okC,okL,okH,okB,okE,Za,ja,za,Ja,wsA,ws]) (vh ?_),⟨by simp;omega,wd.2 ⟨ho,yb.2 ⟨Nat.mod_lt _ (by omega),Yb⟩⟩,s2,?_⟩,by simp;omega⟩
    .rw [show N-o.length=N-(o.length+1)+1 by omega,wab];simp
    .simp only [List.length_append,List.length_cons,List.length_nil,Nat.zero_add,Vb,Wb,kh,yl,Nat.mul_zero,Nat.add_zero,Nat.pow_succ]
     exact XE hval s1
   .have e:o.length=N:=by omega
    have hv:=qE ho hx (by omega) hle hval
    simp only [e,Nat.sub_self,List.replicate_zero,List.append_nil]
    refine ⟨ho,by omega,?_⟩
    rw [hv];exact hK
theorem xQ (hΓ:Holds P Γ) {f:Nat} (hc:check P f=some (41,uk.strip,[.tmp 4])):Sound P f (.dat false ug):=by
 refine va hc Q0 hΓ (λargs K hcl hfi hG=>?_)
 match args,hG with
 | [a,b],hG=>
  obtain ⟨x,rfl,hx,y,rfl,hy,hzx,hzy,hK⟩:=hG
  refine ⟨by simp,?_⟩
  simp only [go_sem,uk]
  intro h1 h2
  refine ⟨λhl _=>⟨by omega,?_⟩,λhne _ _=>⟨λhlt=>?_,λhge=>?_⟩⟩
  rotate_left
  .rw [xP (xF hx hzy hlt)]at hK;exact hK
  .rw [yaf (xF hy hzx (by omega))]at hK;exact hK
  refine ka (λn:Nat=>⟨mkV [(0,wsA x),(1,wsA y),(5,.one (.lit (.int .i64 ((n:Int)-1))))],mkH []⟩) (λn=>n<=x.length/\x.drop n=y.drop n) id x.length ?_ ?_ ?_
  .exact Qa (by simp [okS,okV,okC,okL,okH,okB,okE,Za,ja,za,Ja,wsA,ws]) trivial
  .simp [hl]
  .rintro n ⟨hn,hd⟩
   simp only [go_sem]
   refine ⟨λh=>⟨by omega,by omega,by omega,by omega,λhe=>⟨by omega,n-1,Qa (by simp [okS,okV,okC,okL,okH,okB,okE,Za,ja,za,Ja,wsA,ws];omega) trivial,⟨by omega,?_⟩,by simp only [id];omega⟩,λhne=>?_⟩,λh=>?_⟩
   .rw [show ((n:Int)-1).toNat=n-1 by omega]at he
    rw [List.getD_eq_getElem?_getD,List.getD_eq_getElem?_getD,List.getElem?_eq_getElem (by omega),List.getElem?_eq_getElem (by omega)]at he
    have e1:=List.getElem_cons_drop (as:=x) (i:=n-1) (by omega)
    have e2:=List.getElem_cons_drop (as:=y) (i:=n-1) (by omega)
    rw [show n-1+1=n by omega]at e1 e2
    rw [<-e1,<-e2,hd]
    simp only [Option.getD_some]at he
    rw [he]
   .rw [show ((n:Int)-1).toNat=n-1 by omega]at hne ⊢
    refine ⟨by omega,by omega,by omega,by omega,λhlt=>?_,λhge=>?_⟩
    .rw [xP (Qa9 (i:=n-1) hx hl (by omega) (by rw [show n-1+1=n by omega];exact hd) hlt)]at hK;exact hK
    .rw [yaf (Qa9 (i:=n-1) hy hl.symm (by omega) (by rw [show n-1+1=n by omega];exact hd.symm) (by omega))]at hK;exact hK
   .have:n=0:=by omega
    subst this
    simp only [List.drop_zero]at hd
    rw [hd,ZaF]at hK;exact hK
theorem Qae (hΓ:Holds P Γ) {f ft:Nat} (ht:Γ ft=.dat false uq) (hc:check P f=some (43,(vn ft).strip,[.tmp 4,.tmp 5])):Sound P f (.dat false wt):=by
 refine va hc uay hΓ (λargs K hcl hfi hG=>?_)
 match args,hG with
 | [a,b],hG=>
  obtain ⟨x,rfl,hx,hG⟩:=hG
  obtain ⟨k,m,rfl,rfl,hm,hmB,hxl,hK⟩:=Ua hG
  obtain ⟨m,rfl⟩:∃n:Nat,m=n:=⟨m.toNat,by omega⟩
  simp only [Int.toNat_natCast]at hK
  refine ⟨by simp,?_⟩
  simp only [go_sem,vn,ht]
  intro h1
  refine ⟨hxl,λ_=>⟨by omega,?_⟩⟩
  refine ka (λp:List Nat×Nat=>⟨mkV [(0,wsA x),(1,.one (.lit (.int .u32 m))),(6,.one (.own 11 1 1 0 x.length)),(7,.one (.lit (.int .u64 p.2))),(8,.one (.lit (.int .i64 ((x.length:Int)-p.1.length-1))))],mkH [(11,⟨1,some ⟨(List.replicate (x.length-p.1.length) 0++p.1).map wc,1,true⟩⟩)]⟩)
   (λp=>p.1.length<=x.length/\WL p.1/\p.2<m/\val p.1*m+p.2=val (x.drop (x.length-p.1.length))) (λp=>x.length-p.1.length) ([],0) ?_ ?_ ?_
  .exact Qa (by simp [okS,okV,okC,okL,okH,okB,okE,Za,ja,za,Ja,wsA,ws]) (vh (by simp))
  .simp [Yb,val];omega
  .rintro ⟨q,r⟩ ⟨hq,hqw,hr,hval⟩
   simp only at hq hqw hr hval
   have hlen:(List.replicate (x.length-q.length) 0++q).length=x.length:=by simp;omega
   simp only [go_sem,ht,hlen]
   refine ⟨λh=>?_,λh=>?_⟩
   .obtain ⟨n,hn⟩:∃n,n=x.length-q.length:=⟨_,rfl⟩
    have hn0:0<n:=by omega
    have hi:((x.length:Int)-q.length-1).toNat=n-1:=by omega
    have g1:=vb hx (n-1)
    have hd:=uH x hn0 (by omega)
    obtain ⟨s1,s2⟩:=ua4 (by omega) hr g1
    have s3:=zaN (B:=4294967296) (a:=x.getD (n-1) 0) (by omega) (hn▸hval)
    have e1:r*4294967296 % 18446744073709551616=r*4294967296:=by omega
    have e2:x.getD (n-1) 0 % 18446744073709551616=x.getD (n-1) 0:=by omega
    have e3:m % 18446744073709551616=m:=by omega
    rw [hi,<-hn,e1,e2,e3,or32 _ _ g1]
    generalize hs:r*4294967296+x.getD (n-1) 0=s at s1 s2 s3
    rw [Nat.mod_eq_of_lt (show s / m<18446744073709551616 by omega),Nat.mod_eq_of_lt s1]
    have hm0:s % m<m:=Nat.mod_lt _ (by omega)
    refine ⟨⟨rfl,by omega⟩,by omega,by omega,⟨rfl,by omega,by omega⟩,by omega,⟨by omega,by omega⟩,by omega,by omega,by omega,(s / m::q,s % m),Qa (by simp [okS,okV,okC,okL,okH,okB,okE,Za,ja,za,Ja,wsA,ws];omega) (vh ?_),⟨by simp;omega,yb.2 ⟨s1,hqw⟩,hm0,?_⟩,by simp;omega⟩
    .simp only [List.length_cons]
     rw [Zr q _ hn0,show x.length-(q.length+1)=n-1 by omega]
    .rw [kh,List.length_cons,show x.length-(q.length+1)=n-1 by omega,hd];exact s3
   .have e:x.length-q.length=0:=by omega
    simp only [e,List.replicate_zero,List.nil_append,List.drop_zero]at hval ⊢
    have h1:=Nat.div_mod_unique (show 0<m by omega) (a:=val x) (c:=r) (d:=val q)
    obtain ⟨h2,h3⟩:=h1.2 ⟨by rw [<-hval,Nat.mul_comm m,Nat.add_comm],hr⟩
    rw [h2,h3]at hK
    refine ⟨hqw,by omega,?_⟩
    rw [Nat.mod_eq_of_lt (by omega)];exact hK
end Go.Abs
end
