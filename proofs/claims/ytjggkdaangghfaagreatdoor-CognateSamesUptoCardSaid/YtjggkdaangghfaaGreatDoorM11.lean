/-
  Parts of the proof, merged: CoupL, CoupR, CogP, CogA, CogB, CogR, CogC, CogT, CogD, CogF, GridP, GridQ, GridR, GridA.
-/
import Derived.Test.YtjggkdaangghfaaGreatDoorM10
set_option linter.unusedVariables false
set_option linter.unusedSimpArgs false
set_option maxRecDepth 100000
section
namespace Go.Num
open Go.Abs
def riC(c:Cp)(p:Arc):Nat:=if wV (cpv c) (av p)≠0 then 21 else if wM (cpv c) (av p)=0 then 15 else 0
def reQ(c:CpR):V2:=subQ (1,0) (cW c)
theorem ybd(c:CpR)(p:V2):timesQ (subQ p c.1) (barQ (cW c))=wAl c p:=by
 unfold timesQ wAl timQ barQ cW subQ;exact Prod.ext (by simp only) (by simp only;grind)
theorem Wbd(c:CpR)(p:V2):timesQ (subQ p c.2.1) (barQ (reQ c))=wBe c p:=by
 unfold timesQ wBe timQ barQ reQ cW subQ cRe;exact Prod.ext (by simp only;grind) (by simp only;grind)
theorem e_at(c:CpR)(p:V2):sqQ (subQ p c.1)+sqQ (cW c)*c.2.2.2.1-c.2.2.1=wE c p:=by unfold wE cFi cW;grind
theorem f_at(c:CpR)(p:V2):c.2.2.2.2.1-(sqQ (subQ p c.2.1)+sqQ (reQ c)*c.2.2.2.1)=wF c p:=by
 unfold wF cSe reQ cW sqQ subQ cRe;simp only;grind
theorem cl_w{c:Cp}{b:Nat}(h:cl c<=b):al c.2.2.2.2.2<=b:=by
 unfold cl at h;simp only [Nat.max_le]at h;exact Nat.max_le.2 ⟨h.2.2.2.2.2.1,h.2.2.2.2.2.2⟩
theorem qbK{c:Cp}(h:cchk c=0):vldR c.2.2.1=true/\vldR c.2.2.2.1=true/\vldR c.2.2.2.2.1=true/\vldR c.2.2.2.2.2.1=true/\vldR c.2.2.2.2.2.2=true:=by
 obtain⟨_,_,h5,_,_⟩:=Zbl h;simpa [cps5] using h5
end Go.Num
namespace Go.Abs
open Go.Num
variable {P:Program} {Γ:Nat->Spec}
def ZE(l:List AV)(K:AV->Prop):Prop:=
 match l with
 | [c]=>onCp (λc=>K (aA (c.2.2.2.2.2.1,c.2.2.2.2.2.2))) c
 | _=>False
theorem Ybm(c:AV)(K:AV->Prop):ZE [c] K=(onCp (λc=>K (aA (c.2.2.2.2.2.1,c.2.2.2.2.2.2))) c):=propext Iff.rfl
@[congr] theorem kb3 {K:AV->Prop} {l l' : List AV} (h:l=l'):ZE l K=ZE l' K:=by subst h;rfl
attribute [go_sem,go_sem ↓] Ybm
theorem Uba:Good ZE:=Wa λas=>by
 unfold ZE;split
 .exact(Ym λ_=>(.ret _))
 .exact .of λK hk=>hk.elim
def qG(l:List AV)(K:AV->Prop):Prop:=
 match l with
 | [c]=>onCp (λc=>cl c<=100000000/\K (pQ (reQ (cpv c)))) c
 | _=>False
theorem UaT(c:AV)(K:AV->Prop):qG [c] K=(onCp (λc=>cl c<=100000000/\K (pQ (reQ (cpv c)))) c):=propext Iff.rfl
@[congr] theorem WbY {K:AV->Prop} {l l' : List AV} (h:l=l'):qG l K=qG l' K:=by subst h;rfl
attribute [go_sem,go_sem ↓] UaT
theorem Xa1:Good qG:=Wa λas=>by
 unfold qG;split
 .exact(Ym λ_=>(.and λ_=>(.ret _)))
 .exact .of λK hk=>hk.elim
def xa3(l:List AV)(K:AV->Prop):Prop:=
 match l with
 | [c,p]=>onCp (λc=>onA (λp=>cl c<=1000/\al p<=1000/\cchk c=0/\K (.tup [pQ (wN (cpv c) (av p)),rQ (wM (cpv c) (av p))])) p) c
 | _=>False
theorem uaQ(c p:AV)(K:AV->Prop):xa3 [c,p] K=(onCp (λc=>onA (λp=>cl c<=1000/\al p<=1000/\cchk c=0/\K (.tup [pQ (wN (cpv c) (av p)),rQ (wM (cpv c) (av p))])) p) c):=propext Iff.rfl
@[congr] theorem WbS {K:AV->Prop} {l l' : List AV} (h:l=l'):xa3 l K=xa3 l' K:=by subst h;rfl
attribute [go_sem,go_sem ↓] uaQ
def XaT(l:List AV)(K:AV->Prop):Prop:=
 match l with
 | [c,p]=>onCp (λc=>onA (λp=>cl c<=1000/\al p<=1000/\cchk c=0/\K (rQ (wV (cpv c) (av p)))) p) c
 | _=>False
theorem zaT(c p:AV)(K:AV->Prop):XaT [c,p] K=(onCp (λc=>onA (λp=>cl c<=1000/\al p<=1000/\cchk c=0/\K (rQ (wV (cpv c) (av p)))) p) c):=propext Iff.rfl
@[congr] theorem ZbZ {K:AV->Prop} {l l' : List AV} (h:l=l'):XaT l K=XaT l' K:=by subst h;rfl
attribute [go_sem,go_sem ↓] zaT
def xaO(l:List AV)(K:AV->Prop):Prop:=
 match l with
 | [c,p]=>onCp (λc=>onA (λp=>cl c<=1000/\al p<=1000/\cchk c=0/\K (.tup [pQ (if riC c p=0 then endA (cpv c) (av p) (zL (cpv c) (av p)) else (0,0)),pQ (if riC c p=0 then endB (cpv c) (av p) (zL (cpv c) (av p)) else (0,0)),.one (.lit (.int .i64 (riC c p:Nat)))])) p) c
 | _=>False
theorem zaU(c p:AV)(K:AV->Prop):xaO [c,p] K=(onCp (λc=>onA (λp=>cl c<=1000/\al p<=1000/\cchk c=0/\K (.tup [pQ (if riC c p=0 then endA (cpv c) (av p) (zL (cpv c) (av p)) else (0,0)),pQ (if riC c p=0 then endB (cpv c) (av p) (zL (cpv c) (av p)) else (0,0)),.one (.lit (.int .i64 (riC c p:Nat)))])) p) c):=propext Iff.rfl
@[congr] theorem wbT {K:AV->Prop} {l l' : List AV} (h:l=l'):xaO l K=xaO l' K:=by subst h;rfl
attribute [go_sem,go_sem ↓] zaU
def kaX(l:List AV)(K:AV->Prop):Prop:=
 match l with
 | [c,a,b]=>onCp (λc=>onA (λa=>onA (λb=>cl c<=10000/\al a<=10000/\al b<=10000/\K (pQ (ptQ (cpv c) (av a) (av b)))) b) a) c
 | _=>False
theorem qa6(c a b:AV)(K:AV->Prop):kaX [c,a,b] K=(onCp (λc=>onA (λa=>onA (λb=>cl c<=10000/\al a<=10000/\al b<=10000/\K (pQ (ptQ (cpv c) (av a) (av b)))) b) a) c):=propext Iff.rfl
@[congr] theorem Xb1 {K:AV->Prop} {l l' : List AV} (h:l=l'):kaX l K=kaX l' K:=by subst h;rfl
attribute [go_sem,go_sem ↓] qa6
def vaR(l:List AV)(K:AV->Prop):Prop:=
 match l with
 | [c,a,b]=>onCp (λc=>onA (λa=>onA (λb=>cl c<=10000/\al a<=10000/\al b<=10000/\K (.one (.lit (.bool (decide (hldQ (cpv c) (av a) (av b))))))) b) a) c
 | _=>False
theorem waP(c a b:AV)(K:AV->Prop):vaR [c,a,b] K=(onCp (λc=>onA (λa=>onA (λb=>cl c<=10000/\al a<=10000/\al b<=10000/\K (.one (.lit (.bool (decide (hldQ (cpv c) (av a) (av b))))))) b) a) c):=propext Iff.rfl
@[congr] theorem xbX {K:AV->Prop} {l l' : List AV} (h:l=l'):vaR l K=vaR l' K:=by subst h;rfl
attribute [go_sem,go_sem ↓] waP
def Qi:AC:=(.seq (.ops false [.u 1 (.box 27 (.t 0)),.u 2 (.alloc [(.lit (.bool false)),.emp,.emp,(.lit (.bool false)),.emp,.emp])])
 (.fg [1,2] (.seq (.ops false [.u 3 (.fa 21 (.t 1)),.u 4 (.ld none 3 true (.t 3)),.u 5 (.fa 24 (.t 1)),.u 6 (.ld none 3 true (.t 5)),.u 7 (.build [.x 3 (.t 4),.x 3 (.t 6)]),.n (.st none 6 (.t 2) (.t 7))])
 .ret)))
def ui(f0 f1 f2:Nat):AC:=(.seq (.ops false [.u 1 (.box 27 (.t 0)),.u 2 (.alloc [(.lit (.bool false)),.emp,.emp,(.lit (.bool false)),.emp,.emp])])
 (.fg [1,2] (.seq (.ops true [.u 3 (.call f0 [(.i 1)]),.u 4 (.build [.x 3 (.t 3),.z [(.lit (.bool false)),.emp,.emp]]),.u 5 (.ld none 27 true (.t 1)),.u 6 (.call f1 [(.t 5)]),.u 7 (.call f2 [(.t 4),(.t 6)]),.n (.st none 6 (.t 2) (.t 7))])
 .ret)))
theorem vad(hΓ:Holds P Γ){f:Nat}(hc:check P f=some (8,Qi.strip,[.cell 2 6 true])):Sound P f (.dat false ZE):=by
 refine ka hc Uba hΓ (λargs K hcl hfi hG=>?_);match args,hG with
 | [a],hG=>
  obtain⟨c,rfl,hw,hK⟩:=hG;refine⟨by simp,?_⟩
  simp only [go_sem,Qi,cpA,cpC];exact hK
theorem ZaF(hΓ:Holds P Γ){f fo fw fs:Nat}(ho:Γ fo=.dat false Wx)(hw' : Γ fw=.dat false ZE)(hs:Γ fs=.dat false ko)(hc:check P f=some (8,(ui fo fw fs).strip,[.cell 2 6 true])):Sound P f (.dat false qG):=by
 refine ka hc Xa1 hΓ (λargs K hcl hfi hG=>?_);match args,hG with
 | [a],hG=>
  obtain⟨c,rfl,hw,hl,hK⟩:=hG;refine⟨by simp,?_⟩
  have i1:((1:Int):Rat)=1:=rfl;have w4:=hw.2.2.2.2.2.1;have w5:=hw.2.2.2.2.2.2;have b1:=rz_1;have l6:al c.2.2.2.2.2<=100000000:=Nat.le_trans (cl_w hl) (by decide)
  have wW:WLA c.2.2.2.2.2:=⟨w4,w5⟩;have wO:WLA (rcan 1,rcan 0):=qB (1,0);have lO:al (rcan 1,rcan 0)<=100000000:=Nat.max_le.2 ⟨Nat.le_trans b1 (by decide),Nat.le_trans (Nat.le_of_eq rz_0) (by decide)⟩
  have aO:av (rcan 1,rcan 0)=(1,0):=qP (1,0);have aW:av c.2.2.2.2.2=cW (cpv c):=rfl;simp only [go_sem,ui,ho,hw',hs,cpA,cpC,i1,Zw,vd,aO,aW];repeat first|refine ja (by with_reducible assumption) ?_|refine ja (Nat.le_trans (by with_reducible assumption) (by decide)) ?_|refine ja (by decide) ?_
  exact hK
end Go.Abs
end
section
namespace Go.Num
open Go.Abs
end Go.Num
namespace Go.Abs
open Go.Num
variable {P:Program} {Γ:Nat->Spec}
theorem ZbL(p:Ps):poA p=.agg (pC p):=eq_of_heq (HEq.refl _)
theorem ua7(p:Ps):(pC p).take 10=pC p:=List.take_of_length_le (Nat.le_of_eq (ja4 p))
theorem zaP(p:Ps):(pC p).drop 0=pC p:=eq_of_heq (HEq.refl _)
theorem qbi(k:List Ps->Prop)(p:Ps):onPs k (.one (.slice [pC p]))=((∀x∈[p],WLP x)/\k [p]):=xaW k [p]
attribute [go_sem,go_sem ↓] ZbL ua7 zaP qbi
def wa9(l:List AV)(K:AV->Prop):Prop:=
 match l with
 | [c,g]=>onCp (λc=>onPo (λg=>cl c<=1000/\pl g<=1000/\cchk c=0/\K (cqR (movQ38 (cpv c) (pv g)))) g) c
 | _=>False
theorem waT(c g:AV)(K:AV->Prop):wa9 [c,g] K=(onCp (λc=>onPo (λg=>cl c<=1000/\pl g<=1000/\cchk c=0/\K (cqR (movQ38 (cpv c) (pv g)))) g) c):=propext Iff.rfl
@[congr] theorem xbS {K:AV->Prop} {l l' : List AV} (h:l=l'):wa9 l K=wa9 l' K:=by subst h;rfl
attribute [go_sem,go_sem ↓] waT
def Xa3(l:List AV)(K:AV->Prop):Prop:=
 match l with
 | [c,k]=>onCp (λc=>onR (λk=>cl c<=1000/\rl k<=1000/\cchk c=0/\K (cqR (sclQ38 (cpv c) (rv k)))) k) c
 | _=>False
theorem WaX(c k:AV)(K:AV->Prop):Xa3 [c,k] K=(onCp (λc=>onR (λk=>cl c<=1000/\rl k<=1000/\cchk c=0/\K (cqR (sclQ38 (cpv c) (rv k)))) k) c):=propext Iff.rfl
@[congr] theorem kbV {K:AV->Prop} {l l' : List AV} (h:l=l'):Xa3 l K=Xa3 l' K:=by subst h;rfl
attribute [go_sem,go_sem ↓] WaX
end Go.Abs
end
section
namespace Go.Num
def rsQ(c:CpR):V2:=subQ (1,0) (cW c)
def foQ(c:CpR):V2:=addQ c.1 (timesQ (cW c) (subQ c.2.1 c.1))
def ovQ(w:V2):V2:=(w.1 / sqQ w,-w.2 / sqQ w)
def simQ(c:CpR)(o k:V2)(a b d:Rat):CpR:=(o,foQ c,sqQ k*a,sqQ k*b,sqQ k*d,(ovQ k).1,(ovQ k).2)
def fiQ(c:CpR):CpR:=simQ c c.1 (cW c) c.2.2.2.1 c.2.2.1 c.2.2.2.2.1
def seQ(c:CpR):CpR:=simQ c c.2.1 (rsQ c) c.2.2.2.1 c.2.2.2.2.1 c.2.2.1
def swQ(c:CpR):CpR:=(c.2.1,c.1,c.2.2.2.2.1,c.2.2.2.1,c.2.2.1,(rsQ c).1,(rsQ c).2)
theorem ov_j{w:V2}(h:sqQ w≠0):∃j,sqQ w*j=1/\ovQ w=(j*w.1,j * -w.2):=by
 refine⟨(sqQ w)⁻¹,Rat.mul_inv_cancel _ h,?_⟩;unfold ovQ;rw [Rat.div_def,Rat.div_def,Rat.mul_comm,Rat.mul_comm (-w.2)]
theorem rob1(k j u v:Rat)(hk:k=u*u+v*v)(hj:k*j=1)(z1 z2 s1 s2:Rat) :
  k*(z1*(j*u)-z2*(-(j * -v)))=z1*u-z2*v/\k*(z2*(j*u)+z1*(-(j * -v)))=z2*u+z1*v/\
  k*(s1*(1-j*u)-s2*(j * -v))=s1*(k-u)+s2*v/\k*(s2*(1-j*u)+s1*(j * -v))=s2*(k-u)-s1*v:=by
 have h1:∀x,k*(j*x)=x:=λx=>by grind
 refine⟨?_,?_,?_,?_⟩
 .have:=h1 (z1*u);have:=h1 (z2*v);grind
 .have:=h1 (z2*u);have:=h1 (z1*v);grind
 .have:=h1 (s1*u);have:=h1 (s2*v);grind
 .have:=h1 (s2*u);have:=h1 (s1*v);grind
theorem rob2(z1 z2 d1 d2 u v A B C:Rat) :
  let k:=u*u+v*v
  let G:=z1*z1+z2*z2
  let h:=k*B-A
  let s1:=z1-(u*d1-v*d2)
  let s2:=z2-(u*d2+v*d1)
  let Q1:=z1*u+z2*v
  let Q2:=z2*u-z1*v
  let P1:=(z1-d1)*(1-u)-(z2-d2)*v
  let P2:=(z2-d2)*(1-u)+(z1-d1)*v
  let r:=(1-u)*(1-u)+v*v
  let F:=C-r*B-((z1-d1)*(z1-d1)+(z2-d2)*(z2-d2))
  let F':=k*C-(s1*s1+s2*s2)-r*A
  let R:=P1*Q1+P2*Q2
  (G-h)*(s1*(1-u)-s2*v)+F' * z1=(G-h)*(u*P1-v*P2)+(k*F-2*R)*z1/\
  (G-h)*(s2*(1-u)+s1*v)+F' * z2=(G-h)*(u*P2+v*P1)+(k*F-2*R)*z2:=by
 intro k G h s1 s2 Q1 Q2 P1 P2 r F F' R;constructor <;> grind
theorem rob3(z1 z2 u v h F P1 P2:Rat) :
  let k:=u*u+v*v
  let G:=z1*z1+z2*z2
  let Q1:=z1*u+z2*v
  let Q2:=z2*u-z1*v
  let R:=P1*Q1+P2*Q2
  let M:=Q1*P2-Q2*P1
  let Y1:=(G-h)*(u*P1-v*P2)+(k*F-2*R)*z1
  let Y2:=(G-h)*(u*P2+v*P1)+(k*F-2*R)*z2
  let X1:=(G+h)*P1-F*Q1
  let X2:=(G+h)*P2-F*Q2
  Y1*Y1+Y2*Y2=k*(X1*X1+X2*X2)-4*(M*M)*h:=by
 intro k G Q1 Q2 R M Y1 Y2 X1 X2;have p0:k*G=Q1*Q1+Q2*Q2:=by grind
 have p1:(u*P1-v*P2)*z1+(u*P2+v*P1)*z2=R:=by grind
 have p2:(u*P1-v*P2)*(u*P1-v*P2)+(u*P2+v*P1)*(u*P2+v*P1)=k*(P1*P1+P2*P2):=by grind
 have p3:M*M=(P1*P1+P2*P2)*(k*G)-R*R:=by rw [p0];grind
 have y:Y1*Y1+Y2*Y2=(G-h)*(G-h)*(k*(P1*P1+P2*P2))+(k*F-2*R)*(k*F-2*R)*G+2*(G-h)*(k*F-2*R)*R:=by
  rw [<-p2,<-p1];clear_value k R;grind
 have x:X1*X1+X2*X2=(G+h)*(G+h)*(P1*P1+P2*P2)+F*F*(k*G)-2*(G+h)*F*R:=by
  rw [p0];clear_value k G;grind
 rw [y,x,p3]
 clear_value k G R
 grind
theorem rob4{k j u v:Rat}(A:Rat)(hk:u*u+v*v=k)(hj:k*j=1):(j*u*(j*u)+j * -v*(j * -v))*(k*A)=A/\
  ((1-j*u)*(1-j*u)+j * -v*(j * -v))*(k*A)=((1-u)*(1-u)+v*v)*A:=by
 constructor
 .have:(j*u*(j*u)+j * -v*(j * -v))*(k*A)=j*j*(u*u+v*v)*(k*A):=by grind
  rw [this,hk];have:j*j*k*(k*A)=k*j*(k*j)*A:=by grind
  rw [this,hj];grind
 .have:((1-j*u)*(1-j*u)+j * -v*(j * -v))*(k*A)=k*A-2*(k*j)*u*A+k*j*j*(u*u+v*v)*A:=by grind
  rw [this,hk];have:k*A-2*(k*j)*u*A+k*j*j*k*A=k*A-2*(k*j)*u*A+k*j*(k*j)*A:=by grind
  rw [this,hj,<-hk];grind
theorem rob5{k u v z1 z2 d1 d2 s1 s2:Rat}(hk:u*u+v*v=k)(hs1:z1-(u*d1-v*d2)=s1)(hs2:z2-(u*d2+v*d1)=s2) :
  (z1*u-z2*v)*(s2*(k-u)-s1*v)-(z2*u+z1*v)*(s1*(k-u)+s2*v) = -(k*((z1*u+z2*v)*((z2-d2)*(1-u)+(z1-d1)*v)-(z2*u-z1*v)*((z1-d1)*(1-u)-(z2-d2)*v))):=by
 rw [<-hs1,<-hs2,<-hk];grind
theorem VbB(a b c:Rat):a-b-c=a-c-b:=by grind
theorem XbA(a b c:Rat):a+(b-c)=a-(c-b):=by grind
theorem kcan{k x y:Rat}(hk:k≠0)(h:k*x=k*y):x=y:=by
 have h1:k*(x-y)=0:=by grind
 have:=(Rat.mul_eq_zero.1 h1).resolve_left hk;grind
theorem rob6{k u v A B e f E F a1 a2 b1 b2 z1 z2 s1 s2 P1 P2 Q1 Q2:Rat}(hk0:k≠0)(hk:u*u+v*v=k)
  (r1:k*a1=z1*u-z2*v) (r2:k*a2=z2*u+z1*v) (r3:k*b1=s1*(k-u)+s2*v) (r4:k*b2=s2*(k-u)-s1*v)
  (eM:(z1*u-z2*v)*(s2*(k-u)-s1*v)-(z2*u+z1*v)*(s1*(k-u)+s2*v) = -(k*(Q1*P2-Q2*P1)))
  (y3:(e*(s1*(1-u)-s2*v)+f*z1)*(e*(s1*(1-u)-s2*v)+f*z1)+(e*(s2*(1-u)+s1*v)+f*z2)*(e*(s2*(1-u)+s1*v)+f*z2) =
   k*((E*P1-F*Q1)*(E*P1-F*Q1)+(E*P2-F*Q2)*(E*P2-F*Q2))-4*((Q1*P2-Q2*P1)*(Q1*P2-Q2*P1))*(k*B-A)) :
  (e*b2-f*a2)*(e*b2-f*a2)+(f*a1-e*b1)*(f*a1-e*b1)-4*(k*A)*((a1*b2-a2*b1)*(a1*b2-a2*b1)) =
  (E*P2-F*Q2)*(E*P2-F*Q2)+(F*Q1-E*P1)*(F*Q1-E*P1)-4*B*((Q1*P2-Q2*P1)*(Q1*P2-Q2*P1)):=by
 have hm:k*(a1*b2-a2*b1) = -(Q1*P2-Q2*P1):=by
  refine kcan hk0 ?_;have:k*(k*(a1*b2-a2*b1))=(k*a1)*(k*b2)-(k*a2)*(k*b1):=by clear y3 eM r1 r2 r3 r4;grind
  rw [this,r1,r2,r3,r4,eM];clear y3 eM r1 r2 r3 r4 this;grind
 clear eM;have n1:k*(e*b2-f*a2) = -(u*(e*(s2*(1-u)+s1*v)+f*z2)+v*(e*(s1*(1-u)-s2*v)+f*z1)):=by
  have:k*(e*b2-f*a2)=e*(k*b2)-f*(k*a2):=by clear y3 hm r1 r2 r3 r4;grind
  rw [this,r2,r4,<-hk];clear y3 hm r1 r2 r3 r4 this;grind
 have n2:k*(f*a1-e*b1)=u*(e*(s1*(1-u)-s2*v)+f*z1)-v*(e*(s2*(1-u)+s1*v)+f*z2):=by
  have:k*(f*a1-e*b1)=f*(k*a1)-e*(k*b1):=by clear y3 hm n1 r1 r2 r3 r4;grind
  rw [this,r1,r3,<-hk];clear y3 hm n1 r1 r2 r3 r4 this;grind
 clear r1 r2 r3 r4;generalize e*(s1*(1-u)-s2*v)+f*z1=Y1 at *
 generalize e*(s2*(1-u)+s1*v)+f*z2=Y2 at *
 generalize e*b2-f*a2=N1 at *
 generalize f*a1-e*b1=N2 at *
 generalize a1*b2-a2*b1=m at *
 generalize Q1*P2-Q2*P1=M at *
 have hx:F*Q1-E*P1 = -(E*P1-F*Q1):=by clear y3 hm n1 n2;grind
 rw [hx];generalize E*P1-F*Q1=X1 at *
 generalize E*P2-F*Q2=X2 at *
 clear hx;have k1:k*k*(N1*N1+N2*N2)=k*(Y1*Y1+Y2*Y2):=by
  have:k*k*(N1*N1+N2*N2)=(k*N1)*(k*N1)+(k*N2)*(k*N2):=by clear y3 hm n1 n2;grind
  rw [this,n1,n2,<-hk];clear y3 hm n1 n2;grind
 have k2:k*k*(m*m)=M*M:=by
  have:k*k*(m*m)=(k*m)*(k*m):=by clear y3 hm n1 n2 k1;grind
  rw [this,hm];clear y3 hm n1 n2 k1;grind
 refine kcan hk0 (kcan hk0 ?_);have:k*(k*(N1*N1+N2*N2-4*(k*A)*(m*m)))=k*k*(N1*N1+N2*N2)-4*(k*A)*(k*k*(m*m)):=by clear y3 hm n1 n2 k1 k2;grind
 rw [this,k1,k2,y3];clear y3 hm n1 n2 k1 k2 this;grind
theorem wb1(c:CpR)(p:V2)(hk0:sqQ (cW c)≠0):wV (fiQ c) p=wV c p:=by
 obtain⟨j,hj,ho⟩:=ov_j hk0;obtain⟨⟨o1,o2⟩,⟨q1,q2⟩,A,B,C,u,v⟩:=c;obtain⟨x,y⟩:=p;have eW:cW ((o1,o2),(q1,q2),A,B,C,u,v)=(u,v):=rfl;rw [eW]at hk0 hj ho;have ek:sqQ (u,v)=u*u+v*v:=rfl;rw [ek]at hk0 hj;obtain⟨k,hk⟩:∃k,u*u+v*v=k:=⟨_,rfl⟩;rw [hk]at hk0 hj ek;have e0:fiQ ((o1,o2),(q1,q2),A,B,C,u,v)=((o1,o2),foQ ((o1,o2),(q1,q2),A,B,C,u,v),k*B,k*A,k*C,j*u,j * -v):=by
  unfold fiQ simQ;rw [eW,ho,ek]
 rw [e0];obtain⟨z1,hz1⟩:∃z,x-o1=z:=⟨_,rfl⟩;obtain⟨z2,hz2⟩:∃z,y-o2=z:=⟨_,rfl⟩;obtain⟨d1,hd1⟩:∃z,q1-o1=z:=⟨_,rfl⟩;obtain⟨d2,hd2⟩:∃z,q2-o2=z:=⟨_,rfl⟩;have ef:foQ ((o1,o2),(q1,q2),A,B,C,u,v)=(o1+(u*d1-v*d2),o2+(u*d2+v*d1)):=by
  unfold foQ addQ timesQ subQ cW;simp only;rw [hd1,hd2]
 rw [ef];have f1:x-(o1+(u*d1-v*d2))=z1-(u*d1-v*d2):=by rw [<-hz1];grind
 have f2:y-(o2+(u*d2+v*d1))=z2-(u*d2+v*d1):=by rw [<-hz2];grind
 have g1:x-q1=z1-d1:=by rw [<-hz1,<-hd1];grind
 have g2:y-q2=z2-d2:=by rw [<-hz2,<-hd2];grind
 unfold wV wN wM wE wF wAl wBe cFi cSe cRe timQ sqQ subQ;simp only [hz1,hz2,f1,f2,g1,g2];obtain⟨s1,hs1⟩:∃z,z1-(u*d1-v*d2)=z:=⟨_,rfl⟩;obtain⟨s2,hs2⟩:∃z,z2-(u*d2+v*d1)=z:=⟨_,rfl⟩;rw [hs1,hs2];obtain⟨r1,r2,r3,r4⟩:=rob1 k j u v hk.symm hj z1 z2 s1 s2;have y12:=rob2 z1 z2 d1 d2 u v A B C;simp only [hs1,hs2,hk]at y12;have y3:=rob3 z1 z2 u v (k*B-A) (C-((1-u)*(1-u)+v*v)*B-((z1-d1)*(z1-d1)+(z2-d2)*(z2-d2))) ((z1-d1)*(1-u)-(z2-d2)*v) ((z2-d2)*(1-u)+(z1-d1)*v);simp only [hk]at y3;obtain⟨eE,eF⟩:=rob4 A hk hj;have eQ1:z1*u-z2 * -v=z1*u+z2*v:=by rw [Rat.mul_neg,Rat.sub_eq_add_neg,Rat.neg_neg]
 have eQ2:z2*u+z1 * -v=z2*u-z1*v:=by rw [Rat.mul_neg,Rat.sub_eq_add_neg]
 have eM:=rob5 hk hs1 hs2;have hf' : k*C-((1-u)*(1-u)+v*v)*A-(s1*s1+s2*s2)=k*C-(s1*s1+s2*s2)-((1-u)*(1-u)+v*v)*A:=VbB _ _ _;have he' : z1*z1+z2*z2+(A-k*B)=z1*z1+z2*z2-(k*B-A):=XbA _ _ _;rw [eE,eF,eQ1,eQ2,hk,he',hf'];rw [<-y12.1,<-y12.2]at y3;exact rob6 hk0 hk r1 r2 r3 r4 eM y3
end Go.Num
end
section
namespace Go.Num
open Go.Abs
theorem qbo(a b:V2):zq (timesQ a b)<=2*zq a+2*zq b+6:=by
 have a1:=zq_1 a;have a2:=zq_2 a;have b1:=zq_1 b;have b2:=zq_2 b;have m1:=jc a.1 b.1;have m2:=jc a.2 b.2;have m3:=jc a.1 b.2;have m4:=jc a.2 b.1;have s1:=zw (a.1*b.1) (a.2*b.2);have s2:=JB (a.1*b.2) (a.2*b.1);exact Nat.max_le.2 ⟨by show rz (a.1*b.1-a.2*b.2)<=_;omega,by show rz (a.1*b.2+a.2*b.1)<=_;omega⟩
theorem XbU(a:V2):zq (ovQ a)<=5*zq a+8:=by
 have a1:=zq_1 a;have a2:=zq_2 a;have s:=jI a;have d1:=zbl a.1 (sqQ a);have d2:=zbl (-a.2) (sqQ a);rw [Vv]at d2;exact Nat.max_le.2 ⟨by show rz (a.1 / sqQ a)<=_;omega,by show rz (-a.2 / sqQ a)<=_;omega⟩
theorem ubS{c:CpR}{b:Nat}(h:CB' b c):zq (foQ c)<=7*b+12:=by
 obtain⟨h1,h2,h3,h4,h5,h6,h7⟩:=h;have w:zq (cW c)<=b:=Nat.max_le.2 ⟨h6,h7⟩;have s:=xQ c.2.1 c.1;have t:=qbo (cW c) (subQ c.2.1 c.1);have u:=jbN c.1 (timesQ (cW c) (subQ c.2.1 c.1));unfold foQ;omega
theorem qbD(a:V2):addQ a (0,0)=a:=by unfold addQ;exact Prod.ext (by simp only;grind) (by simp only;grind)
theorem ybM(a b c d:Rat):a*b+c*d=c*d+a*b:=Rat.add_comm _ _
end Go.Num
namespace Go.Abs
open Go.Num
variable {P:Program} {Γ:Nat->Spec}
def jG(l:List AV)(K:AV->Prop):Prop:=
 match l with
 | [a]=>onA (λp=>al p<=100000000/\K (pQ (av p))) a
 | _=>False
theorem kaY(a:AV)(K:AV->Prop):jG [a] K=(onA (λp=>al p<=100000000/\K (pQ (av p))) a):=propext Iff.rfl
@[congr] theorem jbV {K:AV->Prop} {l l' : List AV} (h:l=l'):jG l K=jG l' K:=by subst h;rfl
attribute [go_sem,go_sem ↓] kaY
theorem Wa1:Good jG:=Wa λas=>by
 unfold jG;split
 .exact(Jz λ_=>(.and λ_=>(.ret _)))
 .exact .of λK hk=>hk.elim
def uG(tE:Nat)(l:List AV)(K:AV->Prop):Prop:=
 match l with
 | [a]=>onA (λp=>al p<=100000000/\K (.tup [pQ (if sqQ (av p)=0 then (0,0) else ovQ (av p)),errV tE (if sqQ (av p)=0 then 8 else 0)])) a
 | _=>False
theorem VaN(tE:Nat)(a:AV)(K:AV->Prop):uG tE [a] K=(onA (λp=>al p<=100000000/\K (.tup [pQ (if sqQ (av p)=0 then (0,0) else ovQ (av p)),errV tE (if sqQ (av p)=0 then 8 else 0)])) a):=propext Iff.rfl
@[congr] theorem qbT (tE:Nat) {K:AV->Prop} {l l' : List AV} (h:l=l'):uG tE l K=uG tE l' K:=by subst h;rfl
attribute [go_sem,go_sem ↓] VaN
theorem jaV(tE:Nat):Good (uG tE):=Wa λas=>by
 unfold uG;split
 .exact(Jz λ_=>(.and λ_=>(.ret _)))
 .exact .of λK hk=>hk.elim
def uC(l:List AV)(K:AV->Prop):Prop:=
 match l with
 | [c]=>onCp (λc=>cl c<=1000000/\K (pQ (foQ (cpv c)))) c
 | _=>False
theorem za4(c:AV)(K:AV->Prop):uC [c] K=(onCp (λc=>cl c<=1000000/\K (pQ (foQ (cpv c)))) c):=propext Iff.rfl
@[congr] theorem wbV {K:AV->Prop} {l l' : List AV} (h:l=l'):uC l K=uC l' K:=by subst h;rfl
attribute [go_sem,go_sem ↓] za4
theorem wa5:Good uC:=Wa λas=>by
 unfold uC;split
 .exact(Ym λ_=>(.and λ_=>(.ret _)))
 .exact .of λK hk=>hk.elim
def Van(l:List AV)(K:AV->Prop):Prop:=
 match l with
 | [c]=>onCp (λc=>cl c<=100000000/\K (cpA (canC (cpv c)))) c
 | _=>False
theorem QaC(c:AV)(K:AV->Prop):Van [c] K=(onCp (λc=>cl c<=100000000/\K (cpA (canC (cpv c)))) c):=propext Iff.rfl
@[congr] theorem ZbQ {K:AV->Prop} {l l' : List AV} (h:l=l'):Van l K=Van l' K:=by subst h;rfl
attribute [go_sem,go_sem ↓] QaC
def xq(f0:Nat):AC:=(.seq (.ops false [.u 1 (.box 6 (.t 0)),.u 2 (.alloc [(.lit (.bool false)),.emp,.emp,(.lit (.bool false)),.emp,.emp])])
 (.fg [1,2] (.seq (.ops false [.u 3 (.ld none 6 true (.t 1)),.u 4 (.build [.z [(.lit (.bool false)),.emp,.emp,(.lit (.bool false)),.emp,.emp]]),.u 5 (.call f0 [(.t 3),(.t 4)]),.n (.st none 6 (.t 2) (.t 5))])
 .ret)))
def zr(f0 f1 f2:Nat):AC:=(.seq (.ops false [.u 2 (.box 6 (.t 0)),.u 3 (.box 6 (.t 1)),.u 4 (.alloc [(.lit (.bool false)),.emp,.emp,(.lit (.bool false)),.emp,.emp])])
 (.fg [2,3,4] (.seq (.ops true [.u 5 (.fa 0 (.t 2)),.u 6 (.ld none 3 true (.t 5)),.u 7 (.fa 0 (.t 3)),.u 8 (.ld none 3 true (.t 7)),.u 9 (.call f0 [(.t 6),(.t 8)]),.u 10 (.fa 3 (.t 2)),.u 11 (.ld none 3 true (.t 10)),.u 12 (.fa 3 (.t 3)),.u 13 (.ld none 3 true (.t 12)),.u 14 (.call f0 [(.t 11),(.t 13)]),.u 15 (.call f1 [(.t 9),(.t 14)]),.u 16 (.fa 3 (.t 2)),.u 17 (.ld none 3 true (.t 16)),.u 18 (.fa 0 (.t 3)),.u 19 (.ld none 3 true (.t 18)),.u 20 (.call f0 [(.t 17),(.t 19)]),.u 21 (.fa 0 (.t 2)),.u 22 (.ld none 3 true (.t 21)),.u 23 (.fa 3 (.t 3)),.u 24 (.ld none 3 true (.t 23)),.u 25 (.call f0 [(.t 22),(.t 24)]),.u 26 (.call f2 [(.t 20),(.t 25)]),.u 27 (.build [.x 3 (.t 15),.x 3 (.t 26)]),.n (.st none 6 (.t 4) (.t 27))])
 .ret)))
def Zi(f0 f1 f2:Nat):AC:=(.seq (.ops false [.u 1 (.box 6 (.t 0)),.u 2 (.alloc [(.lit (.bool false)),.emp,.emp,(.lit (.bool false)),.emp,.emp]),.m 3 (.c (.one (.lit .nilIface)))])
 (.fg [1,2] (.seq (.ops false [.u 8 (.ld none 6 true (.t 1)),.u 9 (.call f0 [(.t 8)]),.u 4 (.alloc [(.lit (.bool false)),.emp,.emp]),.n (.st none 3 (.t 4) (.t 9))])
 (.fg [1,2,4] (.seq (.ops false [.u 11 (.fa 0 (.t 1)),.u 12 (.ld none 3 true (.t 11)),.u 13 (.ld none 3 true (.t 4)),.u 14 (.call f1 [(.t 12),(.t 13)]),.m 10 (.t 14),.u 15 (.ext 0 (.t 10)),.u 16 (.ext 1 (.t 10)),.u 5 (.alloc [(.lit (.bool false)),.emp,.emp]),.n (.st none 3 (.t 5) (.t 15)),.m 6 (.t 16)])
 (.fg [1,2,4,5,6] (.seq (.seq (.ops false [.m 17 (.t 6),.u 18 (.binn .neq (.t 17) (.c (.one (.lit .nilIface))))])
 (.fg [1,2,4,5,6,18] (.cond (.t 18) (.seq (.ops false [.u 19 (.build [.z [(.lit (.bool false)),.emp,.emp,(.lit (.bool false)),.emp,.emp]]),.m 20 (.t 6),.n (.st none 6 (.t 2) (.t 19)),.m 3 (.t 20)])
 .ret) .skip)))
 (.fg [1,2,4,5] (.seq (.ops true [.u 22 (.fa 3 (.t 1)),.u 23 (.ld none 3 true (.t 22)),.u 24 (.call f2 [(.t 23)]),.u 25 (.ld none 3 true (.t 4)),.u 26 (.call f1 [(.t 24),(.t 25)]),.m 21 (.t 26),.u 27 (.ext 0 (.t 21)),.u 28 (.ext 1 (.t 21)),.u 7 (.alloc [(.lit (.bool false)),.emp,.emp]),.n (.st none 3 (.t 7) (.t 27)),.m 6 (.t 28)])
 (.fg [2,5,6,7] (.seq (.ops false [.u 29 (.ld none 3 true (.t 5)),.u 30 (.ld none 3 true (.t 7)),.u 31 (.build [.x 3 (.t 29),.x 3 (.t 30)]),.m 32 (.t 6),.n (.st none 6 (.t 2) (.t 31)),.m 3 (.t 32)])
 .ret)))))))))))
def uq(f0 f1 f2 f3:Nat):AC:=(.seq (.ops false [.u 1 (.box 27 (.t 0)),.u 2 (.alloc [(.lit (.bool false)),.emp,.emp,(.lit (.bool false)),.emp,.emp])])
 (.fg [1,2] (.seq (.ops true [.u 3 (.fa 0 (.t 1)),.u 4 (.ld none 6 true (.t 3)),.u 5 (.ld none 27 true (.t 1)),.u 6 (.call f0 [(.t 5)]),.u 7 (.fa 6 (.t 1)),.u 8 (.ld none 6 true (.t 7)),.u 9 (.fa 0 (.t 1)),.u 10 (.ld none 6 true (.t 9)),.u 11 (.call f1 [(.t 8),(.t 10)]),.u 12 (.call f2 [(.t 6),(.t 11)]),.u 13 (.call f3 [(.t 4),(.t 12)]),.n (.st none 6 (.t 2) (.t 13))])
 .ret)))
theorem VaI(hΓ:Holds P Γ){f fa:Nat}(ha:Γ fa=.dat false zx)(hc:check P f=some (6,(xq fa).strip,[.cell 2 6 true])):Sound P f (.dat false jG):=by
 refine ka hc Wa1 hΓ (λargs K hcl hfi hG=>?_);match args,hG with
 | [a],hG=>
  obtain⟨p,rfl,wp,hl,hK⟩:=hG;refine⟨by simp,?_⟩
  have zz:WLA (rcan 0,rcan 0):=qB (0,0);have z0:al (rcan 0,rcan 0)<=100000000:=Nat.max_le.2 ⟨Nat.le_trans (Nat.le_of_eq rz_0) (by decide),Nat.le_trans (Nat.le_of_eq rz_0) (by decide)⟩
  have e0:av (rcan 0,rcan 0)=(0,0):=qP (0,0);simp only [go_sem,xq,ha,Zw,vd,e0,qbD];repeat first|refine ja (by with_reducible assumption) ?_|refine ja (Nat.le_trans (by with_reducible assumption) (by decide)) ?_|refine ja (by decide) ?_
  exact hK
theorem XY(hΓ:Holds P Γ){f fm fs fa:Nat}(hm:Γ fm=.dat false kj)(hs:Γ fs=.dat false vr)(ha:Γ fa=.dat false Zn)(hc:check P f=some (28,(zr fm fs fa).strip,[.cell 4 6 true])):Sound P f (.dat false Jk):=by
 refine ka hc yK hΓ (λargs K hcl hfi hG=>?_);match args,hG with
 | [a,b],hG=>
  obtain⟨p,rfl,wp,q,rfl,wq,hl,hl2,hK⟩:=hG;refine⟨by simp,?_⟩
  have w1:=wp.1;have w2:=wp.2;have w3:=wq.1;have w4:=wq.2;have l1:=(Nat.max_le.1 hl).1;have l2:=(Nat.max_le.1 hl).2;have l3:=(Nat.max_le.1 hl2).1;have l4:=(Nat.max_le.1 hl2).2;have r1:=Ze w1;have r2:=Ze w2;have r3:=Ze w3;have r4:=Ze w4;have m1:=Nat.le_trans (jc (rv p.1) (rv q.1)) (by omega:_<=1000000000)
  have m2:=Nat.le_trans (jc (rv p.2) (rv q.2)) (by omega:_<=1000000000)
  have m3:=Nat.le_trans (jc (rv p.2) (rv q.1)) (by omega:_<=1000000000)
  have m4:=Nat.le_trans (jc (rv p.1) (rv q.2)) (by omega:_<=1000000000)
  have e:pQ (timesQ (av p) (av q))=pQ (rv p.1*rv q.1-rv p.2*rv q.2,rv p.2*rv q.1+rv p.1*rv q.2):=by
   unfold timesQ av;rw [ybM]
  rw [e]at hK;simp only [go_sem,zr,hm,hs,ha,Zw,Wb];repeat first|refine ja (by with_reducible assumption) ?_|refine ja (Nat.le_trans (by with_reducible assumption) (by decide)) ?_|refine ja (by decide) ?_
  exact hK
theorem VaJ(hΓ:Holds P Γ){f fq fd fn tE:Nat}(hq:Γ fq=.dat false kH)(hd:Γ fd=.dat false (Uz tE))(hn:Γ fn=.dat false Xp)(hc:check P f=some (33,(Zi fq fd fn).strip,[.cell 2 6 true,.tmp 3])):Sound P f (.dat false (uG tE)):=by
 refine ka hc (jaV tE) hΓ (λargs K hcl hfi hG=>?_);match args,hG with
 | [a],hG=>
  obtain⟨p,rfl,wp,hl,hK⟩:=hG;refine⟨by simp,?_⟩
  have w1:=wp.1;have w2:=wp.2;have l1:=(Nat.max_le.1 hl).1;have l2:=(Nat.max_le.1 hl).2;have r1:=Ze w1;have r2:=Ze w2;have s:=jI (av p);have z:=QO wp;obtain⟨n,hn0⟩:∃n,sqQ (av p)=n:=⟨_,rfl⟩;rw [hn0]at s;have s1:=Nat.le_trans s (by omega:_<=4294967296)
  have s2:rz (-rv p.2)<=4294967296:=by rw [Vv];omega
  have eo:ovQ (av p)=(rv p.1 / n,-rv p.2 / n):=by unfold ovQ;rw [hn0];rfl
  rw [eo,hn0]at hK;by_cases h0:n=0
  .have e8:=qe tE (by decide:(8:Nat)≠0)
   rw [if_pos h0,if_pos h0,e8,uaK,Qd]at hK;simp only [go_sem,Zi,hq,hd,Zw,vd,hn0,Wb,if_pos h0,e8];repeat first|refine ja (by with_reducible assumption) ?_|refine ja (Nat.le_trans (by with_reducible assumption) (by decide)) ?_|refine ja (by decide) ?_
   exact hK
  .have e0:=Jd tE;rw [if_neg h0,if_neg h0,e0]at hK;simp only [go_sem,Zi,hq,hd,hn,Zw,vd,hn0,Wb,if_neg h0,e0];repeat first|refine ja (by with_reducible assumption) ?_|refine ja (Nat.le_trans (by with_reducible assumption) (by decide)) ?_|refine ja (by decide) ?_
   exact hK
theorem uaE(hΓ:Holds P Γ){f fw fs ft fa:Nat}(hw' : Γ fw=.dat false ZE)(hs:Γ fs=.dat false ko)(ht:Γ ft=.dat false Jk)(ha:Γ fa=.dat false zx)(hc:check P f=some (14,(uq fw fs ft fa).strip,[.cell 2 6 true])):Sound P f (.dat false uC):=by
 refine ka hc wa5 hΓ (λargs K hcl hfi hG=>?_);match args,hG with
 | [a],hG=>
  obtain⟨c,rfl,hw,hl,hK⟩:=hG;refine⟨by simp,?_⟩
  have wW:WLA c.2.2.2.2.2:=⟨hw.2.2.2.2.2.1,hw.2.2.2.2.2.2⟩;have l6:al c.2.2.2.2.2<=100000000:=Nat.le_trans (cl_w hl) (by decide)
  have hB:=vbZ hw hl;have wo:=hw.1;have wQ:=hw.2.1;have lo:al c.1<=100000000:=Nat.le_trans (Nat.le_max_left _ _) (Nat.le_trans hl (by decide))
  have lq:al c.2.1<=100000000:=Nat.le_trans (Nat.le_max_left _ _) (Nat.le_trans (Nat.le_max_right _ _) (Nat.le_trans hl (by decide)))
  obtain⟨D,hD⟩:∃D,subQ (av c.2.1) (av c.1)=D:=⟨_,rfl⟩;obtain⟨T,hT⟩:∃T,timesQ (av c.2.2.2.2.2) D=T:=⟨_,rfl⟩;have z1:al (rcan D.1,rcan D.2)<=100000000:=by
   have:=xQ (av c.2.1) (av c.1);rw [hD]at this;have e1:zq (av c.1)<=1000000:=hB.1;have e2:zq (av c.2.1)<=1000000:=hB.2.1;exact Nat.le_trans this (by omega)
  have z2:al (rcan T.1,rcan T.2)<=100000000:=by
   have:=qbo (av c.2.2.2.2.2) D;rw [hT]at this;have e3:=xQ (av c.2.1) (av c.1);rw [hD]at e3;have e1:zq (av c.1)<=1000000:=hB.1;have e2:zq (av c.2.1)<=1000000:=hB.2.1;have e4:zq (av c.2.2.2.2.2)<=1000000:=Nat.max_le.2 ⟨hB.2.2.2.2.2.1,hB.2.2.2.2.2.2⟩;exact Nat.le_trans this (by omega)
  have wD:WLA (rcan D.1,rcan D.2):=qB D;have wT:WLA (rcan T.1,rcan T.2):=qB T;have ef:foQ (cpv c)=addQ (av c.1) T:=by rw [<-hT,<-hD];rfl
  rw [ef]at hK;simp only [go_sem,uq,hw',hs,ht,ha,cpA,cpC,aA,Zw,vd,hD,qP,hT];repeat first|refine ja (by with_reducible assumption) ?_|refine ja (Nat.le_trans (by with_reducible assumption) (by decide)) ?_|refine ja (by decide) ?_
  exact hK
end Go.Abs
end
section
namespace Go.Num
open Go.Abs
def wC(w:V2):Nat:=if sqQ w=0 then 8 else 0
def fiC(c:Cp):Nat:=if cchk c≠0 then cchk c else wC (cW (cpv c))
def seC(c:Cp):Nat:=if cchk c≠0 then cchk c else wC (rsQ (cpv c))
def alC(c:Cp):Nat:=if fiC c≠0 then fiC c else seC c
def alL(c:Cp):List CpR:=if alC c=0 then [cpv c,fiQ (cpv c),seQ (cpv c)] else []
theorem wC_0{w:V2}:wC w=0↔sqQ w≠0:=by
 unfold wC;split
 .rename_i h;simp [h]
 .rename_i h;simp [h]
theorem zb2{c:Cp}(h:cchk c≠0):fiC c=cchk c:=if_pos h
theorem qbN{c:Cp}(h:cchk c=0):fiC c=wC (cW (cpv c)):=by unfold fiC;rw [if_neg (by omega)]
theorem ubD{c:CpR}{o k:V2}{x y z:Rat}{b:Nat}(h:CB' b c)(ho:zq o<=b)(hk:zq k<=b+4)(h1:rz x<=b)(h2:rz y<=b)(h3:rz z<=b):CB' (7*b+40) (simQ c o k x y z):=by
 have f:=ubS h;have s:=jI k;have v:=XbU k;have m1:=jc (sqQ k) x;have m2:=jc (sqQ k) y;have m3:=jc (sqQ k) z;have v1:=zq_1 (ovQ k);have v2:=zq_2 (ovQ k);exact⟨by show zq o<=_;omega,by show zq (foQ c)<=_;omega,by show rz (sqQ k*x)<=_;omega,by show rz (sqQ k*y)<=_;omega,by show rz (sqQ k*z)<=_;omega,by show rz (ovQ k).1<=_;omega,by show rz (ovQ k).2<=_;omega⟩
theorem qbV{c:CpR}{b:Nat}(h:CB' b c):CB' (7*b+40) (fiQ c):=
 ubD h h.1 (Nat.le_trans (Nat.max_le.2 ⟨h.2.2.2.2.2.1,h.2.2.2.2.2.2⟩) (by omega)) h.2.2.2.1 h.2.2.1 h.2.2.2.2.1
end Go.Num
namespace Go.Abs
open Go.Num
variable {P:Program} {Γ:Nat->Spec}
def WE(tE:Nat)(l:List AV)(K:AV->Prop):Prop:=
 match l with
 | [c,o,k,x,y,z]=>onCp (λc=>onA (λo=>onA (λk=>onR (λx=>onR (λy=>onR (λz=>cl c<=1000000/\al o<=1000000/\al k<=1000000/\rl x<=1000000/\rl y<=1000000/\rl z<=1000000/\K (.tup [cqR (if wC (av k)=0 then simQ (cpv c) (av o) (av k) (rv x) (rv y) (rv z) else z27),errV tE (wC (av k))])) z) y) x) k) o) c
 | _=>False
theorem yaP(tE:Nat)(c o k x y z:AV)(K:AV->Prop):WE tE [c,o,k,x,y,z] K=(onCp (λc=>onA (λo=>onA (λk=>onR (λx=>onR (λy=>onR (λz=>cl c<=1000000/\al o<=1000000/\al k<=1000000/\rl x<=1000000/\rl y<=1000000/\rl z<=1000000/\K (.tup [cqR (if wC (av k)=0 then simQ (cpv c) (av o) (av k) (rv x) (rv y) (rv z) else z27),errV tE (wC (av k))])) z) y) x) k) o) c):=propext Iff.rfl
@[congr] theorem ybY (tE:Nat) {K:AV->Prop} {l l' : List AV} (h:l=l'):WE tE l K=WE tE l' K:=by subst h;rfl
attribute [go_sem,go_sem ↓] yaP
theorem UaY(tE:Nat):Good (WE tE):=Wa λas=>by
 unfold WE;split
 .exact(Ym λ_=>(Jz λ_=>(Jz λ_=>(yg λ_=>(yg λ_=>(yg λ_=>(.and λ_=>(.and λ_=>(.and λ_=>(.and λ_=>(.and λ_=>(.and λ_=>(.ret _)))))))))))))
 .exact .of λK hk=>hk.elim
def YZ(tE:Nat)(l:List AV)(K:AV->Prop):Prop:=
 match l with
 | [c]=>onCp (λc=>cl c<=100000/\K (.tup [cqR (if fiC c=0 then fiQ (cpv c) else z27),errV tE (fiC c)])) c
 | _=>False
theorem Ubl(tE:Nat)(c:AV)(K:AV->Prop):YZ tE [c] K=(onCp (λc=>cl c<=100000/\K (.tup [cqR (if fiC c=0 then fiQ (cpv c) else z27),errV tE (fiC c)])) c):=propext Iff.rfl
@[congr] theorem wb2 (tE:Nat) {K:AV->Prop} {l l' : List AV} (h:l=l'):YZ tE l K=YZ tE l' K:=by subst h;rfl
attribute [go_sem,go_sem ↓] Ubl
theorem ybc(tE:Nat):Good (YZ tE):=Wa λas=>by
 unfold YZ;split
 .exact(Ym λ_=>(.and λ_=>(.ret _)))
 .exact .of λK hk=>hk.elim
def Ybu(tE:Nat)(l:List AV)(K:AV->Prop):Prop:=
 match l with
 | [c]=>onCp (λc=>cl c<=100000/\K (.tup [cqR (if seC c=0 then seQ (cpv c) else z27),errV tE (seC c)])) c
 | _=>False
theorem kbl(tE:Nat)(c:AV)(K:AV->Prop):Ybu tE [c] K=(onCp (λc=>cl c<=100000/\K (.tup [cqR (if seC c=0 then seQ (cpv c) else z27),errV tE (seC c)])) c):=propext Iff.rfl
@[congr] theorem kb2 (tE:Nat) {K:AV->Prop} {l l' : List AV} (h:l=l'):Ybu tE l K=Ybu tE l' K:=by subst h;rfl
attribute [go_sem,go_sem ↓] kbl
def jV(tE:Nat)(l:List AV)(K:AV->Prop):Prop:=
 match l with
 | [c]=>onCp (λc=>cl c<=100000/\K (.tup [pQ (if cchk c=0 then foQ (cpv c) else (0,0)),errV tE (cchk c)])) c
 | _=>False
theorem Vbg(tE:Nat)(c:AV)(K:AV->Prop):jV tE [c] K=(onCp (λc=>cl c<=100000/\K (.tup [pQ (if cchk c=0 then foQ (cpv c) else (0,0)),errV tE (cchk c)])) c):=propext Iff.rfl
@[congr] theorem Qb2 (tE:Nat) {K:AV->Prop} {l l' : List AV} (h:l=l'):jV tE l K=jV tE l' K:=by subst h;rfl
attribute [go_sem,go_sem ↓] Vbg
theorem Xba(tE:Nat):Good (jV tE):=Wa λas=>by
 unfold jV;split
 .exact(Ym λ_=>(.and λ_=>(.ret _)))
 .exact .of λK hk=>hk.elim
def Jbv(tE:Nat)(l:List AV)(K:AV->Prop):Prop:=
 match l with
 | [c]=>onCp (λc=>cl c<=100000/\K (.tup [cqR (if cchk c=0 then swQ (cpv c) else z27),errV tE (cchk c)])) c
 | _=>False
theorem Wbg(tE:Nat)(c:AV)(K:AV->Prop):Jbv tE [c] K=(onCp (λc=>cl c<=100000/\K (.tup [cqR (if cchk c=0 then swQ (cpv c) else z27),errV tE (cchk c)])) c):=propext Iff.rfl
@[congr] theorem yb3 (tE:Nat) {K:AV->Prop} {l l' : List AV} (h:l=l'):Jbv tE l K=Jbv tE l' K:=by subst h;rfl
attribute [go_sem,go_sem ↓] Wbg
def ya1(tE:Nat)(l:List AV)(K:AV->Prop):Prop:=
 match l with
 | [c]=>onCp (λc=>cl c<=10000/\K (.tup [.one (.slice ((alL c).map λX=>cpC (canC X))),errV tE (alC c)])) c
 | _=>False
theorem jaL(tE:Nat)(c:AV)(K:AV->Prop):ya1 tE [c] K=(onCp (λc=>cl c<=10000/\K (.tup [.one (.slice ((alL c).map λX=>cpC (canC X))),errV tE (alC c)])) c):=propext Iff.rfl
@[congr] theorem vbX (tE:Nat) {K:AV->Prop} {l l' : List AV} (h:l=l'):ya1 tE l K=ya1 tE l' K:=by subst h;rfl
attribute [go_sem,go_sem ↓] jaL
def Vi(f0 f1 f2 f3 f4:Nat):AC:=(.seq (.ops false [.u 6 (.box 27 (.t 0)),.u 7 (.box 6 (.t 1)),.u 8 (.box 6 (.t 2)),.u 9 (.box 3 (.t 3)),.u 10 (.box 3 (.t 4)),.u 11 (.box 3 (.t 5)),.u 12 (.alloc [(.lit (.bool false)),.emp,.emp,(.lit (.bool false)),.emp,.emp,(.lit (.bool false)),.emp,.emp,(.lit (.bool false)),.emp,.emp,(.lit (.bool false)),.emp,.emp,(.lit (.bool false)),.emp,.emp,(.lit (.bool false)),.emp,.emp,(.lit (.bool false)),.emp,.emp,(.lit (.bool false)),.emp,.emp]),.m 13 (.c (.one (.lit .nilIface)))])
 (.fg [6,7,8,9,10,11,12] (.seq (.ops false [.u 18 (.ld none 6 true (.t 8)),.u 19 (.call f0 [(.t 18)]),.m 17 (.t 19),.u 20 (.ext 0 (.t 17)),.u 21 (.ext 1 (.t 17)),.u 14 (.alloc [(.lit (.bool false)),.emp,.emp,(.lit (.bool false)),.emp,.emp]),.n (.st none 6 (.t 14) (.t 20)),.m 15 (.t 21)])
 (.fg [6,7,8,9,10,11,12,14,15] (.seq (.seq (.ops false [.m 22 (.t 15),.u 23 (.binn .neq (.t 22) (.c (.one (.lit .nilIface))))])
 (.fg [6,7,8,9,10,11,12,14,15,23] (.cond (.t 23) (.seq (.ops false [.u 24 (.build [.z [(.lit (.bool false)),.emp,.emp,(.lit (.bool false)),.emp,.emp,(.lit (.bool false)),.emp,.emp,(.lit (.bool false)),.emp,.emp,(.lit (.bool false)),.emp,.emp,(.lit (.bool false)),.emp,.emp,(.lit (.bool false)),.emp,.emp,(.lit (.bool false)),.emp,.emp,(.lit (.bool false)),.emp,.emp]]),.m 25 (.t 15),.n (.st none 27 (.t 12) (.t 24)),.m 13 (.t 25)])
 .ret) .skip)))
 (.fg [6,7,8,9,10,11,12,14] (.seq (.ops false [.u 26 (.ld none 6 true (.t 8)),.u 27 (.call f1 [(.t 26)]),.u 16 (.alloc [(.lit (.bool false)),.emp,.emp]),.n (.st none 3 (.t 16) (.t 27))])
 (.fg [6,7,9,10,11,12,14,16] (.seq (.ops true [.u 28 (.ld none 6 true (.t 7)),.u 29 (.call f2 [(.t 28)]),.u 30 (.ld none 27 true (.t 6)),.u 31 (.call f3 [(.t 30)]),.u 32 (.ld none 3 true (.t 16)),.u 33 (.ld none 3 true (.t 9)),.u 34 (.call f4 [(.t 32),(.t 33)]),.u 35 (.ld none 3 true (.t 16)),.u 36 (.ld none 3 true (.t 10)),.u 37 (.call f4 [(.t 35),(.t 36)]),.u 38 (.ld none 3 true (.t 16)),.u 39 (.ld none 3 true (.t 11)),.u 40 (.call f4 [(.t 38),(.t 39)]),.u 41 (.fa 0 (.t 14)),.u 42 (.ld none 3 true (.t 41)),.u 43 (.fa 3 (.t 14)),.u 44 (.ld none 3 true (.t 43)),.u 45 (.build [.x 6 (.t 29),.x 6 (.t 31),.x 3 (.t 34),.x 3 (.t 37),.x 3 (.t 40),.x 3 (.t 42),.x 3 (.t 44)]),.n (.st none 27 (.t 12) (.t 45)),.m 13 (.c (.one (.lit .nilIface)))])
 .ret)))))))))
def ul(f0 f1 f2:Nat):AC:=(.seq (.ops false [.u 1 (.box 27 (.t 0)),.u 2 (.alloc [(.lit (.bool false)),.emp,.emp,(.lit (.bool false)),.emp,.emp,(.lit (.bool false)),.emp,.emp,(.lit (.bool false)),.emp,.emp,(.lit (.bool false)),.emp,.emp,(.lit (.bool false)),.emp,.emp,(.lit (.bool false)),.emp,.emp,(.lit (.bool false)),.emp,.emp,(.lit (.bool false)),.emp,.emp]),.m 3 (.c (.one (.lit .nilIface)))])
 (.fg [1,2] (.seq (.seq (.ops false [.u 5 (.ld none 27 true (.t 1)),.u 6 (.call f0 [(.t 5)]),.m 4 (.t 6)])
 (.fg [1,2,4] (.seq (.ops false [.m 7 (.t 4),.u 8 (.binn .neq (.t 7) (.c (.one (.lit .nilIface))))])
 (.fg [1,2,4,8] (.cond (.t 8) (.seq (.ops false [.u 9 (.build [.z [(.lit (.bool false)),.emp,.emp,(.lit (.bool false)),.emp,.emp,(.lit (.bool false)),.emp,.emp,(.lit (.bool false)),.emp,.emp,(.lit (.bool false)),.emp,.emp,(.lit (.bool false)),.emp,.emp,(.lit (.bool false)),.emp,.emp,(.lit (.bool false)),.emp,.emp,(.lit (.bool false)),.emp,.emp]]),.m 10 (.t 4),.n (.st none 27 (.t 2) (.t 9)),.m 3 (.t 10)])
 .ret) .skip)))))
 (.fg [1,2] (.seq (.ops true [.u 11 (.ld none 27 true (.t 1)),.u 12 (.fa 0 (.t 1)),.u 13 (.ld none 6 true (.t 12)),.u 14 (.ld none 27 true (.t 1)),.u 15 (.call f1 [(.t 14)]),.u 16 (.fa 15 (.t 1)),.u 17 (.ld none 3 true (.t 16)),.u 18 (.fa 12 (.t 1)),.u 19 (.ld none 3 true (.t 18)),.u 20 (.fa 18 (.t 1)),.u 21 (.ld none 3 true (.t 20)),.u 22 (.call f2 [(.t 11),(.t 13),(.t 15),(.t 17),(.t 19),(.t 21)]),.u 23 (.ext 0 (.t 22)),.u 24 (.ext 1 (.t 22)),.n (.st none 27 (.t 2) (.t 23)),.m 3 (.t 24)])
 .ret)))))
def jm(f0 f1:Nat):AC:=(.seq (.ops false [.u 1 (.box 27 (.t 0)),.u 2 (.alloc [(.lit (.bool false)),.emp,.emp,(.lit (.bool false)),.emp,.emp]),.m 3 (.c (.one (.lit .nilIface)))])
 (.fg [1,2] (.seq (.seq (.ops false [.u 5 (.ld none 27 true (.t 1)),.u 6 (.call f0 [(.t 5)]),.m 4 (.t 6)])
 (.fg [1,2,4] (.seq (.ops false [.m 7 (.t 4),.u 8 (.binn .neq (.t 7) (.c (.one (.lit .nilIface))))])
 (.fg [1,2,4,8] (.cond (.t 8) (.seq (.ops false [.u 9 (.build [.z [(.lit (.bool false)),.emp,.emp,(.lit (.bool false)),.emp,.emp]]),.m 10 (.t 4),.n (.st none 6 (.t 2) (.t 9)),.m 3 (.t 10)])
 .ret) .skip)))))
 (.fg [1,2] (.seq (.ops false [.u 11 (.ld none 27 true (.t 1)),.u 12 (.call f1 [(.t 11)]),.n (.st none 6 (.t 2) (.t 12)),.m 3 (.c (.one (.lit .nilIface)))])
 .ret)))))
theorem kaI(hΓ:Holds P Γ){f fi fq fc ff fm tE:Nat}(hi:Γ fi=.dat false (uG tE))(hq:Γ fq=.dat false kH)(hcl' : Γ fc=.dat false jG)(hf:Γ ff=.dat false uC)(hm:Γ fm=.dat false kj)(hc:check P f=some (46,(Vi fi fq fc ff fm).strip,[.cell 12 27 true,.tmp 13])):Sound P f (.dat false (WE tE)):=by
 refine ka hc (UaY tE) hΓ (λargs K hcl hfi hG=>?_);match args,hG with
 | [a,b,d,e,g,h],hG=>
  obtain⟨c,rfl,hw,o,rfl,wo,k,rfl,wk,x,rfl,wx,y,rfl,wy,z,rfl,wz,hl,lo,lk,lx,ly,lz,hK⟩:=hG;refine⟨by simp,?_⟩
  have lo2:al o<=100000000:=Nat.le_trans lo (by decide)
  have lk2:al k<=100000000:=Nat.le_trans lk (by decide)
  have s:=jI (av k);have zk:=QO wk;by_cases h0:sqQ (av k)=0
  .have ew:wC (av k)=8:=if_pos h0;have e8:=qe tE (by decide:(8:Nat)≠0)
   rw [ew,if_neg (by decide),e8]at hK
   unfold cqR z27 at hK;simp only [Qd]at hK;have ip:∀{α:Type} (x y:α),(if sqQ (av k)=0 then x else y)=x:=λx y=>if_pos h0
   simp only [go_sem,Vi,hi,cpA,cpC,Zw,rA,vd,ip,e8];repeat first|refine ja (by with_reducible assumption) ?_|refine ja (Nat.le_trans (by with_reducible assumption) (by decide)) ?_|refine ja (by decide) ?_
   exact hK
  .have ew:wC (av k)=0:=if_neg h0;have e0:=Jd tE;rw [ew,if_pos rfl,e0]at hK;obtain⟨n,hn⟩:∃n,sqQ (av k)=n:=⟨_,rfl⟩;rw [hn]at s h0;have ip:∀{α:Type} (x y:α),(if n=0 then x else y)=y:=λx y=>if_neg h0
   have zn:=Nat.le_trans s (by omega:_<=10000000)
   have es:simQ (cpv c) (av o) (av k) (rv x) (rv y) (rv z)=(av o,foQ (cpv c),n*rv x,n*rv y,n*rv z,(ovQ (av k)).1,(ovQ (av k)).2):=by unfold simQ;rw [hn]
   rw [es]at hK;simp only [go_sem,Vi,hi,hq,hcl',hf,hm,cpA,cpC,Zw,rA,vd,ip,e0,hn,Wb];repeat first|refine ja (by with_reducible assumption) ?_|refine ja (Nat.le_trans (by with_reducible assumption) (by decide)) ?_|refine ja (by decide) ?_
   exact hK
theorem VaS(hΓ:Holds P Γ){f fk fr fs tE:Nat}(hk:Γ fk=.dat false (VA tE))(hr:Γ fr=.dat false ZE)(hs:Γ fs=.dat false (WE tE))(hc:check P f=some (25,(ul fk fr fs).strip,[.cell 2 27 true,.tmp 3])):Sound P f (.dat false (YZ tE)):=by
 refine ka hc (ybc tE) hΓ (λargs K hcl hfi hG=>?_);match args,hG with
 | [a],hG=>
  obtain⟨c,rfl,hw,hl,hK⟩:=hG;refine⟨by simp,?_⟩
  have hl2:cl c<=100000000:=Nat.le_trans hl (by decide)
  have hl3:cl c<=1000000:=Nat.le_trans hl (by decide)
  by_cases h0:cchk c=0
  .have e0:=Jd tE;obtain⟨wo,wQ,w1,w2,w3,w4,w5⟩:=id hw;have hl0:=hl3;unfold cl at hl0;simp only [Nat.max_le]at hl0;obtain⟨l1,l2,l3,l4,l5,l6,l7⟩:=hl0;have wW:WLA c.2.2.2.2.2:=⟨w4,w5⟩;have lW:al c.2.2.2.2.2<=1000000:=cl_w hl3;have aW:av c.2.2.2.2.2=cW (cpv c):=rfl;have ef:simQ (cpv c) (av c.1) (cW (cpv c)) (rv c.2.2.2.1) (rv c.2.2.1) (rv c.2.2.2.2.1)=fiQ (cpv c):=rfl;obtain⟨X,hX⟩:∃X,(if wC (cW (cpv c))=0 then fiQ (cpv c) else z27)=X:=⟨_,rfl⟩
   rw [qbN h0,hX]at hK;simp only [go_sem,ul,hk,hr,hs,cpA,cpC,aA,Zw,rA,vd,h0,e0,aW,ef,hX,cqR];repeat first|refine ja (by with_reducible assumption) ?_|refine ja (Nat.le_trans (by with_reducible assumption) (by decide)) ?_|refine ja (by decide) ?_
   exact hK
  .have e1:=qe tE h0;rw [zb2 h0,if_neg h0,e1]at hK;unfold cqR z27 at hK;simp only [Qd]at hK;simp only [go_sem,ul,hk,cpA,cpC,vd,e1];repeat first|refine ja (by with_reducible assumption) ?_|refine ja (Nat.le_trans (by with_reducible assumption) (by decide)) ?_|refine ja (by decide) ?_
   exact hK
theorem WaN(hΓ:Holds P Γ){f fk ff tE:Nat}(hk:Γ fk=.dat false (VA tE))(hf:Γ ff=.dat false uC)(hc:check P f=some (13,(jm fk ff).strip,[.cell 2 6 true,.tmp 3])):Sound P f (.dat false (jV tE)):=by
 refine ka hc (Xba tE) hΓ (λargs K hcl hfi hG=>?_);match args,hG with
 | [a],hG=>
  obtain⟨c,rfl,hw,hl,hK⟩:=hG;refine⟨by simp,?_⟩
  have hl2:cl c<=100000000:=Nat.le_trans hl (by decide)
  have hl3:cl c<=1000000:=Nat.le_trans hl (by decide)
  by_cases h0:cchk c=0
  .have e0:=Jd tE;rw [h0,if_pos rfl,e0]at hK;simp only [go_sem,jm,hk,hf,cpA,cpC,vd,h0,e0];repeat first|refine ja (by with_reducible assumption) ?_|refine ja (Nat.le_trans (by with_reducible assumption) (by decide)) ?_|refine ja (by decide) ?_
   exact hK
  .have e1:=qe tE h0;rw [if_neg h0,e1,uaK,Qd]at hK;simp only [go_sem,jm,hk,cpA,cpC,vd,e1];repeat first|refine ja (by with_reducible assumption) ?_|refine ja (Nat.le_trans (by with_reducible assumption) (by decide)) ?_|refine ja (by decide) ?_
   exact hK
end Go.Abs
end
section
namespace Go.Num
def en1(c:CpR)(a b:V2):V2:=addQ c.1 (timesQ (cW c) (subQ b a))
def en2(c:CpR)(a b:V2):V2:=subQ c.2.1 (timesQ (rsQ c) (subQ b a))
def en3(c:CpR)(a b:V2):V2:=addQ (en1 c a b) (timesQ (cW c) (subQ a c.1))
def en4(c:CpR)(a b:V2):V2:=addQ (en2 c a b) (timesQ (rsQ c) (subQ b c.2.1))
end Go.Num
end
section
namespace Go.Num
open Go.Abs
def enC(c:Cp)(a b:Arc):Nat:=if cchk2 c [a,b]≠0 then cchk2 c [a,b] else if hldQ (cpv c) (av a) (av b) then alC c else 21
def enL(c:CpR)(a b:V2):List V2:=[a,b,en1 c a b,en3 c a b,en2 c a b,en4 c a b]
def enR(c:Cp)(a b:Arc):List V2:=if enC c a b=0 then enL (cpv c) (av a) (av b) else []
def smC(c d:Cp):Nat:=if cchk c≠0 then cchk c else cchk d
theorem XaN{α:Type}{l m:List α}{k:Nat}{x y:α}(hx:l[k]?=some x)(hy:m[k]?=some y):(l.take (k+1)=m.take (k+1))↔(l.take k=m.take k/\x=y):=by
 rw [List.take_add_one,List.take_add_one,hx,hy];simp only [Option.toList_some];constructor
 .intro h;have h1:=List.append_inj' h rfl;exact⟨h1.1,by simpa using h1.2⟩
 .rintro⟨h1,h2⟩;rw [h1,h2]
theorem getM{p:BQ}{k:Nat}(h:k<p.length):∃u,p[k]?=some u/\(mcs p).getD k mo0=mcan u/\u∈p:=by
 refine⟨p[k],List.getElem?_eq_getElem h,?_,List.getElem_mem h⟩;unfold mcs;rw [List.getD_eq_getElem?_getD,List.getElem?_map,List.getElem?_eq_getElem h];rfl
theorem uX(p:BQ):(mcs p).length=p.length:=by unfold mcs;rw [List.length_map]
theorem Ua9{p:BQ}{u:MQ}(h:u∈p){b:Nat}(hb:sz p<=b):rz u.2.2<=b:=Nat.le_trans (vaZ h) hb
end Go.Num
namespace Go.Abs
open Go.Num
variable {P:Program} {Γ:Nat->Spec}
def QaP(tE:Nat)(l:List AV)(K:AV->Prop):Prop:=
 match l with
 | [c,a,b]=>onCp (λc=>onA (λa=>onA (λb=>cl c<=1000/\al a<=1000/\al b<=1000/\K (.tup [.one (.slice ((enR c a b).map λp=>aC (rcan p.1,rcan p.2))),errV tE (enC c a b)])) b) a) c
 | _=>False
theorem Ya4(tE:Nat)(c a b:AV)(K:AV->Prop):QaP tE [c,a,b] K=(onCp (λc=>onA (λa=>onA (λb=>cl c<=1000/\al a<=1000/\al b<=1000/\K (.tup [.one (.slice ((enR c a b).map λp=>aC (rcan p.1,rcan p.2))),errV tE (enC c a b)])) b) a) c):=propext Iff.rfl
@[congr] theorem kbU (tE:Nat) {K:AV->Prop} {l l' : List AV} (h:l=l'):QaP tE l K=QaP tE l' K:=by subst h;rfl
attribute [go_sem,go_sem ↓] Ya4
def kC(tE:Nat)(l:List AV)(K:AV->Prop):Prop:=
 match l with
 | [c,d]=>onCp (λc=>onCp (λd=>cl c<=1000/\cl d<=1000/\K (.tup [.one (.lit (.bool (decide (smC c d=0) && decide (cCur (cpv c)=cCur (cpv d))))),errV tE (smC c d)])) d) c
 | _=>False
theorem zaY(tE:Nat)(c d:AV)(K:AV->Prop):kC tE [c,d] K=(onCp (λc=>onCp (λd=>cl c<=1000/\cl d<=1000/\K (.tup [.one (.lit (.bool (decide (smC c d=0) && decide (cCur (cpv c)=cCur (cpv d))))),errV tE (smC c d)])) d) c):=propext Iff.rfl
@[congr] theorem XbY (tE:Nat) {K:AV->Prop} {l l' : List AV} (h:l=l'):kC tE l K=kC tE l' K:=by subst h;rfl
attribute [go_sem,go_sem ↓] zaY
theorem xaS(tE:Nat):Good (kC tE):=Wa λas=>by
 unfold kC;split
 .exact(Ym λ_=>(Ym λ_=>(.and λ_=>(.and λ_=>(.ret _)))))
 .exact .of λK hk=>hk.elim
def Ui(f0 f1:Nat):AC:=(.seq (.ops false [.u 2 (.box 27 (.t 0)),.u 3 (.box 27 (.t 1)),.m 4 .fa,.m 5 (.c (.one (.lit .nilIface)))])
 (.fg [2,3] (.seq (.ops false [.u 11 (.ld none 27 true (.t 2)),.u 12 (.call f0 [(.t 11)]),.m 10 (.t 12),.u 13 (.ext 0 (.t 10)),.u 14 (.ext 1 (.t 10)),.m 6 (.t 13),.m 7 (.t 14)])
 (.fg [3,6,7] (.seq (.seq (.ops false [.m 15 (.t 7),.u 16 (.binn .neq (.t 15) (.c (.one (.lit .nilIface))))])
 (.fg [3,6,7,16] (.cond (.t 16) (.seq (.ops false [.m 17 (.t 7),.m 4 .fa,.m 5 (.t 17)])
 .ret) .skip)))
 (.fg [3,6] (.seq (.ops false [.u 19 (.ld none 27 true (.t 3)),.u 20 (.call f0 [(.t 19)]),.m 18 (.t 20),.u 21 (.ext 0 (.t 18)),.u 22 (.ext 1 (.t 18)),.m 8 (.t 21),.m 7 (.t 22)])
 (.fg [6,7,8] (.seq (.seq (.ops false [.m 23 (.t 7),.u 24 (.binn .neq (.t 23) (.c (.one (.lit .nilIface))))])
 (.fg [6,7,8,24] (.cond (.t 24) (.seq (.ops false [.m 25 (.t 7),.m 4 .fa,.m 5 (.t 25)])
 .ret) .skip)))
 (.fg [6,8] (.seq (.seq (.ops false [.m 26 (.t 6),.u 27 (.len (.t 26)),.m 28 (.t 8),.u 29 (.len (.t 28)),.u 30 (.bin .neq (.t 27) (.t 29))])
 (.fg [6,8,30] (.cond (.t 30) (.seq (.ops false [.m 4 .fa,.m 5 (.c (.one (.lit .nilIface)))])
 .ret) .skip)))
 (.fg [6,8] (.seq (.seq (.ops false [.m 31 (.t 6),.u 32 (.len (.t 31)),.m 33 (.i 0)])
 (.fg [6,8,32,33] (.block 0 (.loop (.seq (.ops false [.u 34 (.bin .lss (.t 33) (.t 32))])
 (.fg [6,8,32,33,34] (.seq (.cond (.t 34) .skip (.exit 0))
 (.fg [6,8,32,33] (.seq (.block 1 (.seq (.ops false [.m 35 (.t 33),.m 9 (.t 35)])
 (.fg [6,8,9,32,33] (.seq (.ops true [.m 36 (.t 6),.m 37 (.t 9),.u 38 (.idx 5 (.t 36) (.t 37)),.u 39 (.fa 0 (.t 38)),.u 40 (.ld none 1 false (.t 39)),.m 41 (.t 8),.m 42 (.t 9),.u 43 (.idx 5 (.t 41) (.t 42)),.u 44 (.fa 0 (.t 43)),.u 45 (.ld none 1 false (.t 44)),.u 46 (.bin .neq (.t 40) (.t 45)),.m 47 (.t 46),.w 48 47 false (.mv (.t 6)),.w 49 47 false (.mv (.t 9)),.w 50 47 false (.idx 5 (.t 48) (.t 49)),.w 51 47 false (.fa 1 (.t 50)),.w 52 47 false (.ld none 1 false (.t 51)),.w 53 47 false (.mv (.t 8)),.w 54 47 false (.mv (.t 9)),.w 55 47 false (.idx 5 (.t 53) (.t 54)),.w 56 47 false (.fa 1 (.t 55)),.w 57 47 false (.ld none 1 false (.t 56)),.w 58 47 false (.bin .neq (.t 52) (.t 57)),.u 59 (.pick (.t 47) .tr (.t 58)),.m 60 (.t 59),.w 61 60 false (.mv (.t 6)),.w 62 60 false (.mv (.t 9)),.w 63 60 false (.idx 5 (.t 61) (.t 62)),.w 64 60 false (.fa 2 (.t 63)),.w 65 60 false (.ld none 3 true (.t 64)),.w 66 60 false (.mv (.t 8)),.w 67 60 false (.mv (.t 9)),.w 68 60 false (.idx 5 (.t 66) (.t 67)),.w 69 60 false (.fa 2 (.t 68)),.w 70 60 false (.ld none 3 true (.t 69)),.w 71 60 false (.call f1 [(.t 65),(.t 70)]),.w 72 60 false (.bin .neq (.t 71) (.i 0)),.u 73 (.pick (.t 60) .tr (.t 72))])
 (.fg [6,8,32,33,73] (.cond (.t 73) (.seq (.ops false [.m 4 .fa,.m 5 (.c (.one (.lit .nilIface)))])
 .ret) .skip))))))
 (.fg [6,8,32,33] (.ops false [.u 74 (.bin .add (.t 33) (.i 1)),.m 33 (.t 74)])))))))))))
 (.fg [] (.seq (.ops false [.m 4 .tr,.m 5 (.c (.one (.lit .nilIface)))])
 .ret)))))))))))))))
set_option maxHeartbeats 1000000 in
theorem JaG(hΓ:Holds P Γ){f fv fq tE:Nat}(hv:Γ fv=.dat false (QF tE))(hq:Γ fq=.dat true jg)(hc:check P f=some (75,(Ui fv fq).strip,[.tmp 4,.tmp 5])):Sound P f (.dat false (kC tE)):=by
 refine ka hc (xaS tE) hΓ (λargs K hcl hfi hG=>?_);match args,hG with
 | [x,y],hG=>
  obtain⟨c,rfl,hw,d,rfl,hw2,hl,hl2,hK⟩:=hG;refine⟨by simp,?_⟩
  have e0:=Jd tE;by_cases h0:cchk c=0
  case neg=>
   have es:smC c d=cchk c:=if_pos h0;have e1:=qe tE h0;rw [es,e1,decide_eq_false h0,Bool.false_and]at hK;simp only [go_sem,Ui,hv,cpA,cpC,vd,JA h0,e1];repeat first|refine ja (by with_reducible assumption) ?_|refine ja (Nat.le_trans (by with_reducible assumption) (by decide)) ?_|refine ja (by decide) ?_
   exact hK
  have es:smC c d=cchk d:=by unfold smC;rw [if_neg (by omega)]
  rw [es]at hK;have pc:=VM (YL hw (Nat.le_trans hl (by decide)))
  have i0:=ku pc.canon.ins;by_cases h1:cchk d=0
  case neg=>
   have e1:=qe tE h1;rw [e1,decide_eq_false h1,Bool.false_and]at hK;simp only [go_sem,Ui,hv,cpA,cpC,vd,h0,e0,xt,JA h1,e1];repeat first|refine ja (by with_reducible assumption) ?_|refine ja (Nat.le_trans (by with_reducible assumption) (by decide)) ?_|refine ja (by decide) ?_
   exact hK
  rw [h1,e0,decide_eq_true rfl,Bool.true_and]at hK;have pd:=VM (YL hw2 (Nat.le_trans hl2 (by decide)))
  have j0:=ku pd.canon.ins;have lc:=jB pc.canon;have ld:=jB pd.canon;have sc:=pc.size;have sd:=pd.size;obtain⟨p,hp⟩:∃p,cCur (cpv c)=p:=⟨_,rfl⟩;obtain⟨q,hq0⟩:∃q,cCur (cpv d)=q:=⟨_,rfl⟩;rw [hp]at i0 lc sc hK;rw [hq0]at j0 ld sd hK;have lp:=uX p;have lq:=uX q;simp only [go_sem,Ui,hv,cpA,cpC,vd,h0,h1,e0,xt,hp,hq0];repeat first|refine ja (by with_reducible assumption) ?_|refine ja (Nat.le_trans (by with_reducible assumption) (by decide)) ?_|refine ja (by decide) ?_
  intro _ _;refine⟨λhlen _=>?_,λhlen=>?_⟩
  case refine_2=>
   rw [decide_eq_false (λe=>hlen (by rw [e]))]at hK
   exact hK
  rw [lp,lq]at hlen;refine Ya (λk:Nat=>⟨mkV [(6,.one (.slice ((mcs p).map mC))),(8,.one (.slice ((mcs q).map mC))),(32,.one (.lit (.int .i64 ((mcs p).length:Nat)))),(33,.one (.lit (.int .i64 k)))],mkH []⟩) (λk=>k<=p.length/\p.take k=q.take k) (λk=>p.length-k) 0 ?_ ?_ ?_
  .exact Qa (by simp [okS,okV,okC,okL,okH,okB,okE,Za,Va,za,Ja,wsA,ws]) trivial
  .exact⟨Nat.zero_le _,rfl⟩
  .rintro k ⟨hk,htk⟩;rw [lp];by_cases hlt:k<p.length
   .obtain⟨⟨u1,u2,u3⟩,hu,hu2,hum⟩:=getM hlt;obtain⟨⟨v1,v2,v3⟩,hv1,hv2,hvm⟩:=getM (by omega:k<q.length)
    have hlp:k<(mcs p).length:=by omega
    have hlq:k<(mcs q).length:=by omega
    have r1:=Nat.le_trans (Ua9 hum sc) (by decide:_<=1073741824)
    have r2:=Nat.le_trans (Ua9 hvm sd) (by decide:_<=1073741824)
    simp only at r1 r2;have ts:=XaN hu hv1;have bad:¬((u1,u2,u3)=(v1,v2,v3))->K (.tup [.one (.lit (.bool false)),.one (.lit .nilIface)]):=λh=>by
     rw [decide_eq_false (λe=>h (by rw [e,hv1]at hu;simpa using hu.symm))]at hK
     exact hK
    simp only [go_sem,hlt,hlp,hlq,hq,hu2,hv2,mC,mcan,Wb];refine⟨λh1=>⟨λh2=>⟨r1,r2,λh3=>⟨by omega,k+1,Qa (by simp [okS,okV,okC,okL,okH,okB,okE,Za,Va,za,Ja,wsA,ws,lp]) trivial,⟨by omega,ts.2 ⟨htk,?_⟩⟩,by omega⟩,λh3=>bad λe=>h3 ?_⟩,λh2=>bad λe=>h2 ?_⟩,λh1=>bad λe=>h1 ?_⟩
    .rw [h1,h2,Zf.1 h3]
    .simp only [Prod.mk.injEq]at e;exact Zf.2 e.2.2
    .simp only [Prod.mk.injEq]at e;exact e.2.1
    .simp only [Prod.mk.injEq]at e;exact e.1
   .have ek:k=p.length:=by omega
    rw [ek,List.take_length,hlen,List.take_length]at htk;rw [decide_eq_true htk]at hK;simp only [go_sem,hlt];exact hK
end Go.Abs
end
section
namespace Go.Num
open Go.Abs
def okT(n:Int):Prop:=n=1∨n=2∨n=4∨n=12
def tx(n:Int):ByteArray:=if n=12 then ⟨#[49,50]⟩ else if n=4 then ⟨#[52]⟩ else if n=2 then ⟨#[50]⟩ else ⟨#[49]⟩
def txR(q:Rat):ByteArray:=if q.den=1 then tx q.num else tx q.num++⟨#[47]⟩++tx (q.den:Nat)
theorem qbE(n:Int):(tx n).size<=2:=by unfold tx;split <;> (try split) <;> (try split) <;> decide
theorem wby{n:Int}(h:okT n):∃m:Nat,n=m/\1<=m/\m<=12:=by
 rcases h with h|h|h|h
 .exact⟨1,h,by decide,by decide⟩
 .exact⟨2,h,by decide,by decide⟩
 .exact⟨4,h,by decide,by decide⟩
 .exact⟨12,h,by decide,by decide⟩
theorem VbL{m:Nat}(h1:1<=m)(h2:m<=12):digs m=[m]:=by rw [vt (by omega),show m / 4294967296=0 by omega,Yb,show m % 4294967296=m by omega]
end Go.Num
namespace Go.Abs
open Go.Num
variable {P:Program} {Γ:Nat->Spec}
theorem zbm{h h' : Nat->HB}{z:Nat}{b:Bool}{w:W}:okB h h' (some ⟨[[zb w,zm w]],z,b⟩) (some ⟨[[zb w,zm w]],z,b⟩):=
 ⟨⟨rfl,rfl⟩,.inl ⟨rfl,λe he c hc=>by
  rw [List.mem_singleton.1 he]at hc;simp only [List.mem_cons,List.not_mem_nil,or_false]at hc;rcases hc with rfl|rfl
  .exact of_eq_true (vY _)
  .exact of_eq_true (U1 _)⟩⟩
def eJ(s:ByteArray):AV:=.one (.slice [[.lit (.string s)]])
theorem jbn(x y:ByteArray)(h:eJ x=eJ y):x=y:=by
 simp only [eJ,AV.one.injEq,C.slice.injEq,List.cons.injEq,C.lit.injEq,Value.string.injEq,and_true]at h;exact h
def onJ(k:ByteArray->Prop)(a:AV):Prop:=onE eJ k a
@[congr] theorem Yb2 {k:ByteArray->Prop} {a a' : AV} (h:a=a'):onJ k a=onJ k a':=by subst h;rfl
theorem vbG(k:ByteArray->Prop)(x:ByteArray):onJ k (.one (.slice [[.lit (.string x)]]))=k x:=jo jbn k x
theorem ub1{β:Type}{T:ByteArray->(β->Prop)->Prop}(h:∀x,GoodT (T x)){a:AV}:GoodT λK=>onJ (λx=>T x K) a:=
 JI (e:=eJ) (T:=T) jbn h
attribute [go_sem,go_sem ↓] vbG
def qs(l:List AV)(K:AV->Prop):Prop:=
 match l with
 | [a]=>asInt (λk n=>k=.i64/\okT n/\K (.one (.lit (.string (tx n))))) a
 | _=>False
theorem kaa(a:AV)(K:AV->Prop):qs [a] K=(asInt (λk n=>k=.i64/\okT n/\K (.one (.lit (.string (tx n))))) a):=propext Iff.rfl
@[congr] theorem kbI {K:AV->Prop} {l l' : List AV} (h:l=l'):qs l K=qs l' K:=by subst h;rfl
attribute [go_sem,go_sem ↓] kaa
theorem kaj:Good qs:=Wa λas=>by
 unfold qs;split
 .exact(jd (λ_ _=>(.and λ_=>(.and λ_=>(.ret _)))) _)
 .exact .of λK hk=>hk.elim
def Vz(l:List AV)(K:AV->Prop):Prop:=
 match l with
 | [a,b]=>asInt (λk n=>k=.i64/\okT n/\asInt (λk m=>k=.i64/\m=10/\K (.one (.lit (.string (tx n))))) b) a
 | _=>False
theorem XW(a b:AV)(K:AV->Prop):Vz [a,b] K=(asInt (λk n=>k=.i64/\okT n/\asInt (λk m=>k=.i64/\m=10/\K (.one (.lit (.string (tx n))))) b) a):=propext Iff.rfl
@[congr] theorem xbP {K:AV->Prop} {l l' : List AV} (h:l=l'):Vz l K=Vz l' K:=by subst h;rfl
attribute [go_sem,go_sem ↓] XW
theorem vaI:Good Vz:=Wa λas=>by
 unfold Vz;split
 .exact(jd (λ_ _=>(.and λ_=>(.and λ_=>(jd (λ_ _=>(.and λ_=>(.and λ_=>(.ret _)))) _)))) _)
 .exact .of λK hk=>hk.elim
def xo(l:List AV)(K:AV->Prop):Prop:=
 match l with
 | [a]=>asInt (λk n=>k=.i64/\okT n/\K (.one (.lit (.string (tx n))))) a
 | _=>False
theorem Waq(a:AV)(K:AV->Prop):xo [a] K=(asInt (λk n=>k=.i64/\okT n/\K (.one (.lit (.string (tx n))))) a):=propext Iff.rfl
@[congr] theorem kbP {K:AV->Prop} {l l' : List AV} (h:l=l'):xo l K=xo l' K:=by subst h;rfl
attribute [go_sem,go_sem ↓] Waq
theorem YU:Good xo:=Wa λas=>by
 unfold xo;split
 .exact(jd (λ_ _=>(.and λ_=>(.and λ_=>(.ret _)))) _)
 .exact .of λK hk=>hk.elim
def yy(l:List AV)(K:AV->Prop):Prop:=
 match l with
 | [a,b]=>onJ (λs=>b=.one (.lit (.string ⟨#[]⟩))/\K (.one (.lit (.string s)))) a
 | _=>False
theorem Uaw(a b:AV)(K:AV->Prop):yy [a,b] K=(onJ (λs=>b=.one (.lit (.string ⟨#[]⟩))/\K (.one (.lit (.string s)))) a):=propext Iff.rfl
@[congr] theorem WbR {K:AV->Prop} {l l' : List AV} (h:l=l'):yy l K=yy l' K:=by subst h;rfl
attribute [go_sem,go_sem ↓] Uaw
theorem jaI:Good yy:=Wa λas=>by
 unfold yy;split
 .exact(ub1 λ_=>(.and λ_=>(.ret _)))
 .exact .of λK hk=>hk.elim
def Zt(l:List AV)(K:AV->Prop):Prop:=
 match l with
 | [a]=>onW (λw=>okT (zv w)/\K (.one (.lit (.string (tx (zv w)))))) a
 | _=>False
theorem zae(a:AV)(K:AV->Prop):Zt [a] K=(onW (λw=>okT (zv w)/\K (.one (.lit (.string (tx (zv w)))))) a):=propext Iff.rfl
@[congr] theorem XbC {K:AV->Prop} {l l' : List AV} (h:l=l'):Zt l K=Zt l' K:=by subst h;rfl
attribute [go_sem,go_sem ↓] zae
theorem zan:Good Zt:=Wa λas=>by
 unfold Zt;split
 .exact(Um λ_=>(.and λ_=>(.ret _)))
 .exact .of λK hk=>hk.elim
def Vr(l:List AV)(K:AV->Prop):Prop:=
 match l with
 | [a]=>onR (λx=>okT (rv x).num/\okT ((rv x).den:Nat)/\rl x<=4294967296/\K (.one (.lit (.string (txR (rv x)))))) a
 | _=>False
theorem W9(a:AV)(K:AV->Prop):Vr [a] K=(onR (λx=>okT (rv x).num/\okT ((rv x).den:Nat)/\rl x<=4294967296/\K (.one (.lit (.string (txR (rv x)))))) a):=propext Iff.rfl
@[congr] theorem XbH {K:AV->Prop} {l l' : List AV} (h:l=l'):Vr l K=Vr l' K:=by subst h;rfl
attribute [go_sem,go_sem ↓] W9
theorem zam:Good Vr:=Wa λas=>by
 unfold Vr;split
 .exact(yg λ_=>(.and λ_=>(.and λ_=>(.and λ_=>(.ret _)))))
 .exact .of λK hk=>hk.elim
theorem Xae(hΓ:Holds P Γ){f:Nat}(hc:check P f=some (15,(ub).strip,[.tmp 2])):Sound P f (.dat false qs):=by
 refine ka hc kaj hΓ (λargs K hcl hfi hG=>?_);match args,hG with
 | [a],hG=>
  obtain⟨k,n,rfl,rfl,hn,hK⟩:=Vb hG;refine⟨by simp,?_⟩
  rcases hn with rfl|rfl|rfl|rfl
  .simp only [go_sem,ub];exact⟨λ_=>⟨by decide,⟨by decide,by decide,by decide⟩,hK⟩,λh=>absurd (by decide) h⟩
  .simp only [go_sem,ub];exact⟨λ_=>⟨by decide,⟨by decide,by decide,by decide⟩,hK⟩,λh=>absurd (by decide) h⟩
  .simp only [go_sem,ub];exact⟨λ_=>⟨by decide,⟨by decide,by decide,by decide⟩,hK⟩,λh=>absurd (by decide) h⟩
  .simp only [go_sem,ub];exact⟨λh=>absurd h (by decide),λ_=>⟨by decide,by decide,by decide,⟨by decide,by decide,by decide⟩,hK⟩⟩
theorem vaj(hΓ:Holds P Γ){f fs fn fb fi:Nat}(hs:Γ fs=.dat false qs)(hc:check P f=some (54,(kd fs fn fb fi).strip,[.tmp 4])):Sound P f (.dat false Vz):=by
 refine ka hc vaI hΓ (λargs K hcl hfi hG=>?_);match args,hG with
 | [a,b],hG=>
  rw [XW]at hG;obtain⟨k,n,rfl,rfl,hn,hG'⟩:=Vb hG;obtain⟨k',n',rfl,rfl,rfl,hK⟩:=Vb hG';clear hG hG';refine⟨by simp,?_⟩
  have a1:(0:Int)<=n:=by rcases hn with rfl|rfl|rfl|rfl <;> decide
  have a2:n<100:=by rcases hn with rfl|rfl|rfl|rfl <;> decide
  simp only [go_sem,kd,hs,a1,a2,hn];exact hK
theorem Qao(hΓ:Holds P Γ){f fs:Nat}(hs:Γ fs=.dat false Vz)(hc:check P f=some (5,(Jf fs).strip,[.tmp 2])):Sound P f (.dat false xo):=by
 refine ka hc YU hΓ (λargs K hcl hfi hG=>?_);match args,hG with
 | [a],hG=>
  obtain⟨k,n,rfl,rfl,hn,hK⟩:=Vb hG;refine⟨by simp,?_⟩
  simp only [go_sem,Jf,hs,hn];exact hK
theorem vaf(hΓ:Holds P Γ){f fs:Nat}(hs:Γ fs=.dat false xo)(hc:check P f=some (5,(Xt fs).strip,[.tmp 2])):Sound P f (.dat false xo):=by
 refine ka hc YU hΓ (λargs K hcl hfi hG=>?_);match args,hG with
 | [a],hG=>
  obtain⟨k,n,rfl,rfl,hn,hK⟩:=Vb hG;refine⟨by simp,?_⟩
  simp only [go_sem,Xt,hs,hn];exact hK
theorem uah(hΓ:Holds P Γ){f fg fw fs:Nat}(hc:check P f=some (75,(ut fg fw fs).strip,[.tmp 4])):Sound P f (.dat false yy):=by
 refine ka hc jaI hΓ (λargs K hcl hfi hG=>?_);match args,hG with
 | [a,b],hG=>
  obtain⟨s,rfl,rfl,hK⟩:=hG;refine⟨by simp,?_⟩
  simp only [go_sem,ut,eJ];exact⟨λ_=>⟨by decide,hK⟩,λh=>absurd rfl h⟩
theorem vah(hΓ:Holds P Γ){f fm fs fi fr fj fn:Nat}(hm:Γ fm=.dat false Wk)(hs:Γ fs=.dat false Uw)(hi:Γ fi=.dat false xo)(hj:Γ fj=.dat false yy)(hn:Γ fn=.dat true Xf)(hc:check P f=some (44,(wt fm fs fi fr fj fn).strip,[.tmp 2])):Sound P f (.dat false Zt):=by
  refine ka hc zan hΓ (λargs K hcl hfi hG=>?_);match args,hG with
  | [a],hG=>
    obtain⟨w,rfl,hw,h1,hK⟩:=hG;refine⟨by simp,?_⟩
    obtain⟨m,hm1,m1,m2⟩:=wby h1;rw [hm1]at h1 hK;have d1:digs m=[m]:=VbL m1 m2;have d0:=Yb
    have v1 : val [m] / 1000000000 = 0 := by have : val [m] = m := by simp [val]
                                             omega
    have v2 : val [m] % 1000000000 = m := by have : val [m] = m := by simp [val]
                                             omega
    have n0:¬((m:Int)<0):=by omega
    have w1:WL [m]:=Jc.2 ⟨by omega,Wc⟩
    simp only [go_sem,wt,hm,hs,hi,hj,hn,hw,hm1,Int.natAbs_natCast,d1];refine Ya (λk:Nat=>if k=0 then ⟨mkV [(1,.one (.ptr 1 1 0 0)),(3,wsA [m]),(4,.one .emp)],mkH [(1,⟨1,some ⟨[[zb w,zm w]],2,true⟩⟩)]⟩ else ⟨mkV [(1,.one (.ptr 1 1 0 0)),(3,wsA []),(4,.one (.full [[.lit (.string (tx m))]]))],mkH [(1,⟨1,some ⟨[[zb w,zm w]],2,true⟩⟩)]⟩) (λ_=>True) (λk=>1-k) 0 ?_ trivial ?_
    . rw [if_pos rfl];exact Qa (by simp [okS,okV,okC,okL,okH,okB,okE,Za,Va,za,Ja,wsA,ws,wc]) ⟨zbm,trivial⟩
    . intro k _
      by_cases hk:k=0
      . subst hk
        rw [if_pos rfl];simp only [go_sem,hs,hi,v1,v2,d0,h1];refine⟨w1,by decide,by decide,by omega,λe he=>by simp at he,1,?_,by decide⟩
        rw [if_neg (by decide)]
        exact Qa (by simp [okS,okV,okC,okL,okH,okB,okE,Za,Va,za,Ja,wsA,ws,wc]) ⟨zbm,trivial⟩
      . rw [if_neg hk]
        simp only [go_sem,hj,hn,hw,hm1,n0];exact hK
theorem kah(hΓ:Holds P Γ){f fp fo fc ft:Nat}(hp:Γ fp=.dat false Qe)(ho:Γ fo=.dat false Qq)(hc' : Γ fc=.dat true uA)(ht:Γ ft=.dat false Zt)(hc:check P f=some (22,(Qm fp fo fc ft).strip,[.tmp 2])):Sound P f (.dat false Vr):=by
 refine ka hc zam hΓ (λargs K hcl hfi hG=>?_);match args,hG with
 | [a],hG=>
  obtain⟨x,rfl,hx,h1,h2,hl,hK⟩:=hG;refine⟨by simp,?_⟩
  obtain⟨q,hq⟩:∃q,rv x=q:=⟨_,rfl⟩;rw [hq]at h1 h2 hK;unfold txR at hK;have e1:ordI ((q.den:Nat):Int) 1=0↔q.den=1:=by unfold ordI;split <;> (try split) <;> omega
  by_cases hd:q.den=1
  .rw [if_pos hd]at hK;simp only [go_sem,Qm,hp,ho,hc',ht,hx,hq];exact⟨hl,λ_=>⟨h1,hK⟩,λh=>absurd (e1.2 hd) h⟩
  .rw [if_neg hd]at hK;simp only [go_sem,Qm,hp,ho,hc',ht,hx,hq];have z1:=qbE q.num;have z2:=qbE (q.den:Nat);have z3:(ByteArray.mk #[47]).size=1:=rfl;exact⟨hl,λh=>absurd (e1.1 h) hd,λ_=>⟨h1,by omega,h2,by rw [ByteArray.size_append];omega,hK⟩⟩
end Go.Abs
end
section
namespace Go.Num
open Go.Abs
theorem jbT(w:V2):0<=sqQ w:=by
 have h:∀x:Rat,0<=x*x:=λx=>by
  rcases Rat.le_total (a:=0) (b:=x) with h|h
  .exact Rat.mul_nonneg h h
  .have h2:0<=-x:=by grind
   have:=Rat.mul_nonneg h2 h2;grind
 unfold sqQ;have h1:=h w.1;have h2:=h w.2;grind
theorem YbI{w:V2}(h:sqQ w≠0):0<sqQ w:=by have:=jbT w;grind
theorem ubz{w:V2}(h:sqQ w=0):w=(0,0):=by
 have hh:∀x:Rat,0<=x*x:=λx=>by
  rcases Rat.le_total (a:=0) (b:=x) with h|h
  .exact Rat.mul_nonneg h h
  .have h2:0<=-x:=by grind
   have:=Rat.mul_nonneg h2 h2;grind
 unfold sqQ at h;have h1:=hh w.1;have h2:=hh w.2;have e1:w.1*w.1=0:=by grind
 have e2:w.2*w.2=0:=by grind
 have f1:w.1=0:=by rcases Rat.mul_eq_zero.1 e1 with h|h <;> exact h
 have f2:w.2=0:=by rcases Rat.mul_eq_zero.1 e2 with h|h <;> exact h
 exact Prod.ext f1 f2
theorem ybI(a b:V2):sqQ (timesQ a b)=sqQ a*sqQ b:=by unfold sqQ timesQ;simp only;grind
theorem cchkC{X:CpR}(h1:0<X.2.2.1)(h2:0<X.2.2.2.1)(h3:0<X.2.2.2.2.1)(h4:X.1≠X.2.1):cchk (canC X)=0:=by
 have a1:avld (canC X).1=true:=Jbh X.1;have a2:avld (canC X).2.1=true:=Jbh X.2.1;have a3:(cps5 (canC X)).all vldR=true:=by simp [cps5,canC,uc]
 have a4:(cps3 (canC X)).all gt0R=true:=by simp [cps3,canC,gt0R,Wb,h1,h2,h3]
 have a5:av (canC X).1≠av (canC X).2.1:=by
  have e1:av (canC X).1=X.1:=qP X.1;have e2:av (canC X).2.1=X.2.1:=qP X.2.1;rw [e1,e2];exact h4
 unfold cchk;rw [if_neg (by simp [a1,a2]),if_neg (by simp [a3]),if_neg (by simp [a4]),if_neg a5]
theorem cchkG{c:Cp}(h:cchk c=0):0<(cpv c).2.2.1/\0<(cpv c).2.2.2.1/\0<(cpv c).2.2.2.2.1/\(cpv c).1≠(cpv c).2.1:=by
 obtain⟨_,_,_,h4,h5⟩:=Zbl h;simp only [cps3,gt0R,List.all_cons,List.all_nil,Bool.and_true,Bool.and_eq_true,decide_eq_true_eq]at h4;exact⟨h4.1,h4.2.1,h4.2.2,h5⟩
def okQ(c:CpR):Prop:=0<c.2.2.1/\0<c.2.2.2.1/\0<c.2.2.2.2.1/\c.1≠c.2.1
theorem JbG{c:Cp}(h:cchk c=0):okQ (cpv c):=cchkG h
theorem Wbt{X:CpR}(h:okQ X):cchk (canC X)=0:=cchkC h.1 h.2.1 h.2.2.1 h.2.2.2
theorem ybN{c:CpR}(h:okQ c)(hw:sqQ (cW c)≠0):okQ (fiQ c):=by
 obtain⟨h1,h2,h3,h4⟩:=h;have p:=YbI hw;refine⟨Rat.mul_pos p h2,Rat.mul_pos p h1,Rat.mul_pos p h3,λe=>?_⟩;have e' : c.1=addQ c.1 (timesQ (cW c) (subQ c.2.1 c.1)):=e;have t:timesQ (cW c) (subQ c.2.1 c.1)=(0,0):=by
  obtain⟨T,hT⟩:∃T,timesQ (cW c) (subQ c.2.1 c.1)=T:=⟨_,rfl⟩;rw [hT]at e' ⊢;unfold addQ at e';have e1:=congrArg Prod.fst e';have e2:=congrArg Prod.snd e';simp only at e1 e2;exact Prod.ext (by simp only;grind) (by simp only;grind)
 have s:=ybI (cW c) (subQ c.2.1 c.1);rw [t]at s;have s0:sqQ ((0:Rat),(0:Rat))=0:=by decide +kernel
 rw [s0]at s;have s1:=(Rat.mul_eq_zero.1 s.symm).resolve_left hw;have s2:=ubz s1;unfold subQ at s2;have e1:=congrArg Prod.fst s2;have e2:=congrArg Prod.snd s2;simp only at e1 e2;exact h4 (Prod.ext (by grind) (by grind))
theorem cb_B{c:CpR}{b:Nat}(h:CB' b c)(hb:b<=1000):CB c:=by
 obtain⟨h1,h2,h3,h4,h5,h6,h7⟩:=h;have a1:=zq_1 c.1;have a2:=zq_2 c.1;have a3:=zq_1 c.2.1;have a4:=zq_2 c.2.1;exact⟨by omega,by omega,by omega,by omega,by omega,by omega,by omega,by omega,by omega⟩
theorem cl_B{c:CpR}{b:Nat}(h:CB' b c):cl (canC c)<=b:=by
 obtain⟨h1,h2,h3,h4,h5,h6,h7⟩:=h;rw [vbH];simp only [Nat.max_le];exact⟨h1,h2,h3,h4,h5,h6,h7⟩
theorem Qa4(c:CpR):WLC (canC c):=⟨qB _,qB _,Ye _,Ye _,Ye _,Ye _,Ye _⟩
theorem ubv{c d:CpR}(hc:CB c)(hd:CB d)(h:∀p,wV c p=wV d p):cCur c=cCur d:=
 Jar (VM hc).canon (VM hd).canon λx y=>by
  have h1:=VaP hc (x,y);have h2:=VaP hd (x,y);simp only at h1 h2;rw [h1,h2,h]
theorem YbH{c:CpR}(hc:CB c)(hd:CB (fiQ c))(hw:sqQ (cW c)≠0):cCur (fiQ c)=cCur c:=ubv hd hc λp=>wb1 c p hw
theorem ex_w:sqQ (cW exQ)≠0:=by decide +kernel
theorem ubG:fiQ exQ=((0,0),(2,0),4,1 / 4,1 / 4,2,0):=by decide +kernel
theorem Jb0:foQ exQ=(2,0):=by decide +kernel
theorem Zbt:CB' 16 exQ:=by unfold CB';decide +kernel
theorem zaN:CB' 200 (fiQ exQ):=by
 have:=qbV Zbt;obtain⟨h1,h2,h3,h4,h5,h6,h7⟩:=this;exact⟨by omega,by omega,by omega,by omega,by omega,by omega,by omega⟩
end Go.Num
namespace Go.Abs
open Go.Num
variable {P:Program} {Γ:Nat->Spec}
def uy(l:List AV)(K:AV->Prop):Prop:=
 match l with
 | []=>K (.one (.lit (.bool true)))
 | _=>False
theorem vaE(K:AV->Prop):uy [] K=(K (.one (.lit (.bool true)))):=propext Iff.rfl
@[congr] theorem zbP {K:AV->Prop} {l l' : List AV} (h:l=l'):uy l K=uy l' K:=by subst h;rfl
attribute [go_sem,go_sem ↓] vaE
theorem VaH:Good uy:=Wa λas=>by
 unfold uy;split
 .exact(.ret _)
 .exact .of λK hk=>hk.elim
def Ud(f0 f1 f2 f3 f4:Nat):List AO:=[.m 23 (.t 2),.u 24 (.binn .eql (.t 23) (.c (.one (.lit .nilIface)))),.m 25 (.t 24),.w 26 25 true (.mv (.t 4)),.w 27 25 true (.binn .eql (.t 26) (.c (.one (.lit .nilIface)))),.u 28 (.pick (.t 25) (.t 27) .fa),.m 29 (.t 28),.w 30 29 true (.mv (.t 6)),.w 31 29 true (.binn .eql (.t 30) (.c (.one (.lit .nilIface)))),.u 32 (.pick (.t 29) (.t 31) .fa),.m 33 (.t 32),.w 34 33 true (.mv (.t 5))]
theorem Up{f0 f1 f2 f3 f4:Nat}(Γ:Nat->Spec)(dr:Bool)(Q:S->Prop)(s:S):wpL Γ dr Q (Ud f0 f1 f2 f3 f4) s=wpL Γ dr Q [.m 23 (.t 2),.u 24 (.binn .eql (.t 23) (.c (.one (.lit .nilIface)))),.m 25 (.t 24),.w 26 25 true (.mv (.t 4)),.w 27 25 true (.binn .eql (.t 26) (.c (.one (.lit .nilIface)))),.u 28 (.pick (.t 25) (.t 27) .fa),.m 29 (.t 28),.w 30 29 true (.mv (.t 6)),.w 31 29 true (.binn .eql (.t 30) (.c (.one (.lit .nilIface)))),.u 32 (.pick (.t 29) (.t 31) .fa),.m 33 (.t 32),.w 34 33 true (.mv (.t 5))] s:=eq_of_heq (HEq.refl _)
def Xd(f0 f1 f2 f3 f4:Nat):List AO:=[.u 35 (.pick (.t 33) (.t 34) .fa),.m 36 (.t 35),.w 37 36 true (.fa 0 (.t 1)),.w 38 36 true (.ld none 3 true (.t 37)),.w 39 36 true (.call f4 [(.t 38)]),.w 40 36 true (.sop 1 [(.t 39),(.c (.one (.lit (.string ⟨#[50]⟩))))]),.u 41 (.pick (.t 36) (.t 40) .fa),.m 42 (.t 41),.w 43 42 true (.fa 12 (.t 3)),.w 44 42 true (.ld none 3 true (.t 43)),.w 45 42 true (.call f4 [(.t 44)]),.w 46 42 true (.sop 1 [(.t 45),(.c (.one (.lit (.string ⟨#[52]⟩))))])]
theorem jq{f0 f1 f2 f3 f4:Nat}(Γ:Nat->Spec)(dr:Bool)(Q:S->Prop)(s:S):wpL Γ dr Q (Xd f0 f1 f2 f3 f4) s=wpL Γ dr Q [.u 35 (.pick (.t 33) (.t 34) .fa),.m 36 (.t 35),.w 37 36 true (.fa 0 (.t 1)),.w 38 36 true (.ld none 3 true (.t 37)),.w 39 36 true (.call f4 [(.t 38)]),.w 40 36 true (.sop 1 [(.t 39),(.c (.one (.lit (.string ⟨#[50]⟩))))]),.u 41 (.pick (.t 36) (.t 40) .fa),.m 42 (.t 41),.w 43 42 true (.fa 12 (.t 3)),.w 44 42 true (.ld none 3 true (.t 43)),.w 45 42 true (.call f4 [(.t 44)]),.w 46 42 true (.sop 1 [(.t 45),(.c (.one (.lit (.string ⟨#[52]⟩))))])] s:=eq_of_heq (HEq.refl _)
def ud(f0 f1 f2 f3 f4:Nat):List AO:=[.u 47 (.pick (.t 42) (.t 46) .fa),.m 48 (.t 47),.w 49 48 true (.fa 15 (.t 3)),.w 50 48 true (.ld none 3 true (.t 49)),.w 51 48 true (.call f4 [(.t 50)]),.w 52 48 true (.sop 1 [(.t 51),(.c (.one (.lit (.string ⟨#[49,47,52]⟩))))]),.u 53 (.pick (.t 48) (.t 52) .fa),.m 54 (.t 53),.w 55 54 true (.fa 21 (.t 3)),.w 56 54 true (.ld none 3 true (.t 55)),.w 57 54 true (.call f4 [(.t 56)]),.w 58 54 true (.sop 1 [(.t 57),(.c (.one (.lit (.string ⟨#[50]⟩))))])]
theorem qq{f0 f1 f2 f3 f4:Nat}(Γ:Nat->Spec)(dr:Bool)(Q:S->Prop)(s:S):wpL Γ dr Q (ud f0 f1 f2 f3 f4) s=wpL Γ dr Q [.u 47 (.pick (.t 42) (.t 46) .fa),.m 48 (.t 47),.w 49 48 true (.fa 15 (.t 3)),.w 50 48 true (.ld none 3 true (.t 49)),.w 51 48 true (.call f4 [(.t 50)]),.w 52 48 true (.sop 1 [(.t 51),(.c (.one (.lit (.string ⟨#[49,47,52]⟩))))]),.u 53 (.pick (.t 48) (.t 52) .fa),.m 54 (.t 53),.w 55 54 true (.fa 21 (.t 3)),.w 56 54 true (.ld none 3 true (.t 55)),.w 57 54 true (.call f4 [(.t 56)]),.w 58 54 true (.sop 1 [(.t 57),(.c (.one (.lit (.string ⟨#[50]⟩))))])] s:=eq_of_heq (HEq.refl _)
def xd(f0 f1 f2 f3 f4:Nat):List AO:=[.u 59 (.pick (.t 54) (.t 58) .fa),.m 0 (.t 59)]
theorem xp{f0 f1 f2 f3 f4:Nat}(Γ:Nat->Spec)(dr:Bool)(Q:S->Prop)(s:S):wpL Γ dr Q (xd f0 f1 f2 f3 f4) s=wpL Γ dr Q [.u 59 (.pick (.t 54) (.t 58) .fa),.m 0 (.t 59)] s:=eq_of_heq (HEq.refl _)
def Wl(f0 f1 f2 f3 f4:Nat):AC:=(.seq (.ops false (Ud f0 f1 f2 f3 f4++(Xd f0 f1 f2 f3 f4++(ud f0 f1 f2 f3 f4++(xd f0 f1 f2 f3 f4)))))
 .ret)
theorem Wt{f0 f1 f2 f3 f4:Nat}(Γ:Nat->Spec)(Q:Ex->S->Prop)(s:S):wpA Γ (Wl f0 f1 f2 f3 f4) Q s=wpA Γ (.seq (.ops false (Ud f0 f1 f2 f3 f4++(Xd f0 f1 f2 f3 f4++(ud f0 f1 f2 f3 f4++(xd f0 f1 f2 f3 f4)))))
 .ret) Q s:=eq_of_heq (HEq.refl _)
def Xh(f0 f1 f2 f3 f4:Nat):AC:=(.seq (.ops false [.m 0 .fa])
 (.fg [] (.seq (.ops false [.u 8 (.call f0 []),.u 9 (.call f1 [(.t 8)]),.m 7 (.t 9),.u 10 (.ext 0 (.t 7)),.u 11 (.ext 1 (.t 7)),.u 1 (.alloc [(.lit (.bool false)),.emp,.emp,(.lit (.bool false)),.emp,.emp]),.n (.st none 6 (.t 1) (.t 10)),.m 2 (.t 11)])
 (.fg [1,2] (.seq (.ops false [.u 13 (.call f0 []),.u 14 (.call f2 [(.t 13)]),.m 12 (.t 14),.u 15 (.ext 0 (.t 12)),.u 16 (.ext 1 (.t 12)),.u 3 (.alloc [(.lit (.bool false)),.emp,.emp,(.lit (.bool false)),.emp,.emp,(.lit (.bool false)),.emp,.emp,(.lit (.bool false)),.emp,.emp,(.lit (.bool false)),.emp,.emp,(.lit (.bool false)),.emp,.emp,(.lit (.bool false)),.emp,.emp,(.lit (.bool false)),.emp,.emp,(.lit (.bool false)),.emp,.emp]),.n (.st none 27 (.t 3) (.t 15)),.m 4 (.t 16)])
 (.fg [1,2,3,4] (.seq (.ops true [.u 18 (.call f0 []),.u 19 (.ld none 27 true (.t 3)),.u 20 (.call f3 [(.t 18),(.t 19)]),.m 17 (.t 20),.u 21 (.ext 0 (.t 17)),.u 22 (.ext 1 (.t 17)),.m 5 (.t 21),.m 6 (.t 22)])
 (.fg [1,2,3,4,5,6] (Wl f0 f1 f2 f3 f4)))))))))
set_option maxHeartbeats 2000000 in
theorem xan(hΓ:Holds P Γ){f fe ff fi fs ft tE:Nat}(he:Γ fe=.dat false vC)(hf:Γ ff=.dat false (jV tE))(hi:Γ fi=.dat false (YZ tE))(hs:Γ fs=.dat false (kC tE))(ht:Γ ft=.dat false Vr)(hc:check P f=some (60,(Xh fe ff fi fs ft).strip,[.tmp 0])):Sound P f (.dat true uy):=by
 refine ka hc VaH hΓ (λargs K hcl hfi hG=>?_);match args,hG with
 | [],hK=>
  refine⟨by simp,?_⟩
  have kE:=Vbu;have wE:=Qa4 exQ;have lE:=cl_B Zbt;have vE:=Zal exQ;obtain⟨E,hE⟩:∃E,canC exQ=E:=⟨_,rfl⟩;have eE:cqR exQ=cpA E:=by rw [<-hE];rfl
  rw [hE]at kE wE lE vE;have kF:=Wbt (ybN (by have:=JbG kE;rw [vE]at this;exact this) ex_w)
  have wF:=Qa4 (fiQ exQ);have lF:=cl_B zaN;have vF:=Zal (fiQ exQ);have hcur:cCur (fiQ exQ)=cCur exQ:=YbH (cb_B Zbt (by decide)) (cb_B zaN (by decide)) ex_w
  obtain⟨Y,hY⟩:∃Y,fiQ exQ=Y:=⟨_,rfl⟩;rw [hY]at kF wF lF vF hcur;rw [ubG]at hY;obtain⟨F,hF⟩:∃F,canC Y=F:=⟨_,rfl⟩;have eF:cqR Y=cpA F:=by rw [<-hF];rfl
  rw [hF]at kF wF lF vF;have cE:fiC E=0:=by rw [qbN kE,vE];exact wC_0.2 ex_w
  have sE:smC E F=0:=by unfold smC;rw [if_neg (by omega)];exact kF
  have l1:cl E<=100000:=Nat.le_trans lE (by decide)
  have l2:cl E<=1000:=Nat.le_trans lE (by decide)
  have l3:cl F<=1000:=Nat.le_trans lF (by decide)
  have dc:=decide_eq_true hcur.symm;have g0:decide (0=0)=true:=rfl;have e0:=Jd tE;have a2:rv F.2.2.1=4:=by rw [<-hF,<-hY];exact Wb _
  have b2:rv F.2.2.2.1=1 / 4:=by rw [<-hF,<-hY];exact Wb _
  have u2:rv F.2.2.2.2.2.1=2:=by rw [<-hF,<-hY];exact Wb _
  have hYY:fiQ exQ=Y:=by rw [ubG,hY]
  have t2:txR 2=⟨#[50]⟩:=by decide +kernel
  have t4:txR 4=⟨#[52]⟩:=by decide +kernel
  have tq:txR (1 / 4)=⟨#[49,47,52]⟩:=by decide +kernel
  simp only [go_sem,Xh,he,hf,hi,hs,eE,kE,vE,cE,hYY,eF,Jb0,e0,cpA,cpC,vd,sE,vF,dc,g0,Bool.true_and];repeat first|refine ja (by with_reducible assumption) ?_|refine ja (Nat.le_trans (by with_reducible assumption) (by decide)) ?_|refine ja (by decide) ?_
  have wF1:=wF.2.2.1;have wF2:=wF.2.2.2.1;have wF3:=wF.2.2.2.2.2.1;have hl0:=lF;unfold cl at hl0;simp only [Nat.max_le]at hl0;have lF1:=Nat.le_trans hl0.2.2.1 (by decide:_<=4294967296)
  have lF2:=Nat.le_trans hl0.2.2.2.1 (by decide:_<=4294967296)
  have lF3:=Nat.le_trans hl0.2.2.2.2.2.1 (by decide:_<=4294967296)
  have l22:rz 2<=4294967296:=Nat.le_trans rz_2 (by decide)
  have k1:okT (Rat.num 2):=Or.inr (Or.inl rfl);have k2:okT ((Rat.den 2:Nat):Int):=Or.inl rfl;have k3:okT (Rat.num 4):=Or.inr (Or.inr (Or.inl rfl));have k4:okT ((Rat.den 4:Nat):Int):=Or.inl rfl;have k5:okT (Rat.num (1 / 4)):=Or.inl (by decide +kernel)
  have k6:okT ((Rat.den (1 / 4):Nat):Int):=Or.inr (Or.inr (Or.inl (by decide +kernel)))
  rw [Wt,zbI,Qaq,Qaq,Qaq];rw [Up];simp only [go_sem];rw [jq];have bb:∀l:List UInt8,(l == l)=true:=λl=>beq_self_eq_true l;simp only [go_sem,ht,Wb,t2,t4,tq,a2,b2,u2,bb];repeat first|refine ja (by with_reducible assumption) ?_|refine ja (Nat.le_trans (by with_reducible assumption) (by decide)) ?_|refine ja (by decide) ?_
  rw [qq];simp only [go_sem,ht,Wb,t2,t4,tq,a2,b2,u2,bb];repeat first|refine ja (by with_reducible assumption) ?_|refine ja (Nat.le_trans (by with_reducible assumption) (by decide)) ?_|refine ja (by decide) ?_
  rw [xp];simp only [go_sem,ht,Wb,t2,t4,tq,a2,b2,u2,bb];exact hK
end Go.Abs
end
section
namespace Go.Num
open Go.Abs
end Go.Num
namespace Go.Abs
open Go.Num
variable {P:Program} {Γ:Nat->Spec}
theorem ZbC(c:Cp):cpA c=.agg (cpC c):=eq_of_heq (HEq.refl _)
theorem qbn(k:Cp->Prop)(c:Cp):onCp k (.agg (cpC c))=(WLC c/\k c):=jo YaU (λc=>WLC c/\k c) c
theorem Xaj(c:Cp):(cpC c).length=27:=eq_of_heq (HEq.refl _)
theorem yar(c:Cp):(cpC c).take 27=cpC c:=List.take_of_length_le (Nat.le_of_eq (Xaj c))
theorem xaq(c:Cp):(cpC c).drop 0=cpC c:=eq_of_heq (HEq.refl _)
theorem QaX(h:Nat->HB)(c:Cp):(cpC c).map (datC h)=cpC c:=eq_of_heq (HEq.refl _)
theorem Xa8(c:Cp):(cpC c).flatMap ownC=[]:=eq_of_heq (HEq.refl _)
theorem gE1x(K:List C->Prop)(e0 e1:List C)(r:List (List C)):getE K (e0::e1::r) 1=K e1:=by simp [getE]
theorem gE2x(K:List C->Prop)(e0 e1 e2:List C)(r:List (List C)):getE K (e0::e1::e2::r) 2=K e2:=by simp [getE]
theorem gE3x(K:List C->Prop)(e0 e1 e2 e3:List C)(r:List (List C)):getE K (e0::e1::e2::e3::r) 3=K e3:=by simp [getE]
theorem gE4x(K:List C->Prop)(e0 e1 e2 e3 e4:List C)(r:List (List C)):getE K (e0::e1::e2::e3::e4::r) 4=K e4:=by simp [getE]
theorem gE5x(K:List C->Prop)(e0 e1 e2 e3 e4 e5:List C)(r:List (List C)):getE K (e0::e1::e2::e3::e4::e5::r) 5=K e5:=by simp [getE]
attribute [go_sem,go_sem ↓] ZbC qbn Xaj yar xaq QaX Xa8 gE1x gE2x gE3x gE4x gE5x
def QM(l:List AV)(K:AV->Prop):Prop:=
 match l with
 | [c]=>onCp (λc=>cl c<=1048576/\K (.one (.lit (.bool true)))) c
 | _=>False
theorem vP(c:AV)(K:AV->Prop):QM [c] K=(onCp (λc=>cl c<=1048576/\K (.one (.lit (.bool true)))) c):=propext Iff.rfl
@[congr] theorem qbz {K:AV->Prop} {l l' : List AV} (h:l=l'):QM l K=QM l' K:=by subst h;rfl
attribute [go_sem,go_sem ↓] vP
end Go.Abs
end
section
namespace Go.Num
def sumN(f:Nat->Rat):Nat->Rat
 | 0=>0
 | n+1=>sumN f n+f n
theorem qh{f g:Nat->Rat}:∀{n:Nat},(∀k,k<n->f k=g k)->sumN f n=sumN g n
 | 0,_=>rfl
 | n+1,h=>by simp only [sumN];rw [qh (λk hk=>h k (by omega)),h n (by omega)]
theorem zC(f g:Nat->Rat):∀n:Nat,sumN (λk=>f k+g k) n=sumN f n+sumN g n
 | 0=>by simp only [sumN];grind
 | n+1=>by simp only [sumN];rw [zC f g n];grind
theorem kZ(c:Rat)(f:Nat->Rat):∀n:Nat,sumN (λk=>c*f k) n=c*sumN f n
 | 0=>by simp only [sumN];grind
 | n+1=>by simp only [sumN];rw [kZ c f n];grind
theorem wB:∀n:Nat,sumN (λ_=>0) n=0
 | 0=>rfl
 | n+1=>by simp only [sumN];rw [wB n];grind
theorem W3(c:Rat)(m:Nat):∀n:Nat,sumN (λk=>if k=m then c else 0) n=if m<n then c else 0
 | 0=>by simp [sumN]
 | n+1=>by
  simp only [sumN];rw [W3 c m n];by_cases h1:m<n
  .rw [if_pos h1,if_neg (by omega),if_pos (by omega)];grind
  .by_cases h2:n=m
   .rw [if_neg h1,if_pos h2,if_pos (by omega)];grind
   .rw [if_neg h1,if_neg h2,if_neg (by omega)];grind
theorem VW{f:Nat->Rat}{m:Nat}:∀{n:Nat},m<=n->(∀k,m<=k->k<n->f k=0)->sumN f m=sumN f n
 | 0,h,_=>by rw [Nat.le_zero.1 h]
 | n+1,h,h0=>by
  by_cases h1:m=n+1
  .rw [h1]
  .simp only [sumN];rw [h0 n (by omega) (by omega),<-VW (f:=f) (m:=m) (n:=n) (by omega) (λk a b=>h0 k a (by omega))];grind
abbrev Gr:=List Rat
def gat(g:Gr)(i j:Nat):Rat:=g.getD (i*7+j) 0
def mon(x y:Rat)(i j:Nat):Rat:=pw x i*pw y j
def evG(g:Gr)(x y:Rat):Rat:=sumN (λi=>sumN (λj=>gat g i j*mon x y i j) 7) 7
def gz:Gr->Nat
 | []=>0
 | q::r=>rz q+gz r
theorem kbh:∀{g:Gr} {q:Rat},q∈g->rz q<=gz g
 | [],_,h=>by simp at h
 | p::r,q,h=>by
  simp only [gz];rcases List.mem_cons.1 h with rfl|h
  .omega
  .have:=kbh h;omega
theorem ka2(g:Gr)(m:Nat):rz (g.getD m 0)<=gz g:=by
 rw [List.getD_eq_getElem?_getD];cases h:g[m]? with
 | none=>rw [Option.getD_none,rz_0];omega
 | some q=>exact kbh (List.mem_of_getElem? h)
theorem xP(g:Gr)(i j:Nat):rz (gat g i j)<=gz g:=ka2 g _
theorem Ya3:∀(g:Gr) (m:Nat) (v:Rat),gz (g.set m v)+rz (g.getD m 0)<=gz g+rz v
 | [],m,v=>by simp only [List.set_nil,List.getD_nil,gz];rw [rz_0];omega
 | q::r,0,v=>by simp only [List.set_cons_zero,List.getD_cons_zero,gz];omega
 | q::r,m+1,v=>by
  have:=Ya3 r m v;simp only [List.set_cons_succ,List.getD_cons_succ,gz];omega
theorem VD{g:Gr}(hg:g.length=49){i j i' j' : Nat}(hi:i<7)(hj:j<7)(hi' : i' < 7)(hj' : j' < 7)(v:Rat):gat (g.set (i*7+j) v) i' j' = if i' = i/\j' = j then v else gat g i' j':=by
 unfold gat;rw [List.getD_eq_getElem?_getD,List.getElem?_set];by_cases h:i' = i/\j' = j
 .obtain⟨rfl,rfl⟩:=h;rw [if_pos rfl,if_pos (by omega),if_pos ⟨rfl,rfl⟩];rfl
 .rw [if_neg h,if_neg (by omega),List.getD_eq_getElem?_getD]
theorem yL{g:Gr}(hg:g.length=49){i j:Nat}(hi:i<7)(hj:j<7)(v x y:Rat):evG (g.set (i*7+j) v) x y=evG g x y+(v-gat g i j)*mon x y i j:=by
 have h1:evG (g.set (i*7+j) v) x y=sumN (λi'=>sumN (λj'=>gat g i' j' * mon x y i' j') 7+(if i' = i then (v-gat g i j)*mon x y i j else 0)) 7:=by
  unfold evG;refine qh λi' hi'=>?_;have e:sumN (λj'=>gat (g.set (i*7+j) v) i' j' * mon x y i' j') 7=sumN (λj'=>gat g i' j' * mon x y i' j' + (if j' = j then (if i' = i then (v-gat g i j)*mon x y i j else 0) else 0)) 7:=by
   refine qh λj' hj'=>?_;rw [VD hg hi hj hi' hj'];by_cases h2:i' = i
   .by_cases h3:j' = j
    .rw [if_pos ⟨h2,h3⟩,if_pos h3,if_pos h2,h2,h3];grind
    .rw [if_neg (λh=>h3 h.2),if_neg h3];grind
   .rw [if_neg (λh=>h2 h.1),if_neg h2];split <;> grind
  rw [e,zC,W3,if_pos hj]
 rw [h1,zC,W3,if_pos hi];rfl
def zG:Gr:=List.replicate 49 0
theorem uan(i j:Nat):gat zG i j=0:=by
 unfold gat zG;rw [List.getD_eq_getElem?_getD,List.getElem?_replicate];split <;> rfl
theorem zbb(x y:Rat):evG zG x y=0:=by
 unfold evG;have:∀i,sumN (λj=>gat zG i j*mon x y i j) 7=0:=λi=>by
  rw [<-wB 7];exact qh λj _=>by rw [uan];grind
 rw [<-wB 7];exact qh λi _=>this i
theorem jr:zG.length=49:=List.length_replicate
theorem gz_z:gz zG=0:=by
 unfold zG;generalize 49=n
 induction n with
 | zero=>rfl
 | succ n ih=>rw [List.replicate_succ];simp only [gz];rw [ih,rz_0]
def conG(x:Rat):Gr:=zG.set 0 x
def linG(a b c:Rat):Gr:=((zG.set 0 a).set 7 b).set 1 c
theorem ZC(x:Rat):(conG x).length=49:=by unfold conG;rw [List.length_set,jr]
theorem JJ(a b c:Rat):(linG a b c).length=49:=by unfold linG;rw [List.length_set,List.length_set,List.length_set,jr]
theorem Zbn(x y:Rat):mon x y 0 0=1:=by simp only [mon,pw];grind
theorem ybG(x y:Rat):mon x y 1 0=x:=by simp only [mon,pw];grind
theorem ybA(x y:Rat):mon x y 0 1=y:=by simp only [mon,pw];grind
theorem jbx(c x y:Rat):evG (conG c) x y=c:=by
 have h:=yL jr (i:=0) (j:=0) (by decide) (by decide) c x y
 rw [uan,zbb,Zbn]at h;unfold conG;rw [show 0*7+0=0 from rfl]at h;rw [h];grind
theorem ubw(a b c x y:Rat):evG (linG a b c) x y=a+b*x+c*y:=by
 have l0:(zG.set 0 a).length=49:=by rw [List.length_set,jr]
 have l1:((zG.set 0 a).set 7 b).length=49:=by rw [List.length_set,l0]
 have h0:=yL jr (i:=0) (j:=0) (by decide) (by decide) a x y
 have h1:=yL l0 (i:=1) (j:=0) (by decide) (by decide) b x y
 have h2:=yL l1 (i:=0) (j:=1) (by decide) (by decide) c x y
 have g1:=VD jr (i:=0) (j:=0) (i':=1) (j':=0) (by decide) (by decide) (by decide) (by decide) a
 have g2:=VD l0 (i:=1) (j:=0) (i':=0) (j':=1) (by decide) (by decide) (by decide) (by decide) b
 have g3:=VD jr (i:=0) (j:=0) (i':=0) (j':=1) (by decide) (by decide) (by decide) (by decide) a
 rw [if_neg (by decide),uan]at g1
 rw [if_neg (by decide)]at g2
 rw [if_neg (by decide),uan]at g3
 simp only [Nat.zero_mul,Nat.one_mul,Nat.zero_add,Nat.add_zero]at h0 h1 h2 g1 g2 g3;unfold linG;rw [h2,g2,g3,h1,g1,h0,uan,zbb,Zbn,ybG,ybA];grind
def plusG(a:Gr)(k:Rat)(b:Gr):Gr:=List.zipWith (λp q=>p+k*q) a b
theorem yd{a b:Gr}(ha:a.length=49)(hb:b.length=49)(k:Rat):(plusG a k b).length=49:=by unfold plusG;rw [List.length_zipWith,ha,hb];rfl
theorem Vad{a b:Gr}(ha:a.length=49)(hb:b.length=49)(k:Rat){i j:Nat}(hi:i<7)(hj:j<7):gat (plusG a k b) i j=gat a i j+k*gat b i j:=by
 unfold gat plusG;have h1:i*7+j<a.length:=by omega
 have h2:i*7+j<b.length:=by omega
 simp only [List.getD_eq_getElem?_getD,List.getElem?_zipWith,List.getElem?_eq_getElem h1,List.getElem?_eq_getElem h2,Option.getD_some]
theorem yv{a b:Gr}(ha:a.length=49)(hb:b.length=49)(k x y:Rat):evG (plusG a k b) x y=evG a x y+k*evG b x y:=by
 unfold evG;rw [<-kZ,<-zC];refine qh λi hi=>?_;rw [<-kZ,<-zC];refine qh λj hj=>?_;rw [Vad ha hb k hi hj];grind
theorem Jw:∀(a b:Gr) (k:Rat),gz (plusG a k b)<=gz a+gz b+b.length*(rz k+4)
 | [],b,k=>by simp [plusG,gz]
 | p::a,[],k=>by simp [plusG,gz]
 | p::a,q::b,k=>by
  have h:=Jw a b k;have h1:=jc k q;have h2:=JB p (k*q);show rz (p+k*q)+gz (plusG a k b)<=rz p+gz a+(rz q+gz b)+(b.length+1)*(rz k+4);rw [Nat.add_mul];omega
end Go.Num
end
section
namespace Go.Num
def addG(o:Gr)(i j:Nat)(v:Rat):Gr:=o.set (i*7+j) (gat o i j+v)
def plG(a b:Gr)(i j k:Nat)(o:Gr):Nat->Gr
 | 0=>o
 | n+1=>addG (plG a b i j k o n) (i+k) (j+n) (gat a i j*gat b k n)
def pkG(a b:Gr)(i j:Nat)(o:Gr):Nat->Gr
 | 0=>o
 | n+1=>plG a b i j n (pkG a b i j o n) (7-j)
def pjG(a b:Gr)(i:Nat)(o:Gr):Nat->Gr
 | 0=>o
 | n+1=>if gat a i n=0 then pjG a b i o n else pkG a b i n (pjG a b i o n) (7-i)
def piG(a b:Gr):Nat->Gr
 | 0=>zG
 | n+1=>pjG a b n (piG a b n) 7
def prodG(a b:Gr):Gr:=piG a b 7
theorem ubd{o:Gr}(h:o.length=49)(i j:Nat)(v:Rat):(addG o i j v).length=49:=by unfold addG;rw [List.length_set,h]
theorem vL{a b:Gr}{i j k:Nat}{o:Gr}(h:o.length=49):∀n,(plG a b i j k o n).length=49
 | 0=>h
 | n+1=>ubd (vL h n) _ _ _
theorem kK{a b:Gr}{i j:Nat}{o:Gr}(h:o.length=49):∀n,(pkG a b i j o n).length=49
 | 0=>h
 | n+1=>vL (kK h n) _
theorem wH{a b:Gr}{i:Nat}{o:Gr}(h:o.length=49):∀n,(pjG a b i o n).length=49
 | 0=>h
 | n+1=>by
  simp only [pjG];split
  .exact wH h n
  .exact kK (wH h n) _
theorem qN{a b:Gr}:∀n,(piG a b n).length=49
 | 0=>jr
 | n+1=>wH (qN n) _
theorem Qb(a b:Gr):(prodG a b).length=49:=qN 7
theorem jbH(o:Gr)(i j:Nat)(v:Rat):gz (addG o i j v)<=gz o+rz v+2:=by
 have h:=Ya3 o (i*7+j) (gat o i j+v);have h2:=JB (gat o i j) v;have e:rz (o.getD (i*7+j) 0)=rz (gat o i j):=rfl;unfold addG;omega
def rzN(f:Nat->Rat):Nat->Nat
 | 0=>0
 | n+1=>rzN f n+rz (f n)
theorem W2(f:Nat->Rat){m:Nat}:∀{n:Nat},m<=n->rzN f m<=rzN f n
 | 0,h=>by rw [Nat.le_zero.1 h];exact Nat.le_refl _
 | n+1,h=>by
  by_cases h1:m=n+1
  .rw [h1];exact Nat.le_refl _
  .have:=W2 f (m:=m) (n:=n) (by omega)
   simp only [rzN];omega
theorem vbr(a b:Gr)(i j k:Nat)(o:Gr):∀n,gz (plG a b i j k o n)<=gz o+n*(rz (gat a i j)+4)+rzN (λl=>gat b k l) n
 | 0=>by simp only [plG,rzN];omega
 | n+1=>by
  have h:=vbr a b i j k o n;have h1:=jbH (plG a b i j k o n) (i+k) (j+n) (gat a i j*gat b k n);have h2:=jc (gat a i j) (gat b k n);simp only [plG,rzN];rw [Nat.add_mul];omega
def rrN(b:Gr)(m:Nat):Nat->Nat
 | 0=>0
 | n+1=>rrN b m n+rzN (λl=>gat b n l) m
theorem ubo(a b:Gr)(i j:Nat)(o:Gr):∀n,gz (pkG a b i j o n)<=gz o+n*(7*(rz (gat a i j)+4))+rrN b 7 n
 | 0=>by simp only [pkG,rrN];omega
 | n+1=>by
  have h:=ubo a b i j o n;have h1:=vbr a b i j n (pkG a b i j o n) (7-j);have h2:(7-j)*(rz (gat a i j)+4)<=7*(rz (gat a i j)+4):=Nat.mul_le_mul_right _ (by omega)
  have h3:=W2 (λl=>gat b n l) (m:=7-j) (n:=7) (by omega)
  simp only [pkG,rrN];rw [Nat.add_mul];omega
theorem YE(b:Gr)(m:Nat){k:Nat}:∀{n:Nat},k<=n->rrN b m k<=rrN b m n
 | 0,h=>by rw [Nat.le_zero.1 h];exact Nat.le_refl _
 | n+1,h=>by
  by_cases h1:k=n+1
  .rw [h1];exact Nat.le_refl _
  .have:=YE b m (k:=k) (n:=n) (by omega)
   simp only [rrN];omega
theorem xbp(a b:Gr)(i:Nat)(o:Gr):∀n,gz (pjG a b i o n)<=gz o+49*rzN (λj=>gat a i j) n+n*(196+rrN b 7 7)
 | 0=>by simp only [pjG,rzN];omega
 | n+1=>by
  have h:=xbp a b i o n;have h1:=ubo a b i n (pjG a b i o n) (7-i);have h2:(7-i)*(7*(rz (gat a i n)+4))<=7*(7*(rz (gat a i n)+4)):=Nat.mul_le_mul_right _ (by omega)
  have h3:=YE b 7 (k:=7-i) (n:=7) (by omega)
  simp only [pjG,rzN];rw [Nat.add_mul];split <;> omega
theorem Wbu(a b:Gr):∀n,gz (piG a b n)<=49*rrN a 7 n+n*(7*(196+rrN b 7 7))
 | 0=>by simp only [piG,rrN];rw [gz_z];omega
 | n+1=>by
  have h:=Wbu a b n;have h1:=xbp a b n (piG a b n) 7;show gz (pjG a b n (piG a b n) 7)<=49*(rrN a 7 n+rzN (λl=>gat a n l) 7)+(n+1)*(7*(196+rrN b 7 7));rw [Nat.add_mul];omega
theorem Ua4(f:Nat->Rat)(m:Nat):∀n,rzN f (m+n)=rzN f m+rzN (λl=>f (m+l)) n
 | 0=>by simp only [rzN,Nat.add_zero]
 | n+1=>by
  have ih:=Ua4 f m n;show rzN f (m+n)+rz (f (m+n))=rzN f m+(rzN (λl=>f (m+l)) n+rz (f (m+n)));omega
theorem Xag(f:Nat->Rat):∀n,rzN f (n+1)=rz (f 0)+rzN (λm=>f (m+1)) n
 | 0=>by show 0+rz (f 0)=rz (f 0)+0;omega
 | n+1=>by
  have ih:=Xag f n;show rzN f (n+1)+rz (f (n+1))=rz (f 0)+(rzN (λm=>f (m+1)) n+rz (f (n+1)));omega
theorem qbm:∀g:Gr,rzN (λm=>g.getD m 0) g.length=gz g
 | []=>rfl
 | q::r=>by
  have ih:=qbm r;rw [List.length_cons,Xag];simp only [List.getD_cons_zero,List.getD_cons_succ,gz];omega
theorem jbF(g:Gr):∀n,rrN g 7 n=rzN (λm=>g.getD m 0) (n*7)
 | 0=>rfl
 | n+1=>by
  have ih:=jbF g n;have e:(n+1)*7=n*7+7:=by omega
  rw [e,Ua4,<-ih];rfl
theorem vU{g:Gr}(hg:g.length=49):rrN g 7 7=gz g:=by
 rw [jbF,<-qbm,hg]
theorem Wo{a b:Gr}(ha:a.length=49)(hb:b.length=49):gz (prodG a b)<=49*gz a+49*gz b+9604:=by
 have h:=Wbu a b 7;rw [vU ha,vU hb]at h;unfold prodG;omega
theorem Wbv(x y:Rat)(i j k l:Nat):mon x y (i+k) (j+l)=mon x y i j*mon x y k l:=by unfold mon;rw [xaX,xaX];grind
theorem Zbw{o:Gr}(h:o.length=49){i j:Nat}(hi:i<7)(hj:j<7)(v x y:Rat):evG (addG o i j v) x y=evG o x y+v*mon x y i j:=by
 unfold addG;rw [yL h hi hj];grind
theorem ybC{a b:Gr}{i j k:Nat}{o:Gr}(h:o.length=49)(hik:i+k<7)(x y:Rat):∀n,j+n<=7->evG (plG a b i j k o n) x y=evG o x y+gat a i j*mon x y i j*sumN (λl=>gat b k l*mon x y k l) n
 | 0,_=>by simp only [plG,sumN];grind
 | n+1,hn=>by
  simp only [plG,sumN];rw [Zbw (vL h n) hik (by omega),ybC h hik x y n (by omega),Wbv];grind
theorem ubH{a b:Gr}{i j:Nat}{o:Gr}(h:o.length=49)(hj:j<7)(x y:Rat):∀n,i+n<=7->evG (pkG a b i j o n) x y=evG o x y+gat a i j*mon x y i j*sumN (λk=>sumN (λl=>gat b k l*mon x y k l) (7-j)) n
 | 0,_=>by simp only [pkG,sumN];grind
 | n+1,hn=>by
  simp only [pkG,sumN];rw [ybC (kK h n) (by omega) x y (7-j) (by omega),ubH h hj x y n (by omega)];grind
def DG(d:Nat)(g:Gr):Prop:=∀i j,i<7->j<7->d<i+j->gat g i j=0
theorem kbr{d e:Nat}{g:Gr}(h:DG d g)(hd:d<=e):DG e g:=λi j hi hj h1=>h i j hi hj (by omega)
theorem qb1{b:Gr}{e i j:Nat}(hb:DG e b)(h:i+j+e<=6)(x y:Rat):sumN (λk=>sumN (λl=>gat b k l*mon x y k l) (7-j)) (7-i)=evG b x y:=by
 have h1:∀k,k<7->sumN (λl=>gat b k l*mon x y k l) (7-j)=sumN (λl=>gat b k l*mon x y k l) 7:=λk hk=>
  VW (by omega) λl hl hl7=>by rw [hb k l hk hl7 (by omega)];grind
 have h2:sumN (λk=>sumN (λl=>gat b k l*mon x y k l) (7-j)) (7-i)=sumN (λk=>sumN (λl=>gat b k l*mon x y k l) 7) (7-i):=qh λk hk=>h1 k (by omega)
 rw [h2];unfold evG;refine VW (by omega) λk hk hk7=>?_
 have h3:sumN (λl=>gat b k l*mon x y k l) 7=sumN (λ_=>0) 7:=qh λl hl=>by rw [hb k l hk7 hl (by omega)];grind
 rw [h3,wB]
theorem jbM{a b:Gr}{d e i:Nat}(ha:DG d a)(hb:DG e b)(hde:d+e<=6)(hi:i<7){o:Gr}(h:o.length=49)(x y:Rat):∀n,n<=7->evG (pjG a b i o n) x y=evG o x y+sumN (λj=>gat a i j*mon x y i j) n*evG b x y
 | 0,_=>by simp only [pjG,sumN];grind
 | n+1,hn=>by
  have ih:=jbM ha hb hde hi h x y n (by omega)
  simp only [pjG,sumN];by_cases h0:gat a i n=0
  .rw [if_pos h0,ih,h0];grind
  .have hin:i+n<=d:=Nat.le_of_not_lt λhlt=>h0 (ha i n hi (by omega) hlt)
   rw [if_neg h0,ubH (wH h n) (by omega) x y (7-i) (by omega),ih,qb1 hb (by omega)];grind
theorem VbI{a b:Gr}{d e:Nat}(ha:DG d a)(hb:DG e b)(hde:d+e<=6)(x y:Rat):∀n,n<=7->evG (piG a b n) x y=sumN (λi=>sumN (λj=>gat a i j*mon x y i j) 7) n*evG b x y
 | 0,_=>by
  show evG zG x y=0*evG b x y;rw [zbb];grind
 | n+1,hn=>by
  show evG (pjG a b n (piG a b n) 7) x y=(sumN (λi=>sumN (λj=>gat a i j*mon x y i j) 7) n+sumN (λj=>gat a n j*mon x y n j) 7)*evG b x y;rw [jbM ha hb hde (by omega) (qN n) x y 7 (Nat.le_refl _),VbI ha hb hde x y n (by omega),Rat.add_mul]
theorem Qo{a b:Gr}{d e:Nat}(ha:DG d a)(hb:DG e b)(hde:d+e<=6)(x y:Rat):evG (prodG a b) x y=evG a x y*evG b x y:=VbI ha hb hde x y 7 (Nat.le_refl _)
theorem DG_z(d:Nat):DG d zG:=λi j _ _ _=>uan i j
theorem xbC(c:Rat):DG 0 (conG c):=λi j hi hj h=>by
 have:=VD jr (i:=0) (j:=0) (i':=i) (j':=j) (by decide) (by decide) hi hj c
 rw [if_neg (by omega),uan]at this
 exact this
theorem zax{d:Nat}{g:Gr}(hg:g.length=49)(h:DG d g){i j:Nat}(hi:i<7)(hj:j<7)(hd:i+j<=d)(v:Rat):DG d (g.set (i*7+j) v):=λi' j' hi' hj' h'=>by
 rw [VD hg hi hj hi' hj',if_neg (by omega)];exact h i' j' hi' hj' h'
theorem Jbo(a b c:Rat):DG 1 (linG a b c):=by
 have l0:(zG.set 0 a).length=49:=by rw [List.length_set,jr]
 have l1:((zG.set 0 a).set 7 b).length=49:=by rw [List.length_set,l0]
 have h0:=zax jr (DG_z 1) (i:=0) (j:=0) (by decide) (by decide) (by decide) a
 have h1:=zax l0 h0 (i:=1) (j:=0) (by decide) (by decide) (by decide) b
 exact zax l1 h1 (i:=0) (j:=1) (by decide) (by decide) (by decide) c
theorem xH{d:Nat}{a b:Gr}(ha:a.length=49)(hb:b.length=49)(h:DG d a)(h' : DG d b)(k:Rat):DG d (plusG a k b):=λi j hi hj hd=>by
 rw [Vad ha hb k hi hj,h i j hi hj hd,h' i j hi hj hd];grind
theorem zbp{d:Nat}{o:Gr}(hg:o.length=49)(h:DG d o){i j:Nat}(hi:i<7)(hj:j<7){v:Rat}(hd:i+j<=d∨v=0):DG d (addG o i j v):=by
 rcases hd with hd|rfl
 .exact zax hg h hi hj hd _
 .intro i' j' hi' hj' h';unfold addG;rw [VD hg hi hj hi' hj'];split
  .rename_i e;rw [<-e.1,<-e.2,h i' j' hi' hj' h'];grind
  .exact h i' j' hi' hj' h'
theorem xbH{a b:Gr}{d e i j k:Nat}(hb:DG e b)(hij:i+j<=d){o:Gr}(h:o.length=49)(ho:DG (d+e) o)(hik:i+k<7):∀n,j+n<=7->DG (d+e) (plG a b i j k o n)
 | 0,_=>ho
 | n+1,hn=>by
  simp only [plG];refine zbp (vL h n) (xbH hb hij h ho hik n (by omega)) hik (by omega) ?_
  by_cases hk:k+n<=e
  .exact .inl (by omega)
  .refine .inr ?_;rw [hb k n (by omega) (by omega) (by omega)];grind
theorem zbH{a b:Gr}{d e i j:Nat}(hb:DG e b)(hij:i+j<=d){o:Gr}(h:o.length=49)(ho:DG (d+e) o)(hj:j<7):∀n,i+n<=7->DG (d+e) (pkG a b i j o n)
 | 0,_=>ho
 | n+1,hn=>xbH hb hij (kK h n) (zbH hb hij h ho hj n (by omega)) (by omega) (7-j) (by omega)
theorem VbF{a b:Gr}{d e i:Nat}(ha:DG d a)(hb:DG e b)(hi:i<7){o:Gr}(h:o.length=49)(ho:DG (d+e) o):∀n,n<=7->DG (d+e) (pjG a b i o n)
 | 0,_=>ho
 | n+1,hn=>by
  have ih:=VbF ha hb hi h ho n (by omega)
  simp only [pjG];split
  .exact ih
  .rename_i h0;have hin:i+n<=d:=Nat.le_of_not_lt λhlt=>h0 (ha i n hi (by omega) hlt)
   exact zbH hb hin (wH h n) ih (by omega) (7-i) (by omega)
theorem ybH{a b:Gr}{d e:Nat}(ha:DG d a)(hb:DG e b):∀n,n<=7->DG (d+e) (piG a b n)
 | 0,_=>DG_z _
 | n+1,hn=>VbF ha hb (by omega) (qN n) (ybH ha hb n (by omega)) 7 (Nat.le_refl _)
theorem wA{a b:Gr}{d e:Nat}(ha:DG d a)(hb:DG e b):DG (d+e) (prodG a b):=ybH ha hb 7 (Nat.le_refl _)
end Go.Num
end
section
namespace Go.Num
def lsT(g:Gr)(s i:Nat):MQ:=((i:Int),(s:Int)-(i:Int),gat g i (s-i))
def lsI(g:Gr)(s:Nat)(o:BQ):Nat->BQ
 | 0=>o
 | n+1=>if s<n∨6<s-n∨gat g n (s-n)=0 then lsI g s o n else lsI g s o n++[lsT g s n]
def lsS(g:Gr):Nat->BQ
 | 0=>[]
 | n+1=>lsI g n (lsS g n) 7
def lsG(g:Gr):BQ:=lsS g 13
structure Lw (b:Nat) (o:BQ):Prop where
 can:Canon o
 low:∀t∈o,kq t<b
theorem Qbg{g:Gr}{s i:Nat}(h:i<=s):kq (lsT g s i)=tri s+i:=by
 unfold kq lsT;have e:((i:Int)+((s:Int)-(i:Int))).toNat=s:=by omega
 simp only [e];omega
theorem Lw.snoc{b:Nat}{o:BQ}(h:Lw b o){t:MQ}(ht:inQ t)(hz:t.2.2≠0)(hb:b<=kq t):Lw (kq t+1) (o++[t]):=by
 refine⟨⟨?_,?_,?_⟩,?_⟩
 .unfold StrM;refine List.pairwise_append.2 ⟨h.can.str,List.pairwise_singleton _ _,λx hx y hy=>?_⟩;rw [List.mem_singleton.1 hy];have:=h.low x hx;omega
 .intro x hx;rcases List.mem_append.1 hx with hx|hx
  .exact h.can.ins x hx
  .rw [List.mem_singleton.1 hx];exact ht
 .intro x hx;rcases List.mem_append.1 hx with hx|hx
  .exact h.can.nz x hx
  .rw [List.mem_singleton.1 hx];exact hz
 .intro x hx;rcases List.mem_append.1 hx with hx|hx
  .have:=h.low x hx;omega
  .rw [List.mem_singleton.1 hx];omega
theorem Lw.mono{b c:Nat}{o:BQ}(h:Lw b o)(hb:b<=c):Lw c o:=⟨h.can,λt ht=>by have:=h.low t ht;omega⟩
theorem lw_I{g:Gr}{s:Nat}(hs:s<=12){o:BQ}(h:Lw (tri s) o):∀n,Lw (tri s+n) (lsI g s o n)
 | 0=>h
 | n+1=>by
  have ih:=lw_I hs h (g:=g) n;simp only [lsI];split
  .exact ih.mono (by omega)
  .rename_i hc;simp only [not_or]at hc;have hk:=Qbg (g:=g) (s:=s) (i:=n) (by omega)
   have:=ih.snoc (t:=lsT g s n) ⟨by show(0:Int)<=(n:Int);omega,by show(0:Int)<=(s:Int)-(n:Int);omega,by show(n:Int)+((s:Int)-(n:Int))<=24;omega⟩ hc.2.2 (by omega)
   rw [hk]at this;exact this
theorem Wbo{g:Gr}{s:Nat}{o:BQ}(h:∀t∈o,kq t<tri s):∀n,∀t∈lsI g s o n,kq t<tri (s+1)
 | 0,t,ht=>by have:=h t ht;show kq t<tri s+(s+1);omega
 | n+1,t,ht=>by
  simp only [lsI]at ht;split at ht
  .exact Wbo h n t ht
  .rename_i hc;simp only [not_or]at hc;rcases List.mem_append.1 ht with ht|ht
   .exact Wbo h n t ht
   .rw [List.mem_singleton.1 ht,Qbg (by omega)]
    show tri s+n<tri s+(s+1);omega
theorem lw_S(g:Gr):∀n,n<=13->Lw (tri n) (lsS g n)
 | 0,_=>⟨⟨List.Pairwise.nil,λ_ h=>by simp [lsS]at h,λ_ h=>by simp [lsS]at h⟩,λ_ h=>by simp [lsS]at h⟩
 | n+1,hn=>by
  have ih:=lw_S g n (by omega)
  exact⟨(lw_I (by omega) ih 7).can,Wbo ih.low 7⟩
theorem Ya8(g:Gr):Canon (lsG g):=(lw_S g 13 (Nat.le_refl _)).can
def tmG(g:Gr)(x y:Rat)(s i:Nat):Rat:=if s<i∨6<s-i then 0 else gat g i (s-i)*mon x y i (s-i)
theorem wbB(g:Gr){s i:Nat}(h:i<=s)(x y:Rat):ev [lsT g s i] x y=gat g i (s-i)*mon x y i (s-i):=by
 have e:((s:Int)-(i:Int)).toNat=s-i:=by omega
 simp only [ev,mev,lsT,mon,e,Int.toNat_natCast];grind
theorem ev_I(g:Gr)(s:Nat)(o:BQ)(x y:Rat):∀n,ev (lsI g s o n) x y=ev o x y+sumN (tmG g x y s) n
 | 0=>by simp only [lsI,sumN];grind
 | n+1=>by
  have ih:=ev_I g s o x y n;simp only [lsI,sumN];unfold tmG at ih ⊢;by_cases h1:s<n∨6<s-n
  .rw [if_pos (by omega),if_pos h1,ih];grind
  .rw [if_neg h1];by_cases h2:gat g n (s-n)=0
   .rw [if_pos (.inr (.inr h2)),ih,h2];grind
   .rw [if_neg (λh=>by rcases h with h|h|h <;> first|exact h2 h|omega),kB,ih,wbB g (by omega)];grind
theorem ev_S(g:Gr)(x y:Rat):∀n,ev (lsS g n) x y=sumN (λs=>sumN (tmG g x y s) 7) n
 | 0=>rfl
 | n+1=>by
  show ev (lsI g n (lsS g n) 7) x y=sumN (λs=>sumN (tmG g x y s) 7) n+sumN (tmG g x y n) 7;rw [ev_I,ev_S g x y n]
theorem Q6(F:Nat->Nat->Rat)(m:Nat):∀n,sumN (λs=>sumN (λi=>F s i) m) n=sumN (λi=>sumN (λs=>F s i) n) m
 | 0=>by simp only [sumN];rw [wB]
 | n+1=>by
  show sumN (λs=>sumN (λi=>F s i) m) n+sumN (λi=>F n i) m=sumN (λi=>sumN (λs=>F s i) n+F n i) m;rw [Q6 F m n,zC]
theorem diag(g:Gr)(x y:Rat){i:Nat}(hi:i<7):sumN (λs=>tmG g x y s i) 13=sumN (λj=>gat g i j*mon x y i j) 7:=by
 match i,hi with
 | 0,_=>simp [sumN,tmG];grind
 | 1,_=>simp [sumN,tmG];grind
 | 2,_=>simp [sumN,tmG];grind
 | 3,_=>simp [sumN,tmG];grind
 | 4,_=>simp [sumN,tmG];grind
 | 5,_=>simp [sumN,tmG];grind
 | 6,_=>simp [sumN,tmG];grind
theorem ZbD(g:Gr)(x y:Rat):ev (lsG g) x y=evG g x y:=by
 unfold lsG evG;rw [ev_S,Q6 (λs i=>tmG g x y s i)];exact qh λi hi=>diag g x y hi
theorem qbH{g:Gr}{p:BQ}(hp:Canon p)(h:∀x y,ev p x y=evG g x y):lsG g=p:=
 Jar (Ya8 g) hp λx y=>by rw [ZbD,h]
end Go.Num
end
section
namespace Go.Abs
open Go.Num
variable {P:Program} {Γ:Nat->Spec}
def zrs:Nat->List C
 | 0=>[]
 | n+1=>.lit (.bool false)::.emp::.emp::zrs n
def fl(G:List (List C)):List C:=G.flatten
def all3(G:List (List C)):Prop:=∀t∈G,t.length=3
def gC(g:Gr):List C:=fl (g.map λq=>rC (rcan q))
def gA(g:Gr):AV:=.agg (gC g)
theorem Ubg:∀{G:List (List C)},all3 G->(fl G).length=3*G.length
 | [],_=>rfl
 | t::G,h=>by
  have ih:=Ubg (G:=G) λx hx=>h x (List.mem_cons_of_mem _ hx);unfold fl at ih ⊢;rw [List.flatten_cons,List.length_append,ih,h t (List.mem_cons_self ..),List.length_cons];omega
theorem Vao:∀{G:List (List C)} (k:Nat),all3 G->(fl G).drop (3*k)=fl (G.drop k)
 | G,0,_=>by simp
 | [],k+1,_=>by simp [fl]
 | t::G,k+1,h=>by
  have ih:=Vao (G:=G) k λx hx=>h x (List.mem_cons_of_mem _ hx);have ht:=h t (List.mem_cons_self ..);unfold fl at ih ⊢;rw [List.flatten_cons,List.drop_succ_cons,<-ih,show 3*(k+1)=t.length+3*k by omega,<-List.drop_drop,List.drop_left]
theorem uaS:∀{G:List (List C)} (k:Nat),all3 G->(fl G).take (3*k)=fl (G.take k)
 | G,0,_=>by simp [fl]
 | [],k+1,_=>by simp [fl]
 | t::G,k+1,h=>by
  have ih:=uaS (G:=G) k λx hx=>h x (List.mem_cons_of_mem _ hx);have ht:=h t (List.mem_cons_self ..);unfold fl at ih ⊢;rw [List.flatten_cons,List.take_succ_cons,List.flatten_cons,<-ih,show 3*(k+1)=t.length+3*k by omega,List.take_append,List.take_of_length_le (by omega),Nat.add_sub_cancel_left]
theorem QbC{G:List (List C)}{k:Nat}(h:all3 G)(hk:k<G.length):((fl G).drop (3*k)).take 3=G[k]:=by
 rw [Vao k h];have e:G.drop k=G[k]::G.drop (k+1):=(List.getElem_cons_drop hk).symm;rw [e];unfold fl;rw [List.flatten_cons,List.take_left' (h _ (List.getElem_mem hk))]
theorem ybE{G:List (List C)}{k:Nat}(h:all3 G)(hk:k<G.length)(xs:List C)(hx:xs.length=3):splice (fl G) (3*k) 3 xs=fl (G.set k xs):=by
 unfold splice;rw [uaS k h,show 3*k+3=3*(k+1) by omega,Vao (k+1) h]
 unfold fl;rw [List.set_eq_take_append_cons_drop,if_pos hk,List.flatten_append,List.flatten_cons]
theorem zaR(g:Gr):all3 (g.map λq=>rC (rcan q)):=λt ht=>by
 obtain⟨q,_,rfl⟩:=List.mem_map.1 ht;rfl
theorem Uc(g:Gr):(gC g).length=3*g.length:=by unfold gC;rw [Ubg (zaR g),List.length_map]
theorem zM{g:Gr}{k:Nat}(hk:k<g.length):((gC g).drop (3*k)).take 3=rC (rcan (g.getD k 0)):=by
 unfold gC;rw [QbC (zaR g) (by rw [List.length_map];exact hk),List.getElem_map,List.getD_eq_getElem?_getD,List.getElem?_eq_getElem hk];rfl
theorem Zbj{g:Gr}{k:Nat}(hk:k<g.length)(q:Rat):splice (gC g) (3*k) 3 (rC (rcan q))=gC (g.set k q):=by
 unfold gC;rw [ybE (zaR g) (by rw [List.length_map];exact hk) _ rfl,List.map_set]
theorem Ybl:∀{a b:Gr},gC a=gC b->a=b
 | [],[],_=>rfl
 | [],q::b,h=>by have:=congrArg List.length h;rw [Uc,Uc]at this;simp at this
 | p::a,[],h=>by have:=congrArg List.length h;rw [Uc,Uc]at this;simp at this
 | p::a,q::b,h=>by
  have h2:rC (rcan p)++gC a=rC (rcan q)++gC b:=h;have h3:=List.append_inj h2 rfl;have h4:=wbl h3.1;have h5:p=q:=by have:=congrArg rv h4;rw [Wb,Wb]at this;exact this
  rw [h5,Ybl h3.2]
theorem ybl(a b:Gr)(h:gA a=gA b):a=b:=Ybl (by simpa [gA] using h)
def onG(k:Gr->Prop)(a:AV):Prop:=onE gA (λg=>g.length=49/\k g) a
@[congr] theorem Ub2 {k:Gr->Prop} {a a' : AV} (h:a=a'):onG k a=onG k a':=by subst h;rfl
theorem XbE(k:Gr->Prop)(g:Gr):onG k (.agg (gC g))=(g.length=49/\k g):=jo ybl (λg=>g.length=49/\k g) g
theorem wa0{β:Type}{T:Gr->(β->Prop)->Prop}(h:∀x,GoodT (T x)){a:AV}:GoodT λK=>onG (λx=>T x K) a:=
 JI (e:=gA) (T:=λg K=>g.length=49/\T g K) ybl λg=>GoodT.and (c:=g.length=49) (T:=T g) λ_=>h g
theorem wY(g:Gr):CleanL (gC g):=λc hc=>by
 unfold gC fl at hc;obtain⟨t,ht,hc⟩:=List.mem_flatten.1 hc;obtain⟨q,_,rfl⟩:=List.mem_map.1 ht;simp only [rC,List.mem_cons,List.not_mem_nil,or_false]at hc;rcases hc with rfl|rfl|rfl
 .exact of_eq_true (yi _)
 .exact of_eq_true (wi _)
 .exact of_eq_true (Ji _)
theorem Yag:∀n,CleanL (zrs n)
 | 0=>λc hc=>by simp [zrs]at hc
 | n+1=>λc hc=>by
  simp only [zrs,List.mem_cons]at hc;rcases hc with rfl|rfl|rfl|hc
  .exact .lit _
  .exact .emp
  .exact .emp
  .exact Yag n c hc
theorem yD:∀n,(zrs n).length=3*n
 | 0=>rfl
 | n+1=>by simp only [zrs,List.length_cons];rw [yD n];omega
theorem kbk(h:Nat->HB)(g:Gr):(gC g).map (datC h)=gC g:=by
 unfold gC fl;rw [List.map_flatten,List.map_map];rfl
theorem kbm(g:Gr):(gC g).flatMap ownC=[]:=by
 rw [List.flatMap_eq_nil_iff];intro c hc;unfold gC fl at hc;obtain⟨t,ht,hc⟩:=List.mem_flatten.1 hc;obtain⟨q,_,rfl⟩:=List.mem_map.1 ht;simp only [rC,List.mem_cons,List.not_mem_nil,or_false]at hc;rcases hc with rfl|rfl|rfl <;> rfl
theorem Vf{g:Gr}(h:g.length=49):(gC g).take 147=gC g:=List.take_of_length_le (by rw [Uc,h];decide)
theorem xaC(g:Gr):(gC g).drop 0=gC g:=rfl
theorem jaK:(zrs 49).length=147:=yD 49
theorem Ua(g:Gr):CleanR [gC g]:=λe he=>by rw [List.mem_singleton.1 he];exact wY g
theorem kk(n:Nat):CleanR [zrs n]:=λe he=>by rw [List.mem_singleton.1 he];exact Yag n
theorem vbD(g:Gr):gA g=.agg (gC g):=eq_of_heq (HEq.refl _)
attribute [go_sem,go_sem ↓] XbE kbk kbm vbD xaC jaK
def plusP(a:Gr)(k:Rat)(b:Gr):Nat->Gr
 | 0=>a
 | n+1=>(plusP a k b n).set n (a.getD n 0+k*b.getD n 0)
theorem VB(a:Gr)(k:Rat)(b:Gr):∀n,(plusP a k b n).length=a.length
 | 0=>rfl
 | n+1=>by simp only [plusP];rw [List.length_set,VB a k b n]
theorem uN(a:Gr)(k:Rat)(b:Gr)(m:Nat):∀n,n<=a.length->(plusP a k b n).getD m 0=if m<n then a.getD m 0+k*b.getD m 0 else a.getD m 0
 | 0,_=>by simp [plusP]
 | n+1,hn=>by
  have ih:=uN a k b m n (by omega)
  simp only [plusP];have hl:n<(plusP a k b n).length:=by rw [VB];omega
  by_cases h:m=n
  .subst h;rw [List.getD_eq_getElem?_getD,List.getElem?_set_self hl,if_pos (by omega)];rfl
  .rw [List.getD_eq_getElem?_getD,List.getElem?_set_ne (by omega),<-List.getD_eq_getElem?_getD,ih]
   by_cases h2:m<n
   .rw [if_pos h2,if_pos (by omega)]
   .rw [if_neg h2,if_neg (by omega)]
theorem ja3{a b:Gr}{n:Nat}(ha:a.length=n)(hb:b.length=n)(k:Rat):plusP a k b n=plusG a k b:=by
 have hl:(plusG a k b).length=n:=by unfold plusG;rw [List.length_zipWith,ha,hb,Nat.min_self]
 refine List.ext_getElem (by rw [VB,hl,ha]) λm h1 h2=>?_
 have h:=uN a k b m n (by omega)
 have h1':=h1;rw [VB,ha]at h1';rw [if_pos h1',List.getD_eq_getElem?_getD,List.getElem?_eq_getElem h1,Option.getD_some]at h;rw [h];have e:(plusG a k b)[m]'h2=a[m]'(by omega)+k*b[m]'(by omega):=List.getElem_zipWith
 rw [e,List.getD_eq_getElem?_getD,List.getElem?_eq_getElem (by omega),List.getD_eq_getElem?_getD,List.getElem?_eq_getElem (by omega)]
 rfl
theorem WI:∀(n k:Nat),(zrs (n+k)).drop (3*k)=zrs n
 | n,0=>rfl
 | n,k+1=>by
  have:=WI n k;rw [show 3*(k+1)=3*k+3 by omega]
  exact this
theorem vax:∀(n k:Nat),(zrs (n+k)).take (3*k)=zrs k
 | n,0=>by simp [zrs]
 | n,k+1=>by
  have ih:=vax n k;rw [show 3*(k+1)=3*k+3 by omega]
  show .lit (.bool false)::.emp::.emp::(zrs (n+k)).take (3*k)=_;rw [ih];rfl
theorem vA(q:Rat)(g:Gr):gC (q::g)=cb (rcan q)::cn (rcan q)::cd (rcan q)::gC g:=rfl
theorem vbo:∀(a b:Gr),gC (a++b)=gC a++gC b
 | [],_=>rfl
 | p::a,b=>by rw [List.cons_append,vA,vbo a b,vA];rfl
theorem jK(h:Nat->HB):∀n,(zrs n).map (datC h)=gC (List.replicate n 0)
 | 0=>rfl
 | n+1=>by
  rw [List.replicate_succ,vA,<-jK h n,Qd];rfl
def Wu(l:List AV)(K:AV->Prop):Prop:=
 match l with
 | [a,k,b]=>onG (λa=>onR (λk=>onG (λb=>gz a+gz b<=2000000000/\rl k<=1000000/\K (gA (plusG a (rv k) b))) b) k) a
 | _=>False
theorem xaA(a k b:AV)(K:AV->Prop):Wu [a,k,b] K=(onG (λa=>onR (λk=>onG (λb=>gz a+gz b<=2000000000/\rl k<=1000000/\K (gA (plusG a (rv k) b))) b) k) a):=propext Iff.rfl
@[congr] theorem qbP {K:AV->Prop} {l l' : List AV} (h:l=l'):Wu l K=Wu l' K:=by subst h;rfl
attribute [go_sem,go_sem ↓] xaA
theorem kaE:Good Wu:=Wa λas=>by
 unfold Wu;split
 .exact(wa0 λ_=>(yg λ_=>(wa0 λ_=>(.and λ_=>(.and λ_=>(.ret _))))))
 .exact .of λK hk=>hk.elim
def UE(l:List AV)(K:AV->Prop):Prop:=
 match l with
 | [x]=>onR (λx=>vldR x=true/\K (gA (conG (rv x)))) x
 | _=>False
theorem za6(x:AV)(K:AV->Prop):UE [x] K=(onR (λx=>vldR x=true/\K (gA (conG (rv x)))) x):=propext Iff.rfl
@[congr] theorem zbZ {K:AV->Prop} {l l' : List AV} (h:l=l'):UE l K=UE l' K:=by subst h;rfl
attribute [go_sem,go_sem ↓] za6
theorem UaM:Good UE:=Wa λas=>by
 unfold UE;split
 .exact(yg λ_=>(.and λ_=>(.ret _)))
 .exact .of λK hk=>hk.elim
def kG(l:List AV)(K:AV->Prop):Prop:=
 match l with
 | [a,b,c]=>onR (λa=>onR (λb=>onR (λc=>vldR a=true/\vldR b=true/\vldR c=true/\K (gA (linG (rv a) (rv b) (rv c)))) c) b) a
 | _=>False
theorem JaP(a b c:AV)(K:AV->Prop):kG [a,b,c] K=(onR (λa=>onR (λb=>onR (λc=>vldR a=true/\vldR b=true/\vldR c=true/\K (gA (linG (rv a) (rv b) (rv c)))) c) b) a):=propext Iff.rfl
@[congr] theorem vbU {K:AV->Prop} {l l' : List AV} (h:l=l'):kG l K=kG l' K:=by subst h;rfl
attribute [go_sem,go_sem ↓] JaP
theorem Wa6:Good kG:=Wa λas=>by
 unfold kG;split
 .exact(yg λ_=>(yg λ_=>(yg λ_=>(.and λ_=>(.and λ_=>(.and λ_=>(.ret _)))))))
 .exact .of λK hk=>hk.elim
def zj(f0 f1:Nat):AC:=(.seq (.ops false [.u 3 (.box 147 (.t 0)),.u 4 (.box 3 (.t 1)),.u 5 (.box 147 (.t 2)),.u 6 (.alloc (zrs 49))])
 (.fg [3,4,5,6] (.seq (.seq (.ops false [.m 9 (.i 0)])
 (.fg [3,4,5,6,9] (.block 0 (.loop (.seq (.ops false [.u 10 (.bin .lss (.t 9) (.i 7))])
 (.fg [3,4,5,6,9,10] (.seq (.cond (.t 10) .skip (.exit 0))
 (.fg [3,4,5,6,9] (.seq (.block 1 (.seq (.ops false [.m 11 (.t 9),.m 7 (.t 11)])
 (.fg [3,4,5,6,7,9] (.seq (.ops false [.m 12 (.i 0)])
 (.fg [3,4,5,6,7,9,12] (.block 2 (.loop (.seq (.ops false [.u 13 (.bin .lss (.t 12) (.i 7))])
 (.fg [3,4,5,6,7,9,12,13] (.seq (.cond (.t 13) .skip (.exit 2))
 (.fg [3,4,5,6,7,9,12] (.seq (.block 3 (.seq (.ops false [.m 14 (.t 12),.m 8 (.t 14)])
 (.fg [3,4,5,6,7,8,9,12] (.ops true [.m 15 (.t 7),.m 16 (.t 8),.m 17 (.t 7),.m 18 (.t 8),.u 19 (.ai 21 7 (.t 3) (.t 17)),.u 20 (.ai 3 7 (.t 19) (.t 18)),.u 21 (.ld none 3 true (.t 20)),.u 22 (.ld none 3 true (.t 4)),.m 23 (.t 7),.m 24 (.t 8),.u 25 (.ai 21 7 (.t 5) (.t 23)),.u 26 (.ai 3 7 (.t 25) (.t 24)),.u 27 (.ld none 3 true (.t 26)),.u 28 (.call f0 [(.t 22),(.t 27)]),.u 29 (.call f1 [(.t 21),(.t 28)]),.u 30 (.ai 21 7 (.t 3) (.t 15)),.u 31 (.ai 3 7 (.t 30) (.t 16)),.n (.st none 3 (.t 31) (.t 29))]))))
 (.fg [3,4,5,6,7,9,12] (.ops false [.u 32 (.bin .add (.t 12) (.i 1)),.m 12 (.t 32)]))))))))))))))
 (.fg [3,4,5,6,9] (.ops false [.u 33 (.bin .add (.t 9) (.i 1)),.m 9 (.t 33)])))))))))))
 (.fg [3,6] (.seq (.ops false [.u 34 (.ld none 147 true (.t 3)),.n (.st none 147 (.t 6) (.t 34))])
 .ret)))))
def Xe:AC:=(.seq (.ops false [.u 1 (.box 3 (.t 0)),.u 2 (.alloc (zrs 49))])
 (.fg [1,2] (.seq (.ops false [.u 3 (.alloc (zrs 49))])
 (.fg [1,2,3] (.seq (.ops false [.u 4 (.ld none 3 true (.t 1)),.u 5 (.ai 21 7 (.t 3) (.i 0)),.u 6 (.ai 3 7 (.t 5) (.i 0)),.n (.st none 3 (.t 6) (.t 4))])
 (.fg [2,3] (.seq (.ops false [.u 7 (.ld none 147 true (.t 3)),.n (.st none 147 (.t 2) (.t 7))])
 .ret)))))))
def vg:AC:=(.seq (.ops false [.u 3 (.box 3 (.t 0)),.u 4 (.box 3 (.t 1)),.u 5 (.box 3 (.t 2)),.u 6 (.alloc (zrs 49))])
 (.fg [3,4,5,6] (.seq (.ops false [.u 7 (.alloc (zrs 49))])
 (.fg [3,4,5,6,7] (.seq (.ops true [.u 8 (.ld (some 3) 3 true (.t 3)),.u 9 (.ld (some 4) 3 true (.t 4)),.u 10 (.ld (some 5) 3 true (.t 5)),.u 11 (.ai 21 7 (.t 7) (.i 0)),.u 12 (.ai 3 7 (.t 11) (.i 0)),.n (.st (some 7) 3 (.t 12) (.t 8)),.u 13 (.ai 21 7 (.t 7) (.i 1)),.u 14 (.ai 3 7 (.t 13) (.i 0)),.n (.st (some 7) 3 (.t 14) (.t 9)),.u 15 (.ai 21 7 (.t 7) (.i 0)),.u 16 (.ai 3 7 (.t 15) (.i 1)),.n (.st (some 7) 3 (.t 16) (.t 10))])
 (.fg [6,7] (.seq (.ops false [.u 17 (.ld none 147 true (.t 7)),.n (.st none 147 (.t 6) (.t 17))])
 .ret)))))))
theorem yao(hΓ:Holds P Γ){f fm fa:Nat}(hm:Γ fm=.dat false kj)(ha' : Γ fa=.dat false Zn)(hc:check P f=some (35,(zj fm fa).strip,[.cell 6 147 true])):Sound P f (.dat false Wu):=by
 refine ka hc kaE hΓ (λargs K hcl hfi hG=>?_);match args,hG with
 | [u,v,w],hG=>
  obtain⟨a,rfl,ha,k,rfl,wk,b,rfl,hb,hz,hk,hK⟩:=hG;refine⟨by simp,?_⟩
  have la:(gC a).length=147:=by rw [Uc,ha]
  have lb:(gC b).length=147:=by rw [Uc,hb]
  simp only [go_sem,zj,la,lb];have stp:∀i j,i<7->j<7->(plusP a (rv k) b (i*7+j)).set (i*7+j) (a.getD (i*7+j) 0+rv k*b.getD (i*7+j) 0)=plusP a (rv k) b (i*7+(j+1)):=λi j _ _=>rfl;refine Ya (λi:Nat=>⟨mkV [(3,.one (.ptr 3 1 0 0)),(4,.one (.ptr 4 1 0 0)),(5,.one (.ptr 5 1 0 0)),(6,.one (.ptr 6 1 0 0)),(9,.one (.lit (.int .i64 i)))],mkH [(3,⟨1,some ⟨[gC (plusP a (rv k) b (i*7))],147,true⟩⟩),(4,⟨1,some ⟨[[cb k,cn k,cd k]],3,true⟩⟩),(5,⟨1,some ⟨[gC b],147,true⟩⟩),(6,⟨1,some ⟨[zrs 49],147,true⟩⟩)]⟩) (λi=>i<=7) (λi=>7-i) 0 ?_ ?_ ?_
  .exact Qa (by simp [okS,okV,okC,okL,okH,okB,okE,Za,Va,za,Ja,wsA,ws]) ⟨Ub (Ua _),Ub (λe he=>by rw [List.mem_singleton.1 he];exact uI k),Ub (Ua _),Ub (kk _),trivial⟩
  .exact Nat.zero_le _
  .intro i hi;by_cases hlt:i<7
   .have hlt' : ((i:Nat):Int)<7:=by omega
    simp only [go_sem,hlt'];refine Ya (λj:Nat=>⟨mkV [(3,.one (.ptr 3 1 0 0)),(4,.one (.ptr 4 1 0 0)),(5,.one (.ptr 5 1 0 0)),(6,.one (.ptr 6 1 0 0)),(7,.one (.lit (.int .i64 i))),(9,.one (.lit (.int .i64 i))),(12,.one (.lit (.int .i64 j)))],mkH [(3,⟨1,some ⟨[gC (plusP a (rv k) b (i*7+j))],147,true⟩⟩),(4,⟨1,some ⟨[[cb k,cn k,cd k]],3,true⟩⟩),(5,⟨1,some ⟨[gC b],147,true⟩⟩),(6,⟨1,some ⟨[zrs 49],147,true⟩⟩)]⟩) (λj=>j<=7) (λj=>7-j) 0 ?_ ?_ ?_
    .exact Qa (by simp [okS,okV,okC,okL,okH,okB,okE,Za,Va,za,Ja,wsA,ws]) ⟨Ub (Ua _),Ub (λe he=>by rw [List.mem_singleton.1 he];exact uI k),Ub (Ua _),Ub (kk _),trivial⟩
    .exact Nat.zero_le _
    .intro j hj;by_cases hlt2:j<7
     .have hlt2' : ((j:Nat):Int)<7:=by omega
      have ho:i*21+j*3=3*(i*7+j):=by omega
      have lP:=VB a (rv k) b (i*7+j);obtain⟨A,hA⟩:∃A,plusP a (rv k) b (i*7+j)=A:=⟨_,rfl⟩;obtain⟨p,hp⟩:∃p,a.getD (i*7+j) 0=p:=⟨_,rfl⟩;obtain⟨q,hq⟩:∃q,b.getD (i*7+j) 0=q:=⟨_,rfl⟩;have hAp:A.getD (i*7+j) 0=p:=by rw [<-hA,uN _ _ _ _ _ (by omega),if_neg (by omega),hp]
      rw [hA,ha]at lP;have g1:List.take 3 (List.drop (i*21+j*3) (gC A))=[cb (rcan p),cn (rcan p),cd (rcan p)]:=by rw [ho,zM (by omega),hAp];rfl
      have g2:List.take 3 (List.drop (i*21+j*3) (gC b))=[cb (rcan q),cn (rcan q),cd (rcan q)]:=by rw [ho,zM (by omega),hq];rfl
      have l1:(3<=(List.drop (i*21+j*3) (gC A)).length)=True:=eq_true (by rw [List.length_drop,Uc,lP];omega)
      have l2:(3<=(List.drop (i*21+j*3) (gC b)).length)=True:=eq_true (by rw [List.length_drop,Uc,hb];omega)
      have l3:(i*21+j*3+3<=(gC A).length)=True:=eq_true (by rw [Uc,lP];omega)
      have s1:List.take (i*21+j*3) (gC A)++([cb (rcan (p+rv k*q)),cn (rcan (p+rv k*q)),cd (rcan (p+rv k*q))]++List.drop (i*21+j*3+3) (gC A))=gC (plusP a (rv k) b (i*7+(j+1))):=by
       have e:=Zbj (g:=A) (k:=i*7+j) (by omega) (p+rv k*q)
       rw [QJ,<-ho]at e;have e2:=stp i j hlt hlt2;rw [hA,hp,hq]at e2;rw [<-e2,<-e];rfl
      have z1:rz p<=gz a:=by rw [<-hp];exact ka2 a _
      have z2:rz q<=gz b:=by rw [<-hq];exact ka2 b _
      have z3:=Ze wk;have z4:=jc (rv k) q;have y1:rl k<=4294967296:=by omega
      have y2:rz q<=4294967296:=by omega
      have y3:rz p<=4294967296:=by omega
      have y4:rz (rv k*q)<=4294967296:=by omega
      have hii:(i<7)=True:=eq_true hlt;have hjj:(j<7)=True:=eq_true hlt2;simp only [go_sem,hlt',hlt2',hm,ha',hA,g1,g2,l1,l2,l3,s1,Wb,hii,hjj];repeat first|refine ja (by with_reducible assumption) ?_|refine ja (Nat.le_trans (by with_reducible assumption) (by decide)) ?_|refine ja (by decide) ?_
      refine⟨by omega,j+1,Qa (by simp [okS,okV,okC,okL,okH,okB,okE,Za,Va,za,Ja,wsA,ws]) ⟨?_,Ub (λe he=>by rw [List.mem_singleton.1 he];exact uI k),Ub (Ua _),Ub (kk _),trivial⟩,by omega,by omega⟩
      rw [<-s1];exact Ub (λe he=>by rw [List.mem_singleton.1 he];exact s1▸wY _)
     .have hj7:j=7:=by omega
      subst hj7;have e77:(((7:Nat):Int)<7)=False:=eq_false (by decide)
      simp only [go_sem,e77];have hi1:i*7+7=(i+1)*7:=by omega
      refine⟨by omega,i+1,?_,by omega,by omega⟩
      rw [hi1];exact Qa (by simp [okS,okV,okC,okL,okH,okB,okE,Za,Va,za,Ja,wsA,ws]) ⟨Ub (Ua _),Ub (λe he=>by rw [List.mem_singleton.1 he];exact uI k),Ub (Ua _),Ub (kk _),trivial⟩
   .have hi7:i=7:=by omega
    subst hi7;have e77:(((7:Nat):Int)<7)=False:=eq_false (by decide)
    have hpl:plusP a (rv k) b 49=plusG a (rv k) b:=ja3 ha hb _;have hlen:(plusG a (rv k) b).length=49:=yd ha hb _;have hgl:(gC (plusG a (rv k) b)).length=147:=by rw [Uc,hlen]
    have htk:=Vf hlen;simp only [go_sem,e77,hpl,hgl,htk];exact hK
theorem UaI(hΓ:Holds P Γ){f:Nat}(hc:check P f=some (8,Xe.strip,[.cell 2 147 true])):Sound P f (.dat false UE):=by
 refine ka hc UaM hΓ (λargs K hcl hfi hG=>?_);match args,hG with
 | [u],hG=>
  obtain⟨x,rfl,wx,hv,hK⟩:=hG;refine⟨by simp,?_⟩
  have d1:(zrs 49).drop 3=zrs 48:=WI 48 1;have t1:(zrs 48).take 144=zrs 48:=List.take_of_length_le (by rw [yD];decide)
  have l1:(zrs 48).length=144:=yD 48;have hx:=km wx hv;have e:gC (conG (rv x))=cb x::cn x::cd x::gC (List.replicate 48 0):=by
   have e1:conG (rv x)=rv x::List.replicate 48 0:=rfl;rw [e1,vA,hx]
  unfold gA at hK;rw [e]at hK;simp only [go_sem,Xe,rA,d1,t1,l1,jK];exact⟨by decide,by decide,hK⟩
theorem JaH(hΓ:Holds P Γ){f:Nat}(hc:check P f=some (18,vg.strip,[.cell 6 147 true])):Sound P f (.dat false kG):=by
 refine ka hc Wa6 hΓ (λargs K hcl hfi hG=>?_);match args,hG with
 | [u,v,w],hG=>
  obtain⟨a,rfl,wa,b,rfl,wb,c,rfl,wcc,va,vb,vc,hK⟩:=hG;refine⟨by simp,?_⟩
  have d1:(zrs 49).drop 3=zrs 48:=WI 48 1;have t1:(zrs 48).take 18=zrs 6:=vax 42 6;have d2:(zrs 48).drop 21=zrs 41:=WI 41 7;have l1:(zrs 48).length=144:=yD 48;have d3:(zrs 6++cb b::cn b::cd b::zrs 41).drop 3=zrs 5++cb b::cn b::cd b::zrs 41:=rfl;have l2:(zrs 6++cb b::cn b::cd b::zrs 41).length=144:=by simp only [List.length_append,List.length_cons,yD]
  have l3:(zrs 5++cb b::cn b::cd b::zrs 41).length=141:=by simp only [List.length_append,List.length_cons,yD]
  have t2:(zrs 5++cb b::cn b::cd b::zrs 41).take 141=zrs 5++cb b::cn b::cd b::zrs 41:=List.take_of_length_le (Nat.le_of_eq l3);have ha:=km wa va;have hb:=km wb vb;have hcc:=km wcc vc;have m1:∀h:Nat->HB,(zrs 5++cb b::cn b::cd b::zrs 41).map (datC h)=gC (List.replicate 5 0)++cb b::cn b::cd b::gC (List.replicate 41 0):=λh=>by
   rw [List.map_append,List.map_cons,List.map_cons,List.map_cons,jK,jK];rfl
  have e:gC (linG (rv a) (rv b) (rv c))=cb a::cn a::cd a::cb c::cn c::cd c::(gC (List.replicate 5 0)++cb b::cn b::cd b::gC (List.replicate 41 0)):=by
   have e1:linG (rv a) (rv b) (rv c)=rv a::rv c::(List.replicate 5 0++rv b::List.replicate 41 0):=rfl;rw [e1,vA,vA,vbo,vA,ha,hb,hcc]
  unfold gA at hK;rw [e]at hK;simp only [go_sem,vg,rA,d1,t1,d2,l1,d3,l2,l3,t2,m1];exact⟨by decide,by decide,by decide,by decide,by decide,by decide,hK⟩
end Go.Abs
end
