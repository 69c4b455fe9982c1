/-
  Parts of the proof, merged: CoupL, CoupR, CogP, CogA, CogB, CogR, CogC, CogT, CogD, CogE, CogF.
-/
import Derived.Test.YtjggkdaangghfaaGreatDoorM10
set_option linter.unusedVariables false
set_option linter.unusedSimpArgs false
set_option maxRecDepth 100000
section
namespace Go.Num
open Go.Abs
def riC(c:Cp)(p:Arc):Nat:=if wV (cpv c) (av p)≠0 then 21 else if wM (cpv c) (av p)=0 then 15 else 0
def reQ(c:CpR):V2:=subQ (1,0) (cW c)
theorem zbP(a b:V2):sqQ (subQ a b)=sqQ (subQ b a):=by unfold sqQ subQ;simp only;grind
theorem cl_w{c:Cp}{b:Nat}(h:cl c<=b):al c.2.2.2.2.2<=b:=by
 unfold cl at h;simp only [Nat.max_le]at h;exact Nat.max_le.2 ⟨h.2.2.2.2.2.1,h.2.2.2.2.2.2⟩
theorem ybd{c:Cp}(h:cchk c=0):vldR c.2.2.1=true/\vldR c.2.2.2.1=true/\vldR c.2.2.2.2.1=true/\vldR c.2.2.2.2.2.1=true/\vldR c.2.2.2.2.2.2=true:=by
 obtain⟨_,_,h5,_,_⟩:=uaR h;simpa [cps5] using h5
end Go.Num
namespace Go.Abs
open Go.Num
variable {P:Program} {Γ:Nat->Spec}
def UC(l:List AV)(K:AV->Prop):Prop:=
 match l with
 | [c]=>onCp (λc=>K (aA (c.2.2.2.2.2.1,c.2.2.2.2.2.2))) c
 | _=>False
theorem Wbg(c:AV)(K:AV->Prop):UC [c] K=(onCp (λc=>K (aA (c.2.2.2.2.2.1,c.2.2.2.2.2.2))) c):=propext Iff.rfl
@[congr] theorem zbX {K:AV->Prop} {l l' : List AV} (h:l=l'):UC l K=UC l' K:=by subst h;rfl
attribute [go_sem,go_sem ↓] Wbg
theorem Qbc:Good UC:=Xa λas=>by
 unfold UC;split
 .exact(Vf λ_=>(.ret _))
 .exact .of λK hk=>hk.elim
def Zw(l:List AV)(K:AV->Prop):Prop:=
 match l with
 | [c]=>onCp (λc=>cl c<=100000000/\K (pQ (reQ (cpv c)))) c
 | _=>False
theorem VaW(c:AV)(K:AV->Prop):Zw [c] K=(onCp (λc=>cl c<=100000000/\K (pQ (reQ (cpv c)))) c):=propext Iff.rfl
@[congr] theorem ZbS {K:AV->Prop} {l l' : List AV} (h:l=l'):Zw l K=Zw l' K:=by subst h;rfl
attribute [go_sem,go_sem ↓] VaW
theorem WaX:Good Zw:=Xa λas=>by
 unfold Zw;split
 .exact(Vf λ_=>(.and λ_=>(.ret _)))
 .exact .of λK hk=>hk.elim
def YaL(l:List AV)(K:AV->Prop):Prop:=
 match l with
 | [c,p]=>onCp (λc=>onA (λp=>cl c<=1000/\al p<=1000/\cchk c=0/\K (.tup [pQ (wN (cpv c) (av p)),rQ (wM (cpv c) (av p))])) p) c
 | _=>False
theorem ua5(c p:AV)(K:AV->Prop):YaL [c,p] K=(onCp (λc=>onA (λp=>cl c<=1000/\al p<=1000/\cchk c=0/\K (.tup [pQ (wN (cpv c) (av p)),rQ (wM (cpv c) (av p))])) p) c):=propext Iff.rfl
@[congr] theorem ybM {K:AV->Prop} {l l' : List AV} (h:l=l'):YaL l K=YaL l' K:=by subst h;rfl
attribute [go_sem,go_sem ↓] ua5
def UaV(l:List AV)(K:AV->Prop):Prop:=
 match l with
 | [c,p]=>onCp (λc=>onA (λp=>cl c<=1000/\al p<=1000/\cchk c=0/\K (rQ (wV (cpv c) (av p)))) p) c
 | _=>False
theorem Ja1(c p:AV)(K:AV->Prop):UaV [c,p] K=(onCp (λc=>onA (λp=>cl c<=1000/\al p<=1000/\cchk c=0/\K (rQ (wV (cpv c) (av p)))) p) c):=propext Iff.rfl
@[congr] theorem xbN {K:AV->Prop} {l l' : List AV} (h:l=l'):UaV l K=UaV l' K:=by subst h;rfl
attribute [go_sem,go_sem ↓] Ja1
def vaW(l:List AV)(K:AV->Prop):Prop:=
 match l with
 | [c,p]=>onCp (λc=>onA (λp=>cl c<=1000/\al p<=1000/\cchk c=0/\K (.tup [pQ (if riC c p=0 then endA (cpv c) (av p) (zL (cpv c) (av p)) else (0,0)),pQ (if riC c p=0 then endB (cpv c) (av p) (zL (cpv c) (av p)) else (0,0)),.one (.lit (.int .i64 (riC c p:Nat)))])) p) c
 | _=>False
theorem uaO(c p:AV)(K:AV->Prop):vaW [c,p] K=(onCp (λc=>onA (λp=>cl c<=1000/\al p<=1000/\cchk c=0/\K (.tup [pQ (if riC c p=0 then endA (cpv c) (av p) (zL (cpv c) (av p)) else (0,0)),pQ (if riC c p=0 then endB (cpv c) (av p) (zL (cpv c) (av p)) else (0,0)),.one (.lit (.int .i64 (riC c p:Nat)))])) p) c):=propext Iff.rfl
@[congr] theorem XbQ {K:AV->Prop} {l l' : List AV} (h:l=l'):vaW l K=vaW l' K:=by subst h;rfl
attribute [go_sem,go_sem ↓] uaO
def Xa2(l:List AV)(K:AV->Prop):Prop:=
 match l with
 | [c,a,b]=>onCp (λc=>onA (λa=>onA (λb=>cl c<=10000/\al a<=10000/\al b<=10000/\K (pQ (ptQ (cpv c) (av a) (av b)))) b) a) c
 | _=>False
theorem XaU(c a b:AV)(K:AV->Prop):Xa2 [c,a,b] K=(onCp (λc=>onA (λa=>onA (λb=>cl c<=10000/\al a<=10000/\al b<=10000/\K (pQ (ptQ (cpv c) (av a) (av b)))) b) a) c):=propext Iff.rfl
@[congr] theorem jbV {K:AV->Prop} {l l' : List AV} (h:l=l'):Xa2 l K=Xa2 l' K:=by subst h;rfl
attribute [go_sem,go_sem ↓] XaU
def uF(l:List AV)(K:AV->Prop):Prop:=
 match l with
 | [c,a,b]=>onCp (λc=>onA (λa=>onA (λb=>cl c<=10000/\al a<=10000/\al b<=10000/\K (.one (.lit (.bool (decide (hldQ (cpv c) (av a) (av b))))))) b) a) c
 | _=>False
theorem ya0(c a b:AV)(K:AV->Prop):uF [c,a,b] K=(onCp (λc=>onA (λa=>onA (λb=>cl c<=10000/\al a<=10000/\al b<=10000/\K (.one (.lit (.bool (decide (hldQ (cpv c) (av a) (av b))))))) b) a) c):=propext Iff.rfl
@[congr] theorem wbR {K:AV->Prop} {l l' : List AV} (h:l=l'):uF l K=uF l' K:=by subst h;rfl
attribute [go_sem,go_sem ↓] ya0
theorem QaY:Good uF:=Xa λas=>by
 unfold uF;split
 .exact(Vf λ_=>(jk λ_=>(jk λ_=>(.and λ_=>(.and λ_=>(.and λ_=>(.ret _)))))))
 .exact .of λK hk=>hk.elim
def Yi:AC:=(.seq (.ops false [.u 1 (.box 27 (.t 0)),.u 2 (.alloc [(.lit (.bool false)),.emp,.emp,(.lit (.bool false)),.emp,.emp])])
 (.fg [1,2] (.seq (.ops false [.u 3 (.fa 21 (.t 1)),.u 4 (.ld none 3 true (.t 3)),.u 5 (.fa 24 (.t 1)),.u 6 (.ld none 3 true (.t 5)),.u 7 (.build [.x 3 (.t 4),.x 3 (.t 6)]),.n (.st none 6 (.t 2) (.t 7))])
 .ret)))
def qf(f0 f1 f2:Nat):AC:=(.seq (.ops false [.u 1 (.box 27 (.t 0)),.u 2 (.alloc [(.lit (.bool false)),.emp,.emp,(.lit (.bool false)),.emp,.emp])])
 (.fg [1,2] (.seq (.ops true [.u 3 (.call f0 [(.i 1)]),.u 4 (.build [.x 3 (.t 3),.z [(.lit (.bool false)),.emp,.emp]]),.u 5 (.ld none 27 true (.t 1)),.u 6 (.call f1 [(.t 5)]),.u 7 (.call f2 [(.t 4),(.t 6)]),.n (.st none 6 (.t 2) (.t 7))])
 .ret)))
def jd(f0 f1 f2:Nat):AC:=(.seq (.ops false [.u 3 (.box 27 (.t 0)),.u 4 (.box 6 (.t 1)),.u 5 (.box 6 (.t 2)),.m 6 .fa])
 (.fg [3,4,5] (.seq (.ops true [.u 10 (.ld none 6 true (.t 4)),.u 11 (.fa 0 (.t 3)),.u 12 (.ld none 6 true (.t 11)),.u 13 (.call f0 [(.t 10),(.t 12)]),.u 14 (.ld none 6 true (.t 5)),.u 15 (.fa 6 (.t 3)),.u 16 (.ld none 6 true (.t 15)),.u 17 (.call f0 [(.t 14),(.t 16)]),.u 18 (.ld none 6 true (.t 5)),.u 19 (.ld none 6 true (.t 4)),.u 20 (.call f0 [(.t 18),(.t 19)]),.u 7 (.alloc [(.lit (.bool false)),.emp,.emp,(.lit (.bool false)),.emp,.emp]),.u 8 (.alloc [(.lit (.bool false)),.emp,.emp,(.lit (.bool false)),.emp,.emp]),.u 9 (.alloc [(.lit (.bool false)),.emp,.emp,(.lit (.bool false)),.emp,.emp]),.n (.st none 6 (.t 7) (.t 13)),.n (.st none 6 (.t 8) (.t 17)),.n (.st none 6 (.t 9) (.t 20))])
 (.fg [3,7,8,9] (.seq (.ops true [.u 21 (.ld none 6 true (.t 7)),.u 22 (.call f1 [(.t 21)]),.u 23 (.fa 12 (.t 3)),.u 24 (.ld none 3 true (.t 23)),.u 25 (.call f2 [(.t 22),(.t 24)]),.u 26 (.bin .eql (.t 25) (.i 0)),.m 27 (.t 26),.w 28 27 true (.ld none 6 true (.t 8)),.w 29 27 true (.call f1 [(.t 28)]),.w 30 27 true (.fa 18 (.t 3)),.w 31 27 true (.ld none 3 true (.t 30)),.w 32 27 true (.call f2 [(.t 29),(.t 31)]),.w 33 27 true (.bin .eql (.t 32) (.i 0)),.u 34 (.pick (.t 27) (.t 33) .fa),.m 35 (.t 34),.w 36 35 true (.ld none 6 true (.t 9)),.w 37 35 true (.call f1 [(.t 36)]),.w 38 35 true (.fa 15 (.t 3)),.w 39 35 true (.ld none 3 true (.t 38)),.w 40 35 true (.call f2 [(.t 37),(.t 39)]),.w 41 35 true (.bin .eql (.t 40) (.i 0)),.u 42 (.pick (.t 35) (.t 41) .fa),.m 6 (.t 42)])
 .ret)))))
theorem J6(hΓ:Holds P Γ){f:Nat}(hc:check P f=some (8,Yi.strip,[.cell 2 6 true])):Sound P f (.dat false UC):=by
 refine Va hc Qbc hΓ (λargs K hcl hfi hG=>?_);match args,hG with
 | [a],hG=>
  obtain⟨c,rfl,hw,hK⟩:=hG;refine⟨by simp,?_⟩
  simp only [go_sem,Yi,cpA,cpC];exact hK
theorem yS(hΓ:Holds P Γ){f fo fw fs:Nat}(ho:Γ fo=.dat false QB)(hw' : Γ fw=.dat false UC)(hs:Γ fs=.dat false Ji)(hc:check P f=some (8,(qf fo fw fs).strip,[.cell 2 6 true])):Sound P f (.dat false Zw):=by
 refine Va hc WaX hΓ (λargs K hcl hfi hG=>?_);match args,hG with
 | [a],hG=>
  obtain⟨c,rfl,hw,hl,hK⟩:=hG;refine⟨by simp,?_⟩
  have i1:((1:Int):Rat)=1:=rfl;have w4:=hw.2.2.2.2.2.1;have w5:=hw.2.2.2.2.2.2;have b1:=rz_1;have l6:al c.2.2.2.2.2<=100000000:=Nat.le_trans (cl_w hl) (by decide)
  have wW:WLA c.2.2.2.2.2:=⟨w4,w5⟩;have wO:WLA (rcan 1,rcan 0):=Wp (1,0);have lO:al (rcan 1,rcan 0)<=100000000:=Nat.max_le.2 ⟨Nat.le_trans b1 (by decide),Nat.le_trans (Nat.le_of_eq rz_0) (by decide)⟩
  have aO:av (rcan 1,rcan 0)=(1,0):=qI (1,0);have aW:av c.2.2.2.2.2=cW (cpv c):=rfl;simp only [go_sem,qf,ho,hw',hs,cpA,cpC,i1,ud,Jb,aO,aW];repeat first|refine Ja (by with_reducible assumption) ?_|refine Ja (Nat.le_trans (by with_reducible assumption) (by decide)) ?_|refine Ja (by decide) ?_
  exact hK
theorem uaE(hΓ:Holds P Γ){f fs fq fc:Nat}(hs:Γ fs=.dat false Ji)(hq' : Γ fq=.dat false zD)(hcm:Γ fc=.dat true kf)(hc:check P f=some (43,(jd fs fq fc).strip,[.tmp 6])):Sound P f (.dat true uF):=by
 refine Va hc QaY hΓ (λargs K hcl hfi hG=>?_);match args,hG with
 | [a,b,d],hG=>
  obtain⟨c,rfl,hw,p,rfl,wp,q,rfl,wq,hl,hlp,hlq,hK⟩:=hG;refine⟨by simp,?_⟩
  obtain⟨wo,wQ,w1,w2,w3,w4,w5⟩:=id hw;have hl0:=hl;unfold cl at hl0;simp only [Nat.max_le]at hl0;obtain⟨l1,l2,l3,l4,l5,l6,l7⟩:=hl0;have a1:=Ju wp;have a2:=Ju wq;have a3:=Ju wo;have a4:=Ju wQ;have z1:=Xl (av p) (av c.1);have z2:=Xl (av q) (av p);have z3:=Xl (av q) (av c.2.1);have y1:al (rcan (subQ (av p) (av c.1)).1,rcan (subQ (av p) (av c.1)).2)<=100000000:=by rw [xaV];change zq _<=_;omega
  have y2:al (rcan (subQ (av q) (av p)).1,rcan (subQ (av q) (av p)).2)<=100000000:=by rw [xaV];change zq _<=_;omega
  have y3:al (rcan (subQ (av q) (av c.2.1)).1,rcan (subQ (av q) (av c.2.1)).2)<=100000000:=by rw [xaV];change zq _<=_;omega
  have d1:=Nat.le_trans (zq_d (av p) (av c.1)) (by omega:_<=1000000)
  have d2:=Nat.le_trans (zq_d (av q) (av p)) (by omega:_<=1000000)
  have d3:=Nat.le_trans (zq_d (av q) (av c.2.1)) (by omega:_<=1000000)
  have v1:=yf w1;have v3:=yf w3;have r4:rz (rv c.2.2.1)<=10000:=by omega
  have r5:rz (rv c.2.2.2.2.1)<=10000:=by omega
  have hh:hldQ (cpv c) (av p) (av q)=(sqQ (subQ (av p) (av c.1))=rv c.2.2.1/\sqQ (subQ (av q) (av c.2.1))=rv c.2.2.2.2.1/\sqQ (subQ (av q) (av p))=rv c.2.2.2.1):=by rw [zbP (av q) (av p)];rfl
  simp only [hh,Bool.decide_and]at hK;by_cases k1:sqQ (subQ (av p) (av c.1))=rv c.2.2.1
  .by_cases k2:sqQ (subQ (av q) (av c.2.1))=rv c.2.2.2.2.1
   .rw [decide_eq_true k1,decide_eq_true k2,Bool.true_and,Bool.true_and]at hK;simp only [go_sem,jd,hs,hq',hcm,cpA,cpC,Jb,ud,qI,Yb,wU,k1,k2];repeat first|refine Ja (by with_reducible assumption) ?_|refine Ja (Nat.le_trans (by with_reducible assumption) (by decide)) ?_|refine Ja (by decide) ?_
    exact hK
   .rw [decide_eq_true k1,decide_eq_false k2,Bool.true_and,Bool.false_and]at hK;simp only [go_sem,jd,hs,hq',hcm,cpA,cpC,Jb,ud,qI,Yb,wU,k1,k2];repeat first|refine Ja (by with_reducible assumption) ?_|refine Ja (Nat.le_trans (by with_reducible assumption) (by decide)) ?_|refine Ja (by decide) ?_
    exact hK
  .rw [decide_eq_false k1,Bool.false_and]at hK;simp only [go_sem,jd,hs,hq',hcm,cpA,cpC,Jb,ud,qI,Yb,wU,k1];repeat first|refine Ja (by with_reducible assumption) ?_|refine Ja (Nat.le_trans (by with_reducible assumption) (by decide)) ?_|refine Ja (by decide) ?_
   exact hK
end Go.Abs
end
section
namespace Go.Num
open Go.Abs
theorem vba{c:Cp}(wc:WLC c)(h:cchk c=0):canC (cpv c)=c:=by
 obtain⟨o1,o2,h5,_,_⟩:=uaR h;obtain⟨v1,v2,v3,v4,v5⟩:=ybd h;obtain⟨wo,wq,w1,w2,w3,w4,w5⟩:=wc;have e1:=Qar wo o1;have e2:=Qar wq o2;have r1:=Zf w1 v1;have r2:=Zf w2 v2;have r3:=Zf w3 v3;have r4:=Zf w4 v4;have r5:=Zf w5 v5;unfold canC cpv;simp only [e1,e2,r1,r2,r3,r4,r5]
end Go.Num
namespace Go.Abs
open Go.Num
variable {P:Program} {Γ:Nat->Spec}
theorem zbv(p:Ps):poA p=.agg (pC p):=eq_of_heq (HEq.refl _)
theorem vaU(p:Ps):(pC p).take 10=pC p:=List.take_of_length_le (Nat.le_of_eq (VaY p))
theorem uaY(p:Ps):(pC p).drop 0=pC p:=eq_of_heq (HEq.refl _)
theorem zbf(k:List Ps->Prop)(p:Ps):onPs k (.one (.slice [pC p]))=((∀x∈[p],WLP x)/\k [p]):=QaM k [p]
attribute [go_sem,go_sem ↓] zbv vaU uaY zbf
def xaZ(l:List AV)(K:AV->Prop):Prop:=
 match l with
 | [c,g]=>onCp (λc=>onPo (λg=>cl c<=1000/\pl g<=1000/\cchk c=0/\K (cqR (movQ38 (cpv c) (pv g)))) g) c
 | _=>False
theorem ZaT(c g:AV)(K:AV->Prop):xaZ [c,g] K=(onCp (λc=>onPo (λg=>cl c<=1000/\pl g<=1000/\cchk c=0/\K (cqR (movQ38 (cpv c) (pv g)))) g) c):=propext Iff.rfl
@[congr] theorem jbN {K:AV->Prop} {l l' : List AV} (h:l=l'):xaZ l K=xaZ l' K:=by subst h;rfl
attribute [go_sem,go_sem ↓] ZaT
def WaN(l:List AV)(K:AV->Prop):Prop:=
 match l with
 | [c,k]=>onCp (λc=>onR (λk=>cl c<=1000/\rl k<=1000/\cchk c=0/\K (cqR (sclQ38 (cpv c) (rv k)))) k) c
 | _=>False
theorem qaM(c k:AV)(K:AV->Prop):WaN [c,k] K=(onCp (λc=>onR (λk=>cl c<=1000/\rl k<=1000/\cchk c=0/\K (cqR (sclQ38 (cpv c) (rv k)))) k) c):=propext Iff.rfl
@[congr] theorem jbO {K:AV->Prop} {l l' : List AV} (h:l=l'):WaN l K=WaN l' K:=by subst h;rfl
attribute [go_sem,go_sem ↓] qaM
end Go.Abs
end
section
namespace Go.Num
def rsQ(c:CpR):V2:=subQ (1,0) (cW c)
def foQ(c:CpR):V2:=addQ c.1 (timesQ (cW c) (subQ c.2.1 c.1))
def ovQ(w:V2):V2:=(w.1 / sqQ w,-w.2 / sqQ w)
def simQ(c:CpR)(o k:V2)(a b d:Rat):CpR:=(o,foQ c,sqQ k*a,sqQ k*b,sqQ k*d,(ovQ k).1,(ovQ k).2)
def fiQ(c:CpR):CpR:=simQ c c.1 (cW c) c.2.2.2.1 c.2.2.1 c.2.2.2.2.1
def seQ(c:CpR):CpR:=simQ c c.2.1 (rsQ c) c.2.2.2.1 c.2.2.2.2.1 c.2.2.1
def swQ(c:CpR):CpR:=(c.2.1,c.1,c.2.2.2.2.1,c.2.2.2.1,c.2.2.1,(rsQ c).1,(rsQ c).2)
theorem ov_j{w:V2}(h:sqQ w≠0):∃j,sqQ w*j=1/\ovQ w=(j*w.1,j * -w.2):=by
 refine⟨(sqQ w)⁻¹,Rat.mul_inv_cancel _ h,?_⟩;unfold ovQ;rw [Rat.div_def,Rat.div_def,Rat.mul_comm,Rat.mul_comm (-w.2)]
theorem rob1(k j u v:Rat)(hk:k=u*u+v*v)(hj:k*j=1)(z1 z2 s1 s2:Rat) :
  k*(z1*(j*u)-z2*(-(j * -v)))=z1*u-z2*v/\k*(z2*(j*u)+z1*(-(j * -v)))=z2*u+z1*v/\
  k*(s1*(1-j*u)-s2*(j * -v))=s1*(k-u)+s2*v/\k*(s2*(1-j*u)+s1*(j * -v))=s2*(k-u)-s1*v:=by
 have h1:∀x,k*(j*x)=x:=λx=>by grind
 refine⟨?_,?_,?_,?_⟩
 .have:=h1 (z1*u);have:=h1 (z2*v);grind
 .have:=h1 (z2*u);have:=h1 (z1*v);grind
 .have:=h1 (s1*u);have:=h1 (s2*v);grind
 .have:=h1 (s2*u);have:=h1 (s1*v);grind
theorem rob2(z1 z2 d1 d2 u v A B C:Rat) :
  let k:=u*u+v*v
  let G:=z1*z1+z2*z2
  let h:=k*B-A
  let s1:=z1-(u*d1-v*d2)
  let s2:=z2-(u*d2+v*d1)
  let Q1:=z1*u+z2*v
  let Q2:=z2*u-z1*v
  let P1:=(z1-d1)*(1-u)-(z2-d2)*v
  let P2:=(z2-d2)*(1-u)+(z1-d1)*v
  let r:=(1-u)*(1-u)+v*v
  let F:=C-r*B-((z1-d1)*(z1-d1)+(z2-d2)*(z2-d2))
  let F':=k*C-(s1*s1+s2*s2)-r*A
  let R:=P1*Q1+P2*Q2
  (G-h)*(s1*(1-u)-s2*v)+F' * z1=(G-h)*(u*P1-v*P2)+(k*F-2*R)*z1/\
  (G-h)*(s2*(1-u)+s1*v)+F' * z2=(G-h)*(u*P2+v*P1)+(k*F-2*R)*z2:=by
 intro k G h s1 s2 Q1 Q2 P1 P2 r F F' R;constructor <;> grind
theorem rob3(z1 z2 u v h F P1 P2:Rat) :
  let k:=u*u+v*v
  let G:=z1*z1+z2*z2
  let Q1:=z1*u+z2*v
  let Q2:=z2*u-z1*v
  let R:=P1*Q1+P2*Q2
  let M:=Q1*P2-Q2*P1
  let Y1:=(G-h)*(u*P1-v*P2)+(k*F-2*R)*z1
  let Y2:=(G-h)*(u*P2+v*P1)+(k*F-2*R)*z2
  let X1:=(G+h)*P1-F*Q1
  let X2:=(G+h)*P2-F*Q2
  Y1*Y1+Y2*Y2=k*(X1*X1+X2*X2)-4*(M*M)*h:=by
 intro k G Q1 Q2 R M Y1 Y2 X1 X2;have p0:k*G=Q1*Q1+Q2*Q2:=by grind
 have p1:(u*P1-v*P2)*z1+(u*P2+v*P1)*z2=R:=by grind
 have p2:(u*P1-v*P2)*(u*P1-v*P2)+(u*P2+v*P1)*(u*P2+v*P1)=k*(P1*P1+P2*P2):=by grind
 have p3:M*M=(P1*P1+P2*P2)*(k*G)-R*R:=by rw [p0];grind
 have y:Y1*Y1+Y2*Y2=(G-h)*(G-h)*(k*(P1*P1+P2*P2))+(k*F-2*R)*(k*F-2*R)*G+2*(G-h)*(k*F-2*R)*R:=by
  rw [<-p2,<-p1];clear_value k R;grind
 have x:X1*X1+X2*X2=(G+h)*(G+h)*(P1*P1+P2*P2)+F*F*(k*G)-2*(G+h)*F*R:=by
  rw [p0];clear_value k G;grind
 rw [y,x,p3]
 clear_value k G R
 grind
theorem rob4{k j u v:Rat}(A:Rat)(hk:u*u+v*v=k)(hj:k*j=1):(j*u*(j*u)+j * -v*(j * -v))*(k*A)=A/\
  ((1-j*u)*(1-j*u)+j * -v*(j * -v))*(k*A)=((1-u)*(1-u)+v*v)*A:=by
 constructor
 .have:(j*u*(j*u)+j * -v*(j * -v))*(k*A)=j*j*(u*u+v*v)*(k*A):=by grind
  rw [this,hk];have:j*j*k*(k*A)=k*j*(k*j)*A:=by grind
  rw [this,hj];grind
 .have:((1-j*u)*(1-j*u)+j * -v*(j * -v))*(k*A)=k*A-2*(k*j)*u*A+k*j*j*(u*u+v*v)*A:=by grind
  rw [this,hk];have:k*A-2*(k*j)*u*A+k*j*j*k*A=k*A-2*(k*j)*u*A+k*j*(k*j)*A:=by grind
  rw [this,hj,<-hk];grind
theorem rob5{k u v z1 z2 d1 d2 s1 s2:Rat}(hk:u*u+v*v=k)(hs1:z1-(u*d1-v*d2)=s1)(hs2:z2-(u*d2+v*d1)=s2) :
  (z1*u-z2*v)*(s2*(k-u)-s1*v)-(z2*u+z1*v)*(s1*(k-u)+s2*v) = -(k*((z1*u+z2*v)*((z2-d2)*(1-u)+(z1-d1)*v)-(z2*u-z1*v)*((z1-d1)*(1-u)-(z2-d2)*v))):=by
 rw [<-hs1,<-hs2,<-hk];grind
theorem Wby(a b c:Rat):a-b-c=a-c-b:=by grind
theorem Zbw(a b c:Rat):a+(b-c)=a-(c-b):=by grind
theorem kcan{k x y:Rat}(hk:k≠0)(h:k*x=k*y):x=y:=by
 have h1:k*(x-y)=0:=by grind
 have:=(Rat.mul_eq_zero.1 h1).resolve_left hk;grind
theorem rob6{k u v A B e f E F a1 a2 b1 b2 z1 z2 s1 s2 P1 P2 Q1 Q2:Rat}(hk0:k≠0)(hk:u*u+v*v=k)
  (r1:k*a1=z1*u-z2*v) (r2:k*a2=z2*u+z1*v) (r3:k*b1=s1*(k-u)+s2*v) (r4:k*b2=s2*(k-u)-s1*v)
  (eM:(z1*u-z2*v)*(s2*(k-u)-s1*v)-(z2*u+z1*v)*(s1*(k-u)+s2*v) = -(k*(Q1*P2-Q2*P1)))
  (y3:(e*(s1*(1-u)-s2*v)+f*z1)*(e*(s1*(1-u)-s2*v)+f*z1)+(e*(s2*(1-u)+s1*v)+f*z2)*(e*(s2*(1-u)+s1*v)+f*z2) =
   k*((E*P1-F*Q1)*(E*P1-F*Q1)+(E*P2-F*Q2)*(E*P2-F*Q2))-4*((Q1*P2-Q2*P1)*(Q1*P2-Q2*P1))*(k*B-A)) :
  (e*b2-f*a2)*(e*b2-f*a2)+(f*a1-e*b1)*(f*a1-e*b1)-4*(k*A)*((a1*b2-a2*b1)*(a1*b2-a2*b1)) =
  (E*P2-F*Q2)*(E*P2-F*Q2)+(F*Q1-E*P1)*(F*Q1-E*P1)-4*B*((Q1*P2-Q2*P1)*(Q1*P2-Q2*P1)):=by
 have hm:k*(a1*b2-a2*b1) = -(Q1*P2-Q2*P1):=by
  refine kcan hk0 ?_;have:k*(k*(a1*b2-a2*b1))=(k*a1)*(k*b2)-(k*a2)*(k*b1):=by clear y3 eM r1 r2 r3 r4;grind
  rw [this,r1,r2,r3,r4,eM];clear y3 eM r1 r2 r3 r4 this;grind
 clear eM;have n1:k*(e*b2-f*a2) = -(u*(e*(s2*(1-u)+s1*v)+f*z2)+v*(e*(s1*(1-u)-s2*v)+f*z1)):=by
  have:k*(e*b2-f*a2)=e*(k*b2)-f*(k*a2):=by clear y3 hm r1 r2 r3 r4;grind
  rw [this,r2,r4,<-hk];clear y3 hm r1 r2 r3 r4 this;grind
 have n2:k*(f*a1-e*b1)=u*(e*(s1*(1-u)-s2*v)+f*z1)-v*(e*(s2*(1-u)+s1*v)+f*z2):=by
  have:k*(f*a1-e*b1)=f*(k*a1)-e*(k*b1):=by clear y3 hm n1 r1 r2 r3 r4;grind
  rw [this,r1,r3,<-hk];clear y3 hm n1 r1 r2 r3 r4 this;grind
 clear r1 r2 r3 r4;generalize e*(s1*(1-u)-s2*v)+f*z1=Y1 at *
 generalize e*(s2*(1-u)+s1*v)+f*z2=Y2 at *
 generalize e*b2-f*a2=N1 at *
 generalize f*a1-e*b1=N2 at *
 generalize a1*b2-a2*b1=m at *
 generalize Q1*P2-Q2*P1=M at *
 have hx:F*Q1-E*P1 = -(E*P1-F*Q1):=by clear y3 hm n1 n2;grind
 rw [hx];generalize E*P1-F*Q1=X1 at *
 generalize E*P2-F*Q2=X2 at *
 clear hx;have k1:k*k*(N1*N1+N2*N2)=k*(Y1*Y1+Y2*Y2):=by
  have:k*k*(N1*N1+N2*N2)=(k*N1)*(k*N1)+(k*N2)*(k*N2):=by clear y3 hm n1 n2;grind
  rw [this,n1,n2,<-hk];clear y3 hm n1 n2;grind
 have k2:k*k*(m*m)=M*M:=by
  have:k*k*(m*m)=(k*m)*(k*m):=by clear y3 hm n1 n2 k1;grind
  rw [this,hm];clear y3 hm n1 n2 k1;grind
 refine kcan hk0 (kcan hk0 ?_);have:k*(k*(N1*N1+N2*N2-4*(k*A)*(m*m)))=k*k*(N1*N1+N2*N2)-4*(k*A)*(k*k*(m*m)):=by clear y3 hm n1 n2 k1 k2;grind
 rw [this,k1,k2,y3];clear y3 hm n1 n2 k1 k2 this;grind
theorem UbQ(c:CpR)(p:V2)(hk0:sqQ (cW c)≠0):wV (fiQ c) p=wV c p:=by
 obtain⟨j,hj,ho⟩:=ov_j hk0;obtain⟨⟨o1,o2⟩,⟨q1,q2⟩,A,B,C,u,v⟩:=c;obtain⟨x,y⟩:=p;have eW:cW ((o1,o2),(q1,q2),A,B,C,u,v)=(u,v):=rfl;rw [eW]at hk0 hj ho;have ek:sqQ (u,v)=u*u+v*v:=rfl;rw [ek]at hk0 hj;obtain⟨k,hk⟩:∃k,u*u+v*v=k:=⟨_,rfl⟩;rw [hk]at hk0 hj ek;have e0:fiQ ((o1,o2),(q1,q2),A,B,C,u,v)=((o1,o2),foQ ((o1,o2),(q1,q2),A,B,C,u,v),k*B,k*A,k*C,j*u,j * -v):=by
  unfold fiQ simQ;rw [eW,ho,ek]
 rw [e0];obtain⟨z1,hz1⟩:∃z,x-o1=z:=⟨_,rfl⟩;obtain⟨z2,hz2⟩:∃z,y-o2=z:=⟨_,rfl⟩;obtain⟨d1,hd1⟩:∃z,q1-o1=z:=⟨_,rfl⟩;obtain⟨d2,hd2⟩:∃z,q2-o2=z:=⟨_,rfl⟩;have ef:foQ ((o1,o2),(q1,q2),A,B,C,u,v)=(o1+(u*d1-v*d2),o2+(u*d2+v*d1)):=by
  unfold foQ addQ timesQ subQ cW;simp only;rw [hd1,hd2]
 rw [ef];have f1:x-(o1+(u*d1-v*d2))=z1-(u*d1-v*d2):=by rw [<-hz1];grind
 have f2:y-(o2+(u*d2+v*d1))=z2-(u*d2+v*d1):=by rw [<-hz2];grind
 have g1:x-q1=z1-d1:=by rw [<-hz1,<-hd1];grind
 have g2:y-q2=z2-d2:=by rw [<-hz2,<-hd2];grind
 unfold wV wN wM wE wF wAl wBe cFi cSe cRe timQ sqQ subQ;simp only [hz1,hz2,f1,f2,g1,g2];obtain⟨s1,hs1⟩:∃z,z1-(u*d1-v*d2)=z:=⟨_,rfl⟩;obtain⟨s2,hs2⟩:∃z,z2-(u*d2+v*d1)=z:=⟨_,rfl⟩;rw [hs1,hs2];obtain⟨r1,r2,r3,r4⟩:=rob1 k j u v hk.symm hj z1 z2 s1 s2;have y12:=rob2 z1 z2 d1 d2 u v A B C;simp only [hs1,hs2,hk]at y12;have y3:=rob3 z1 z2 u v (k*B-A) (C-((1-u)*(1-u)+v*v)*B-((z1-d1)*(z1-d1)+(z2-d2)*(z2-d2))) ((z1-d1)*(1-u)-(z2-d2)*v) ((z2-d2)*(1-u)+(z1-d1)*v);simp only [hk]at y3;obtain⟨eE,eF⟩:=rob4 A hk hj;have eQ1:z1*u-z2 * -v=z1*u+z2*v:=by rw [Rat.mul_neg,Rat.sub_eq_add_neg,Rat.neg_neg]
 have eQ2:z2*u+z1 * -v=z2*u-z1*v:=by rw [Rat.mul_neg,Rat.sub_eq_add_neg]
 have eM:=rob5 hk hs1 hs2;have hf' : k*C-((1-u)*(1-u)+v*v)*A-(s1*s1+s2*s2)=k*C-(s1*s1+s2*s2)-((1-u)*(1-u)+v*v)*A:=Wby _ _ _;have he' : z1*z1+z2*z2+(A-k*B)=z1*z1+z2*z2-(k*B-A):=Zbw _ _ _;rw [eE,eF,eQ1,eQ2,hk,he',hf'];rw [<-y12.1,<-y12.2]at y3;exact rob6 hk0 hk r1 r2 r3 r4 eM y3
end Go.Num
end
section
namespace Go.Num
open Go.Abs
theorem Vw(a b:V2):zq (timesQ a b)<=2*zq a+2*zq b+6:=by
 have a1:=zq_1 a;have a2:=zq_2 a;have b1:=zq_1 b;have b2:=zq_2 b;have m1:=Ze a.1 b.1;have m2:=Ze a.2 b.2;have m3:=Ze a.1 b.2;have m4:=Ze a.2 b.1;have s1:=YG (a.1*b.1) (a.2*b.2);have s2:=yI (a.1*b.2) (a.2*b.1);exact Nat.max_le.2 ⟨by show rz (a.1*b.1-a.2*b.2)<=_;omega,by show rz (a.1*b.2+a.2*b.1)<=_;omega⟩
theorem ubS(a:V2):zq (ovQ a)<=5*zq a+8:=by
 have a1:=zq_1 a;have a2:=zq_2 a;have s:=uI a;have d1:=JaW a.1 (sqQ a);have d2:=JaW (-a.2) (sqQ a);rw [wB]at d2;exact Nat.max_le.2 ⟨by show rz (a.1 / sqQ a)<=_;omega,by show rz (-a.2 / sqQ a)<=_;omega⟩
theorem ybk{c:CpR}{b:Nat}(h:CB' b c):zq (foQ c)<=7*b+12:=by
 obtain⟨h1,h2,h3,h4,h5,h6,h7⟩:=h;have w:zq (cW c)<=b:=Nat.max_le.2 ⟨h6,h7⟩;have s:=Xl c.2.1 c.1;have t:=Vw (cW c) (subQ c.2.1 c.1);have u:=YR c.1 (timesQ (cW c) (subQ c.2.1 c.1));unfold foQ;omega
theorem kaF{c:CpR}{b:Nat}(h:CB' b c):zq (rsQ c)<=b+4:=by
 obtain⟨h1,h2,h3,h4,h5,h6,h7⟩:=h;have w:zq (cW c)<=b:=Nat.max_le.2 ⟨h6,h7⟩;have s:=Xl (1,0) (cW c);have e:zq (1,0)=1:=by decide +kernel
 unfold rsQ;omega
theorem Qbv(a:V2):addQ a (0,0)=a:=by unfold addQ;exact Prod.ext (by simp only;grind) (by simp only;grind)
theorem Jbw(a b c d:Rat):a*b+c*d=c*d+a*b:=Rat.add_comm _ _
end Go.Num
namespace Go.Abs
open Go.Num
variable {P:Program} {Γ:Nat->Spec}
def zC(l:List AV)(K:AV->Prop):Prop:=
 match l with
 | [a]=>onA (λp=>al p<=100000000/\K (pQ (av p))) a
 | _=>False
theorem ja1(a:AV)(K:AV->Prop):zC [a] K=(onA (λp=>al p<=100000000/\K (pQ (av p))) a):=propext Iff.rfl
@[congr] theorem ybQ {K:AV->Prop} {l l' : List AV} (h:l=l'):zC l K=zC l' K:=by subst h;rfl
attribute [go_sem,go_sem ↓] ja1
theorem Qa4:Good zC:=Xa λas=>by
 unfold zC;split
 .exact(jk λ_=>(.and λ_=>(.ret _)))
 .exact .of λK hk=>hk.elim
def QG(tE:Nat)(l:List AV)(K:AV->Prop):Prop:=
 match l with
 | [a]=>onA (λp=>al p<=100000000/\K (.tup [pQ (if sqQ (av p)=0 then (0,0) else ovQ (av p)),errV tE (if sqQ (av p)=0 then 8 else 0)])) a
 | _=>False
theorem Qa0(tE:Nat)(a:AV)(K:AV->Prop):QG tE [a] K=(onA (λp=>al p<=100000000/\K (.tup [pQ (if sqQ (av p)=0 then (0,0) else ovQ (av p)),errV tE (if sqQ (av p)=0 then 8 else 0)])) a):=propext Iff.rfl
@[congr] theorem vbQ (tE:Nat) {K:AV->Prop} {l l' : List AV} (h:l=l'):QG tE l K=QG tE l' K:=by subst h;rfl
attribute [go_sem,go_sem ↓] Qa0
theorem Wa3(tE:Nat):Good (QG tE):=Xa λas=>by
 unfold QG;split
 .exact(jk λ_=>(.and λ_=>(.ret _)))
 .exact .of λK hk=>hk.elim
def Qw(l:List AV)(K:AV->Prop):Prop:=
 match l with
 | [c]=>onCp (λc=>cl c<=1000000/\K (pQ (foQ (cpv c)))) c
 | _=>False
theorem uaQ(c:AV)(K:AV->Prop):Qw [c] K=(onCp (λc=>cl c<=1000000/\K (pQ (foQ (cpv c)))) c):=propext Iff.rfl
@[congr] theorem xbQ {K:AV->Prop} {l l' : List AV} (h:l=l'):Qw l K=Qw l' K:=by subst h;rfl
attribute [go_sem,go_sem ↓] uaQ
theorem jaO:Good Qw:=Xa λas=>by
 unfold Qw;split
 .exact(Vf λ_=>(.and λ_=>(.ret _)))
 .exact .of λK hk=>hk.elim
def YA(l:List AV)(K:AV->Prop):Prop:=
 match l with
 | [c]=>onCp (λc=>cl c<=100000000/\K (cpA (canC (cpv c)))) c
 | _=>False
theorem zaz(c:AV)(K:AV->Prop):YA [c] K=(onCp (λc=>cl c<=100000000/\K (cpA (canC (cpv c)))) c):=propext Iff.rfl
@[congr] theorem XbI {K:AV->Prop} {l l' : List AV} (h:l=l'):YA l K=YA l' K:=by subst h;rfl
attribute [go_sem,go_sem ↓] zaz
theorem QaG:Good YA:=Xa λas=>by
 unfold YA;split
 .exact(Vf λ_=>(.and λ_=>(.ret _)))
 .exact .of λK hk=>hk.elim
def Qr(f0:Nat):AC:=(.seq (.ops false [.u 1 (.box 6 (.t 0)),.u 2 (.alloc [(.lit (.bool false)),.emp,.emp,(.lit (.bool false)),.emp,.emp])])
 (.fg [1,2] (.seq (.ops false [.u 3 (.ld none 6 true (.t 1)),.u 4 (.build [.z [(.lit (.bool false)),.emp,.emp,(.lit (.bool false)),.emp,.emp]]),.u 5 (.call f0 [(.t 3),(.t 4)]),.n (.st none 6 (.t 2) (.t 5))])
 .ret)))
def xr(f0 f1 f2:Nat):AC:=(.seq (.ops false [.u 2 (.box 6 (.t 0)),.u 3 (.box 6 (.t 1)),.u 4 (.alloc [(.lit (.bool false)),.emp,.emp,(.lit (.bool false)),.emp,.emp])])
 (.fg [2,3,4] (.seq (.ops true [.u 5 (.fa 0 (.t 2)),.u 6 (.ld none 3 true (.t 5)),.u 7 (.fa 0 (.t 3)),.u 8 (.ld none 3 true (.t 7)),.u 9 (.call f0 [(.t 6),(.t 8)]),.u 10 (.fa 3 (.t 2)),.u 11 (.ld none 3 true (.t 10)),.u 12 (.fa 3 (.t 3)),.u 13 (.ld none 3 true (.t 12)),.u 14 (.call f0 [(.t 11),(.t 13)]),.u 15 (.call f1 [(.t 9),(.t 14)]),.u 16 (.fa 3 (.t 2)),.u 17 (.ld none 3 true (.t 16)),.u 18 (.fa 0 (.t 3)),.u 19 (.ld none 3 true (.t 18)),.u 20 (.call f0 [(.t 17),(.t 19)]),.u 21 (.fa 0 (.t 2)),.u 22 (.ld none 3 true (.t 21)),.u 23 (.fa 3 (.t 3)),.u 24 (.ld none 3 true (.t 23)),.u 25 (.call f0 [(.t 22),(.t 24)]),.u 26 (.call f2 [(.t 20),(.t 25)]),.u 27 (.build [.x 3 (.t 15),.x 3 (.t 26)]),.n (.st none 6 (.t 4) (.t 27))])
 .ret)))
def Vi(f0 f1 f2:Nat):AC:=(.seq (.ops false [.u 1 (.box 6 (.t 0)),.u 2 (.alloc [(.lit (.bool false)),.emp,.emp,(.lit (.bool false)),.emp,.emp]),.m 3 (.c (.one (.lit .nilIface)))])
 (.fg [1,2] (.seq (.ops false [.u 8 (.ld none 6 true (.t 1)),.u 9 (.call f0 [(.t 8)]),.u 4 (.alloc [(.lit (.bool false)),.emp,.emp]),.n (.st none 3 (.t 4) (.t 9))])
 (.fg [1,2,4] (.seq (.ops false [.u 11 (.fa 0 (.t 1)),.u 12 (.ld none 3 true (.t 11)),.u 13 (.ld none 3 true (.t 4)),.u 14 (.call f1 [(.t 12),(.t 13)]),.m 10 (.t 14),.u 15 (.ext 0 (.t 10)),.u 16 (.ext 1 (.t 10)),.u 5 (.alloc [(.lit (.bool false)),.emp,.emp]),.n (.st none 3 (.t 5) (.t 15)),.m 6 (.t 16)])
 (.fg [1,2,4,5,6] (.seq (.seq (.ops false [.m 17 (.t 6),.u 18 (.binn .neq (.t 17) (.c (.one (.lit .nilIface))))])
 (.fg [1,2,4,5,6,18] (.cond (.t 18) (.seq (.ops false [.u 19 (.build [.z [(.lit (.bool false)),.emp,.emp,(.lit (.bool false)),.emp,.emp]]),.m 20 (.t 6),.n (.st none 6 (.t 2) (.t 19)),.m 3 (.t 20)])
 .ret) .skip)))
 (.fg [1,2,4,5] (.seq (.ops true [.u 22 (.fa 3 (.t 1)),.u 23 (.ld none 3 true (.t 22)),.u 24 (.call f2 [(.t 23)]),.u 25 (.ld none 3 true (.t 4)),.u 26 (.call f1 [(.t 24),(.t 25)]),.m 21 (.t 26),.u 27 (.ext 0 (.t 21)),.u 28 (.ext 1 (.t 21)),.u 7 (.alloc [(.lit (.bool false)),.emp,.emp]),.n (.st none 3 (.t 7) (.t 27)),.m 6 (.t 28)])
 (.fg [2,5,6,7] (.seq (.ops false [.u 29 (.ld none 3 true (.t 5)),.u 30 (.ld none 3 true (.t 7)),.u 31 (.build [.x 3 (.t 29),.x 3 (.t 30)]),.m 32 (.t 6),.n (.st none 6 (.t 2) (.t 31)),.m 3 (.t 32)])
 .ret)))))))))))
def Vm(f0 f1 f2 f3:Nat):AC:=(.seq (.ops false [.u 1 (.box 27 (.t 0)),.u 2 (.alloc [(.lit (.bool false)),.emp,.emp,(.lit (.bool false)),.emp,.emp])])
 (.fg [1,2] (.seq (.ops true [.u 3 (.fa 0 (.t 1)),.u 4 (.ld none 6 true (.t 3)),.u 5 (.ld none 27 true (.t 1)),.u 6 (.call f0 [(.t 5)]),.u 7 (.fa 6 (.t 1)),.u 8 (.ld none 6 true (.t 7)),.u 9 (.fa 0 (.t 1)),.u 10 (.ld none 6 true (.t 9)),.u 11 (.call f1 [(.t 8),(.t 10)]),.u 12 (.call f2 [(.t 6),(.t 11)]),.u 13 (.call f3 [(.t 4),(.t 12)]),.n (.st none 6 (.t 2) (.t 13))])
 .ret)))
def vp(f0 f1:Nat):AC:=(.seq (.ops false [.u 1 (.box 27 (.t 0)),.u 2 (.alloc [(.lit (.bool false)),.emp,.emp,(.lit (.bool false)),.emp,.emp,(.lit (.bool false)),.emp,.emp,(.lit (.bool false)),.emp,.emp,(.lit (.bool false)),.emp,.emp,(.lit (.bool false)),.emp,.emp,(.lit (.bool false)),.emp,.emp,(.lit (.bool false)),.emp,.emp,(.lit (.bool false)),.emp,.emp])])
 (.fg [1,2] (.seq (.ops false [.u 4 (.build [.z [(.lit (.bool false)),.emp,.emp]]),.u 3 (.alloc [(.lit (.bool false)),.emp,.emp]),.n (.st none 3 (.t 3) (.t 4))])
 (.fg [1,2,3] (.seq (.ops true [.u 5 (.fa 0 (.t 1)),.u 6 (.ld none 6 true (.t 5)),.u 7 (.call f0 [(.t 6)]),.u 8 (.fa 6 (.t 1)),.u 9 (.ld none 6 true (.t 8)),.u 10 (.call f0 [(.t 9)]),.u 11 (.fa 12 (.t 1)),.u 12 (.ld none 3 true (.t 11)),.u 13 (.ld none 3 true (.t 3)),.u 14 (.call f1 [(.t 12),(.t 13)]),.u 15 (.fa 15 (.t 1)),.u 16 (.ld none 3 true (.t 15)),.u 17 (.ld none 3 true (.t 3)),.u 18 (.call f1 [(.t 16),(.t 17)]),.u 19 (.fa 18 (.t 1)),.u 20 (.ld none 3 true (.t 19)),.u 21 (.ld none 3 true (.t 3)),.u 22 (.call f1 [(.t 20),(.t 21)]),.u 23 (.fa 21 (.t 1)),.u 24 (.ld none 3 true (.t 23)),.u 25 (.ld none 3 true (.t 3)),.u 26 (.call f1 [(.t 24),(.t 25)]),.u 27 (.fa 24 (.t 1)),.u 28 (.ld none 3 true (.t 27)),.u 29 (.ld none 3 true (.t 3)),.u 30 (.call f1 [(.t 28),(.t 29)]),.u 31 (.build [.x 6 (.t 7),.x 6 (.t 10),.x 3 (.t 14),.x 3 (.t 18),.x 3 (.t 22),.x 3 (.t 26),.x 3 (.t 30)]),.n (.st none 27 (.t 2) (.t 31))])
 .ret)))))
theorem YaD(hΓ:Holds P Γ){f fa:Nat}(ha:Γ fa=.dat false Qo)(hc:check P f=some (6,(Qr fa).strip,[.cell 2 6 true])):Sound P f (.dat false zC):=by
 refine Va hc Qa4 hΓ (λargs K hcl hfi hG=>?_);match args,hG with
 | [a],hG=>
  obtain⟨p,rfl,wp,hl,hK⟩:=hG;refine⟨by simp,?_⟩
  have zz:WLA (rcan 0,rcan 0):=Wp (0,0);have z0:al (rcan 0,rcan 0)<=100000000:=Nat.max_le.2 ⟨Nat.le_trans (Nat.le_of_eq rz_0) (by decide),Nat.le_trans (Nat.le_of_eq rz_0) (by decide)⟩
  have e0:av (rcan 0,rcan 0)=(0,0):=qI (0,0);simp only [go_sem,Qr,ha,ud,Jb,e0,Qbv];repeat first|refine Ja (by with_reducible assumption) ?_|refine Ja (Nat.le_trans (by with_reducible assumption) (by decide)) ?_|refine Ja (by decide) ?_
  exact hK
theorem WW(hΓ:Holds P Γ){f fm fs fa:Nat}(hm:Γ fm=.dat false Ul)(hs:Γ fs=.dat false Jv)(ha:Γ fa=.dat false uo)(hc:check P f=some (28,(xr fm fs fa).strip,[.cell 4 6 true])):Sound P f (.dat false Wi):=by
 refine Va hc JK hΓ (λargs K hcl hfi hG=>?_);match args,hG with
 | [a,b],hG=>
  obtain⟨p,rfl,wp,q,rfl,wq,hl,hl2,hK⟩:=hG;refine⟨by simp,?_⟩
  have w1:=wp.1;have w2:=wp.2;have w3:=wq.1;have w4:=wq.2;have l1:=(Nat.max_le.1 hl).1;have l2:=(Nat.max_le.1 hl).2;have l3:=(Nat.max_le.1 hl2).1;have l4:=(Nat.max_le.1 hl2).2;have r1:=yf w1;have r2:=yf w2;have r3:=yf w3;have r4:=yf w4;have m1:=Nat.le_trans (Ze (rv p.1) (rv q.1)) (by omega:_<=1000000000)
  have m2:=Nat.le_trans (Ze (rv p.2) (rv q.2)) (by omega:_<=1000000000)
  have m3:=Nat.le_trans (Ze (rv p.2) (rv q.1)) (by omega:_<=1000000000)
  have m4:=Nat.le_trans (Ze (rv p.1) (rv q.2)) (by omega:_<=1000000000)
  have e:pQ (timesQ (av p) (av q))=pQ (rv p.1*rv q.1-rv p.2*rv q.2,rv p.2*rv q.1+rv p.1*rv q.2):=by
   unfold timesQ av;rw [Jbw]
  rw [e]at hK;simp only [go_sem,xr,hm,hs,ha,ud,Yb];repeat first|refine Ja (by with_reducible assumption) ?_|refine Ja (Nat.le_trans (by with_reducible assumption) (by decide)) ?_|refine Ja (by decide) ?_
  exact hK
theorem XaI(hΓ:Holds P Γ){f fq fd fn tE:Nat}(hq:Γ fq=.dat false zD)(hd:Γ fd=.dat false (Zz tE))(hn:Γ fn=.dat false jv)(hc:check P f=some (33,(Vi fq fd fn).strip,[.cell 2 6 true,.tmp 3])):Sound P f (.dat false (QG tE)):=by
 refine Va hc (Wa3 tE) hΓ (λargs K hcl hfi hG=>?_);match args,hG with
 | [a],hG=>
  obtain⟨p,rfl,wp,hl,hK⟩:=hG;refine⟨by simp,?_⟩
  have w1:=wp.1;have w2:=wp.2;have l1:=(Nat.max_le.1 hl).1;have l2:=(Nat.max_le.1 hl).2;have r1:=yf w1;have r2:=yf w2;have s:=uI (av p);have z:=Ju wp;obtain⟨n,hn0⟩:∃n,sqQ (av p)=n:=⟨_,rfl⟩;rw [hn0]at s;have s1:=Nat.le_trans s (by omega:_<=4294967296)
  have s2:rz (-rv p.2)<=4294967296:=by rw [wB];omega
  have eo:ovQ (av p)=(rv p.1 / n,-rv p.2 / n):=by unfold ovQ;rw [hn0];rfl
  rw [eo,hn0]at hK;by_cases h0:n=0
  .have e8:=Wc tE (by decide:(8:Nat)≠0)
   rw [if_pos h0,if_pos h0,e8,vaM,xc]at hK;simp only [go_sem,Vi,hq,hd,ud,Jb,hn0,Yb,if_pos h0,e8];repeat first|refine Ja (by with_reducible assumption) ?_|refine Ja (Nat.le_trans (by with_reducible assumption) (by decide)) ?_|refine Ja (by decide) ?_
   exact hK
  .have e0:=jc tE;rw [if_neg h0,if_neg h0,e0]at hK;simp only [go_sem,Vi,hq,hd,hn,ud,Jb,hn0,Yb,if_neg h0,e0];repeat first|refine Ja (by with_reducible assumption) ?_|refine Ja (Nat.le_trans (by with_reducible assumption) (by decide)) ?_|refine Ja (by decide) ?_
   exact hK
theorem kR(hΓ:Holds P Γ){f fw fs ft fa:Nat}(hw' : Γ fw=.dat false UC)(hs:Γ fs=.dat false Ji)(ht:Γ ft=.dat false Wi)(ha:Γ fa=.dat false Qo)(hc:check P f=some (14,(Vm fw fs ft fa).strip,[.cell 2 6 true])):Sound P f (.dat false Qw):=by
 refine Va hc jaO hΓ (λargs K hcl hfi hG=>?_);match args,hG with
 | [a],hG=>
  obtain⟨c,rfl,hw,hl,hK⟩:=hG;refine⟨by simp,?_⟩
  have wW:WLA c.2.2.2.2.2:=⟨hw.2.2.2.2.2.1,hw.2.2.2.2.2.2⟩;have l6:al c.2.2.2.2.2<=100000000:=Nat.le_trans (cl_w hl) (by decide)
  have hB:=Yai hw hl;have wo:=hw.1;have wQ:=hw.2.1;have lo:al c.1<=100000000:=Nat.le_trans (Nat.le_max_left _ _) (Nat.le_trans hl (by decide))
  have lq:al c.2.1<=100000000:=Nat.le_trans (Nat.le_max_left _ _) (Nat.le_trans (Nat.le_max_right _ _) (Nat.le_trans hl (by decide)))
  obtain⟨D,hD⟩:∃D,subQ (av c.2.1) (av c.1)=D:=⟨_,rfl⟩;obtain⟨T,hT⟩:∃T,timesQ (av c.2.2.2.2.2) D=T:=⟨_,rfl⟩;have z1:al (rcan D.1,rcan D.2)<=100000000:=by
   have:=Xl (av c.2.1) (av c.1);rw [hD]at this;have e1:zq (av c.1)<=1000000:=hB.1;have e2:zq (av c.2.1)<=1000000:=hB.2.1;exact Nat.le_trans this (by omega)
  have z2:al (rcan T.1,rcan T.2)<=100000000:=by
   have:=Vw (av c.2.2.2.2.2) D;rw [hT]at this;have e3:=Xl (av c.2.1) (av c.1);rw [hD]at e3;have e1:zq (av c.1)<=1000000:=hB.1;have e2:zq (av c.2.1)<=1000000:=hB.2.1;have e4:zq (av c.2.2.2.2.2)<=1000000:=Nat.max_le.2 ⟨hB.2.2.2.2.2.1,hB.2.2.2.2.2.2⟩;exact Nat.le_trans this (by omega)
  have wD:WLA (rcan D.1,rcan D.2):=Wp D;have wT:WLA (rcan T.1,rcan T.2):=Wp T;have ef:foQ (cpv c)=addQ (av c.1) T:=by rw [<-hT,<-hD];rfl
  rw [ef]at hK;simp only [go_sem,Vm,hw',hs,ht,ha,cpA,cpC,aA,ud,Jb,hD,qI,hT];repeat first|refine Ja (by with_reducible assumption) ?_|refine Ja (Nat.le_trans (by with_reducible assumption) (by decide)) ?_|refine Ja (by decide) ?_
  exact hK
theorem Xah(hΓ:Holds P Γ){f fc fa:Nat}(hcl' : Γ fc=.dat false zC)(ha:Γ fa=.dat false uo)(hc:check P f=some (32,(vp fc fa).strip,[.cell 2 27 true])):Sound P f (.dat false YA):=by
 refine Va hc QaG hΓ (λargs K hcl hfi hG=>?_);match args,hG with
 | [a],hG=>
  obtain⟨c,rfl,hw,hl,hK⟩:=hG;refine⟨by simp,?_⟩
  obtain⟨wo,wQ,w1,w2,w3,w4,w5⟩:=id hw;have hl0:=hl;unfold cl at hl0;simp only [Nat.max_le]at hl0;obtain⟨l1,l2,l3,l4,l5,l6,l7⟩:=hl0;have lz:rz 0<=4294967296:=Nat.le_trans (Nat.le_of_eq rz_0) (by decide)
  have m1:∀x:Rat,x+0=x:=λx=>by grind
  simp only [go_sem,vp,hcl',ha,cpA,cpC,ud,rA,Jb,Yb,m1];repeat first|refine Ja (by with_reducible assumption) ?_|refine Ja (Nat.le_trans (by with_reducible assumption) (by decide)) ?_|refine Ja (by decide) ?_
  exact hK
end Go.Abs
end
section
namespace Go.Num
open Go.Abs
def wC(w:V2):Nat:=if sqQ w=0 then 8 else 0
def fiC(c:Cp):Nat:=if cchk c≠0 then cchk c else wC (cW (cpv c))
def seC(c:Cp):Nat:=if cchk c≠0 then cchk c else wC (rsQ (cpv c))
def alC(c:Cp):Nat:=if fiC c≠0 then fiC c else seC c
def alL(c:Cp):List CpR:=if alC c=0 then [cpv c,fiQ (cpv c),seQ (cpv c)] else []
theorem wC_0{w:V2}:wC w=0↔sqQ w≠0:=by
 unfold wC;split
 .rename_i h;simp [h]
 .rename_i h;simp [h]
theorem QbU{c:Cp}(h:cchk c≠0):fiC c=cchk c:=if_pos h
theorem VbU{c:Cp}(h:cchk c≠0):seC c=cchk c:=if_pos h
theorem Zbq{c:Cp}(h:cchk c=0):fiC c=wC (cW (cpv c)):=by unfold fiC;rw [if_neg (by omega)]
theorem xbw{c:Cp}(h:cchk c=0):seC c=wC (rsQ (cpv c)):=by unfold seC;rw [if_neg (by omega)]
theorem Jbe{c:CpR}{o k:V2}{x y z:Rat}{b:Nat}(h:CB' b c)(ho:zq o<=b)(hk:zq k<=b+4)(h1:rz x<=b)(h2:rz y<=b)(h3:rz z<=b):CB' (7*b+40) (simQ c o k x y z):=by
 have f:=ybk h;have s:=uI k;have v:=ubS k;have m1:=Ze (sqQ k) x;have m2:=Ze (sqQ k) y;have m3:=Ze (sqQ k) z;have v1:=zq_1 (ovQ k);have v2:=zq_2 (ovQ k);exact⟨by show zq o<=_;omega,by show zq (foQ c)<=_;omega,by show rz (sqQ k*x)<=_;omega,by show rz (sqQ k*y)<=_;omega,by show rz (sqQ k*z)<=_;omega,by show rz (ovQ k).1<=_;omega,by show rz (ovQ k).2<=_;omega⟩
theorem wbG{c:CpR}{b:Nat}(h:CB' b c):CB' (7*b+40) (fiQ c):=
 Jbe h h.1 (Nat.le_trans (Nat.max_le.2 ⟨h.2.2.2.2.2.1,h.2.2.2.2.2.2⟩) (by omega)) h.2.2.2.1 h.2.2.1 h.2.2.2.2.1
theorem vbV{c:CpR}{b:Nat}(h:CB' b c):CB' (7*b+40) (seQ c):=
 Jbe h h.2.1 (kaF h) h.2.2.2.1 h.2.2.2.2.1 h.2.2.1
end Go.Num
namespace Go.Abs
open Go.Num
variable {P:Program} {Γ:Nat->Spec}
def kD(tE:Nat)(l:List AV)(K:AV->Prop):Prop:=
 match l with
 | [c,o,k,x,y,z]=>onCp (λc=>onA (λo=>onA (λk=>onR (λx=>onR (λy=>onR (λz=>cl c<=1000000/\al o<=1000000/\al k<=1000000/\rl x<=1000000/\rl y<=1000000/\rl z<=1000000/\K (.tup [cqR (if wC (av k)=0 then simQ (cpv c) (av o) (av k) (rv x) (rv y) (rv z) else z27),errV tE (wC (av k))])) z) y) x) k) o) c
 | _=>False
theorem jaP(tE:Nat)(c o k x y z:AV)(K:AV->Prop):kD tE [c,o,k,x,y,z] K=(onCp (λc=>onA (λo=>onA (λk=>onR (λx=>onR (λy=>onR (λz=>cl c<=1000000/\al o<=1000000/\al k<=1000000/\rl x<=1000000/\rl y<=1000000/\rl z<=1000000/\K (.tup [cqR (if wC (av k)=0 then simQ (cpv c) (av o) (av k) (rv x) (rv y) (rv z) else z27),errV tE (wC (av k))])) z) y) x) k) o) c):=propext Iff.rfl
@[congr] theorem QbV (tE:Nat) {K:AV->Prop} {l l' : List AV} (h:l=l'):kD tE l K=kD tE l' K:=by subst h;rfl
attribute [go_sem,go_sem ↓] jaP
theorem UaW(tE:Nat):Good (kD tE):=Xa λas=>by
 unfold kD;split
 .exact(Vf λ_=>(jk λ_=>(jk λ_=>(jg λ_=>(jg λ_=>(jg λ_=>(.and λ_=>(.and λ_=>(.and λ_=>(.and λ_=>(.and λ_=>(.and λ_=>(.ret _)))))))))))))
 .exact .of λK hk=>hk.elim
def YO(tE:Nat)(l:List AV)(K:AV->Prop):Prop:=
 match l with
 | [c]=>onCp (λc=>cl c<=100000/\K (.tup [cqR (if fiC c=0 then fiQ (cpv c) else z27),errV tE (fiC c)])) c
 | _=>False
theorem vbg(tE:Nat)(c:AV)(K:AV->Prop):YO tE [c] K=(onCp (λc=>cl c<=100000/\K (.tup [cqR (if fiC c=0 then fiQ (cpv c) else z27),errV tE (fiC c)])) c):=propext Iff.rfl
@[congr] theorem QbX (tE:Nat) {K:AV->Prop} {l l' : List AV} (h:l=l'):YO tE l K=YO tE l' K:=by subst h;rfl
attribute [go_sem,go_sem ↓] vbg
theorem kba(tE:Nat):Good (YO tE):=Xa λas=>by
 unfold YO;split
 .exact(Vf λ_=>(.and λ_=>(.ret _)))
 .exact .of λK hk=>hk.elim
def WZ(tE:Nat)(l:List AV)(K:AV->Prop):Prop:=
 match l with
 | [c]=>onCp (λc=>cl c<=100000/\K (.tup [cqR (if seC c=0 then seQ (cpv c) else z27),errV tE (seC c)])) c
 | _=>False
theorem ubh(tE:Nat)(c:AV)(K:AV->Prop):WZ tE [c] K=(onCp (λc=>cl c<=100000/\K (.tup [cqR (if seC c=0 then seQ (cpv c) else z27),errV tE (seC c)])) c):=propext Iff.rfl
@[congr] theorem jbW (tE:Nat) {K:AV->Prop} {l l' : List AV} (h:l=l'):WZ tE l K=WZ tE l' K:=by subst h;rfl
attribute [go_sem,go_sem ↓] ubh
theorem Zba(tE:Nat):Good (WZ tE):=Xa λas=>by
 unfold WZ;split
 .exact(Vf λ_=>(.and λ_=>(.ret _)))
 .exact .of λK hk=>hk.elim
def JV(tE:Nat)(l:List AV)(K:AV->Prop):Prop:=
 match l with
 | [c]=>onCp (λc=>cl c<=100000/\K (.tup [pQ (if cchk c=0 then foQ (cpv c) else (0,0)),errV tE (cchk c)])) c
 | _=>False
theorem vbe(tE:Nat)(c:AV)(K:AV->Prop):JV tE [c] K=(onCp (λc=>cl c<=100000/\K (.tup [pQ (if cchk c=0 then foQ (cpv c) else (0,0)),errV tE (cchk c)])) c):=propext Iff.rfl
@[congr] theorem WbW (tE:Nat) {K:AV->Prop} {l l' : List AV} (h:l=l'):JV tE l K=JV tE l' K:=by subst h;rfl
attribute [go_sem,go_sem ↓] vbe
theorem za9(tE:Nat):Good (JV tE):=Xa λas=>by
 unfold JV;split
 .exact(Vf λ_=>(.and λ_=>(.ret _)))
 .exact .of λK hk=>hk.elim
def qbt(tE:Nat)(l:List AV)(K:AV->Prop):Prop:=
 match l with
 | [c]=>onCp (λc=>cl c<=100000/\K (.tup [cqR (if cchk c=0 then swQ (cpv c) else z27),errV tE (cchk c)])) c
 | _=>False
theorem Ybd(tE:Nat)(c:AV)(K:AV->Prop):qbt tE [c] K=(onCp (λc=>cl c<=100000/\K (.tup [cqR (if cchk c=0 then swQ (cpv c) else z27),errV tE (cchk c)])) c):=propext Iff.rfl
@[congr] theorem ubW (tE:Nat) {K:AV->Prop} {l l' : List AV} (h:l=l'):qbt tE l K=qbt tE l' K:=by subst h;rfl
attribute [go_sem,go_sem ↓] Ybd
def qD(tE:Nat)(l:List AV)(K:AV->Prop):Prop:=
 match l with
 | [c]=>onCp (λc=>cl c<=10000/\K (.tup [.one (.slice ((alL c).map λX=>cpC (canC X))),errV tE (alC c)])) c
 | _=>False
theorem JaK(tE:Nat)(c:AV)(K:AV->Prop):qD tE [c] K=(onCp (λc=>cl c<=10000/\K (.tup [.one (.slice ((alL c).map λX=>cpC (canC X))),errV tE (alC c)])) c):=propext Iff.rfl
@[congr] theorem jbT (tE:Nat) {K:AV->Prop} {l l' : List AV} (h:l=l'):qD tE l K=qD tE l' K:=by subst h;rfl
attribute [go_sem,go_sem ↓] JaK
theorem UaK(tE:Nat):Good (qD tE):=Xa λas=>by
 unfold qD;split
 .exact(Vf λ_=>(.and λ_=>(.ret _)))
 .exact .of λK hk=>hk.elim
def Xi(f0 f1 f2 f3 f4:Nat):AC:=(.seq (.ops false [.u 6 (.box 27 (.t 0)),.u 7 (.box 6 (.t 1)),.u 8 (.box 6 (.t 2)),.u 9 (.box 3 (.t 3)),.u 10 (.box 3 (.t 4)),.u 11 (.box 3 (.t 5)),.u 12 (.alloc [(.lit (.bool false)),.emp,.emp,(.lit (.bool false)),.emp,.emp,(.lit (.bool false)),.emp,.emp,(.lit (.bool false)),.emp,.emp,(.lit (.bool false)),.emp,.emp,(.lit (.bool false)),.emp,.emp,(.lit (.bool false)),.emp,.emp,(.lit (.bool false)),.emp,.emp,(.lit (.bool false)),.emp,.emp]),.m 13 (.c (.one (.lit .nilIface)))])
 (.fg [6,7,8,9,10,11,12] (.seq (.ops false [.u 18 (.ld none 6 true (.t 8)),.u 19 (.call f0 [(.t 18)]),.m 17 (.t 19),.u 20 (.ext 0 (.t 17)),.u 21 (.ext 1 (.t 17)),.u 14 (.alloc [(.lit (.bool false)),.emp,.emp,(.lit (.bool false)),.emp,.emp]),.n (.st none 6 (.t 14) (.t 20)),.m 15 (.t 21)])
 (.fg [6,7,8,9,10,11,12,14,15] (.seq (.seq (.ops false [.m 22 (.t 15),.u 23 (.binn .neq (.t 22) (.c (.one (.lit .nilIface))))])
 (.fg [6,7,8,9,10,11,12,14,15,23] (.cond (.t 23) (.seq (.ops false [.u 24 (.build [.z [(.lit (.bool false)),.emp,.emp,(.lit (.bool false)),.emp,.emp,(.lit (.bool false)),.emp,.emp,(.lit (.bool false)),.emp,.emp,(.lit (.bool false)),.emp,.emp,(.lit (.bool false)),.emp,.emp,(.lit (.bool false)),.emp,.emp,(.lit (.bool false)),.emp,.emp,(.lit (.bool false)),.emp,.emp]]),.m 25 (.t 15),.n (.st none 27 (.t 12) (.t 24)),.m 13 (.t 25)])
 .ret) .skip)))
 (.fg [6,7,8,9,10,11,12,14] (.seq (.ops false [.u 26 (.ld none 6 true (.t 8)),.u 27 (.call f1 [(.t 26)]),.u 16 (.alloc [(.lit (.bool false)),.emp,.emp]),.n (.st none 3 (.t 16) (.t 27))])
 (.fg [6,7,9,10,11,12,14,16] (.seq (.ops true [.u 28 (.ld none 6 true (.t 7)),.u 29 (.call f2 [(.t 28)]),.u 30 (.ld none 27 true (.t 6)),.u 31 (.call f3 [(.t 30)]),.u 32 (.ld none 3 true (.t 16)),.u 33 (.ld none 3 true (.t 9)),.u 34 (.call f4 [(.t 32),(.t 33)]),.u 35 (.ld none 3 true (.t 16)),.u 36 (.ld none 3 true (.t 10)),.u 37 (.call f4 [(.t 35),(.t 36)]),.u 38 (.ld none 3 true (.t 16)),.u 39 (.ld none 3 true (.t 11)),.u 40 (.call f4 [(.t 38),(.t 39)]),.u 41 (.fa 0 (.t 14)),.u 42 (.ld none 3 true (.t 41)),.u 43 (.fa 3 (.t 14)),.u 44 (.ld none 3 true (.t 43)),.u 45 (.build [.x 6 (.t 29),.x 6 (.t 31),.x 3 (.t 34),.x 3 (.t 37),.x 3 (.t 40),.x 3 (.t 42),.x 3 (.t 44)]),.n (.st none 27 (.t 12) (.t 45)),.m 13 (.c (.one (.lit .nilIface)))])
 .ret)))))))))
def Xm(f0 f1 f2:Nat):AC:=(.seq (.ops false [.u 1 (.box 27 (.t 0)),.u 2 (.alloc [(.lit (.bool false)),.emp,.emp,(.lit (.bool false)),.emp,.emp,(.lit (.bool false)),.emp,.emp,(.lit (.bool false)),.emp,.emp,(.lit (.bool false)),.emp,.emp,(.lit (.bool false)),.emp,.emp,(.lit (.bool false)),.emp,.emp,(.lit (.bool false)),.emp,.emp,(.lit (.bool false)),.emp,.emp]),.m 3 (.c (.one (.lit .nilIface)))])
 (.fg [1,2] (.seq (.seq (.ops false [.u 5 (.ld none 27 true (.t 1)),.u 6 (.call f0 [(.t 5)]),.m 4 (.t 6)])
 (.fg [1,2,4] (.seq (.ops false [.m 7 (.t 4),.u 8 (.binn .neq (.t 7) (.c (.one (.lit .nilIface))))])
 (.fg [1,2,4,8] (.cond (.t 8) (.seq (.ops false [.u 9 (.build [.z [(.lit (.bool false)),.emp,.emp,(.lit (.bool false)),.emp,.emp,(.lit (.bool false)),.emp,.emp,(.lit (.bool false)),.emp,.emp,(.lit (.bool false)),.emp,.emp,(.lit (.bool false)),.emp,.emp,(.lit (.bool false)),.emp,.emp,(.lit (.bool false)),.emp,.emp,(.lit (.bool false)),.emp,.emp]]),.m 10 (.t 4),.n (.st none 27 (.t 2) (.t 9)),.m 3 (.t 10)])
 .ret) .skip)))))
 (.fg [1,2] (.seq (.ops true [.u 11 (.ld none 27 true (.t 1)),.u 12 (.fa 0 (.t 1)),.u 13 (.ld none 6 true (.t 12)),.u 14 (.ld none 27 true (.t 1)),.u 15 (.call f1 [(.t 14)]),.u 16 (.fa 15 (.t 1)),.u 17 (.ld none 3 true (.t 16)),.u 18 (.fa 12 (.t 1)),.u 19 (.ld none 3 true (.t 18)),.u 20 (.fa 18 (.t 1)),.u 21 (.ld none 3 true (.t 20)),.u 22 (.call f2 [(.t 11),(.t 13),(.t 15),(.t 17),(.t 19),(.t 21)]),.u 23 (.ext 0 (.t 22)),.u 24 (.ext 1 (.t 22)),.n (.st none 27 (.t 2) (.t 23)),.m 3 (.t 24)])
 .ret)))))
def Jk(f0 f1 f2:Nat):AC:=(.seq (.ops false [.u 1 (.box 27 (.t 0)),.u 2 (.alloc [(.lit (.bool false)),.emp,.emp,(.lit (.bool false)),.emp,.emp,(.lit (.bool false)),.emp,.emp,(.lit (.bool false)),.emp,.emp,(.lit (.bool false)),.emp,.emp,(.lit (.bool false)),.emp,.emp,(.lit (.bool false)),.emp,.emp,(.lit (.bool false)),.emp,.emp,(.lit (.bool false)),.emp,.emp]),.m 3 (.c (.one (.lit .nilIface)))])
 (.fg [1,2] (.seq (.seq (.ops false [.u 5 (.ld none 27 true (.t 1)),.u 6 (.call f0 [(.t 5)]),.m 4 (.t 6)])
 (.fg [1,2,4] (.seq (.ops false [.m 7 (.t 4),.u 8 (.binn .neq (.t 7) (.c (.one (.lit .nilIface))))])
 (.fg [1,2,4,8] (.cond (.t 8) (.seq (.ops false [.u 9 (.build [.z [(.lit (.bool false)),.emp,.emp,(.lit (.bool false)),.emp,.emp,(.lit (.bool false)),.emp,.emp,(.lit (.bool false)),.emp,.emp,(.lit (.bool false)),.emp,.emp,(.lit (.bool false)),.emp,.emp,(.lit (.bool false)),.emp,.emp,(.lit (.bool false)),.emp,.emp,(.lit (.bool false)),.emp,.emp]]),.m 10 (.t 4),.n (.st none 27 (.t 2) (.t 9)),.m 3 (.t 10)])
 .ret) .skip)))))
 (.fg [1,2] (.seq (.ops true [.u 11 (.ld none 27 true (.t 1)),.u 12 (.fa 6 (.t 1)),.u 13 (.ld none 6 true (.t 12)),.u 14 (.ld none 27 true (.t 1)),.u 15 (.call f1 [(.t 14)]),.u 16 (.fa 15 (.t 1)),.u 17 (.ld none 3 true (.t 16)),.u 18 (.fa 18 (.t 1)),.u 19 (.ld none 3 true (.t 18)),.u 20 (.fa 12 (.t 1)),.u 21 (.ld none 3 true (.t 20)),.u 22 (.call f2 [(.t 11),(.t 13),(.t 15),(.t 17),(.t 19),(.t 21)]),.u 23 (.ext 0 (.t 22)),.u 24 (.ext 1 (.t 22)),.n (.st none 27 (.t 2) (.t 23)),.m 3 (.t 24)])
 .ret)))))
def Ym(f0 f1:Nat):AC:=(.seq (.ops false [.u 1 (.box 27 (.t 0)),.u 2 (.alloc [(.lit (.bool false)),.emp,.emp,(.lit (.bool false)),.emp,.emp]),.m 3 (.c (.one (.lit .nilIface)))])
 (.fg [1,2] (.seq (.seq (.ops false [.u 5 (.ld none 27 true (.t 1)),.u 6 (.call f0 [(.t 5)]),.m 4 (.t 6)])
 (.fg [1,2,4] (.seq (.ops false [.m 7 (.t 4),.u 8 (.binn .neq (.t 7) (.c (.one (.lit .nilIface))))])
 (.fg [1,2,4,8] (.cond (.t 8) (.seq (.ops false [.u 9 (.build [.z [(.lit (.bool false)),.emp,.emp,(.lit (.bool false)),.emp,.emp]]),.m 10 (.t 4),.n (.st none 6 (.t 2) (.t 9)),.m 3 (.t 10)])
 .ret) .skip)))))
 (.fg [1,2] (.seq (.ops false [.u 11 (.ld none 27 true (.t 1)),.u 12 (.call f1 [(.t 11)]),.n (.st none 6 (.t 2) (.t 12)),.m 3 (.c (.one (.lit .nilIface)))])
 .ret)))))
def Wl(f0 f1 f2:Nat):AC:=(.seq (.ops false [.u 1 (.box 27 (.t 0)),.m 2 (.c (.one .emp)),.m 3 (.c (.one (.lit .nilIface)))])
 (.fg [1] (.seq (.ops false [.u 8 (.ld none 27 true (.t 1)),.u 9 (.call f0 [(.t 8)]),.m 7 (.t 9),.u 10 (.ext 0 (.t 7)),.u 11 (.ext 1 (.t 7)),.u 4 (.alloc [(.lit (.bool false)),.emp,.emp,(.lit (.bool false)),.emp,.emp,(.lit (.bool false)),.emp,.emp,(.lit (.bool false)),.emp,.emp,(.lit (.bool false)),.emp,.emp,(.lit (.bool false)),.emp,.emp,(.lit (.bool false)),.emp,.emp,(.lit (.bool false)),.emp,.emp,(.lit (.bool false)),.emp,.emp]),.n (.st none 27 (.t 4) (.t 10)),.m 5 (.t 11)])
 (.fg [1,4,5] (.seq (.seq (.ops false [.m 12 (.t 5),.u 13 (.binn .neq (.t 12) (.c (.one (.lit .nilIface))))])
 (.fg [1,4,5,13] (.cond (.t 13) (.seq (.ops false [.m 14 (.t 5),.m 2 (.c (.one .emp)),.m 3 (.t 14)])
 .ret) .skip)))
 (.fg [1,4] (.seq (.ops false [.u 16 (.ld none 27 true (.t 1)),.u 17 (.call f1 [(.t 16)]),.m 15 (.t 17),.u 18 (.ext 0 (.t 15)),.u 19 (.ext 1 (.t 15)),.u 6 (.alloc [(.lit (.bool false)),.emp,.emp,(.lit (.bool false)),.emp,.emp,(.lit (.bool false)),.emp,.emp,(.lit (.bool false)),.emp,.emp,(.lit (.bool false)),.emp,.emp,(.lit (.bool false)),.emp,.emp,(.lit (.bool false)),.emp,.emp,(.lit (.bool false)),.emp,.emp,(.lit (.bool false)),.emp,.emp]),.n (.st none 27 (.t 6) (.t 18)),.m 5 (.t 19)])
 (.fg [1,4,5,6] (.seq (.seq (.ops false [.m 20 (.t 5),.u 21 (.binn .neq (.t 20) (.c (.one (.lit .nilIface))))])
 (.fg [1,4,5,6,21] (.cond (.t 21) (.seq (.ops false [.m 22 (.t 5),.m 2 (.c (.one .emp)),.m 3 (.t 22)])
 .ret) .skip)))
 (.fg [1,4,6] (.seq (.ops true [.u 23 (.ld none 27 true (.t 1)),.u 24 (.call f2 [(.t 23)]),.u 25 (.ld none 27 true (.t 4)),.u 26 (.ld none 27 true (.t 6)),.u 27 (.row 27 [[.x 27 (.t 24)],[.x 27 (.t 25)],[.x 27 (.t 26)]]),.m 2 (.t 27),.m 3 (.c (.one (.lit .nilIface)))])
 .ret)))))))))))
theorem UaF(hΓ:Holds P Γ){f fi fq fc ff fm tE:Nat}(hi:Γ fi=.dat false (QG tE))(hq:Γ fq=.dat false zD)(hcl' : Γ fc=.dat false zC)(hf:Γ ff=.dat false Qw)(hm:Γ fm=.dat false Ul)(hc:check P f=some (46,(Xi fi fq fc ff fm).strip,[.cell 12 27 true,.tmp 13])):Sound P f (.dat false (kD tE)):=by
 refine Va hc (UaW tE) hΓ (λargs K hcl hfi hG=>?_);match args,hG with
 | [a,b,d,e,g,h],hG=>
  obtain⟨c,rfl,hw,o,rfl,wo,k,rfl,wk,x,rfl,wx,y,rfl,wy,z,rfl,wz,hl,lo,lk,lx,ly,lz,hK⟩:=hG;refine⟨by simp,?_⟩
  have lo2:al o<=100000000:=Nat.le_trans lo (by decide)
  have lk2:al k<=100000000:=Nat.le_trans lk (by decide)
  have s:=uI (av k);have zk:=Ju wk;by_cases h0:sqQ (av k)=0
  .have ew:wC (av k)=8:=if_pos h0;have e8:=Wc tE (by decide:(8:Nat)≠0)
   rw [ew,if_neg (by decide),e8]at hK
   unfold cqR z27 at hK;simp only [xc]at hK;have ip:∀{α:Type} (x y:α),(if sqQ (av k)=0 then x else y)=x:=λx y=>if_pos h0
   simp only [go_sem,Xi,hi,cpA,cpC,ud,rA,Jb,ip,e8];repeat first|refine Ja (by with_reducible assumption) ?_|refine Ja (Nat.le_trans (by with_reducible assumption) (by decide)) ?_|refine Ja (by decide) ?_
   exact hK
  .have ew:wC (av k)=0:=if_neg h0;have e0:=jc tE;rw [ew,if_pos rfl,e0]at hK;obtain⟨n,hn⟩:∃n,sqQ (av k)=n:=⟨_,rfl⟩;rw [hn]at s h0;have ip:∀{α:Type} (x y:α),(if n=0 then x else y)=y:=λx y=>if_neg h0
   have zn:=Nat.le_trans s (by omega:_<=10000000)
   have es:simQ (cpv c) (av o) (av k) (rv x) (rv y) (rv z)=(av o,foQ (cpv c),n*rv x,n*rv y,n*rv z,(ovQ (av k)).1,(ovQ (av k)).2):=by unfold simQ;rw [hn]
   rw [es]at hK;simp only [go_sem,Xi,hi,hq,hcl',hf,hm,cpA,cpC,ud,rA,Jb,ip,e0,hn,Yb];repeat first|refine Ja (by with_reducible assumption) ?_|refine Ja (Nat.le_trans (by with_reducible assumption) (by decide)) ?_|refine Ja (by decide) ?_
   exact hK
theorem Za6(hΓ:Holds P Γ){f fk fr fs tE:Nat}(hk:Γ fk=.dat false (Xx tE))(hr:Γ fr=.dat false UC)(hs:Γ fs=.dat false (kD tE))(hc:check P f=some (25,(Xm fk fr fs).strip,[.cell 2 27 true,.tmp 3])):Sound P f (.dat false (YO tE)):=by
 refine Va hc (kba tE) hΓ (λargs K hcl hfi hG=>?_);match args,hG with
 | [a],hG=>
  obtain⟨c,rfl,hw,hl,hK⟩:=hG;refine⟨by simp,?_⟩
  have hl2:cl c<=100000000:=Nat.le_trans hl (by decide)
  have hl3:cl c<=1000000:=Nat.le_trans hl (by decide)
  by_cases h0:cchk c=0
  .have e0:=jc tE;obtain⟨wo,wQ,w1,w2,w3,w4,w5⟩:=id hw;have hl0:=hl3;unfold cl at hl0;simp only [Nat.max_le]at hl0;obtain⟨l1,l2,l3,l4,l5,l6,l7⟩:=hl0;have wW:WLA c.2.2.2.2.2:=⟨w4,w5⟩;have lW:al c.2.2.2.2.2<=1000000:=cl_w hl3;have aW:av c.2.2.2.2.2=cW (cpv c):=rfl;have ef:simQ (cpv c) (av c.1) (cW (cpv c)) (rv c.2.2.2.1) (rv c.2.2.1) (rv c.2.2.2.2.1)=fiQ (cpv c):=rfl;obtain⟨X,hX⟩:∃X,(if wC (cW (cpv c))=0 then fiQ (cpv c) else z27)=X:=⟨_,rfl⟩
   rw [Zbq h0,hX]at hK;simp only [go_sem,Xm,hk,hr,hs,cpA,cpC,aA,ud,rA,Jb,h0,e0,aW,ef,hX,cqR];repeat first|refine Ja (by with_reducible assumption) ?_|refine Ja (Nat.le_trans (by with_reducible assumption) (by decide)) ?_|refine Ja (by decide) ?_
   exact hK
  .have e1:=Wc tE h0;rw [QbU h0,if_neg h0,e1]at hK;unfold cqR z27 at hK;simp only [xc]at hK;simp only [go_sem,Xm,hk,cpA,cpC,Jb,e1];repeat first|refine Ja (by with_reducible assumption) ?_|refine Ja (Nat.le_trans (by with_reducible assumption) (by decide)) ?_|refine Ja (by decide) ?_
   exact hK
theorem Za1(hΓ:Holds P Γ){f fk fr fs tE:Nat}(hk:Γ fk=.dat false (Xx tE))(hr:Γ fr=.dat false Zw)(hs:Γ fs=.dat false (kD tE))(hc:check P f=some (25,(Jk fk fr fs).strip,[.cell 2 27 true,.tmp 3])):Sound P f (.dat false (WZ tE)):=by
 refine Va hc (Zba tE) hΓ (λargs K hcl hfi hG=>?_);match args,hG with
 | [a],hG=>
  obtain⟨c,rfl,hw,hl,hK⟩:=hG;refine⟨by simp,?_⟩
  have hl2:cl c<=100000000:=Nat.le_trans hl (by decide)
  have hl3:cl c<=1000000:=Nat.le_trans hl (by decide)
  by_cases h0:cchk c=0
  .have e0:=jc tE;obtain⟨wo,wQ,w1,w2,w3,w4,w5⟩:=id hw;have hl0:=hl3;unfold cl at hl0;simp only [Nat.max_le]at hl0;obtain⟨l1,l2,l3,l4,l5,l6,l7⟩:=hl0;obtain⟨R,hR⟩:∃R,reQ (cpv c)=R:=⟨_,rfl⟩;have zr:=kaF (Yai hw hl);have hR' : rsQ (cpv c)=R:=hR;rw [hR']at zr;have wW:WLA (rcan R.1,rcan R.2):=Wp R;have lW:al (rcan R.1,rcan R.2)<=1000000:=Nat.le_trans zr (by decide)
   have ef:simQ (cpv c) (av c.2.1) R (rv c.2.2.2.1) (rv c.2.2.2.2.1) (rv c.2.2.1)=seQ (cpv c):=by rw [<-hR];rfl
   obtain⟨X,hX⟩:∃X,(if wC R=0 then seQ (cpv c) else z27)=X:=⟨_,rfl⟩
   rw [xbw h0,hR',hX]at hK;simp only [go_sem,Jk,hk,hr,hs,cpA,cpC,aA,ud,rA,Jb,h0,e0,hR,qI,ef,hX,cqR];repeat first|refine Ja (by with_reducible assumption) ?_|refine Ja (Nat.le_trans (by with_reducible assumption) (by decide)) ?_|refine Ja (by decide) ?_
   exact hK
  .have e1:=Wc tE h0;rw [VbU h0,if_neg h0,e1]at hK;unfold cqR z27 at hK;simp only [xc]at hK;simp only [go_sem,Jk,hk,cpA,cpC,Jb,e1];repeat first|refine Ja (by with_reducible assumption) ?_|refine Ja (Nat.le_trans (by with_reducible assumption) (by decide)) ?_|refine Ja (by decide) ?_
   exact hK
theorem YaV(hΓ:Holds P Γ){f fk ff tE:Nat}(hk:Γ fk=.dat false (Xx tE))(hf:Γ ff=.dat false Qw)(hc:check P f=some (13,(Ym fk ff).strip,[.cell 2 6 true,.tmp 3])):Sound P f (.dat false (JV tE)):=by
 refine Va hc (za9 tE) hΓ (λargs K hcl hfi hG=>?_);match args,hG with
 | [a],hG=>
  obtain⟨c,rfl,hw,hl,hK⟩:=hG;refine⟨by simp,?_⟩
  have hl2:cl c<=100000000:=Nat.le_trans hl (by decide)
  have hl3:cl c<=1000000:=Nat.le_trans hl (by decide)
  by_cases h0:cchk c=0
  .have e0:=jc tE;rw [h0,if_pos rfl,e0]at hK;simp only [go_sem,Ym,hk,hf,cpA,cpC,Jb,h0,e0];repeat first|refine Ja (by with_reducible assumption) ?_|refine Ja (Nat.le_trans (by with_reducible assumption) (by decide)) ?_|refine Ja (by decide) ?_
   exact hK
  .have e1:=Wc tE h0;rw [if_neg h0,e1,vaM,xc]at hK;simp only [go_sem,Ym,hk,cpA,cpC,Jb,e1];repeat first|refine Ja (by with_reducible assumption) ?_|refine Ja (Nat.le_trans (by with_reducible assumption) (by decide)) ?_|refine Ja (by decide) ?_
   exact hK
theorem uaF(hΓ:Holds P Γ){f fi fs fc tE:Nat}(hi:Γ fi=.dat false (YO tE))(hs:Γ fs=.dat false (WZ tE))(hcp:Γ fc=.dat false YA)(hc:check P f=some (28,(Wl fi fs fc).strip,[.tmp 2,.tmp 3])):Sound P f (.dat false (qD tE)):=by
 refine Va hc (UaK tE) hΓ (λargs K hcl hfi hG=>?_);match args,hG with
 | [a],hG=>
  obtain⟨c,rfl,hw,hl,hK⟩:=hG;refine⟨by simp,?_⟩
  have hl1:cl c<=100000:=Nat.le_trans hl (by decide)
  have hl2:cl c<=100000000:=Nat.le_trans hl (by decide)
  by_cases h0:fiC c=0
  .have e0:=jc tE;have ea:alC c=seC c:=by unfold alC;rw [if_neg (by omega)]
   by_cases h1:seC c=0
   .rw [ea,h1,e0]at hK;unfold alL at hK;rw [ea,if_pos h1]at hK;simp only [go_sem,Wl,hi,hs,hcp,cpA,cpC,Jb,h0,h1,e0,cqR];repeat first|refine Ja (by with_reducible assumption) ?_|refine Ja (Nat.le_trans (by with_reducible assumption) (by decide)) ?_|refine Ja (by decide) ?_
    exact hK
   .have e1:=Wc tE h1;unfold alL at hK;rw [ea,if_neg h1,e1]at hK;simp only [go_sem,Wl,hi,hs,cpA,cpC,Jb,h0,h1,e0,e1,cqR];repeat first|refine Ja (by with_reducible assumption) ?_|refine Ja (Nat.le_trans (by with_reducible assumption) (by decide)) ?_|refine Ja (by decide) ?_
    exact hK
  .have e1:=Wc tE h0;have ea:alC c=fiC c:=if_pos h0;unfold alL at hK;rw [ea,if_neg h0,e1]at hK;simp only [go_sem,Wl,hi,cpA,cpC,Jb,h0,e1,cqR];repeat first|refine Ja (by with_reducible assumption) ?_|refine Ja (Nat.le_trans (by with_reducible assumption) (by decide)) ?_|refine Ja (by decide) ?_
   exact hK
end Go.Abs
end
section
namespace Go.Num
theorem v2e{a b:V2}(h1:a.1=b.1)(h2:a.2=b.2):a=b:=Prod.ext h1 h2
def en1(c:CpR)(a b:V2):V2:=addQ c.1 (timesQ (cW c) (subQ b a))
def en2(c:CpR)(a b:V2):V2:=subQ c.2.1 (timesQ (rsQ c) (subQ b a))
def en3(c:CpR)(a b:V2):V2:=addQ (en1 c a b) (timesQ (cW c) (subQ a c.1))
def en4(c:CpR)(a b:V2):V2:=addQ (en2 c a b) (timesQ (rsQ c) (subQ b c.2.1))
end Go.Num
end
section
namespace Go.Num
open Go.Abs
def enC(c:Cp)(a b:Arc):Nat:=if cchk2 c [a,b]≠0 then cchk2 c [a,b] else if hldQ (cpv c) (av a) (av b) then alC c else 21
def enL(c:CpR)(a b:V2):List V2:=[a,b,en1 c a b,en3 c a b,en2 c a b,en4 c a b]
def enR(c:Cp)(a b:Arc):List V2:=if enC c a b=0 then enL (cpv c) (av a) (av b) else []
def smC(c d:Cp):Nat:=if cchk c≠0 then cchk c else cchk d
theorem ybl{α:Type}{l m:List α}{k:Nat}{x y:α}(hx:l[k]?=some x)(hy:m[k]?=some y):(l.take (k+1)=m.take (k+1))↔(l.take k=m.take k/\x=y):=by
 rw [List.take_add_one,List.take_add_one,hx,hy];simp only [Option.toList_some];constructor
 .intro h;have h1:=List.append_inj' h rfl;exact⟨h1.1,by simpa using h1.2⟩
 .rintro⟨h1,h2⟩;rw [h1,h2]
theorem getM{p:BQ}{k:Nat}(h:k<p.length):∃u,p[k]?=some u/\(mcs p).getD k mo0=mcan u/\u∈p:=by
 refine⟨p[k],List.getElem?_eq_getElem h,?_,List.getElem_mem h⟩;unfold mcs;rw [List.getD_eq_getElem?_getD,List.getElem?_map,List.getElem?_eq_getElem h];rfl
theorem vaO(p:BQ):(mcs p).length=p.length:=by unfold mcs;rw [List.length_map]
theorem UbF{p:BQ}{u:MQ}(h:u∈p){b:Nat}(hb:sz p<=b):rz u.2.2<=b:=Nat.le_trans (kaM h) hb
end Go.Num
namespace Go.Abs
open Go.Num
variable {P:Program} {Γ:Nat->Spec}
def jF(tE:Nat)(l:List AV)(K:AV->Prop):Prop:=
 match l with
 | [c,a,b]=>onCp (λc=>onA (λa=>onA (λb=>cl c<=1000/\al a<=1000/\al b<=1000/\K (.tup [.one (.slice ((enR c a b).map λp=>aC (rcan p.1,rcan p.2))),errV tE (enC c a b)])) b) a) c
 | _=>False
theorem XaN(tE:Nat)(c a b:AV)(K:AV->Prop):jF tE [c,a,b] K=(onCp (λc=>onA (λa=>onA (λb=>cl c<=1000/\al a<=1000/\al b<=1000/\K (.tup [.one (.slice ((enR c a b).map λp=>aC (rcan p.1,rcan p.2))),errV tE (enC c a b)])) b) a) c):=propext Iff.rfl
@[congr] theorem qbP (tE:Nat) {K:AV->Prop} {l l' : List AV} (h:l=l'):jF tE l K=jF tE l' K:=by subst h;rfl
attribute [go_sem,go_sem ↓] XaN
theorem qaS(tE:Nat):Good (jF tE):=Xa λas=>by
 unfold jF;split
 .exact(Vf λ_=>(jk λ_=>(jk λ_=>(.and λ_=>(.and λ_=>(.and λ_=>(.ret _)))))))
 .exact .of λK hk=>hk.elim
def UG(tE:Nat)(l:List AV)(K:AV->Prop):Prop:=
 match l with
 | [c,d]=>onCp (λc=>onCp (λd=>cl c<=1000/\cl d<=1000/\K (.tup [.one (.lit (.bool (decide (smC c d=0) && decide (cCur (cpv c)=cCur (cpv d))))),errV tE (smC c d)])) d) c
 | _=>False
theorem uaP(tE:Nat)(c d:AV)(K:AV->Prop):UG tE [c,d] K=(onCp (λc=>onCp (λd=>cl c<=1000/\cl d<=1000/\K (.tup [.one (.lit (.bool (decide (smC c d=0) && decide (cCur (cpv c)=cCur (cpv d))))),errV tE (smC c d)])) d) c):=propext Iff.rfl
@[congr] theorem ZbN (tE:Nat) {K:AV->Prop} {l l' : List AV} (h:l=l'):UG tE l K=UG tE l' K:=by subst h;rfl
attribute [go_sem,go_sem ↓] uaP
theorem Za7(tE:Nat):Good (UG tE):=Xa λas=>by
 unfold UG;split
 .exact(Vf λ_=>(Vf λ_=>(.and λ_=>(.and λ_=>(.ret _)))))
 .exact .of λK hk=>hk.elim
def uf(f0 f1 f2 f3 f4 f5 f6 f7 tE:Nat):AC:=(.seq (.ops false [.u 3 (.box 27 (.t 0)),.u 4 (.box 6 (.t 1)),.u 5 (.box 6 (.t 2)),.m 6 (.c (.one .emp)),.m 7 (.c (.one (.lit .nilIface)))])
 (.fg [3,4,5] (.seq (.ops false [.u 18 (.ld none 27 true (.t 3)),.u 19 (.ld none 6 true (.t 4)),.u 20 (.ld none 6 true (.t 5)),.u 21 (.call f0 [(.t 18),(.t 19),(.t 20)]),.m 17 (.t 21),.u 22 (.ext 0 (.t 17)),.u 23 (.ext 1 (.t 17)),.m 8 (.t 22),.m 9 (.t 23)])
 (.fg [3,4,5,8,9] (.seq (.seq (.ops false [.m 24 (.t 9),.u 25 (.binn .neq (.t 24) (.c (.one (.lit .nilIface))))])
 (.fg [3,4,5,8,9,25] (.cond (.t 25) (.seq (.ops false [.m 26 (.t 9),.m 6 (.c (.one .emp)),.m 7 (.t 26)])
 .ret) .skip)))
 (.fg [3,4,5,8] (.seq (.seq (.ops false [.m 27 (.t 8),.u 28 (.un .not (.t 27))])
 (.fg [3,4,5,28] (.cond (.t 28) (.seq (.ops false [.u 29 (.iface tE (.i 21)),.m 6 (.c (.one .emp)),.m 7 (.t 29)])
 .ret) .skip)))
 (.fg [3,4,5] (.seq (.seq (.ops false [.u 31 (.ld none 27 true (.t 3)),.u 32 (.call f1 [(.t 31)]),.m 30 (.t 32),.u 33 (.ext 0 (.t 30)),.u 34 (.ext 1 (.t 30)),.m 10 (.t 33),.m 11 (.t 34)])
 (.fg [3,4,5,11] (.seq (.ops false [.m 35 (.t 11),.u 36 (.binn .neq (.t 35) (.c (.one (.lit .nilIface))))])
 (.fg [3,4,5,11,36] (.cond (.t 36) (.seq (.ops false [.m 37 (.t 11),.m 6 (.c (.one .emp)),.m 7 (.t 37)])
 .ret) .skip)))))
 (.fg [3,4,5] (.seq (.ops true [.u 38 (.ld none 6 true (.t 5)),.u 39 (.ld none 6 true (.t 4)),.u 40 (.call f2 [(.t 38),(.t 39)]),.u 41 (.ld none 27 true (.t 3)),.u 42 (.call f3 [(.t 41)]),.u 43 (.ld none 27 true (.t 3)),.u 44 (.call f4 [(.t 43)]),.u 12 (.alloc [(.lit (.bool false)),.emp,.emp,(.lit (.bool false)),.emp,.emp]),.u 13 (.alloc [(.lit (.bool false)),.emp,.emp,(.lit (.bool false)),.emp,.emp]),.u 14 (.alloc [(.lit (.bool false)),.emp,.emp,(.lit (.bool false)),.emp,.emp]),.n (.st none 6 (.t 12) (.t 40)),.n (.st none 6 (.t 13) (.t 42)),.n (.st none 6 (.t 14) (.t 44))])
 (.fg [3,4,5,12,13,14] (.seq (.ops true [.u 45 (.fa 0 (.t 3)),.u 46 (.ld none 6 true (.t 45)),.u 47 (.ld none 6 true (.t 13)),.u 48 (.ld none 6 true (.t 12)),.u 49 (.call f5 [(.t 47),(.t 48)]),.u 50 (.call f6 [(.t 46),(.t 49)]),.u 15 (.alloc [(.lit (.bool false)),.emp,.emp,(.lit (.bool false)),.emp,.emp]),.n (.st none 6 (.t 15) (.t 50))])
 (.fg [3,4,5,12,13,14,15] (.seq (.ops true [.u 51 (.fa 6 (.t 3)),.u 52 (.ld none 6 true (.t 51)),.u 53 (.ld none 6 true (.t 14)),.u 54 (.ld none 6 true (.t 12)),.u 55 (.call f5 [(.t 53),(.t 54)]),.u 56 (.call f2 [(.t 52),(.t 55)]),.u 16 (.alloc [(.lit (.bool false)),.emp,.emp,(.lit (.bool false)),.emp,.emp]),.n (.st none 6 (.t 16) (.t 56))])
 (.fg [3,4,5,13,14,15,16] (.seq (.ops true [.u 57 (.ld none 6 true (.t 4)),.u 58 (.call f7 [(.t 57)]),.u 59 (.ld none 6 true (.t 5)),.u 60 (.call f7 [(.t 59)]),.u 61 (.ld none 6 true (.t 15)),.u 62 (.ld none 6 true (.t 15)),.u 63 (.ld none 6 true (.t 13)),.u 64 (.ld none 6 true (.t 4)),.u 65 (.fa 0 (.t 3)),.u 66 (.ld none 6 true (.t 65)),.u 67 (.call f2 [(.t 64),(.t 66)]),.u 68 (.call f5 [(.t 63),(.t 67)]),.u 69 (.call f6 [(.t 62),(.t 68)]),.u 70 (.ld none 6 true (.t 16)),.u 71 (.ld none 6 true (.t 16)),.u 72 (.ld none 6 true (.t 14)),.u 73 (.ld none 6 true (.t 5)),.u 74 (.fa 6 (.t 3)),.u 75 (.ld none 6 true (.t 74)),.u 76 (.call f2 [(.t 73),(.t 75)]),.u 77 (.call f5 [(.t 72),(.t 76)]),.u 78 (.call f6 [(.t 71),(.t 77)]),.u 79 (.row 6 [[.x 6 (.t 58)],[.x 6 (.t 60)],[.x 6 (.t 61)],[.x 6 (.t 69)],[.x 6 (.t 70)],[.x 6 (.t 78)]]),.m 6 (.t 79),.m 7 (.c (.one (.lit .nilIface)))])
 .ret)))))))))))))))))
def Uj(f0 f1:Nat):AC:=(.seq (.ops false [.u 2 (.box 27 (.t 0)),.u 3 (.box 27 (.t 1)),.m 4 .fa,.m 5 (.c (.one (.lit .nilIface)))])
 (.fg [2,3] (.seq (.ops false [.u 11 (.ld none 27 true (.t 2)),.u 12 (.call f0 [(.t 11)]),.m 10 (.t 12),.u 13 (.ext 0 (.t 10)),.u 14 (.ext 1 (.t 10)),.m 6 (.t 13),.m 7 (.t 14)])
 (.fg [3,6,7] (.seq (.seq (.ops false [.m 15 (.t 7),.u 16 (.binn .neq (.t 15) (.c (.one (.lit .nilIface))))])
 (.fg [3,6,7,16] (.cond (.t 16) (.seq (.ops false [.m 17 (.t 7),.m 4 .fa,.m 5 (.t 17)])
 .ret) .skip)))
 (.fg [3,6] (.seq (.ops false [.u 19 (.ld none 27 true (.t 3)),.u 20 (.call f0 [(.t 19)]),.m 18 (.t 20),.u 21 (.ext 0 (.t 18)),.u 22 (.ext 1 (.t 18)),.m 8 (.t 21),.m 7 (.t 22)])
 (.fg [6,7,8] (.seq (.seq (.ops false [.m 23 (.t 7),.u 24 (.binn .neq (.t 23) (.c (.one (.lit .nilIface))))])
 (.fg [6,7,8,24] (.cond (.t 24) (.seq (.ops false [.m 25 (.t 7),.m 4 .fa,.m 5 (.t 25)])
 .ret) .skip)))
 (.fg [6,8] (.seq (.seq (.ops false [.m 26 (.t 6),.u 27 (.len (.t 26)),.m 28 (.t 8),.u 29 (.len (.t 28)),.u 30 (.bin .neq (.t 27) (.t 29))])
 (.fg [6,8,30] (.cond (.t 30) (.seq (.ops false [.m 4 .fa,.m 5 (.c (.one (.lit .nilIface)))])
 .ret) .skip)))
 (.fg [6,8] (.seq (.seq (.ops false [.m 31 (.t 6),.u 32 (.len (.t 31)),.m 33 (.i 0)])
 (.fg [6,8,32,33] (.block 0 (.loop (.seq (.ops false [.u 34 (.bin .lss (.t 33) (.t 32))])
 (.fg [6,8,32,33,34] (.seq (.cond (.t 34) .skip (.exit 0))
 (.fg [6,8,32,33] (.seq (.block 1 (.seq (.ops false [.m 35 (.t 33),.m 9 (.t 35)])
 (.fg [6,8,9,32,33] (.seq (.ops true [.m 36 (.t 6),.m 37 (.t 9),.u 38 (.idx 5 (.t 36) (.t 37)),.u 39 (.fa 0 (.t 38)),.u 40 (.ld none 1 false (.t 39)),.m 41 (.t 8),.m 42 (.t 9),.u 43 (.idx 5 (.t 41) (.t 42)),.u 44 (.fa 0 (.t 43)),.u 45 (.ld none 1 false (.t 44)),.u 46 (.bin .neq (.t 40) (.t 45)),.m 47 (.t 46),.w 48 47 false (.mv (.t 6)),.w 49 47 false (.mv (.t 9)),.w 50 47 false (.idx 5 (.t 48) (.t 49)),.w 51 47 false (.fa 1 (.t 50)),.w 52 47 false (.ld none 1 false (.t 51)),.w 53 47 false (.mv (.t 8)),.w 54 47 false (.mv (.t 9)),.w 55 47 false (.idx 5 (.t 53) (.t 54)),.w 56 47 false (.fa 1 (.t 55)),.w 57 47 false (.ld none 1 false (.t 56)),.w 58 47 false (.bin .neq (.t 52) (.t 57)),.u 59 (.pick (.t 47) .tr (.t 58)),.m 60 (.t 59),.w 61 60 false (.mv (.t 6)),.w 62 60 false (.mv (.t 9)),.w 63 60 false (.idx 5 (.t 61) (.t 62)),.w 64 60 false (.fa 2 (.t 63)),.w 65 60 false (.ld none 3 true (.t 64)),.w 66 60 false (.mv (.t 8)),.w 67 60 false (.mv (.t 9)),.w 68 60 false (.idx 5 (.t 66) (.t 67)),.w 69 60 false (.fa 2 (.t 68)),.w 70 60 false (.ld none 3 true (.t 69)),.w 71 60 false (.call f1 [(.t 65),(.t 70)]),.w 72 60 false (.bin .neq (.t 71) (.i 0)),.u 73 (.pick (.t 60) .tr (.t 72))])
 (.fg [6,8,32,33,73] (.cond (.t 73) (.seq (.ops false [.m 4 .fa,.m 5 (.c (.one (.lit .nilIface)))])
 .ret) .skip))))))
 (.fg [6,8,32,33] (.ops false [.u 74 (.bin .add (.t 33) (.i 1)),.m 33 (.t 74)])))))))))))
 (.fg [] (.seq (.ops false [.m 4 .tr,.m 5 (.c (.one (.lit .nilIface)))])
 .ret)))))))))))))))
theorem WaD(hΓ:Holds P Γ){f fh fl fs fr fe ft fa fc tE:Nat}(hh:Γ fh=.dat false (vG tE))(hl' : Γ fl=.dat false (qD tE))(hs:Γ fs=.dat false Ji)(hr:Γ fr=.dat false UC)(he:Γ fe=.dat false Zw)(ht:Γ ft=.dat false Wi)(ha:Γ fa=.dat false Qo)(hcl' : Γ fc=.dat false zC)(hc:check P f=some (80,(uf fh fl fs fr fe ft fa fc tE).strip,[.tmp 6,.tmp 7])):Sound P f (.dat false (jF tE)):=by
 refine Va hc (qaS tE) hΓ (λargs K hcl hfi hG=>?_);match args,hG with
 | [x,y,z],hG=>
  obtain⟨c,rfl,hw,a,rfl,wa,b,rfl,wb,hl,la,lb,hK⟩:=hG;refine⟨by simp,?_⟩
  have hl1:cl c<=10000:=Nat.le_trans hl (by decide)
  have hl2:cl c<=100000000:=Nat.le_trans hl (by decide)
  have la1:al a<=10000:=Nat.le_trans la (by decide)
  have lb1:al b<=10000:=Nat.le_trans lb (by decide)
  have la2:al a<=100000000:=Nat.le_trans la (by decide)
  have lb2:al b<=100000000:=Nat.le_trans lb (by decide)
  by_cases h0:cchk2 c [a,b]=0
  .have e0:=jc tE;have g0:decide (0=0)=true:=rfl;by_cases hd:hldQ (cpv c) (av a) (av b)
   .have ee:enC c a b=alC c:=by unfold enC;rw [if_neg (by omega),if_pos hd]
    by_cases h1:alC c=0
    .unfold enR at hK;rw [ee,h1,if_pos rfl,e0]at hK;have wW:WLA c.2.2.2.2.2:=⟨hw.2.2.2.2.2.1,hw.2.2.2.2.2.2⟩;have l6:al c.2.2.2.2.2<=100000000:=Nat.le_trans (cl_w hl) (by decide)
     have wo:=hw.1;have wQ:=hw.2.1;have hB:=Yai hw hl;have zo:zq (av c.1)<=1000:=hB.1;have zQ:zq (av c.2.1)<=1000:=hB.2.1;have za:=Nat.le_trans (Ju wa) la;have zb:=Nat.le_trans (Ju wb) lb;have lo:al c.1<=100000000:=Nat.le_trans (Nat.le_max_left _ _) hl2;have lq:al c.2.1<=100000000:=Nat.le_trans (Nat.le_max_left _ _) (Nat.le_trans (Nat.le_max_right _ _) hl2);have zw:zq (av c.2.2.2.2.2)<=1000:=Nat.max_le.2 ⟨hB.2.2.2.2.2.1,hB.2.2.2.2.2.2⟩;obtain⟨R,hR⟩:∃R,reQ (cpv c)=R:=⟨_,rfl⟩;have zR:=kaF hB;have eR:rsQ (cpv c)=R:=hR;rw [eR]at zR;obtain⟨W,hW⟩:∃W,av c.2.2.2.2.2=W:=⟨_,rfl⟩;have eW:cW (cpv c)=W:=hW;rw [hW]at zw;obtain⟨Z,hZ⟩:∃Z,subQ (av b) (av a)=Z:=⟨_,rfl⟩;have zZ:zq Z<=3000:=by rw [<-hZ];exact Nat.le_trans (Xl _ _) (by omega)
     obtain⟨T,hT⟩:∃T,timesQ W Z=T:=⟨_,rfl⟩;have zT:zq T<=10000:=by rw [<-hT];exact Nat.le_trans (Vw _ _) (by omega)
     obtain⟨T2,hT2⟩:∃T,timesQ R Z=T:=⟨_,rfl⟩;have zT2:zq T2<=10000:=by rw [<-hT2];exact Nat.le_trans (Vw _ _) (by omega)
     obtain⟨F,hF⟩:∃F,addQ (av c.1) T=F:=⟨_,rfl⟩;have zF:zq F<=20000:=by rw [<-hF];exact Nat.le_trans (YR _ _) (by omega)
     obtain⟨G,hG⟩:∃G,subQ (av c.2.1) T2=G:=⟨_,rfl⟩;have zG:zq G<=20000:=by rw [<-hG];exact Nat.le_trans (Xl _ _) (by omega)
     obtain⟨A,hA⟩:∃A,subQ (av a) (av c.1)=A:=⟨_,rfl⟩;have zA:zq A<=3000:=by rw [<-hA];exact Nat.le_trans (Xl _ _) (by omega)
     obtain⟨B,hB0⟩:∃B,subQ (av b) (av c.2.1)=B:=⟨_,rfl⟩;have zB:zq B<=3000:=by rw [<-hB0];exact Nat.le_trans (Xl _ _) (by omega)
     obtain⟨TA,hTA⟩:∃T,timesQ W A=T:=⟨_,rfl⟩;have zTA:zq TA<=10000:=by rw [<-hTA];exact Nat.le_trans (Vw _ _) (by omega)
     obtain⟨TB,hTB⟩:∃T,timesQ R B=T:=⟨_,rfl⟩;have zTB:zq TB<=10000:=by rw [<-hTB];exact Nat.le_trans (Vw _ _) (by omega)
     have eL:enL (cpv c) (av a) (av b)=[av a,av b,F,addQ F TA,G,addQ G TB]:=by
      rw [<-hTA,<-hTB,<-hA,<-hB0,<-hF,<-hG,<-hT,<-hT2,<-hZ,<-hW,<-hR];rfl
     rw [eL]at hK;simp only [List.map_cons,List.map_nil]at hK;have cw:∀X:V2,WLA (rcan X.1,rcan X.2):=λX=>Wp X;have w1:=cw R;have w3:=cw Z;have w4:=cw T;have w5:=cw T2;have w6:=cw F;have w7:=cw G;have w8:=cw A;have w9:=cw B;have w10:=cw TA;have w11:=cw TB;have k1:al (rcan R.1,rcan R.2)<=100000000:=Nat.le_trans zR (by decide)
     have k3:al (rcan Z.1,rcan Z.2)<=100000000:=Nat.le_trans zZ (by decide)
     have k4:al (rcan T.1,rcan T.2)<=100000000:=Nat.le_trans zT (by decide)
     have k5:al (rcan T2.1,rcan T2.2)<=100000000:=Nat.le_trans zT2 (by decide)
     have k6:al (rcan F.1,rcan F.2)<=100000000:=Nat.le_trans zF (by decide)
     have k7:al (rcan G.1,rcan G.2)<=100000000:=Nat.le_trans zG (by decide)
     have k8:al (rcan A.1,rcan A.2)<=100000000:=Nat.le_trans zA (by decide)
     have k9:al (rcan B.1,rcan B.2)<=100000000:=Nat.le_trans zB (by decide)
     have k10:al (rcan TA.1,rcan TA.2)<=100000000:=Nat.le_trans zTA (by decide)
     have k11:al (rcan TB.1,rcan TB.2)<=100000000:=Nat.le_trans zTB (by decide)
     have gd:=decide_eq_true hd;simp only [go_sem,uf,hh,hl',hs,hr,he,ht,ha,hcl',cpA,cpC,aA,ud,Jb,h0,gd,g0,Bool.true_and,e0,h1,hR,hW,hZ,qI,hT,hT2,hF,hG,hA,hB0,hTA,hTB];repeat first|refine Ja (by with_reducible assumption) ?_|refine Ja (Nat.le_trans (by with_reducible assumption) (by decide)) ?_|refine Ja (by decide) ?_
     exact hK
    .have e1:=Wc tE h1;unfold enR at hK;rw [ee,if_neg h1,e1]at hK;have gd:=decide_eq_true hd;simp only [go_sem,uf,hh,hl',cpA,cpC,aA,ud,Jb,h0,gd,g0,Bool.true_and,e0,e1];repeat first|refine Ja (by with_reducible assumption) ?_|refine Ja (Nat.le_trans (by with_reducible assumption) (by decide)) ?_|refine Ja (by decide) ?_
     exact hK
   .have ee:enC c a b=21:=by unfold enC;rw [if_neg (by omega),if_neg hd]
    have e1:=Wc tE (by decide:(21:Nat)≠0)
    unfold enR at hK;rw [ee,if_neg (by decide),e1]at hK
    have gd:=decide_eq_false hd;simp only [go_sem,uf,hh,cpA,cpC,aA,ud,Jb,h0,gd,g0,Bool.true_and,e0];repeat first|refine Ja (by with_reducible assumption) ?_|refine Ja (Nat.le_trans (by with_reducible assumption) (by decide)) ?_|refine Ja (by decide) ?_
    exact hK
  .have e1:=Wc tE h0;have ee:enC c a b=cchk2 c [a,b]:=if_pos h0;unfold enR at hK;rw [ee,if_neg h0,e1]at hK;simp only [go_sem,uf,hh,cpA,cpC,aA,ud,Jb,e1];repeat first|refine Ja (by with_reducible assumption) ?_|refine Ja (Nat.le_trans (by with_reducible assumption) (by decide)) ?_|refine Ja (by decide) ?_
   exact hK
set_option maxHeartbeats 1000000 in
theorem vaG(hΓ:Holds P Γ){f fv fq tE:Nat}(hv:Γ fv=.dat false (uG tE))(hq:Γ fq=.dat true kf)(hc:check P f=some (75,(Uj fv fq).strip,[.tmp 4,.tmp 5])):Sound P f (.dat false (UG tE)):=by
 refine Va hc (Za7 tE) hΓ (λargs K hcl hfi hG=>?_);match args,hG with
 | [x,y],hG=>
  obtain⟨c,rfl,hw,d,rfl,hw2,hl,hl2,hK⟩:=hG;refine⟨by simp,?_⟩
  have e0:=jc tE;by_cases h0:cchk c=0
  case neg=>
   have es:smC c d=cchk c:=if_pos h0;have e1:=Wc tE h0;rw [es,e1,decide_eq_false h0,Bool.false_and]at hK;simp only [go_sem,Uj,hv,cpA,cpC,Jb,UB h0,e1];repeat first|refine Ja (by with_reducible assumption) ?_|refine Ja (Nat.le_trans (by with_reducible assumption) (by decide)) ?_|refine Ja (by decide) ?_
   exact hK
  have es:smC c d=cchk d:=by unfold smC;rw [if_neg (by omega)]
  rw [es]at hK;have pc:=jaA (jau hw (Nat.le_trans hl (by decide)))
  have i0:=yz pc.canon.ins;by_cases h1:cchk d=0
  case neg=>
   have e1:=Wc tE h1;rw [e1,decide_eq_false h1,Bool.false_and]at hK;simp only [go_sem,Uj,hv,cpA,cpC,Jb,h0,e0,Ut,UB h1,e1];repeat first|refine Ja (by with_reducible assumption) ?_|refine Ja (Nat.le_trans (by with_reducible assumption) (by decide)) ?_|refine Ja (by decide) ?_
   exact hK
  rw [h1,e0,decide_eq_true rfl,Bool.true_and]at hK;have pd:=jaA (jau hw2 (Nat.le_trans hl2 (by decide)))
  have j0:=yz pd.canon.ins;have lc:=UN pc.canon;have ld:=UN pd.canon;have sc:=pc.size;have sd:=pd.size;obtain⟨p,hp⟩:∃p,cCur (cpv c)=p:=⟨_,rfl⟩;obtain⟨q,hq0⟩:∃q,cCur (cpv d)=q:=⟨_,rfl⟩;rw [hp]at i0 lc sc hK;rw [hq0]at j0 ld sd hK;have lp:=vaO p;have lq:=vaO q;simp only [go_sem,Uj,hv,cpA,cpC,Jb,h0,h1,e0,Ut,hp,hq0];repeat first|refine Ja (by with_reducible assumption) ?_|refine Ja (Nat.le_trans (by with_reducible assumption) (by decide)) ?_|refine Ja (by decide) ?_
  intro _ _;refine⟨λhlen _=>?_,λhlen=>?_⟩
  case refine_2=>
   rw [decide_eq_false (λe=>hlen (by rw [e]))]at hK
   exact hK
  rw [lp,lq]at hlen;refine ua (λk:Nat=>⟨mkV [(6,.one (.slice ((mcs p).map mC))),(8,.one (.slice ((mcs q).map mC))),(32,.one (.lit (.int .i64 ((mcs p).length:Nat)))),(33,.one (.lit (.int .i64 k)))],mkH []⟩) (λk=>k<=p.length/\p.take k=q.take k) (λk=>p.length-k) 0 ?_ ?_ ?_
  .exact ja (by simp [okS,okV,okC,okL,okH,okB,okE,Qa,Wa,Za,Ya,wsA,ws]) trivial
  .exact⟨Nat.zero_le _,rfl⟩
  .rintro k ⟨hk,htk⟩;rw [lp];by_cases hlt:k<p.length
   .obtain⟨⟨u1,u2,u3⟩,hu,hu2,hum⟩:=getM hlt;obtain⟨⟨v1,v2,v3⟩,hv1,hv2,hvm⟩:=getM (by omega:k<q.length)
    have hlp:k<(mcs p).length:=by omega
    have hlq:k<(mcs q).length:=by omega
    have r1:=Nat.le_trans (UbF hum sc) (by decide:_<=1073741824)
    have r2:=Nat.le_trans (UbF hvm sd) (by decide:_<=1073741824)
    simp only at r1 r2;have ts:=ybl hu hv1;have bad:¬((u1,u2,u3)=(v1,v2,v3))->K (.tup [.one (.lit (.bool false)),.one (.lit .nilIface)]):=λh=>by
     rw [decide_eq_false (λe=>h (by rw [e,hv1]at hu;simpa using hu.symm))]at hK
     exact hK
    simp only [go_sem,hlt,hlp,hlq,hq,hu2,hv2,mC,mcan,Yb];refine⟨λh1=>⟨λh2=>⟨r1,r2,λh3=>⟨by omega,k+1,ja (by simp [okS,okV,okC,okL,okH,okB,okE,Qa,Wa,Za,Ya,wsA,ws,lp]) trivial,⟨by omega,ts.2 ⟨htk,?_⟩⟩,by omega⟩,λh3=>bad λe=>h3 ?_⟩,λh2=>bad λe=>h2 ?_⟩,λh1=>bad λe=>h1 ?_⟩
    .rw [h1,h2,kg.1 h3]
    .simp only [Prod.mk.injEq]at e;exact kg.2 e.2.2
    .simp only [Prod.mk.injEq]at e;exact e.2.1
    .simp only [Prod.mk.injEq]at e;exact e.1
   .have ek:k=p.length:=by omega
    rw [ek,List.take_length,hlen,List.take_length]at htk;rw [decide_eq_true htk]at hK;simp only [go_sem,hlt];exact hK
end Go.Abs
end
section
namespace Go.Num
open Go.Abs
def okT(n:Int):Prop:=n=1∨n=2∨n=4∨n=12
def tx(n:Int):ByteArray:=if n=12 then ⟨#[49,50]⟩ else if n=4 then ⟨#[52]⟩ else if n=2 then ⟨#[50]⟩ else ⟨#[49]⟩
def txR(q:Rat):ByteArray:=if q.den=1 then tx q.num else tx q.num++⟨#[47]⟩++tx (q.den:Nat)
theorem Xbv(n:Int):(tx n).size<=2:=by unfold tx;split <;> (try split) <;> (try split) <;> decide
theorem Ubr{n:Int}(h:okT n):∃m:Nat,n=m/\1<=m/\m<=12:=by
 rcases h with h|h|h|h
 .exact⟨1,h,by decide,by decide⟩
 .exact⟨2,h,by decide,by decide⟩
 .exact⟨4,h,by decide,by decide⟩
 .exact⟨12,h,by decide,by decide⟩
theorem qbC{m:Nat}(h1:1<=m)(h2:m<=12):digs m=[m]:=by rw [Yt (by omega),show m / 4294967296=0 by omega,Xb,show m % 4294967296=m by omega]
end Go.Num
namespace Go.Abs
open Go.Num
variable {P:Program} {Γ:Nat->Spec}
theorem Xbd{h h' : Nat->HB}{z:Nat}{b:Bool}{w:W}:okB h h' (some ⟨[[zb w,zm w]],z,b⟩) (some ⟨[[zb w,zm w]],z,b⟩):=
 ⟨⟨rfl,rfl⟩,.inl ⟨rfl,λe he c hc=>by
  rw [List.mem_singleton.1 he]at hc;simp only [List.mem_cons,List.not_mem_nil,or_false]at hc;rcases hc with rfl|rfl
  .exact of_eq_true (jY _)
  .exact of_eq_true (ZY _)⟩⟩
def eJ(s:ByteArray):AV:=.one (.slice [[.lit (.string s)]])
theorem jbj(x y:ByteArray)(h:eJ x=eJ y):x=y:=by
 simp only [eJ,AV.one.injEq,C.slice.injEq,List.cons.injEq,C.lit.injEq,Value.string.injEq,and_true]at h;exact h
def onJ(k:ByteArray->Prop)(a:AV):Prop:=onE eJ k a
@[congr] theorem JbW {k:ByteArray->Prop} {a a' : AV} (h:a=a'):onJ k a=onJ k a':=by subst h;rfl
theorem WbC(k:ByteArray->Prop)(x:ByteArray):onJ k (.one (.slice [[.lit (.string x)]]))=k x:=Qp jbj k x
theorem JbT{β:Type}{T:ByteArray->(β->Prop)->Prop}(h:∀x,GoodT (T x)){a:AV}:GoodT λK=>onJ (λx=>T x K) a:=
 zI (e:=eJ) (T:=T) jbj h
attribute [go_sem,go_sem ↓] WbC
def js(l:List AV)(K:AV->Prop):Prop:=
 match l with
 | [a]=>asInt (λk n=>k=.i64/\okT n/\K (.one (.lit (.string (tx n))))) a
 | _=>False
theorem Yad(a:AV)(K:AV->Prop):js [a] K=(asInt (λk n=>k=.i64/\okT n/\K (.one (.lit (.string (tx n))))) a):=propext Iff.rfl
@[congr] theorem jbH {K:AV->Prop} {l l' : List AV} (h:l=l'):js l K=js l' K:=by subst h;rfl
attribute [go_sem,go_sem ↓] Yad
theorem qan:Good js:=Xa λas=>by
 unfold js;split
 .exact(zd (λ_ _=>(.and λ_=>(.and λ_=>(.ret _)))) _)
 .exact .of λK hk=>hk.elim
def ZA(l:List AV)(K:AV->Prop):Prop:=
 match l with
 | [a,b]=>asInt (λk n=>k=.i64/\okT n/\asInt (λk m=>k=.i64/\m=10/\K (.one (.lit (.string (tx n))))) b) a
 | _=>False
theorem WX(a b:AV)(K:AV->Prop):ZA [a,b] K=(asInt (λk n=>k=.i64/\okT n/\asInt (λk m=>k=.i64/\m=10/\K (.one (.lit (.string (tx n))))) b) a):=propext Iff.rfl
@[congr] theorem xbH {K:AV->Prop} {l l' : List AV} (h:l=l'):ZA l K=ZA l' K:=by subst h;rfl
attribute [go_sem,go_sem ↓] WX
theorem JaE:Good ZA:=Xa λas=>by
 unfold ZA;split
 .exact(zd (λ_ _=>(.and λ_=>(.and λ_=>(zd (λ_ _=>(.and λ_=>(.and λ_=>(.ret _)))) _)))) _)
 .exact .of λK hk=>hk.elim
def yp(l:List AV)(K:AV->Prop):Prop:=
 match l with
 | [a]=>asInt (λk n=>k=.i64/\okT n/\K (.one (.lit (.string (tx n))))) a
 | _=>False
theorem xao(a:AV)(K:AV->Prop):yp [a] K=(asInt (λk n=>k=.i64/\okT n/\K (.one (.lit (.string (tx n))))) a):=propext Iff.rfl
@[congr] theorem xbI {K:AV->Prop} {l l' : List AV} (h:l=l'):yp l K=yp l' K:=by subst h;rfl
attribute [go_sem,go_sem ↓] xao
theorem yQ:Good yp:=Xa λas=>by
 unfold yp;split
 .exact(zd (λ_ _=>(.and λ_=>(.and λ_=>(.ret _)))) _)
 .exact .of λK hk=>hk.elim
def yA(l:List AV)(K:AV->Prop):Prop:=
 match l with
 | [a,b]=>onJ (λs=>b=.one (.lit (.string ⟨#[]⟩))/\K (.one (.lit (.string s)))) a
 | _=>False
theorem Vas(a b:AV)(K:AV->Prop):yA [a,b] K=(onJ (λs=>b=.one (.lit (.string ⟨#[]⟩))/\K (.one (.lit (.string s)))) a):=propext Iff.rfl
@[congr] theorem xbJ {K:AV->Prop} {l l' : List AV} (h:l=l'):yA l K=yA l' K:=by subst h;rfl
attribute [go_sem,go_sem ↓] Vas
theorem kaE:Good yA:=Xa λas=>by
 unfold yA;split
 .exact(JbT λ_=>(.and λ_=>(.ret _)))
 .exact .of λK hk=>hk.elim
def yt(l:List AV)(K:AV->Prop):Prop:=
 match l with
 | [a]=>onW (λw=>okT (zv w)/\K (.one (.lit (.string (tx (zv w)))))) a
 | _=>False
theorem V5(a:AV)(K:AV->Prop):yt [a] K=(onW (λw=>okT (zv w)/\K (.one (.lit (.string (tx (zv w)))))) a):=propext Iff.rfl
@[congr] theorem xbB {K:AV->Prop} {l l' : List AV} (h:l=l'):yt l K=yt l' K:=by subst h;rfl
attribute [go_sem,go_sem ↓] V5
theorem qah:Good yt:=Xa λas=>by
 unfold yt;split
 .exact(xn λ_=>(.and λ_=>(.ret _)))
 .exact .of λK hk=>hk.elim
def jt(l:List AV)(K:AV->Prop):Prop:=
 match l with
 | [a]=>onR (λx=>okT (rv x).num/\okT ((rv x).den:Nat)/\rl x<=4294967296/\K (.one (.lit (.string (txR (rv x)))))) a
 | _=>False
theorem zag(a:AV)(K:AV->Prop):jt [a] K=(onR (λx=>okT (rv x).num/\okT ((rv x).den:Nat)/\rl x<=4294967296/\K (.one (.lit (.string (txR (rv x)))))) a):=propext Iff.rfl
@[congr] theorem zbA {K:AV->Prop} {l l' : List AV} (h:l=l'):jt l K=jt l' K:=by subst h;rfl
attribute [go_sem,go_sem ↓] zag
theorem Uai:Good jt:=Xa λas=>by
 unfold jt;split
 .exact(jg λ_=>(.and λ_=>(.and λ_=>(.and λ_=>(.ret _)))))
 .exact .of λK hk=>hk.elim
theorem vad(hΓ:Holds P Γ){f:Nat}(hc:check P f=some (15,(Ub).strip,[.tmp 2])):Sound P f (.dat false js):=by
 refine Va hc qan hΓ (λargs K hcl hfi hG=>?_);match args,hG with
 | [a],hG=>
  obtain⟨k,n,rfl,rfl,hn,hK⟩:=Vb hG;refine⟨by simp,?_⟩
  rcases hn with rfl|rfl|rfl|rfl
  .simp only [go_sem,Ub];exact⟨λ_=>⟨by decide,⟨by decide,by decide,by decide⟩,hK⟩,λh=>absurd (by decide) h⟩
  .simp only [go_sem,Ub];exact⟨λ_=>⟨by decide,⟨by decide,by decide,by decide⟩,hK⟩,λh=>absurd (by decide) h⟩
  .simp only [go_sem,Ub];exact⟨λ_=>⟨by decide,⟨by decide,by decide,by decide⟩,hK⟩,λh=>absurd (by decide) h⟩
  .simp only [go_sem,Ub];exact⟨λh=>absurd h (by decide),λ_=>⟨by decide,by decide,by decide,⟨by decide,by decide,by decide⟩,hK⟩⟩
theorem kai(hΓ:Holds P Γ){f fs fn fb fi:Nat}(hs:Γ fs=.dat false js)(hc:check P f=some (54,(Vd fs fn fb fi).strip,[.tmp 4])):Sound P f (.dat false ZA):=by
 refine Va hc JaE hΓ (λargs K hcl hfi hG=>?_);match args,hG with
 | [a,b],hG=>
  rw [WX]at hG;obtain⟨k,n,rfl,rfl,hn,hG'⟩:=Vb hG;obtain⟨k',n',rfl,rfl,rfl,hK⟩:=Vb hG';clear hG hG';refine⟨by simp,?_⟩
  have a1:(0:Int)<=n:=by rcases hn with rfl|rfl|rfl|rfl <;> decide
  have a2:n<100:=by rcases hn with rfl|rfl|rfl|rfl <;> decide
  simp only [go_sem,Vd,hs,a1,a2,hn];exact hK
theorem Zaj(hΓ:Holds P Γ){f fs:Nat}(hs:Γ fs=.dat false ZA)(hc:check P f=some (5,(Zg fs).strip,[.tmp 2])):Sound P f (.dat false yp):=by
 refine Va hc yQ hΓ (λargs K hcl hfi hG=>?_);match args,hG with
 | [a],hG=>
  obtain⟨k,n,rfl,rfl,hn,hK⟩:=Vb hG;refine⟨by simp,?_⟩
  simp only [go_sem,Zg,hs,hn];exact hK
theorem V8(hΓ:Holds P Γ){f fs:Nat}(hs:Γ fs=.dat false yp)(hc:check P f=some (5,(yv fs).strip,[.tmp 2])):Sound P f (.dat false yp):=by
 refine Va hc yQ hΓ (λargs K hcl hfi hG=>?_);match args,hG with
 | [a],hG=>
  obtain⟨k,n,rfl,rfl,hn,hK⟩:=Vb hG;refine⟨by simp,?_⟩
  simp only [go_sem,yv,hs,hn];exact hK
theorem xaj(hΓ:Holds P Γ){f fg fw fs:Nat}(hc:check P f=some (75,(ju fg fw fs).strip,[.tmp 4])):Sound P f (.dat false yA):=by
 refine Va hc kaE hΓ (λargs K hcl hfi hG=>?_);match args,hG with
 | [a,b],hG=>
  obtain⟨s,rfl,rfl,hK⟩:=hG;refine⟨by simp,?_⟩
  simp only [go_sem,ju,eJ];exact⟨λ_=>⟨by decide,hK⟩,λh=>absurd rfl h⟩
theorem U9(hΓ:Holds P Γ){f fm fs fi fr fj fn:Nat}(hm:Γ fm=.dat false yk)(hs:Γ fs=.dat false xw)(hi:Γ fi=.dat false yp)(hj:Γ fj=.dat false yA)(hn:Γ fn=.dat true Wg)(hc:check P f=some (44,(ut fm fs fi fr fj fn).strip,[.tmp 2])):Sound P f (.dat false yt):=by
  refine Va hc qah hΓ (λargs K hcl hfi hG=>?_);match args,hG with
  | [a],hG=>
    obtain⟨w,rfl,hw,h1,hK⟩:=hG;refine⟨by simp,?_⟩
    obtain⟨m,hm1,m1,m2⟩:=Ubr h1;rw [hm1]at h1 hK;have d1:digs m=[m]:=qbC m1 m2;have d0:=Xb
    have v1 : val [m] / 1000000000 = 0 := by have : val [m] = m := by simp [val]
                                             omega
    have v2 : val [m] % 1000000000 = m := by have : val [m] = m := by simp [val]
                                             omega
    have n0:¬((m:Int)<0):=by omega
    have w1:WL [m]:=Jc.2 ⟨by omega,vc⟩
    simp only [go_sem,ut,hm,hs,hi,hj,hn,hw,hm1,Int.natAbs_natCast,d1];refine ua (λk:Nat=>if k=0 then ⟨mkV [(1,.one (.ptr 1 1 0 0)),(3,wsA [m]),(4,.one .emp)],mkH [(1,⟨1,some ⟨[[zb w,zm w]],2,true⟩⟩)]⟩ else ⟨mkV [(1,.one (.ptr 1 1 0 0)),(3,wsA []),(4,.one (.full [[.lit (.string (tx m))]]))],mkH [(1,⟨1,some ⟨[[zb w,zm w]],2,true⟩⟩)]⟩) (λ_=>True) (λk=>1-k) 0 ?_ trivial ?_
    . rw [if_pos rfl];exact ja (by simp [okS,okV,okC,okL,okH,okB,okE,Qa,Wa,Za,Ya,wsA,ws,wc]) ⟨Xbd,trivial⟩
    . intro k _
      by_cases hk:k=0
      . subst hk
        rw [if_pos rfl];simp only [go_sem,hs,hi,v1,v2,d0,h1];refine⟨w1,by decide,by decide,by omega,λe he=>by simp at he,1,?_,by decide⟩
        rw [if_neg (by decide)]
        exact ja (by simp [okS,okV,okC,okL,okH,okB,okE,Qa,Wa,Za,Ya,wsA,ws,wc]) ⟨Xbd,trivial⟩
      . rw [if_neg hk]
        simp only [go_sem,hj,hn,hw,hm1,n0];exact hK
theorem Q3(hΓ:Holds P Γ){f fp fo fc ft:Nat}(hp:Γ fp=.dat false Xd)(ho:Γ fo=.dat false xq)(hc' : Γ fc=.dat true QC)(ht:Γ ft=.dat false yt)(hc:check P f=some (22,(Wm fp fo fc ft).strip,[.tmp 2])):Sound P f (.dat false jt):=by
 refine Va hc Uai hΓ (λargs K hcl hfi hG=>?_);match args,hG with
 | [a],hG=>
  obtain⟨x,rfl,hx,h1,h2,hl,hK⟩:=hG;refine⟨by simp,?_⟩
  obtain⟨q,hq⟩:∃q,rv x=q:=⟨_,rfl⟩;rw [hq]at h1 h2 hK;unfold txR at hK;have e1:ordI ((q.den:Nat):Int) 1=0↔q.den=1:=by unfold ordI;split <;> (try split) <;> omega
  by_cases hd:q.den=1
  .rw [if_pos hd]at hK;simp only [go_sem,Wm,hp,ho,hc',ht,hx,hq];exact⟨hl,λ_=>⟨h1,hK⟩,λh=>absurd (e1.2 hd) h⟩
  .rw [if_neg hd]at hK;simp only [go_sem,Wm,hp,ho,hc',ht,hx,hq];have z1:=Xbv q.num;have z2:=Xbv (q.den:Nat);have z3:(ByteArray.mk #[47]).size=1:=rfl;exact⟨hl,λh=>absurd (e1.1 h) hd,λ_=>⟨h1,by omega,h2,by rw [ByteArray.size_append];omega,hK⟩⟩
end Go.Abs
end
section
namespace Go.Num
open Go.Abs
theorem ubQ(w:V2):0<=sqQ w:=by
 have h:∀x:Rat,0<=x*x:=λx=>by
  rcases Rat.le_total (a:=0) (b:=x) with h|h
  .exact Rat.mul_nonneg h h
  .have h2:0<=-x:=by grind
   have:=Rat.mul_nonneg h2 h2;grind
 unfold sqQ;have h1:=h w.1;have h2:=h w.2;grind
theorem kbA{w:V2}(h:sqQ w≠0):0<sqQ w:=by have:=ubQ w;grind
theorem ZbE{w:V2}(h:sqQ w=0):w=(0,0):=by
 have hh:∀x:Rat,0<=x*x:=λx=>by
  rcases Rat.le_total (a:=0) (b:=x) with h|h
  .exact Rat.mul_nonneg h h
  .have h2:0<=-x:=by grind
   have:=Rat.mul_nonneg h2 h2;grind
 unfold sqQ at h;have h1:=hh w.1;have h2:=hh w.2;have e1:w.1*w.1=0:=by grind
 have e2:w.2*w.2=0:=by grind
 have f1:w.1=0:=by rcases Rat.mul_eq_zero.1 e1 with h|h <;> exact h
 have f2:w.2=0:=by rcases Rat.mul_eq_zero.1 e2 with h|h <;> exact h
 exact Prod.ext f1 f2
theorem WbA(a b:V2):sqQ (timesQ a b)=sqQ a*sqQ b:=by unfold sqQ timesQ;simp only;grind
theorem cchkC{X:CpR}(h1:0<X.2.2.1)(h2:0<X.2.2.2.1)(h3:0<X.2.2.2.2.1)(h4:X.1≠X.2.1):cchk (canC X)=0:=by
 have a1:avld (canC X).1=true:=Qbi X.1;have a2:avld (canC X).2.1=true:=Qbi X.2.1;have a3:(cps5 (canC X)).all vldR=true:=by simp [cps5,canC,Jg]
 have a4:(cps3 (canC X)).all gt0R=true:=by simp [cps3,canC,gt0R,Yb,h1,h2,h3]
 have a5:av (canC X).1≠av (canC X).2.1:=by
  have e1:av (canC X).1=X.1:=qI X.1;have e2:av (canC X).2.1=X.2.1:=qI X.2.1;rw [e1,e2];exact h4
 unfold cchk;rw [if_neg (by simp [a1,a2]),if_neg (by simp [a3]),if_neg (by simp [a4]),if_neg a5]
theorem cchkG{c:Cp}(h:cchk c=0):0<(cpv c).2.2.1/\0<(cpv c).2.2.2.1/\0<(cpv c).2.2.2.2.1/\(cpv c).1≠(cpv c).2.1:=by
 obtain⟨_,_,_,h4,h5⟩:=uaR h;simp only [cps3,gt0R,List.all_cons,List.all_nil,Bool.and_true,Bool.and_eq_true,decide_eq_true_eq]at h4;exact⟨h4.1,h4.2.1,h4.2.2,h5⟩
def okQ(c:CpR):Prop:=0<c.2.2.1/\0<c.2.2.2.1/\0<c.2.2.2.2.1/\c.1≠c.2.1
theorem Ubv{c:Cp}(h:cchk c=0):okQ (cpv c):=cchkG h
theorem Qbm{X:CpR}(h:okQ X):cchk (canC X)=0:=cchkC h.1 h.2.1 h.2.2.1 h.2.2.2
theorem ZbG{c:CpR}(h:okQ c)(hw:sqQ (cW c)≠0):okQ (fiQ c):=by
 obtain⟨h1,h2,h3,h4⟩:=h;have p:=kbA hw;refine⟨Rat.mul_pos p h2,Rat.mul_pos p h1,Rat.mul_pos p h3,λe=>?_⟩;have e' : c.1=addQ c.1 (timesQ (cW c) (subQ c.2.1 c.1)):=e;have t:timesQ (cW c) (subQ c.2.1 c.1)=(0,0):=by
  obtain⟨T,hT⟩:∃T,timesQ (cW c) (subQ c.2.1 c.1)=T:=⟨_,rfl⟩;rw [hT]at e' ⊢;unfold addQ at e';have e1:=congrArg Prod.fst e';have e2:=congrArg Prod.snd e';simp only at e1 e2;exact Prod.ext (by simp only;grind) (by simp only;grind)
 have s:=WbA (cW c) (subQ c.2.1 c.1);rw [t]at s;have s0:sqQ ((0:Rat),(0:Rat))=0:=by decide +kernel
 rw [s0]at s;have s1:=(Rat.mul_eq_zero.1 s.symm).resolve_left hw;have s2:=ZbE s1;unfold subQ at s2;have e1:=congrArg Prod.fst s2;have e2:=congrArg Prod.snd s2;simp only at e1 e2;exact h4 (Prod.ext (by grind) (by grind))
theorem cb_B{c:CpR}{b:Nat}(h:CB' b c)(hb:b<=1000):CB c:=by
 obtain⟨h1,h2,h3,h4,h5,h6,h7⟩:=h;have a1:=zq_1 c.1;have a2:=zq_2 c.1;have a3:=zq_1 c.2.1;have a4:=zq_2 c.2.1;exact⟨by omega,by omega,by omega,by omega,by omega,by omega,by omega,by omega,by omega⟩
theorem cl_B{c:CpR}{b:Nat}(h:CB' b c):cl (canC c)<=b:=by
 obtain⟨h1,h2,h3,h4,h5,h6,h7⟩:=h;rw [YbE];simp only [Nat.max_le];exact⟨h1,h2,h3,h4,h5,h6,h7⟩
theorem Wag(c:CpR):WLC (canC c):=⟨Wp _,Wp _,Xe _,Xe _,Xe _,Xe _,Xe _⟩
theorem jbl{c d:CpR}(hc:CB c)(hd:CB d)(h:∀p,wV c p=wV d p):cCur c=cCur d:=
 za8 (jaA hc).canon (jaA hd).canon λx y=>by
  have h1:=Wbi hc (x,y);have h2:=Wbi hd (x,y);simp only at h1 h2;rw [h1,h2,h]
theorem kbE{c:CpR}(hc:CB c)(hd:CB (fiQ c))(hw:sqQ (cW c)≠0):cCur (fiQ c)=cCur c:=jbl hd hc λp=>UbQ c p hw
theorem ex_w:sqQ (cW exQ)≠0:=by decide +kernel
theorem zbF:fiQ exQ=((0,0),(2,0),4,1 / 4,1 / 4,2,0):=by decide +kernel
theorem QbN:foQ exQ=(2,0):=by decide +kernel
theorem vbt:CB' 16 exQ:=by unfold CB';decide +kernel
theorem yaK:CB' 200 (fiQ exQ):=by
 have:=wbG vbt;obtain⟨h1,h2,h3,h4,h5,h6,h7⟩:=this;exact⟨by omega,by omega,by omega,by omega,by omega,by omega,by omega⟩
end Go.Num
namespace Go.Abs
open Go.Num
variable {P:Program} {Γ:Nat->Spec}
def Uz(l:List AV)(K:AV->Prop):Prop:=
 match l with
 | []=>K (.one (.lit (.bool true)))
 | _=>False
theorem Xat(K:AV->Prop):Uz [] K=(K (.one (.lit (.bool true)))):=propext Iff.rfl
@[congr] theorem XbH {K:AV->Prop} {l l' : List AV} (h:l=l'):Uz l K=Uz l' K:=by subst h;rfl
attribute [go_sem,go_sem ↓] Xat
theorem xaC:Good Uz:=Xa λas=>by
 unfold Uz;split
 .exact(.ret _)
 .exact .of λK hk=>hk.elim
def yd(f0 f1 f2 f3 f4:Nat):List AO:=[.m 23 (.t 2),.u 24 (.binn .eql (.t 23) (.c (.one (.lit .nilIface)))),.m 25 (.t 24),.w 26 25 true (.mv (.t 4)),.w 27 25 true (.binn .eql (.t 26) (.c (.one (.lit .nilIface)))),.u 28 (.pick (.t 25) (.t 27) .fa),.m 29 (.t 28),.w 30 29 true (.mv (.t 6)),.w 31 29 true (.binn .eql (.t 30) (.c (.one (.lit .nilIface)))),.u 32 (.pick (.t 29) (.t 31) .fa),.m 33 (.t 32),.w 34 33 true (.mv (.t 5))]
theorem Wq{f0 f1 f2 f3 f4:Nat}(Γ:Nat->Spec)(dr:Bool)(Q:S->Prop)(s:S):wpL Γ dr Q (yd f0 f1 f2 f3 f4) s=wpL Γ dr Q [.m 23 (.t 2),.u 24 (.binn .eql (.t 23) (.c (.one (.lit .nilIface)))),.m 25 (.t 24),.w 26 25 true (.mv (.t 4)),.w 27 25 true (.binn .eql (.t 26) (.c (.one (.lit .nilIface)))),.u 28 (.pick (.t 25) (.t 27) .fa),.m 29 (.t 28),.w 30 29 true (.mv (.t 6)),.w 31 29 true (.binn .eql (.t 30) (.c (.one (.lit .nilIface)))),.u 32 (.pick (.t 29) (.t 31) .fa),.m 33 (.t 32),.w 34 33 true (.mv (.t 5))] s:=eq_of_heq (HEq.refl _)
def qe(f0 f1 f2 f3 f4:Nat):List AO:=[.u 35 (.pick (.t 33) (.t 34) .fa),.m 36 (.t 35),.w 37 36 true (.fa 0 (.t 1)),.w 38 36 true (.ld none 3 true (.t 37)),.w 39 36 true (.call f4 [(.t 38)]),.w 40 36 true (.sop 1 [(.t 39),(.c (.one (.lit (.string ⟨#[50]⟩))))]),.u 41 (.pick (.t 36) (.t 40) .fa),.m 42 (.t 41),.w 43 42 true (.fa 12 (.t 3)),.w 44 42 true (.ld none 3 true (.t 43)),.w 45 42 true (.call f4 [(.t 44)]),.w 46 42 true (.sop 1 [(.t 45),(.c (.one (.lit (.string ⟨#[52]⟩))))])]
theorem uq{f0 f1 f2 f3 f4:Nat}(Γ:Nat->Spec)(dr:Bool)(Q:S->Prop)(s:S):wpL Γ dr Q (qe f0 f1 f2 f3 f4) s=wpL Γ dr Q [.u 35 (.pick (.t 33) (.t 34) .fa),.m 36 (.t 35),.w 37 36 true (.fa 0 (.t 1)),.w 38 36 true (.ld none 3 true (.t 37)),.w 39 36 true (.call f4 [(.t 38)]),.w 40 36 true (.sop 1 [(.t 39),(.c (.one (.lit (.string ⟨#[50]⟩))))]),.u 41 (.pick (.t 36) (.t 40) .fa),.m 42 (.t 41),.w 43 42 true (.fa 12 (.t 3)),.w 44 42 true (.ld none 3 true (.t 43)),.w 45 42 true (.call f4 [(.t 44)]),.w 46 42 true (.sop 1 [(.t 45),(.c (.one (.lit (.string ⟨#[52]⟩))))])] s:=eq_of_heq (HEq.refl _)
def ze(f0 f1 f2 f3 f4:Nat):List AO:=[.u 47 (.pick (.t 42) (.t 46) .fa),.m 48 (.t 47),.w 49 48 true (.fa 15 (.t 3)),.w 50 48 true (.ld none 3 true (.t 49)),.w 51 48 true (.call f4 [(.t 50)]),.w 52 48 true (.sop 1 [(.t 51),(.c (.one (.lit (.string ⟨#[49,47,52]⟩))))]),.u 53 (.pick (.t 48) (.t 52) .fa),.m 54 (.t 53),.w 55 54 true (.fa 21 (.t 3)),.w 56 54 true (.ld none 3 true (.t 55)),.w 57 54 true (.call f4 [(.t 56)]),.w 58 54 true (.sop 1 [(.t 57),(.c (.one (.lit (.string ⟨#[50]⟩))))])]
theorem Uq{f0 f1 f2 f3 f4:Nat}(Γ:Nat->Spec)(dr:Bool)(Q:S->Prop)(s:S):wpL Γ dr Q (ze f0 f1 f2 f3 f4) s=wpL Γ dr Q [.u 47 (.pick (.t 42) (.t 46) .fa),.m 48 (.t 47),.w 49 48 true (.fa 15 (.t 3)),.w 50 48 true (.ld none 3 true (.t 49)),.w 51 48 true (.call f4 [(.t 50)]),.w 52 48 true (.sop 1 [(.t 51),(.c (.one (.lit (.string ⟨#[49,47,52]⟩))))]),.u 53 (.pick (.t 48) (.t 52) .fa),.m 54 (.t 53),.w 55 54 true (.fa 21 (.t 3)),.w 56 54 true (.ld none 3 true (.t 55)),.w 57 54 true (.call f4 [(.t 56)]),.w 58 54 true (.sop 1 [(.t 57),(.c (.one (.lit (.string ⟨#[50]⟩))))])] s:=eq_of_heq (HEq.refl _)
def Yd(f0 f1 f2 f3 f4:Nat):List AO:=[.u 59 (.pick (.t 54) (.t 58) .fa),.m 0 (.t 59)]
theorem Yq{f0 f1 f2 f3 f4:Nat}(Γ:Nat->Spec)(dr:Bool)(Q:S->Prop)(s:S):wpL Γ dr Q (Yd f0 f1 f2 f3 f4) s=wpL Γ dr Q [.u 59 (.pick (.t 54) (.t 58) .fa),.m 0 (.t 59)] s:=eq_of_heq (HEq.refl _)
def qm(f0 f1 f2 f3 f4:Nat):AC:=(.seq (.ops false (yd f0 f1 f2 f3 f4++(qe f0 f1 f2 f3 f4++(ze f0 f1 f2 f3 f4++(Yd f0 f1 f2 f3 f4)))))
 .ret)
theorem Qu{f0 f1 f2 f3 f4:Nat}(Γ:Nat->Spec)(Q:Ex->S->Prop)(s:S):wpA Γ (qm f0 f1 f2 f3 f4) Q s=wpA Γ (.seq (.ops false (yd f0 f1 f2 f3 f4++(qe f0 f1 f2 f3 f4++(ze f0 f1 f2 f3 f4++(Yd f0 f1 f2 f3 f4)))))
 .ret) Q s:=eq_of_heq (HEq.refl _)
def ji(f0 f1 f2 f3 f4:Nat):AC:=(.seq (.ops false [.m 0 .fa])
 (.fg [] (.seq (.ops false [.u 8 (.call f0 []),.u 9 (.call f1 [(.t 8)]),.m 7 (.t 9),.u 10 (.ext 0 (.t 7)),.u 11 (.ext 1 (.t 7)),.u 1 (.alloc [(.lit (.bool false)),.emp,.emp,(.lit (.bool false)),.emp,.emp]),.n (.st none 6 (.t 1) (.t 10)),.m 2 (.t 11)])
 (.fg [1,2] (.seq (.ops false [.u 13 (.call f0 []),.u 14 (.call f2 [(.t 13)]),.m 12 (.t 14),.u 15 (.ext 0 (.t 12)),.u 16 (.ext 1 (.t 12)),.u 3 (.alloc [(.lit (.bool false)),.emp,.emp,(.lit (.bool false)),.emp,.emp,(.lit (.bool false)),.emp,.emp,(.lit (.bool false)),.emp,.emp,(.lit (.bool false)),.emp,.emp,(.lit (.bool false)),.emp,.emp,(.lit (.bool false)),.emp,.emp,(.lit (.bool false)),.emp,.emp,(.lit (.bool false)),.emp,.emp]),.n (.st none 27 (.t 3) (.t 15)),.m 4 (.t 16)])
 (.fg [1,2,3,4] (.seq (.ops true [.u 18 (.call f0 []),.u 19 (.ld none 27 true (.t 3)),.u 20 (.call f3 [(.t 18),(.t 19)]),.m 17 (.t 20),.u 21 (.ext 0 (.t 17)),.u 22 (.ext 1 (.t 17)),.m 5 (.t 21),.m 6 (.t 22)])
 (.fg [1,2,3,4,5,6] (qm f0 f1 f2 f3 f4)))))))))
set_option maxHeartbeats 2000000 in
theorem Qam(hΓ:Holds P Γ){f fe ff fi fs ft tE:Nat}(he:Γ fe=.dat false jD)(hf:Γ ff=.dat false (JV tE))(hi:Γ fi=.dat false (YO tE))(hs:Γ fs=.dat false (UG tE))(ht:Γ ft=.dat false jt)(hc:check P f=some (60,(ji fe ff fi fs ft).strip,[.tmp 0])):Sound P f (.dat true Uz):=by
 refine Va hc xaC hΓ (λargs K hcl hfi hG=>?_);match args,hG with
 | [],hK=>
  refine⟨by simp,?_⟩
  have kE:=vbn;have wE:=Wag exQ;have lE:=cl_B vbt;have vE:=xai exQ;obtain⟨E,hE⟩:∃E,canC exQ=E:=⟨_,rfl⟩;have eE:cqR exQ=cpA E:=by rw [<-hE];rfl
  rw [hE]at kE wE lE vE;have kF:=Qbm (ZbG (by have:=Ubv kE;rw [vE]at this;exact this) ex_w)
  have wF:=Wag (fiQ exQ);have lF:=cl_B yaK;have vF:=xai (fiQ exQ);have hcur:cCur (fiQ exQ)=cCur exQ:=kbE (cb_B vbt (by decide)) (cb_B yaK (by decide)) ex_w
  obtain⟨Y,hY⟩:∃Y,fiQ exQ=Y:=⟨_,rfl⟩;rw [hY]at kF wF lF vF hcur;rw [zbF]at hY;obtain⟨F,hF⟩:∃F,canC Y=F:=⟨_,rfl⟩;have eF:cqR Y=cpA F:=by rw [<-hF];rfl
  rw [hF]at kF wF lF vF;have cE:fiC E=0:=by rw [Zbq kE,vE];exact wC_0.2 ex_w
  have sE:smC E F=0:=by unfold smC;rw [if_neg (by omega)];exact kF
  have l1:cl E<=100000:=Nat.le_trans lE (by decide)
  have l2:cl E<=1000:=Nat.le_trans lE (by decide)
  have l3:cl F<=1000:=Nat.le_trans lF (by decide)
  have dc:=decide_eq_true hcur.symm;have g0:decide (0=0)=true:=rfl;have e0:=jc tE;have a2:rv F.2.2.1=4:=by rw [<-hF,<-hY];exact Yb _
  have b2:rv F.2.2.2.1=1 / 4:=by rw [<-hF,<-hY];exact Yb _
  have u2:rv F.2.2.2.2.2.1=2:=by rw [<-hF,<-hY];exact Yb _
  have hYY:fiQ exQ=Y:=by rw [zbF,hY]
  have t2:txR 2=⟨#[50]⟩:=by decide +kernel
  have t4:txR 4=⟨#[52]⟩:=by decide +kernel
  have tq:txR (1 / 4)=⟨#[49,47,52]⟩:=by decide +kernel
  simp only [go_sem,ji,he,hf,hi,hs,eE,kE,vE,cE,hYY,eF,QbN,e0,cpA,cpC,Jb,sE,vF,dc,g0,Bool.true_and];repeat first|refine Ja (by with_reducible assumption) ?_|refine Ja (Nat.le_trans (by with_reducible assumption) (by decide)) ?_|refine Ja (by decide) ?_
  have wF1:=wF.2.2.1;have wF2:=wF.2.2.2.1;have wF3:=wF.2.2.2.2.2.1;have hl0:=lF;unfold cl at hl0;simp only [Nat.max_le]at hl0;have lF1:=Nat.le_trans hl0.2.2.1 (by decide:_<=4294967296)
  have lF2:=Nat.le_trans hl0.2.2.2.1 (by decide:_<=4294967296)
  have lF3:=Nat.le_trans hl0.2.2.2.2.2.1 (by decide:_<=4294967296)
  have l22:rz 2<=4294967296:=Nat.le_trans rz_2 (by decide)
  have k1:okT (Rat.num 2):=Or.inr (Or.inl rfl);have k2:okT ((Rat.den 2:Nat):Int):=Or.inl rfl;have k3:okT (Rat.num 4):=Or.inr (Or.inr (Or.inl rfl));have k4:okT ((Rat.den 4:Nat):Int):=Or.inl rfl;have k5:okT (Rat.num (1 / 4)):=Or.inl (by decide +kernel)
  have k6:okT ((Rat.den (1 / 4):Nat):Int):=Or.inr (Or.inr (Or.inl (by decide +kernel)))
  rw [Qu,VbH,QaA,QaA,QaA];rw [Wq];simp only [go_sem];rw [uq];have bb:∀l:List UInt8,(l == l)=true:=λl=>beq_self_eq_true l;simp only [go_sem,ht,Yb,t2,t4,tq,a2,b2,u2,bb];repeat first|refine Ja (by with_reducible assumption) ?_|refine Ja (Nat.le_trans (by with_reducible assumption) (by decide)) ?_|refine Ja (by decide) ?_
  rw [Uq];simp only [go_sem,ht,Yb,t2,t4,tq,a2,b2,u2,bb];repeat first|refine Ja (by with_reducible assumption) ?_|refine Ja (Nat.le_trans (by with_reducible assumption) (by decide)) ?_|refine Ja (by decide) ?_
  rw [Yq];simp only [go_sem,ht,Yb,t2,t4,tq,a2,b2,u2,bb];exact hK
end Go.Abs
end
section
namespace Go.Num
open Go.Abs
theorem ov_d(w:V2):ovQ w=(1 / sqQ w*w.1,1 / sqQ w * -w.2):=by
 unfold ovQ;refine v2e ?_ ?_
 .simp only;rw [Rat.div_def,Rat.div_def,Rat.one_mul,Rat.mul_comm]
 .simp only;rw [Rat.div_def,Rat.div_def,Rat.one_mul,Rat.mul_comm]
end Go.Num
namespace Go.Abs
open Go.Num
variable {P:Program} {Γ:Nat->Spec}
def JA(l:List AV)(K:AV->Prop):Prop:=
 match l with
 | [a]=>onA (λp=>al p<=1000000/\vldR p.1=true/\K (pQ (ovQ (av p)))) a
 | _=>False
theorem War(a:AV)(K:AV->Prop):JA [a] K=(onA (λp=>al p<=1000000/\vldR p.1=true/\K (pQ (ovQ (av p)))) a):=propext Iff.rfl
@[congr] theorem JbL {K:AV->Prop} {l l' : List AV} (h:l=l'):JA l K=JA l' K:=by subst h;rfl
attribute [go_sem,go_sem ↓] War
theorem waF:Good JA:=Xa λas=>by
 unfold JA;split
 .exact(jk λ_=>(.and λ_=>(.and λ_=>(.ret _))))
 .exact .of λK hk=>hk.elim
def yx(l:List AV)(K:AV->Prop):Prop:=
 match l with
 | [o,q,w,k,x,y,z]=>onA (λo=>onA (λq=>onA (λw=>onR (λk=>onR (λx=>onR (λy=>onR (λz=>al o<=1000000/\al q<=1000000/\al w<=1000000/\vldR w.1=true/\rl k<=10000000/\rl x<=1000000/\rl y<=1000000/\rl z<=1000000/\K (cpA (o,q,rcan (rv k*rv x),rcan (rv k*rv y),rcan (rv k*rv z),rcan (ovQ (av w)).1,rcan (ovQ (av w)).2))) z) y) x) k) w) q) o
 | _=>False
theorem wav(o q w k x y z:AV)(K:AV->Prop):yx [o,q,w,k,x,y,z] K=(onA (λo=>onA (λq=>onA (λw=>onR (λk=>onR (λx=>onR (λy=>onR (λz=>al o<=1000000/\al q<=1000000/\al w<=1000000/\vldR w.1=true/\rl k<=10000000/\rl x<=1000000/\rl y<=1000000/\rl z<=1000000/\K (cpA (o,q,rcan (rv k*rv x),rcan (rv k*rv y),rcan (rv k*rv z),rcan (ovQ (av w)).1,rcan (ovQ (av w)).2))) z) y) x) k) w) q) o):=propext Iff.rfl
@[congr] theorem ZbJ {K:AV->Prop} {l l' : List AV} (h:l=l'):yx l K=yx l' K:=by subst h;rfl
attribute [go_sem,go_sem ↓] wav
theorem VaI:Good yx:=Xa λas=>by
 unfold yx;split
 .exact(jk λ_=>(jk λ_=>(jk λ_=>(jg λ_=>(jg λ_=>(jg λ_=>(jg λ_=>(.and λ_=>(.and λ_=>(.and λ_=>(.and λ_=>(.and λ_=>(.and λ_=>(.and λ_=>(.and λ_=>(.ret _))))))))))))))))
 .exact .of λK hk=>hk.elim
def wG(l:List AV)(K:AV->Prop):Prop:=
 match l with
 | [c]=>onCp (λc=>cl c<=1000/\cchk c=0/\K (.tup [cqR (if fiC c=0 then fiQ (cpv c) else z27),.one (.lit (.int .i64 (fiC c:Nat)))])) c
 | _=>False
theorem wa4(c:AV)(K:AV->Prop):wG [c] K=(onCp (λc=>cl c<=1000/\cchk c=0/\K (.tup [cqR (if fiC c=0 then fiQ (cpv c) else z27),.one (.lit (.int .i64 (fiC c:Nat)))])) c):=propext Iff.rfl
@[congr] theorem WbP {K:AV->Prop} {l l' : List AV} (h:l=l'):wG l K=wG l' K:=by subst h;rfl
attribute [go_sem,go_sem ↓] wa4
theorem VaX:Good wG:=Xa λas=>by
 unfold wG;split
 .exact(Vf λ_=>(.and λ_=>(.and λ_=>(.ret _))))
 .exact .of λK hk=>hk.elim
def XE(l:List AV)(K:AV->Prop):Prop:=
 match l with
 | [c]=>onCp (λc=>cl c<=1000/\cchk c=0/\K (.tup [cqR (if seC c=0 then seQ (cpv c) else z27),.one (.lit (.int .i64 (seC c:Nat)))])) c
 | _=>False
theorem Ua4(c:AV)(K:AV->Prop):XE [c] K=(onCp (λc=>cl c<=1000/\cchk c=0/\K (.tup [cqR (if seC c=0 then seQ (cpv c) else z27),.one (.lit (.int .i64 (seC c:Nat)))])) c):=propext Iff.rfl
@[congr] theorem ybP {K:AV->Prop} {l l' : List AV} (h:l=l'):XE l K=XE l' K:=by subst h;rfl
attribute [go_sem,go_sem ↓] Ua4
theorem WaS:Good XE:=Xa λas=>by
 unfold XE;split
 .exact(Vf λ_=>(.and λ_=>(.and λ_=>(.ret _))))
 .exact .of λK hk=>hk.elim
def UaJ(l:List AV)(K:AV->Prop):Prop:=
 match l with
 | [c]=>onCp (λc=>cl c<=1000/\cchk c=0/\K (cqR (swQ (cpv c)))) c
 | _=>False
theorem Xa0(c:AV)(K:AV->Prop):UaJ [c] K=(onCp (λc=>cl c<=1000/\cchk c=0/\K (cqR (swQ (cpv c)))) c):=propext Iff.rfl
@[congr] theorem qbS {K:AV->Prop} {l l' : List AV} (h:l=l'):UaJ l K=UaJ l' K:=by subst h;rfl
attribute [go_sem,go_sem ↓] Xa0
def UA(l:List AV)(K:AV->Prop):Prop:=
 match l with
 | [c]=>onCp (λc=>cl c<=1000/\cchk c=0/\K (.tup [.one (.slice ((alL c).map λX=>cpC (canC X))),.one (.lit (.int .i64 (alC c:Nat)))])) c
 | _=>False
theorem Zas(c:AV)(K:AV->Prop):UA [c] K=(onCp (λc=>cl c<=1000/\cchk c=0/\K (.tup [.one (.slice ((alL c).map λX=>cpC (canC X))),.one (.lit (.int .i64 (alC c:Nat)))])) c):=propext Iff.rfl
@[congr] theorem YbJ {K:AV->Prop} {l l' : List AV} (h:l=l'):UA l K=UA l' K:=by subst h;rfl
attribute [go_sem,go_sem ↓] Zas
theorem UaE:Good UA:=Xa λas=>by
 unfold UA;split
 .exact(Vf λ_=>(.and λ_=>(.and λ_=>(.ret _))))
 .exact .of λK hk=>hk.elim
def uA(l:List AV)(K:AV->Prop):Prop:=
 match l with
 | [c,a,b]=>onCp (λc=>onA (λa=>onA (λb=>cl c<=1000/\al a<=1000/\al b<=1000/\avld a=true/\avld b=true/\K (.one (.slice ((enL (cpv c) (av a) (av b)).map λp=>aC (rcan p.1,rcan p.2))))) b) a) c
 | _=>False
theorem qaB(c a b:AV)(K:AV->Prop):uA [c,a,b] K=(onCp (λc=>onA (λa=>onA (λb=>cl c<=1000/\al a<=1000/\al b<=1000/\avld a=true/\avld b=true/\K (.one (.slice ((enL (cpv c) (av a) (av b)).map λp=>aC (rcan p.1,rcan p.2))))) b) a) c):=propext Iff.rfl
@[congr] theorem ubI {K:AV->Prop} {l l' : List AV} (h:l=l'):uA l K=uA l' K:=by subst h;rfl
attribute [go_sem,go_sem ↓] qaB
theorem YaG:Good uA:=Xa λas=>by
 unfold uA;split
 .exact(Vf λ_=>(jk λ_=>(jk λ_=>(.and λ_=>(.and λ_=>(.and λ_=>(.and λ_=>(.and λ_=>(.ret _)))))))))
 .exact .of λK hk=>hk.elim
def uj(f0 f1 f2 f3 f4:Nat):AC:=(.seq (.ops false [.u 1 (.box 6 (.t 0)),.u 2 (.alloc [(.lit (.bool false)),.emp,.emp,(.lit (.bool false)),.emp,.emp])])
 (.fg [1,2] (.seq (.ops true [.u 7 (.call f0 [(.i 1)]),.u 8 (.ld none 6 true (.t 1)),.u 9 (.call f1 [(.t 8)]),.u 10 (.call f2 [(.t 7),(.t 9)]),.m 6 (.t 10),.u 11 (.ext 0 (.t 6)),.u 12 (.ext 1 (.t 6)),.u 3 (.alloc [(.lit (.bool false)),.emp,.emp]),.n (.st none 3 (.t 3) (.t 11)),.m 4 (.t 12)])
 (.fg [1,2,3] (.seq (.ops false [.u 13 (.ld none 6 true (.t 1)),.u 14 (.call f3 [(.t 13)]),.u 5 (.alloc [(.lit (.bool false)),.emp,.emp,(.lit (.bool false)),.emp,.emp]),.n (.st none 6 (.t 5) (.t 14))])
 (.fg [2,3,5] (.seq (.ops true [.u 15 (.ld none 3 true (.t 3)),.u 16 (.fa 0 (.t 5)),.u 17 (.ld none 3 true (.t 16)),.u 18 (.call f4 [(.t 15),(.t 17)]),.u 19 (.ld none 3 true (.t 3)),.u 20 (.fa 3 (.t 5)),.u 21 (.ld none 3 true (.t 20)),.u 22 (.call f4 [(.t 19),(.t 21)]),.u 23 (.build [.x 3 (.t 18),.x 3 (.t 22)]),.n (.st none 6 (.t 2) (.t 23))])
 .ret)))))))
def qg(f0 f1:Nat):AC:=(.seq (.ops false [.u 7 (.box 6 (.t 0)),.u 8 (.box 6 (.t 1)),.u 9 (.box 6 (.t 2)),.u 10 (.box 3 (.t 3)),.u 11 (.box 3 (.t 4)),.u 12 (.box 3 (.t 5)),.u 13 (.box 3 (.t 6)),.u 14 (.alloc [(.lit (.bool false)),.emp,.emp,(.lit (.bool false)),.emp,.emp,(.lit (.bool false)),.emp,.emp,(.lit (.bool false)),.emp,.emp,(.lit (.bool false)),.emp,.emp,(.lit (.bool false)),.emp,.emp,(.lit (.bool false)),.emp,.emp,(.lit (.bool false)),.emp,.emp,(.lit (.bool false)),.emp,.emp])])
 (.fg [7,8,9,10,11,12,13,14] (.seq (.ops false [.u 16 (.ld none 6 true (.t 9)),.u 17 (.call f0 [(.t 16)]),.u 15 (.alloc [(.lit (.bool false)),.emp,.emp,(.lit (.bool false)),.emp,.emp]),.n (.st none 6 (.t 15) (.t 17))])
 (.fg [7,8,10,11,12,13,14,15] (.seq (.ops true [.u 18 (.ld none 6 true (.t 7)),.u 19 (.ld none 6 true (.t 8)),.u 20 (.ld none 3 true (.t 10)),.u 21 (.ld none 3 true (.t 11)),.u 22 (.call f1 [(.t 20),(.t 21)]),.u 23 (.ld none 3 true (.t 10)),.u 24 (.ld none 3 true (.t 12)),.u 25 (.call f1 [(.t 23),(.t 24)]),.u 26 (.ld none 3 true (.t 10)),.u 27 (.ld none 3 true (.t 13)),.u 28 (.call f1 [(.t 26),(.t 27)]),.u 29 (.fa 0 (.t 15)),.u 30 (.ld none 3 true (.t 29)),.u 31 (.fa 3 (.t 15)),.u 32 (.ld none 3 true (.t 31)),.u 33 (.build [.x 6 (.t 18),.x 6 (.t 19),.x 3 (.t 22),.x 3 (.t 25),.x 3 (.t 28),.x 3 (.t 30),.x 3 (.t 32)]),.n (.st none 27 (.t 14) (.t 33))])
 .ret)))))
def Je(f0 f1 f2 f3 f4:Nat):AC:=(.seq (.ops false [.u 1 (.box 27 (.t 0)),.u 2 (.alloc [(.lit (.bool false)),.emp,.emp,(.lit (.bool false)),.emp,.emp,(.lit (.bool false)),.emp,.emp,(.lit (.bool false)),.emp,.emp,(.lit (.bool false)),.emp,.emp,(.lit (.bool false)),.emp,.emp,(.lit (.bool false)),.emp,.emp,(.lit (.bool false)),.emp,.emp,(.lit (.bool false)),.emp,.emp]),.m 3 (.i 0)])
 (.fg [1,2] (.seq (.ops false [.u 6 (.ld none 27 true (.t 1)),.u 7 (.call f0 [(.t 6)]),.u 4 (.alloc [(.lit (.bool false)),.emp,.emp,(.lit (.bool false)),.emp,.emp]),.n (.st none 6 (.t 4) (.t 7))])
 (.fg [1,2,4] (.seq (.ops false [.u 8 (.ld none 6 true (.t 4)),.u 9 (.call f1 [(.t 8)]),.u 5 (.alloc [(.lit (.bool false)),.emp,.emp]),.n (.st none 3 (.t 5) (.t 9))])
 (.fg [1,2,4,5] (.seq (.seq (.ops false [.u 10 (.ld none 3 true (.t 5)),.u 11 (.call f2 [(.t 10)])])
 (.fg [1,2,4,5,11] (.cond (.t 11) (.seq (.ops false [.u 12 (.build [.z [(.lit (.bool false)),.emp,.emp,(.lit (.bool false)),.emp,.emp,(.lit (.bool false)),.emp,.emp,(.lit (.bool false)),.emp,.emp,(.lit (.bool false)),.emp,.emp,(.lit (.bool false)),.emp,.emp,(.lit (.bool false)),.emp,.emp,(.lit (.bool false)),.emp,.emp,(.lit (.bool false)),.emp,.emp]]),.n (.st none 27 (.t 2) (.t 12)),.m 3 (.i 8)])
 .ret) .skip)))
 (.fg [1,2,4,5] (.seq (.ops true [.u 13 (.fa 0 (.t 1)),.u 14 (.ld none 6 true (.t 13)),.u 15 (.ld none 27 true (.t 1)),.u 16 (.call f3 [(.t 15)]),.u 17 (.ld none 6 true (.t 4)),.u 18 (.ld none 3 true (.t 5)),.u 19 (.fa 15 (.t 1)),.u 20 (.ld none 3 true (.t 19)),.u 21 (.fa 12 (.t 1)),.u 22 (.ld none 3 true (.t 21)),.u 23 (.fa 18 (.t 1)),.u 24 (.ld none 3 true (.t 23)),.u 25 (.call f4 [(.t 14),(.t 16),(.t 17),(.t 18),(.t 20),(.t 22),(.t 24)]),.n (.st none 27 (.t 2) (.t 25)),.m 3 (.i 0)])
 .ret)))))))))
def Ud(f0 f1 f2 f3 f4:Nat):AC:=(.seq (.ops false [.u 1 (.box 27 (.t 0)),.u 2 (.alloc [(.lit (.bool false)),.emp,.emp,(.lit (.bool false)),.emp,.emp,(.lit (.bool false)),.emp,.emp,(.lit (.bool false)),.emp,.emp,(.lit (.bool false)),.emp,.emp,(.lit (.bool false)),.emp,.emp,(.lit (.bool false)),.emp,.emp,(.lit (.bool false)),.emp,.emp,(.lit (.bool false)),.emp,.emp]),.m 3 (.i 0)])
 (.fg [1,2] (.seq (.ops false [.u 6 (.ld none 27 true (.t 1)),.u 7 (.call f0 [(.t 6)]),.u 4 (.alloc [(.lit (.bool false)),.emp,.emp,(.lit (.bool false)),.emp,.emp]),.n (.st none 6 (.t 4) (.t 7))])
 (.fg [1,2,4] (.seq (.ops false [.u 8 (.ld none 6 true (.t 4)),.u 9 (.call f1 [(.t 8)]),.u 5 (.alloc [(.lit (.bool false)),.emp,.emp]),.n (.st none 3 (.t 5) (.t 9))])
 (.fg [1,2,4,5] (.seq (.seq (.ops false [.u 10 (.ld none 3 true (.t 5)),.u 11 (.call f2 [(.t 10)])])
 (.fg [1,2,4,5,11] (.cond (.t 11) (.seq (.ops false [.u 12 (.build [.z [(.lit (.bool false)),.emp,.emp,(.lit (.bool false)),.emp,.emp,(.lit (.bool false)),.emp,.emp,(.lit (.bool false)),.emp,.emp,(.lit (.bool false)),.emp,.emp,(.lit (.bool false)),.emp,.emp,(.lit (.bool false)),.emp,.emp,(.lit (.bool false)),.emp,.emp,(.lit (.bool false)),.emp,.emp]]),.n (.st none 27 (.t 2) (.t 12)),.m 3 (.i 8)])
 .ret) .skip)))
 (.fg [1,2,4,5] (.seq (.ops true [.u 13 (.fa 6 (.t 1)),.u 14 (.ld none 6 true (.t 13)),.u 15 (.ld none 27 true (.t 1)),.u 16 (.call f3 [(.t 15)]),.u 17 (.ld none 6 true (.t 4)),.u 18 (.ld none 3 true (.t 5)),.u 19 (.fa 15 (.t 1)),.u 20 (.ld none 3 true (.t 19)),.u 21 (.fa 18 (.t 1)),.u 22 (.ld none 3 true (.t 21)),.u 23 (.fa 12 (.t 1)),.u 24 (.ld none 3 true (.t 23)),.u 25 (.call f4 [(.t 14),(.t 16),(.t 17),(.t 18),(.t 20),(.t 22),(.t 24)]),.n (.st none 27 (.t 2) (.t 25)),.m 3 (.i 0)])
 .ret)))))))))
def Wd(f0 f1:Nat):AC:=(.seq (.ops false [.u 1 (.box 27 (.t 0)),.m 2 (.c (.one .emp)),.m 3 (.i 0)])
 (.fg [1] (.seq (.ops false [.u 8 (.ld none 27 true (.t 1)),.u 9 (.call f0 [(.t 8)]),.m 7 (.t 9),.u 10 (.ext 0 (.t 7)),.u 11 (.ext 1 (.t 7)),.u 4 (.alloc [(.lit (.bool false)),.emp,.emp,(.lit (.bool false)),.emp,.emp,(.lit (.bool false)),.emp,.emp,(.lit (.bool false)),.emp,.emp,(.lit (.bool false)),.emp,.emp,(.lit (.bool false)),.emp,.emp,(.lit (.bool false)),.emp,.emp,(.lit (.bool false)),.emp,.emp,(.lit (.bool false)),.emp,.emp]),.n (.st none 27 (.t 4) (.t 10)),.m 5 (.t 11)])
 (.fg [1,4,5] (.seq (.seq (.ops false [.m 12 (.t 5),.u 13 (.bin .neq (.t 12) (.i 0))])
 (.fg [1,4,5,13] (.cond (.t 13) (.seq (.ops false [.m 14 (.t 5),.m 2 (.c (.one .emp)),.m 3 (.t 14)])
 .ret) .skip)))
 (.fg [1,4] (.seq (.ops false [.u 16 (.ld none 27 true (.t 1)),.u 17 (.call f1 [(.t 16)]),.m 15 (.t 17),.u 18 (.ext 0 (.t 15)),.u 19 (.ext 1 (.t 15)),.u 6 (.alloc [(.lit (.bool false)),.emp,.emp,(.lit (.bool false)),.emp,.emp,(.lit (.bool false)),.emp,.emp,(.lit (.bool false)),.emp,.emp,(.lit (.bool false)),.emp,.emp,(.lit (.bool false)),.emp,.emp,(.lit (.bool false)),.emp,.emp,(.lit (.bool false)),.emp,.emp,(.lit (.bool false)),.emp,.emp]),.n (.st none 27 (.t 6) (.t 18)),.m 5 (.t 19)])
 (.fg [1,4,5,6] (.seq (.seq (.ops false [.m 20 (.t 5),.u 21 (.bin .neq (.t 20) (.i 0))])
 (.fg [1,4,5,6,21] (.cond (.t 21) (.seq (.ops false [.m 22 (.t 5),.m 2 (.c (.one .emp)),.m 3 (.t 22)])
 .ret) .skip)))
 (.fg [1,4,6] (.seq (.ops false [.u 23 (.ld none 27 true (.t 1)),.u 24 (.ld none 27 true (.t 4)),.u 25 (.ld none 27 true (.t 6)),.u 26 (.row 27 [[.x 27 (.t 23)],[.x 27 (.t 24)],[.x 27 (.t 25)]]),.m 2 (.t 26),.m 3 (.i 0)])
 .ret)))))))))))
def vj(f0 f1 f2 f3 f4:Nat):AC:=(.seq (.ops false [.u 3 (.box 27 (.t 0)),.u 4 (.box 6 (.t 1)),.u 5 (.box 6 (.t 2)),.m 6 (.c (.one .emp))])
 (.fg [3,4,5] (.seq (.ops true [.u 12 (.ld none 27 true (.t 3)),.u 13 (.call f0 [(.t 12)]),.u 14 (.ld none 27 true (.t 3)),.u 15 (.call f1 [(.t 14)]),.u 7 (.alloc [(.lit (.bool false)),.emp,.emp,(.lit (.bool false)),.emp,.emp]),.u 8 (.alloc [(.lit (.bool false)),.emp,.emp,(.lit (.bool false)),.emp,.emp]),.n (.st none 6 (.t 7) (.t 13)),.n (.st none 6 (.t 8) (.t 15))])
 (.fg [3,4,5,7,8] (.seq (.ops false [.u 16 (.ld none 6 true (.t 5)),.u 17 (.ld none 6 true (.t 4)),.u 18 (.call f2 [(.t 16),(.t 17)]),.u 9 (.alloc [(.lit (.bool false)),.emp,.emp,(.lit (.bool false)),.emp,.emp]),.n (.st none 6 (.t 9) (.t 18))])
 (.fg [3,4,5,7,8,9] (.seq (.ops true [.u 19 (.fa 0 (.t 3)),.u 20 (.ld none 6 true (.t 19)),.u 21 (.ld none 6 true (.t 7)),.u 22 (.ld none 6 true (.t 9)),.u 23 (.call f3 [(.t 21),(.t 22)]),.u 24 (.call f4 [(.t 20),(.t 23)]),.u 10 (.alloc [(.lit (.bool false)),.emp,.emp,(.lit (.bool false)),.emp,.emp]),.n (.st none 6 (.t 10) (.t 24))])
 (.fg [3,4,5,7,8,9,10] (.seq (.ops true [.u 25 (.fa 6 (.t 3)),.u 26 (.ld none 6 true (.t 25)),.u 27 (.ld none 6 true (.t 8)),.u 28 (.ld none 6 true (.t 9)),.u 29 (.call f3 [(.t 27),(.t 28)]),.u 30 (.call f2 [(.t 26),(.t 29)]),.u 11 (.alloc [(.lit (.bool false)),.emp,.emp,(.lit (.bool false)),.emp,.emp]),.n (.st none 6 (.t 11) (.t 30))])
 (.fg [3,4,5,7,8,10,11] (.seq (.ops true [.u 31 (.ld none 6 true (.t 4)),.u 32 (.ld none 6 true (.t 5)),.u 33 (.ld none 6 true (.t 10)),.u 34 (.ld none 6 true (.t 10)),.u 35 (.ld none 6 true (.t 7)),.u 36 (.ld none 6 true (.t 4)),.u 37 (.fa 0 (.t 3)),.u 38 (.ld none 6 true (.t 37)),.u 39 (.call f2 [(.t 36),(.t 38)]),.u 40 (.call f3 [(.t 35),(.t 39)]),.u 41 (.call f4 [(.t 34),(.t 40)]),.u 42 (.ld none 6 true (.t 11)),.u 43 (.ld none 6 true (.t 11)),.u 44 (.ld none 6 true (.t 8)),.u 45 (.ld none 6 true (.t 5)),.u 46 (.fa 6 (.t 3)),.u 47 (.ld none 6 true (.t 46)),.u 48 (.call f2 [(.t 45),(.t 47)]),.u 49 (.call f3 [(.t 44),(.t 48)]),.u 50 (.call f4 [(.t 43),(.t 49)]),.u 51 (.row 6 [[.x 6 (.t 31)],[.x 6 (.t 32)],[.x 6 (.t 33)],[.x 6 (.t 41)],[.x 6 (.t 42)],[.x 6 (.t 50)]]),.m 6 (.t 51)])
 .ret)))))))))))
theorem Wai(hΓ:Holds P Γ){f fo fq fd fb fm:Nat}(ho:Γ fo=.dat false QB)(hq:Γ fq=.dat false zD)(hd:Γ fd=.dat false Wz)(hb:Γ fb=.dat false YF)(hm:Γ fm=.dat false Ul)(hc:check P f=some (24,(uj fo fq fd fb fm).strip,[.cell 2 6 true])):Sound P f (.dat false JA):=by
 refine Va hc waF hΓ (λargs K hcl hfi hG=>?_);match args,hG with
 | [a],hG=>
  obtain⟨p,rfl,wp,hl,hvp,hK⟩:=hG;refine⟨by simp,?_⟩
  have hl2:al p<=100000000:=Nat.le_trans hl (by decide)
  have s:=uI (av p);have z:=Ju wp;have z1:=zq_1 (av p);have z2:=zq_2 (av p);have i1:((1:Int):Rat)=1:=rfl;have b1:=rz_1;rw [ov_d]at hK;obtain⟨n,hn⟩:∃n,sqQ (av p)=n:=⟨_,rfl⟩;rw [hn]at hK s;have d1:=JaW 1 n;obtain⟨k,hk⟩:∃k,1 / n=k:=⟨_,rfl⟩;rw [hk]at hK d1;have s1:rz n<=1073741824:=by omega
  have d2:rz k<=4294967296:=by omega
  have l1:rz (av p).1<=4294967296:=by omega
  have l2:rz (-(av p).2)<=4294967296:=by rw [wB];omega
  have l3:rz 1<=1073741824:=by omega
  simp only [go_sem,uj,ho,hq,hd,hb,hm,ud,Jb,i1,hn,Yb,hk,barQ];repeat first|refine Ja (by with_reducible assumption) ?_|refine Ja (Nat.le_trans (by with_reducible assumption) (by decide)) ?_|refine Ja (by decide) ?_
  exact hK
theorem waj(hΓ:Holds P Γ){f fo fm:Nat}(ho:Γ fo=.dat false JA)(hm:Γ fm=.dat false Ul)(hc:check P f=some (34,(qg fo fm).strip,[.cell 14 27 true])):Sound P f (.dat false yx):=by
 refine Va hc VaI hΓ (λargs K hcl hfi hG=>?_);match args,hG with
 | [a1,a2,a3,a4,a5,a6,a7],hG=>
  obtain⟨o,rfl,wo,q,rfl,wq,w,rfl,ww,k,rfl,wk,x,rfl,wx,y,rfl,wy,z,rfl,wz,lo,lq,lw,vw,lk,lx,ly,lz,hK⟩:=hG;refine⟨by simp,?_⟩
  simp only [go_sem,qg,ho,hm,ud,rA,Jb];repeat first|refine Ja (by with_reducible assumption) ?_|refine Ja (Nat.le_trans (by with_reducible assumption) (by decide)) ?_|refine Ja (by decide) ?_
  exact hK
theorem YaC(hΓ:Holds P Γ){f fw fq fz ff fg:Nat}(hw' : Γ fw=.dat false UC)(hq:Γ fq=.dat false zD)(hz:Γ fz=.dat true kx)(hf:Γ ff=.dat false Qw)(hg:Γ fg=.dat false yx)(hc:check P f=some (26,(Je fw fq fz ff fg).strip,[.cell 2 27 true,.tmp 3])):Sound P f (.dat false wG):=by
 refine Va hc VaX hΓ (λargs K hcl hfi hG=>?_);match args,hG with
 | [a],hG=>
  obtain⟨c,rfl,hw,hl,h0,hK⟩:=hG;refine⟨by simp,?_⟩
  have hl2:cl c<=1000000:=Nat.le_trans hl (by decide)
  have hcan:=vba hw h0;obtain⟨wo,wQ,w1,w2,w3,w4,w5⟩:=id hw;have hl0:=hl2;unfold cl at hl0;simp only [Nat.max_le]at hl0;obtain⟨l1,l2,l3,l4,l5,l6,l7⟩:=hl0;have hB:=Yai hw hl;have wW:WLA c.2.2.2.2.2:=⟨w4,w5⟩;have lW:al c.2.2.2.2.2<=1000000:=cl_w hl2;have vW:vldR c.2.2.2.2.2.1=true:=(ybd h0).2.2.2.1;have lW2:al c.2.2.2.2.2<=100000000:=Nat.le_trans lW (by decide)
  have aW:av c.2.2.2.2.2=cW (cpv c):=rfl;have s:=uI (cW (cpv c));have zw:zq (cW (cpv c))<=1000:=Nat.max_le.2 ⟨hB.2.2.2.2.2.1,hB.2.2.2.2.2.2⟩;have n1:fiC c=wC (cW (cpv c)):=Zbq h0;rw [n1]at hK;obtain⟨n,hn⟩:∃n,sqQ (cW (cpv c))=n:=⟨_,rfl⟩;rw [hn]at s;have s1:rz n<=10000000:=by omega
  have s2:rz n<=4294967296:=by omega
  by_cases hn0:n=0
  .have e8:wC (cW (cpv c))=8:=if_pos (by rw [hn];exact hn0)
   rw [e8,if_neg (by decide)]at hK
   unfold cqR z27 at hK;simp only [xc]at hK;have dz:=decide_eq_true hn0;simp only [go_sem,Je,hw',hq,hz,cpA,cpC,aA,ud,rA,Jb,aW,hn,Yb,dz];repeat first|refine Ja (by with_reducible assumption) ?_|refine Ja (Nat.le_trans (by with_reducible assumption) (by decide)) ?_|refine Ja (by decide) ?_
   exact hK
  .have e0:wC (cW (cpv c))=0:=if_neg (by rw [hn];exact hn0)
   rw [e0,if_pos rfl]at hK;have dz:=decide_eq_false hn0;obtain⟨D,hD⟩:∃D,foQ (cpv c)=D:=⟨_,rfl⟩;have wD:WLA (rcan D.1,rcan D.2):=Wp D;have lD:al (rcan D.1,rcan D.2)<=1000000:=by
    have:=ybk hB;rw [hD]at this;exact Nat.le_trans this (by decide)
   have e1:canC (fiQ (cpv c))=(c.1,(rcan D.1,rcan D.2),rcan (n*rv c.2.2.2.1),rcan (n*rv c.2.2.1),rcan (n*rv c.2.2.2.2.1),rcan (ovQ (cW (cpv c))).1,rcan (ovQ (cW (cpv c))).2):=by
    have e2:c.1=(rcan (cpv c).1.1,rcan (cpv c).1.2):=by
     have:=congrArg Prod.fst hcan;exact this.symm
    rw [e2,<-hD,<-hn];rfl
   rw [Jbj,e1]at hK;simp only [go_sem,Je,hw',hq,hz,hf,hg,cpA,cpC,aA,ud,rA,Jb,aW,hn,Yb,dz,hD];repeat first|refine Ja (by with_reducible assumption) ?_|refine Ja (Nat.le_trans (by with_reducible assumption) (by decide)) ?_|refine Ja (by decide) ?_
   exact hK
theorem vaE(hΓ:Holds P Γ){f fw fq fz ff fg:Nat}(hw' : Γ fw=.dat false Zw)(hq:Γ fq=.dat false zD)(hz:Γ fz=.dat true kx)(hf:Γ ff=.dat false Qw)(hg:Γ fg=.dat false yx)(hc:check P f=some (26,(Ud fw fq fz ff fg).strip,[.cell 2 27 true,.tmp 3])):Sound P f (.dat false XE):=by
 refine Va hc WaS hΓ (λargs K hcl hfi hG=>?_);match args,hG with
 | [a],hG=>
  obtain⟨c,rfl,hw,hl,h0,hK⟩:=hG;refine⟨by simp,?_⟩
  have hl2:cl c<=1000000:=Nat.le_trans hl (by decide)
  have hl3:cl c<=100000000:=Nat.le_trans hl (by decide)
  have hcan:=vba hw h0;obtain⟨wo,wQ,w1,w2,w3,w4,w5⟩:=id hw;have hl0:=hl2;unfold cl at hl0;simp only [Nat.max_le]at hl0;obtain⟨l1,l2,l3,l4,l5,l6,l7⟩:=hl0;have hB:=Yai hw hl;obtain⟨R,hR⟩:∃R,reQ (cpv c)=R:=⟨_,rfl⟩;have hR' : rsQ (cpv c)=R:=hR;have zr:=kaF hB;rw [hR']at zr;have wW:WLA (rcan R.1,rcan R.2):=Wp R;have vW:vldR (rcan R.1)=true:=Jg _;have lW:al (rcan R.1,rcan R.2)<=1000000:=Nat.le_trans zr (by decide)
  have lW2:al (rcan R.1,rcan R.2)<=100000000:=Nat.le_trans zr (by decide)
  have s:=uI R;have n1:seC c=wC R:=by rw [xbw h0,hR']
  rw [n1]at hK;obtain⟨n,hn⟩:∃n,sqQ R=n:=⟨_,rfl⟩;rw [hn]at s;have s1:rz n<=10000000:=by omega
  have s2:rz n<=4294967296:=by omega
  by_cases hn0:n=0
  .have e8:wC R=8:=if_pos (by rw [hn];exact hn0)
   rw [e8,if_neg (by decide)]at hK
   unfold cqR z27 at hK;simp only [xc]at hK;have dz:=decide_eq_true hn0;simp only [go_sem,Ud,hw',hq,hz,cpA,cpC,aA,ud,rA,Jb,hR,qI,hn,Yb,dz];repeat first|refine Ja (by with_reducible assumption) ?_|refine Ja (Nat.le_trans (by with_reducible assumption) (by decide)) ?_|refine Ja (by decide) ?_
   exact hK
  .have e0:wC R=0:=if_neg (by rw [hn];exact hn0)
   rw [e0,if_pos rfl]at hK;have dz:=decide_eq_false hn0;obtain⟨D,hD⟩:∃D,foQ (cpv c)=D:=⟨_,rfl⟩;have wD:WLA (rcan D.1,rcan D.2):=Wp D;have lD:al (rcan D.1,rcan D.2)<=1000000:=by
    have:=ybk hB;rw [hD]at this;exact Nat.le_trans this (by decide)
   have e1:canC (seQ (cpv c))=(c.2.1,(rcan D.1,rcan D.2),rcan (n*rv c.2.2.2.1),rcan (n*rv c.2.2.2.2.1),rcan (n*rv c.2.2.1),rcan (ovQ R).1,rcan (ovQ R).2):=by
    have e2:c.2.1=(rcan (cpv c).2.1.1,rcan (cpv c).2.1.2):=by
     have:=congrArg (λx:Cp=>x.2.1) hcan;exact this.symm
    rw [e2,<-hD,<-hn,<-hR];rfl
   rw [Jbj,e1]at hK;simp only [go_sem,Ud,hw',hq,hz,hf,hg,cpA,cpC,aA,ud,rA,Jb,hR,qI,hn,Yb,dz,hD];repeat first|refine Ja (by with_reducible assumption) ?_|refine Ja (Nat.le_trans (by with_reducible assumption) (by decide)) ?_|refine Ja (by decide) ?_
   exact hK
theorem wal(hΓ:Holds P Γ){f fi fs:Nat}(hi:Γ fi=.dat false wG)(hs:Γ fs=.dat false XE)(hc:check P f=some (27,(Wd fi fs).strip,[.tmp 2,.tmp 3])):Sound P f (.dat false UA):=by
 refine Va hc UaE hΓ (λargs K hcl hfi hG=>?_);match args,hG with
 | [a],hG=>
  obtain⟨c,rfl,hw,hl,hc0,hK⟩:=hG;refine⟨by simp,?_⟩
  have hcan:=vba hw hc0;by_cases h0:fiC c=0
  .have ea:alC c=seC c:=by unfold alC;rw [if_neg (by omega)]
   by_cases h1:seC c=0
   .rw [ea,h1]at hK;unfold alL at hK;rw [ea,if_pos h1]at hK;simp only [List.map_cons,List.map_nil,hcan]at hK;simp only [go_sem,Wd,hi,hs,cpA,cpC,Jb,h0,h1,cqR];repeat first|refine Ja (by with_reducible assumption) ?_|refine Ja (Nat.le_trans (by with_reducible assumption) (by decide)) ?_|refine Ja (by decide) ?_
    exact hK
   .unfold alL at hK;rw [ea,if_neg h1]at hK;have i1:((seC c:Nat):Int)≠0:=by omega
    simp only [go_sem,Wd,hi,hs,cpA,cpC,Jb,h0,h1,i1,cqR];repeat first|refine Ja (by with_reducible assumption) ?_|refine Ja (Nat.le_trans (by with_reducible assumption) (by decide)) ?_|refine Ja (by decide) ?_
    exact hK
  .have ea:alC c=fiC c:=if_pos h0;unfold alL at hK;rw [ea,if_neg h0]at hK;have i1:((fiC c:Nat):Int)≠0:=by omega
   simp only [go_sem,Wd,hi,cpA,cpC,Jb,h0,i1,cqR];repeat first|refine Ja (by with_reducible assumption) ?_|refine Ja (Nat.le_trans (by with_reducible assumption) (by decide)) ?_|refine Ja (by decide) ?_
   exact hK
theorem zaj(hΓ:Holds P Γ){f fr fe fs ft fa:Nat}(hr:Γ fr=.dat false UC)(he:Γ fe=.dat false Zw)(hs:Γ fs=.dat false Ji)(ht:Γ ft=.dat false Wi)(ha:Γ fa=.dat false Qo)(hc:check P f=some (52,(vj fr fe fs ft fa).strip,[.tmp 6])):Sound P f (.dat false uA):=by
 refine Va hc YaG hΓ (λargs K hcl hfi hG=>?_);match args,hG with
 | [x,y,z],hG=>
  obtain⟨c,rfl,hw,a,rfl,wa,b,rfl,wb,hl,la,lb,va,vb,hK⟩:=hG;refine⟨by simp,?_⟩
  have hl1:cl c<=10000:=Nat.le_trans hl (by decide)
  have hl2:cl c<=100000000:=Nat.le_trans hl (by decide)
  have la2:al a<=100000000:=Nat.le_trans la (by decide)
  have lb2:al b<=100000000:=Nat.le_trans lb (by decide)
  have ca:(rcan (av a).1,rcan (av a).2)=a:=Qar wa va;have cb' : (rcan (av b).1,rcan (av b).2)=b:=Qar wb vb;have wW:WLA c.2.2.2.2.2:=⟨hw.2.2.2.2.2.1,hw.2.2.2.2.2.2⟩;have l6:al c.2.2.2.2.2<=100000000:=Nat.le_trans (cl_w hl) (by decide)
  have wo:=hw.1;have wQ:=hw.2.1;have hB:=Yai hw hl;have zo:zq (av c.1)<=1000:=hB.1;have zQ:zq (av c.2.1)<=1000:=hB.2.1;have za:=Nat.le_trans (Ju wa) la;have zb:=Nat.le_trans (Ju wb) lb;have lo:al c.1<=100000000:=Nat.le_trans (Nat.le_max_left _ _) hl2;have lq:al c.2.1<=100000000:=Nat.le_trans (Nat.le_max_left _ _) (Nat.le_trans (Nat.le_max_right _ _) hl2);have zw:zq (av c.2.2.2.2.2)<=1000:=Nat.max_le.2 ⟨hB.2.2.2.2.2.1,hB.2.2.2.2.2.2⟩;obtain⟨R,hR⟩:∃R,reQ (cpv c)=R:=⟨_,rfl⟩;have zR:=kaF hB;have eR:rsQ (cpv c)=R:=hR;rw [eR]at zR;obtain⟨W,hW⟩:∃W,av c.2.2.2.2.2=W:=⟨_,rfl⟩;have eW:cW (cpv c)=W:=hW;rw [hW]at zw;obtain⟨Z,hZ⟩:∃Z,subQ (av b) (av a)=Z:=⟨_,rfl⟩;have zZ:zq Z<=3000:=by rw [<-hZ];exact Nat.le_trans (Xl _ _) (by omega)
  obtain⟨T,hT⟩:∃T,timesQ W Z=T:=⟨_,rfl⟩;have zT:zq T<=10000:=by rw [<-hT];exact Nat.le_trans (Vw _ _) (by omega)
  obtain⟨T2,hT2⟩:∃T,timesQ R Z=T:=⟨_,rfl⟩;have zT2:zq T2<=10000:=by rw [<-hT2];exact Nat.le_trans (Vw _ _) (by omega)
  obtain⟨F,hF⟩:∃F,addQ (av c.1) T=F:=⟨_,rfl⟩;have zF:zq F<=20000:=by rw [<-hF];exact Nat.le_trans (YR _ _) (by omega)
  obtain⟨G,hG⟩:∃G,subQ (av c.2.1) T2=G:=⟨_,rfl⟩;have zG:zq G<=20000:=by rw [<-hG];exact Nat.le_trans (Xl _ _) (by omega)
  obtain⟨A,hA⟩:∃A,subQ (av a) (av c.1)=A:=⟨_,rfl⟩;have zA:zq A<=3000:=by rw [<-hA];exact Nat.le_trans (Xl _ _) (by omega)
  obtain⟨B,hB0⟩:∃B,subQ (av b) (av c.2.1)=B:=⟨_,rfl⟩;have zB:zq B<=3000:=by rw [<-hB0];exact Nat.le_trans (Xl _ _) (by omega)
  obtain⟨TA,hTA⟩:∃T,timesQ W A=T:=⟨_,rfl⟩;have zTA:zq TA<=10000:=by rw [<-hTA];exact Nat.le_trans (Vw _ _) (by omega)
  obtain⟨TB,hTB⟩:∃T,timesQ R B=T:=⟨_,rfl⟩;have zTB:zq TB<=10000:=by rw [<-hTB];exact Nat.le_trans (Vw _ _) (by omega)
  have eL:enL (cpv c) (av a) (av b)=[av a,av b,F,addQ F TA,G,addQ G TB]:=by
   rw [<-hTA,<-hTB,<-hA,<-hB0,<-hF,<-hG,<-hT,<-hT2,<-hZ,<-hW,<-hR];rfl
  rw [eL]at hK;simp only [List.map_cons,List.map_nil]at hK;have cw:∀X:V2,WLA (rcan X.1,rcan X.2):=λX=>Wp X;have w1:=cw R;have w3:=cw Z;have w4:=cw T;have w5:=cw T2;have w6:=cw F;have w7:=cw G;have w8:=cw A;have w9:=cw B;have w10:=cw TA;have w11:=cw TB;have k1:al (rcan R.1,rcan R.2)<=100000000:=Nat.le_trans zR (by decide)
  have k3:al (rcan Z.1,rcan Z.2)<=100000000:=Nat.le_trans zZ (by decide)
  have k4:al (rcan T.1,rcan T.2)<=100000000:=Nat.le_trans zT (by decide)
  have k5:al (rcan T2.1,rcan T2.2)<=100000000:=Nat.le_trans zT2 (by decide)
  have k6:al (rcan F.1,rcan F.2)<=100000000:=Nat.le_trans zF (by decide)
  have k7:al (rcan G.1,rcan G.2)<=100000000:=Nat.le_trans zG (by decide)
  have k8:al (rcan A.1,rcan A.2)<=100000000:=Nat.le_trans zA (by decide)
  have k9:al (rcan B.1,rcan B.2)<=100000000:=Nat.le_trans zB (by decide)
  have k10:al (rcan TA.1,rcan TA.2)<=100000000:=Nat.le_trans zTA (by decide)
  have k11:al (rcan TB.1,rcan TB.2)<=100000000:=Nat.le_trans zTB (by decide)
  rw [ca,cb']at hK;simp only [go_sem,vj,hs,hr,he,ht,ha,cpA,cpC,aA,ud,Jb,hR,hW,hZ,qI,hT,hT2,hF,hG,hA,hB0,hTA,hTB];repeat first|refine Ja (by with_reducible assumption) ?_|refine Ja (Nat.le_trans (by with_reducible assumption) (by decide)) ?_|refine Ja (by decide) ?_
  exact hK
end Go.Abs
end
section
namespace Go.Num
open Go.Abs
end Go.Num
namespace Go.Abs
open Go.Num
variable {P:Program} {Γ:Nat->Spec}
theorem wbC(c:Cp):cpA c=.agg (cpC c):=eq_of_heq (HEq.refl _)
theorem Vbi(k:Cp->Prop)(c:Cp):onCp k (.agg (cpC c))=(WLC c/\k c):=Qp JaN (λc=>WLC c/\k c) c
theorem zam(c:Cp):(cpC c).length=27:=eq_of_heq (HEq.refl _)
theorem Vaq(c:Cp):(cpC c).take 27=cpC c:=List.take_of_length_le (Nat.le_of_eq (zam c))
theorem jar(c:Cp):(cpC c).drop 0=cpC c:=eq_of_heq (HEq.refl _)
theorem WaV(h:Nat->HB)(c:Cp):(cpC c).map (datC h)=cpC c:=eq_of_heq (HEq.refl _)
theorem yaO(c:Cp):(cpC c).flatMap ownC=[]:=eq_of_heq (HEq.refl _)
theorem gE1x(K:List C->Prop)(e0 e1:List C)(r:List (List C)):getE K (e0::e1::r) 1=K e1:=by simp [getE]
theorem gE2x(K:List C->Prop)(e0 e1 e2:List C)(r:List (List C)):getE K (e0::e1::e2::r) 2=K e2:=by simp [getE]
theorem gE3x(K:List C->Prop)(e0 e1 e2 e3:List C)(r:List (List C)):getE K (e0::e1::e2::e3::r) 3=K e3:=by simp [getE]
theorem gE4x(K:List C->Prop)(e0 e1 e2 e3 e4:List C)(r:List (List C)):getE K (e0::e1::e2::e3::e4::r) 4=K e4:=by simp [getE]
theorem gE5x(K:List C->Prop)(e0 e1 e2 e3 e4 e5:List C)(r:List (List C)):getE K (e0::e1::e2::e3::e4::e5::r) 5=K e5:=by simp [getE]
attribute [go_sem,go_sem ↓] wbC Vbi zam Vaq jar WaV yaO gE1x gE2x gE3x gE4x gE5x
def vO(l:List AV)(K:AV->Prop):Prop:=
 match l with
 | [c]=>onCp (λc=>cl c<=1048576/\K (.one (.lit (.bool true)))) c
 | _=>False
theorem uR(c:AV)(K:AV->Prop):vO [c] K=(onCp (λc=>cl c<=1048576/\K (.one (.lit (.bool true)))) c):=propext Iff.rfl
@[congr] theorem wbu {K:AV->Prop} {l l' : List AV} (h:l=l'):vO l K=vO l' K:=by subst h;rfl
attribute [go_sem,go_sem ↓] uR
end Go.Abs
end
