/-
  Parts of the proof, merged: PoseF, PoseG, PoseH, PoseJ, PoseQ, PoseL.
-/
import Derived.Test.YtegaodlldjpcaaaGreatDoorM7
set_option linter.unusedVariables false
set_option linter.unusedSimpArgs false
set_option maxRecDepth 100000
section
namespace Go.Num
open Go.Abs
def pt(i:Nat)(A:List V2):V2:=A.getD i (0,0)
theorem Jaq(A:List V2)(i:Nat):(A.map acan).getD i a0=acan (pt i A):=by
 unfold pt;rw [List.getD_eq_getElem?_getD,List.getD_eq_getElem?_getD,List.getElem?_map];cases A[i]? with
 | none=>simp only [Option.map_none,Option.getD_none,acan,a0,Xb]
 | some x=>rfl
theorem VaK(a:V2):acan a=(rcan a.1,rcan a.2):=rfl
def ciV(A:List V2):V2:=ciQ (pt 0 A) (subQ (pt 1 A) (pt 0 A)) (subQ (pt 2 A) (pt 0 A))
def crV(A:List V2):Rat:=crossQ (subQ (pt 1 A) (pt 0 A)) (subQ (pt 2 A) (pt 0 A))
def othV(A:List V2):V2:=if pt 0 A=pt 1 A then pt 2 A else pt 1 A
def lnC(A:List V2):Nat:=if pt 0 A=othV A then 8 else if crV A≠0 then 21 else 0
def lnA(A:List V2):Rat:=if lnC A=0 then (pt 0 A).2-(othV A).2 else 0
def lnB(A:List V2):Rat:=if lnC A=0 then (othV A).1-(pt 0 A).1 else 0
def lnK(A:List V2):Rat:=if lnC A=0 then ((pt 0 A).2-(othV A).2)*(pt 0 A).1+((othV A).1-(pt 0 A).1)*(pt 0 A).2 else 0
abbrev DyQ:=V2×V2×Rat
def dl(d:Dy):Nat:=max (al d.1) (max (al d.2.1) (rl d.2.2))
def dvld(d:Dy):Bool:=avld d.1 && (avld d.2.1 && vldR d.2.2)
def d0:DyQ:=((0,0),(0,0),0)
def cenC(l:List Ps)(m:Arc):Nat:=if chkC l [m]≠0 then chkC l [m] else if crV (imgs l m)=0 then 8 else 0
def cenQ(A:List V2)(m:V2):DyQ:=(ciV A,m,sqQ (subQ (pt 0 A) (ciV A)))
def lineC(l:List Ps)(m:Arc):Nat:=if chkC l [m]≠0 then chkC l [m] else lnC (imgs l m)
def psnC(l:List Ps)(d:Dy):Nat:=if plchk l≠0 then plchk l else if dvld d then 0 else 2
def psnB(l:List Ps)(d:Dy):Bool:=(imgs l d.2.1).all λx=>decide (sqQ (subQ x (av d.1))=rv d.2.2)
theorem QbH{l:List Ps}{m:Arc}{b c:Nat}(h:okPs b l)(hw:WLA m)(hm:al m<=c)(i:Nat):zq (pt i (imgs l m))<=9*b+2*c+48:=by
 unfold pt;rw [List.getD_eq_getElem?_getD];unfold imgs;rw [List.getElem?_map];cases hg:l[i]? with
 | none=>
  have:zq (0,0)=0:=by unfold zq;rw [rz_0];rfl
  simp only [Option.map_none,Option.getD_none,this];omega
 | some p=>
  obtain⟨h1,h2⟩:=h p (List.mem_of_getElem? hg);have e:=XaW (pv p) (av m);have e1:rz (pv p).1.1<=rl p.1.1:=yj h1.1;have e2:zq (pv p).2<=al p.2:=wH h1.2;have e3:=wH hw;have e4:rl p.1.1<=b:=Nat.le_trans (Nat.le_max_left _ _) h2;have e5:al p.2<=b:=Nat.le_trans (Nat.le_max_right _ _) h2;simp only [Option.map_some,Option.getD_some];omega
theorem Xa0{l:List Ps}{m:Arc}{b c:Nat}(h:okPs b l)(hw:WLA m)(hm:al m<=c):okAs (9*b+2*c+48) ((imgs l m).map acan):=by
 intro z hz;obtain⟨x,hx,rfl⟩:=List.mem_map.1 hz;obtain⟨i,hi,rfl⟩:=List.mem_iff_getElem.1 hx;refine⟨QB _,?_⟩;have:=QbH h hw hm i;unfold pt at this;rw [List.getD_eq_getElem?_getD,List.getElem?_eq_getElem hi]at this;exact this
theorem VbT{p u v:V2}{b:Nat}(hu:zq u<=b)(hv:zq v<=b):zq (ciQ p u v)<=zq p+14*b+32:=by
 unfold ciQ;split
 .have:zq (0,0)=0:=by unfold zq;rw [rz_0];rfl
  omega
 .have u1:rz u.1<=zq u:=Nat.le_max_left _ _;have u2:rz u.2<=zq u:=Nat.le_max_right _ _;have v1:rz v.1<=zq v:=Nat.le_max_left _ _;have v2:rz v.2<=zq v:=Nat.le_max_right _ _;have p1:rz p.1<=zq p:=Nat.le_max_left _ _;have p2:rz p.2<=zq p:=Nat.le_max_right _ _;have su:=yaE u;have sv:=yaE v;have zc:=qW u v;have zt:=qaZ 2;have zt2:zs 2<=2:=Jad (by decide)
  have e2:(((2:Int)):Rat)=2:=rfl;rw [e2]at zt;have md:=Uc 2 (crossQ u v);have m1:=Uc (sqQ u) v.2;have m2:=Uc (sqQ v) u.2;have m3:=Uc (sqQ v) u.1;have m4:=Uc (sqQ u) v.1;have s1:=VC (sqQ u*v.2) (sqQ v*u.2);have s2:=VC (sqQ v*u.1) (sqQ u*v.1);have d1:=ZQ (sqQ u*v.2-sqQ v*u.2) (2*crossQ u v);have d2:=ZQ (sqQ v*u.1-sqQ u*v.1) (2*crossQ u v);have a1:=Up p.1 ((sqQ u*v.2-sqQ v*u.2) / (2*crossQ u v));have a2:=Up p.2 ((sqQ v*u.1-sqQ u*v.1) / (2*crossQ u v));have g:zq (ctrQ p u v)=max (rz (p.1+(sqQ u*v.2-sqQ v*u.2) / (2*crossQ u v))) (rz (p.2+(sqQ v*u.1-sqQ u*v.1) / (2*crossQ u v))):=rfl;rw [g];exact Nat.max_le.2 ⟨by omega,by omega⟩
theorem Vf{b c:Nat}{l:List Ps}(h:okPs b l)(hb:b<=c):okPs c l:=λp hp=>⟨(h p hp).1,Nat.le_trans (h p hp).2 hb⟩
end Go.Num
namespace Go.Abs
open Go.Num
variable {P:Program} {Γ:Nat->Spec}
def dqA(d:DyQ):AV:=.agg [cb (rcan d.1.1),cn (rcan d.1.1),cd (rcan d.1.1),cb (rcan d.1.2),cn (rcan d.1.2),cd (rcan d.1.2),cb (rcan d.2.1.1),cn (rcan d.2.1.1),cd (rcan d.2.1.1),cb (rcan d.2.1.2),cn (rcan d.2.1.2),cd (rcan d.2.1.2),cb (rcan d.2.2),cn (rcan d.2.2),cd (rcan d.2.2)]
theorem Zbg(d:DyQ):dqA d=.agg [cb (rcan d.1.1),cn (rcan d.1.1),cd (rcan d.1.1),cb (rcan d.1.2),cn (rcan d.1.2),cd (rcan d.1.2),cb (rcan d.2.1.1),cn (rcan d.2.1.1),cd (rcan d.2.1.1),cb (rcan d.2.1.2),cn (rcan d.2.1.2),cd (rcan d.2.1.2),cb (rcan d.2.2),cn (rcan d.2.2),cd (rcan d.2.2)]:=eq_of_heq (HEq.refl _)
attribute [go_sem,go_sem ↓] Zbg
def Xak(tE:Nat)(l:List AV)(K:AV->Prop):Prop:=
 match l with
 | [a,b]=>onPs (λl=>onA (λm=>okPs 1000 l/\al m<=10000/\K (.tup [rQ (if lineC l m=0 then lnA (imgs l m) else 0),rQ (if lineC l m=0 then lnB (imgs l m) else 0),rQ (if lineC l m=0 then lnK (imgs l m) else 0),errV tE (lineC l m)])) b) a
 | _=>False
theorem zaq(tE:Nat)(a b:AV)(K:AV->Prop):Xak tE [a,b] K=(onPs (λl=>onA (λm=>okPs 1000 l/\al m<=10000/\K (.tup [rQ (if lineC l m=0 then lnA (imgs l m) else 0),rQ (if lineC l m=0 then lnB (imgs l m) else 0),rQ (if lineC l m=0 then lnK (imgs l m) else 0),errV tE (lineC l m)])) b) a):=propext Iff.rfl
@[congr] theorem wbL (tE:Nat) {K:AV->Prop} {l l' : List AV} (h:l=l'):Xak tE l K=Xak tE l' K:=by subst h;rfl
attribute [go_sem,go_sem ↓] zaq
def uaf(l:List AV)(K:AV->Prop):Prop:=
 match l with
 | [a,b]=>onPs (λl=>onA (λm=>okPs 1000 l/\al m<=10000/\l.length=3/\K (.tup [rQ (lnA (imgs l m)),rQ (lnB (imgs l m)),rQ (lnK (imgs l m)),.one (.lit (.int .i64 (lnC (imgs l m):Nat)))])) b) a
 | _=>False
theorem xap(a b:AV)(K:AV->Prop):uaf [a,b] K=(onPs (λl=>onA (λm=>okPs 1000 l/\al m<=10000/\l.length=3/\K (.tup [rQ (lnA (imgs l m)),rQ (lnB (imgs l m)),rQ (lnK (imgs l m)),.one (.lit (.int .i64 (lnC (imgs l m):Nat)))])) b) a):=propext Iff.rfl
@[congr] theorem vbK {K:AV->Prop} {l l' : List AV} (h:l=l'):uaf l K=uaf l' K:=by subst h;rfl
attribute [go_sem,go_sem ↓] xap
def wJ(tE:Nat)(l:List AV)(K:AV->Prop):Prop:=
 match l with
 | [a,b]=>onPs (λl=>onA (λm=>okPs 1000 l/\al m<=10000/\K (.tup [dqA (if cenC l m=0 then cenQ (imgs l m) (av m) else d0),errV tE (cenC l m)])) b) a
 | _=>False
theorem zT(tE:Nat)(a b:AV)(K:AV->Prop):wJ tE [a,b] K=(onPs (λl=>onA (λm=>okPs 1000 l/\al m<=10000/\K (.tup [dqA (if cenC l m=0 then cenQ (imgs l m) (av m) else d0),errV tE (cenC l m)])) b) a):=propext Iff.rfl
@[congr] theorem kbu (tE:Nat) {K:AV->Prop} {l l' : List AV} (h:l=l'):wJ tE l K=wJ tE l' K:=by subst h;rfl
attribute [go_sem,go_sem ↓] zT
def Yl(tE:Nat)(l:List AV)(K:AV->Prop):Prop:=
 match l with
 | [a,b]=>onPs (λl=>onDy (λd=>okPs 1000 l/\dl d<=100000/\K (.tup [.one (.lit (.bool (decide (psnC l d=0) && psnB l d))),errV tE (psnC l d)])) b) a
 | _=>False
theorem uP(tE:Nat)(a b:AV)(K:AV->Prop):Yl tE [a,b] K=(onPs (λl=>onDy (λd=>okPs 1000 l/\dl d<=100000/\K (.tup [.one (.lit (.bool (decide (psnC l d=0) && psnB l d))),errV tE (psnC l d)])) b) a):=propext Iff.rfl
@[congr] theorem vbu (tE:Nat) {K:AV->Prop} {l l' : List AV} (h:l=l'):Yl tE l K=Yl tE l' K:=by subst h;rfl
attribute [go_sem,go_sem ↓] uP
theorem Qac(tE:Nat):Good (Yl tE):=Wa λas=>by
 unfold Yl;split
 .exact(qA λ_=>(wbD λ_=>(.and λ_=>(.and λ_=>(.ret _)))))
 .exact .of λK hk=>hk.elim
def zd(f0 f1 f2 f3 f4 f5 f6 tE:Nat):AC:=(.seq (.ops false [.u 3 (.box 15 (.t 1)),.m 4 .fa,.m 5 (.c (.one (.lit .nilIface)))])
 (.fg [0,3] (.seq (.seq (.ops false [.m 11 (.t 0),.u 12 (.call f0 [(.t 11)]),.m 6 (.t 12)])
 (.fg [0,3,6] (.seq (.ops false [.m 13 (.t 6),.u 14 (.binn .neq (.t 13) (.c (.one (.lit .nilIface))))])
 (.fg [0,3,6,14] (.cond (.t 14) (.seq (.ops false [.m 15 (.t 6),.m 4 .fa,.m 5 (.t 15)])
 .ret) .skip)))))
 (.fg [0,3] (.seq (.seq (.ops false [.u 16 (.fa 0 (.t 3)),.u 17 (.ld none 6 true (.t 16)),.u 18 (.call f1 [(.t 17)]),.u 19 (.un .not (.t 18)),.m 20 (.t 19),.w 21 20 false (.fa 6 (.t 3)),.w 22 20 false (.ld none 6 true (.t 21)),.w 23 20 false (.call f1 [(.t 22)]),.w 24 20 false (.un .not (.t 23)),.u 25 (.pick (.t 20) .tr (.t 24)),.m 26 (.t 25),.w 27 26 false (.fa 12 (.t 3)),.w 28 26 false (.ld none 3 true (.t 27)),.w 29 26 false (.call f2 [(.t 28)]),.w 30 26 false (.un .not (.t 29)),.u 31 (.pick (.t 26) .tr (.t 30))])
 (.fg [0,3,31] (.cond (.t 31) (.seq (.ops false [.u 32 (.iface tE (.i 2)),.m 4 .fa,.m 5 (.t 32)])
 .ret) .skip)))
 (.fg [0,3] (.seq (.ops false [.m 34 (.t 0),.u 35 (.fa 6 (.t 3)),.u 36 (.ld none 6 true (.t 35)),.u 37 (.call f3 [(.t 34),(.t 36)]),.m 33 (.t 37),.u 38 (.ext 0 (.t 33)),.u 39 (.ext 1 (.t 33)),.m 7 (.t 38),.m 8 (.t 39)])
 (.fg [3,7,8] (.seq (.seq (.ops false [.m 40 (.t 8),.u 41 (.binn .neq (.t 40) (.c (.one (.lit .nilIface))))])
 (.fg [3,7,8,41] (.cond (.t 41) (.seq (.ops false [.m 42 (.t 8),.m 4 .fa,.m 5 (.t 42)])
 .ret) .skip)))
 (.fg [3,7] (.seq (.seq (.ops false [.m 43 (.t 7),.u 44 (.len (.t 43)),.m 45 (.i 0)])
 (.fg [3,43,44,45] (.block 0 (.loop (.seq (.ops false [.u 46 (.bin .lss (.t 45) (.t 44))])
 (.fg [3,43,44,45,46] (.seq (.cond (.t 46) .skip (.exit 0))
 (.fg [3,43,44,45] (.seq (.block 1 (.seq (.ops false [.u 47 (.idx 6 (.t 43) (.t 45)),.u 48 (.ld none 6 true (.t 47)),.u 10 (.alloc [(.lit (.bool false)),.emp,.emp,(.lit (.bool false)),.emp,.emp]),.n (.st none 6 (.t 10) (.t 48))])
 (.fg [3,10,43,44,45] (.seq (.ops true [.u 49 (.ld none 6 true (.t 10)),.u 50 (.fa 0 (.t 3)),.u 51 (.ld none 6 true (.t 50)),.u 52 (.call f4 [(.t 49),(.t 51)]),.u 53 (.call f5 [(.t 52)]),.u 54 (.fa 12 (.t 3)),.u 55 (.ld none 3 true (.t 54)),.u 56 (.call f6 [(.t 53),(.t 55)]),.u 57 (.bin .neq (.t 56) (.i 0))])
 (.fg [3,43,44,45,57] (.cond (.t 57) (.seq (.ops false [.m 4 .fa,.m 5 (.c (.one (.lit .nilIface)))])
 .ret) .skip))))))
 (.fg [3,43,44,45] (.ops false [.u 58 (.bin .add (.t 45) (.i 1)),.m 45 (.t 58)])))))))))))
 (.fg [] (.seq (.ops false [.m 4 .tr,.m 5 (.c (.one (.lit .nilIface)))])
 .ret)))))))))))))
theorem qak(hΓ:Holds P Γ){f fp fm fc:Nat}(hp:Γ fp=.dat false ke)(hm:Γ fm=.dat false ZA)(hc' : Γ fc=.dat true zB)(hc:check P f=some (26,(Wt fp fm fc).strip,[.tmp 4])):Sound P f (.dat true Qq):=by
 refine ka hc uak hΓ (λargs K hcl hfi hG=>?_);match args,hG with
 | [a,b],hG=>
  obtain⟨x,rfl,hx,y,rfl,hy,hl,hl',hK⟩:=hG;refine⟨by simp,?_⟩
  simp only [go_sem,Wt,hp,hm,hc',hx,hy];have n1:=XF hx;have d1:=zH hx;have n2:=XF hy;have d2:=zH hy;rw [<-waO];exact⟨by omega,by omega,by omega,by omega,by omega,by omega,hK⟩
theorem YbF{h h' : Nat->HB}{z:Nat}{b:Bool}{d:Dy}:okB h h' (some ⟨[dC d],z,b⟩) (some ⟨[dC d],z,b⟩):=
 ⟨⟨rfl,rfl⟩,.inl ⟨rfl,λe he c hc=>by
  rw [List.mem_singleton.1 he]at hc;simp only [dC,List.mem_cons,List.not_mem_nil,or_false]at hc;rcases hc with rfl|rfl|rfl|rfl|rfl|rfl|rfl|rfl|rfl|rfl|rfl|rfl|rfl|rfl|rfl
  all_goals first|exact of_eq_true (vj _)|exact of_eq_true (qj _)|exact of_eq_true (Qj _)⟩⟩
theorem kY(hΓ:Holds P Γ){f fk fv fw fi fs fq fc tE:Nat}(hk:Γ fk=.dat false (UC tE))(hv:Γ fv=.dat true vd)(hw:Γ fw=.dat true wd)(hi:Γ fi=.dat false (qy tE))(hs:Γ fs=.dat false Zm)(hq' : Γ fq=.dat false vH)(hcm:Γ fc=.dat true Qq)(hc:check P f=some (59,(zd fk fv fw fi fs fq fc tE).strip,[.tmp 4,.tmp 5])):Sound P f (.dat false (Yl tE)):=by
 refine ka hc (Qac tE) hΓ (λargs K hcl hfi hG=>?_);match args,hG with
 | [a,b],hG=>
  obtain⟨l,rfl,hwl,d,rfl,hwd,hok,hd,hK⟩:=hG;refine⟨by simp,?_⟩
  obtain⟨c,m,r⟩:=d;obtain⟨hwc,hwm,hwr⟩:=hwd;have dc:al c<=100000:=Nat.le_trans (Nat.le_max_left _ _) hd;have dm:al m<=100000:=Nat.le_trans (Nat.le_trans (Nat.le_max_left _ _) (Nat.le_max_right _ _)) hd;have dr:rl r<=100000:=Nat.le_trans (Nat.le_trans (Nat.le_max_right _ _) (Nat.le_max_right _ _)) hd;simp only at hwc hwm hwr;have ok1:=Vf hok (by decide:1000<=100000000)
  have ok2:=Vf hok (by decide:1000<=1000000)
  by_cases h0:plchk l=0
  .cases hdv:dvld (c,m,r) with
   | false=>
    have ec:psnC l (c,m,r)=2:=by unfold psnC;rw [if_neg (by omega),hdv,if_neg (by decide)]
    rw [ec,ub tE (by decide)]at hK
    have p0:decide (2=0)=false:=rfl;rw [p0,Bool.false_and]at hK;unfold dvld at hdv;simp only at hdv;cases h1:avld c with
    | false=>
     simp only [go_sem,zd,hk,hv,hw,h0,kb,dA,dC,Jb,h1];repeat first|refine Va (by omega) ?_|refine Va (by assumption) ?_|refine Va rfl ?_|refine Va ⟨rfl,by omega⟩ ?_|refine Va ⟨rfl,by omega,by omega⟩ ?_|intro _
     exact hK
    | true=>
     cases h2:avld m with
     | false=>
      simp only [go_sem,zd,hk,hv,hw,h0,kb,dA,dC,Jb,h1,h2];repeat first|refine Va (by omega) ?_|refine Va (by assumption) ?_|refine Va rfl ?_|refine Va ⟨rfl,by omega⟩ ?_|refine Va ⟨rfl,by omega,by omega⟩ ?_|intro _
      exact hK
     | true=>
      have h4:vldR r=false:=by rw [h1,h2,Bool.true_and,Bool.true_and]at hdv;exact hdv
      simp only [go_sem,zd,hk,hv,hw,h0,kb,dA,dC,Jb,h1,h2,h4];repeat first|refine Va (by omega) ?_|refine Va (by assumption) ?_|refine Va rfl ?_|refine Va ⟨rfl,by omega⟩ ?_|refine Va ⟨rfl,by omega,by omega⟩ ?_|intro _
      exact hK
   | true=>
    have ec:psnC l (c,m,r)=0:=by unfold psnC;rw [if_neg (by omega),hdv,if_pos rfl]
    have p0:decide (0=0)=true:=rfl;rw [ec,p0,Bool.true_and,kb]at hK;unfold dvld at hdv;simp only [Bool.and_eq_true]at hdv;obtain⟨h1,h2,h4⟩:=hdv;have hall:l.all pvld=true:=by
     unfold plchk at h0;repeat' split at h0
     all_goals first|contradiction|assumption
    have hi0:imgC l m=0:=by
     unfold imgC;rw [if_pos];rw [List.all_eq_true]at hall ⊢;intro p hp;simp only [aok,hall p hp,h2,Bool.and_self]
    have hlen:l.length<=5:=by
     unfold plchk at h0;repeat' split at h0
     all_goals first|contradiction|omega
    have hA:=Xa0 hok hwm dm;have hla:=xW l m;have hzz:=QbH hok hwm dm;have hwA:=jbd (imgs l m);unfold psnB at hK;obtain⟨A,hAA⟩:∃A,imgs l m=A:=⟨_,rfl⟩;simp only at hK;rw [hAA]at hK hA hla hzz hwA;have e1:(if imgC l m=0 then A else [])=A:=if_pos hi0
    have dm1:al m<=1000000:=by omega
    have hl1:l.length<=100000:=by omega
    simp only [go_sem,zd,hk,hv,hw,hi,h0,kb,dA,dC,Jb,h1,h2,h4,hi0,hAA,e1];repeat first|refine Va (by omega) ?_|refine Va (by assumption) ?_|refine Va rfl ?_|refine Va ⟨rfl,by omega⟩ ?_|refine Va ⟨rfl,by omega,by omega⟩ ?_|intro _
    refine Ya (λk:Nat=>⟨mkV [(3,.one (.ptr 3 1 0 0)),(43,qsA A),(44,.one (.lit (.int .i64 (A.map acan).length))),(45,.one (.lit (.int .i64 k)))],mkH [(3,⟨1,some ⟨[dC (c,m,r)],15,true⟩⟩)]⟩) (λk=>k<=A.length/\(A.take k).all (λx=>decide (sqQ (subQ x (av c))=rv r))=true) (λk=>A.length-k) 0 ?_ ?_ ?_
    .exact ja (by simp [okS,okV,okC,okL,okH,okB,okE,Qa,va,qa,Ja,wsA,ws,qsA]) ⟨YbF (d:=(c,m,r)),trivial⟩
    .exact⟨Nat.zero_le _,rfl⟩
    .rintro k ⟨hkl,hal⟩;by_cases hlt:k<A.length
     .have hx0:A[k]?=some (pt k A):=uu hlt rfl;have hzx:=hzz k;obtain⟨x,hx⟩:∃x,pt k A=x:=⟨_,rfl⟩;rw [hx]at hx0 hzx;have c1:al (rcan x.1,rcan x.2)=zq x:=rfl;have c2:al (rcan (subQ x (av c)).1,rcan (subQ x (av c)).2)=zq (subQ x (av c)):=rfl;have c3:=qx x (av c);have c4:=wH hwc;have c5:=yaE (subQ x (av c));cases hb:decide (sqQ (subQ x (av c))=rv r) with
      | true=>
       have ho:ordQ (sqQ (subQ x (av c))) (rv r)=0:=km.2 (of_decide_eq_true hb);simp only [go_sem,hs,hq',hcm,hlt,dC,List.length_map,Jaq,VaK,xba,Yb,Jb,hx,c1,c2,ho,yb];repeat first|refine Va (by omega) ?_|refine Va (by assumption) ?_|refine Va rfl ?_|refine Va ⟨rfl,by omega⟩ ?_|refine Va ⟨rfl,by omega,by omega⟩ ?_|intro _
       exact⟨k+1,ja (by simp [okS,okV,okC,okL,okH,okB,okE,Qa,va,qa,Ja,wsA,ws]) ⟨YbF (d:=(c,m,r)),trivial⟩,⟨by omega,yu hx0 hal hb⟩,by omega⟩
      | false=>
       have ho:¬ordQ (sqQ (subQ x (av c))) (rv r)=0:=λh=>of_decide_eq_false hb (km.1 h);rw [kaj hx0 hb]at hK;simp only [go_sem,hs,hq',hcm,hlt,dC,List.length_map,Jaq,VaK,xba,Yb,Jb,hx,c1,c2,ho,yb];repeat first|refine Va (by omega) ?_|refine Va (by assumption) ?_|refine Va rfl ?_|refine Va ⟨rfl,by omega⟩ ?_|refine Va ⟨rfl,by omega,by omega⟩ ?_|intro _
       exact hK
     .rw [List.take_of_length_le (by omega)]at hal
      rw [hal]at hK;simp only [go_sem,hlt,List.length_map];exact hK
  .have ec:psnC l (c,m,r)=plchk l:=by unfold psnC;rw [if_pos h0]
   rw [ec,decide_eq_false h0,Bool.false_and,ub tE h0]at hK;simp only [go_sem,zd,hk,ub tE h0,dA,dC];repeat first|refine Va (by omega) ?_|refine Va (by assumption) ?_|refine Va rfl ?_|refine Va ⟨rfl,by omega⟩ ?_|refine Va ⟨rfl,by omega,by omega⟩ ?_|intro _
   exact hK
end Go.Abs
end
section
namespace Go.Num
open Go.Abs
def exPs:List Ps:=[((rcan 0,false),(rcan 0,rcan 0)),((rcan 0,false),(rcan 2,rcan 0)),((rcan 0,true),(rcan 2,rcan 2))]
def o2:Arc:=(rcan 0,rcan 0)
theorem rz_2:rz 2<=2:=by
 have zt:=qaZ 2;have zt2:zs 2<=2:=Jad (by decide)
 have e2:(((2:Int)):Rat)=2:=rfl;rw [e2]at zt;omega
end Go.Num
namespace Go.Abs
open Go.Num
variable {P:Program} {Γ:Nat->Spec}
def JaU(l:List AV)(K:AV->Prop):Prop:=
 match l with
 | []=>K (psA exPs)
 | _=>False
theorem ya5(K:AV->Prop):JaU [] K=(K (psA exPs)):=propext Iff.rfl
@[congr] theorem qbM {K:AV->Prop} {l l' : List AV} (h:l=l'):JaU l K=JaU l' K:=by subst h;rfl
attribute [go_sem,go_sem ↓] ya5
def vaj(l:List AV)(K:AV->Prop):Prop:=
 match l with
 | []=>K (.one (.lit (.bool true)))
 | _=>False
theorem Wav(K:AV->Prop):vaj [] K=(K (.one (.lit (.bool true)))):=propext Iff.rfl
@[congr] theorem JbI {K:AV->Prop} {l l' : List AV} (h:l=l'):vaj l K=vaj l' K:=by subst h;rfl
attribute [go_sem,go_sem ↓] Wav
def WY(l:List AV)(K:AV->Prop):Prop:=
 match l with
 | [a,b]=>onPs (λl=>onA (λm=>okPs 1048576 l/\al m<=1048576/\K (.one (.lit (.bool true)))) b) a
 | _=>False
theorem Zaa(a b:AV)(K:AV->Prop):WY [a,b] K=(onPs (λl=>onA (λm=>okPs 1048576 l/\al m<=1048576/\K (.one (.lit (.bool true)))) b) a):=propext Iff.rfl
@[congr] theorem wbC {K:AV->Prop} {l l' : List AV} (h:l=l'):WY l K=WY l' K:=by subst h;rfl
attribute [go_sem,go_sem ↓] Zaa
theorem Ua9{l:List Ps}(hw:∀p∈l,WLP p)(h:l.all sP=true):okPs 2 l:=by
 intro p hp;have hs:=List.all_eq_true.1 h p hp;simp only [sP,Bool.and_eq_true]at hs;exact⟨hw p hp,Nat.max_le.2 ⟨JaP hs.1,Nat.max_le.2 ⟨JaP hs.2.1,JaP hs.2.2⟩⟩⟩
theorem xbc{m:Arc}(h:sA m=true):al m<=2:=by
 simp only [sA,Bool.and_eq_true]at h;exact Nat.max_le.2 ⟨JaP h.1,JaP h.2⟩
end Go.Abs
end
section
namespace Go.Num
open Go.Abs
instance decAR:DecidableEq (Arc×R):=instDecidableEqProd
instance decDy:DecidableEq Dy:=instDecidableEqProd
def dz:Dy:=(((false,[],[]),(false,[],[])),((false,[],[]),(false,[],[])),(false,[],[]))
def cenR(A:List V2)(m:Arc):Dy:=(acan (ciV A),m,rcan (sqQ (subQ (pt 0 A) (ciV A))))
def movR(A:List V2)(m:Arc):Dy:=(m,acan (ciV A),rcan (sqQ (subQ (pt 0 A) (ciV A))))
def pcan(p:PsQ):Ps:=((rcan p.1.1,p.1.2),acan p.2)
theorem U0(p:PsQ):pv (pcan p)=p:=by unfold pv pcan tv;simp only [Yb,Ja5]
def imgsB(l:List Ps)(o:Arc):List V2:=l.map λp=>appQ (invQ (pv p)) (av o)
theorem kaL(p:PsQ):WLP (pcan p):=⟨xn _,QB _⟩
theorem ZbH{p:Ps}{b:Nat}(h:okP b p):okP (10*b+46) (pcan (invQ (pv p))):=by
 refine⟨kaL _,?_⟩;obtain⟨h1,h2⟩:=h;have r1:rz (rv p.1.1)<=rl p.1.1:=yj h1.1;have e1:rl p.1.1<=b:=Nat.le_trans (Nat.le_max_left _ _) h2;have e2:al p.2<=b:=Nat.le_trans (Nat.le_max_right _ _) h2;have r2:=wH h1.2;have z:=Xa4 (backQ (tv p.1)) (negQ (av p.2));have z1:=jbg (av p.2);have z2:rz (backQ (tv p.1)).1=rz (rv p.1.1):=qD _;have e:pl (pcan (invQ (pv p)))=max (rz (backQ (tv p.1)).1) (zq (rotQ (backQ (tv p.1)) (negQ (av p.2)))):=rfl;rw [e];exact Nat.max_le.2 ⟨by omega,by omega⟩
def movC(l:List Ps)(o:Arc):Nat:=if chkC l [o]≠0 then chkC l [o] else if crV (imgsB l o)=0 then 8 else 0
def movQ(A:List V2)(o:V2):DyQ:=(o,ciV A,sqQ (subQ (pt 0 A) (ciV A)))
end Go.Num
namespace Go.Abs
open Go.Num
variable {P:Program} {Γ:Nat->Spec}
def yN(l:List AV)(K:AV->Prop):Prop:=
 match l with
 | [a,b]=>onPs (λl=>onA (λm=>okPs 1000 l/\al m<=10000/\l.length=3/\K (.tup [dA (if crV (imgs l m)=0 then dz else cenR (imgs l m) m),.one (.lit (.int .i64 (if crV (imgs l m)=0 then 8 else 0)))])) b) a
 | _=>False
theorem kQ(a b:AV)(K:AV->Prop):yN [a,b] K=(onPs (λl=>onA (λm=>okPs 1000 l/\al m<=10000/\l.length=3/\K (.tup [dA (if crV (imgs l m)=0 then dz else cenR (imgs l m) m),.one (.lit (.int .i64 (if crV (imgs l m)=0 then 8 else 0)))])) b) a):=propext Iff.rfl
@[congr] theorem zbv {K:AV->Prop} {l l' : List AV} (h:l=l'):yN l K=yN l' K:=by subst h;rfl
attribute [go_sem,go_sem ↓] kQ
def xN(l:List AV)(K:AV->Prop):Prop:=
 match l with
 | [a,b]=>onPs (λl=>onA (λm=>okPs 1000 l/\al m<=10000/\l.length=3/\K (.tup [dA (if crV (imgsB l m)=0 then dz else movR (imgsB l m) m),.one (.lit (.int .i64 (if crV (imgsB l m)=0 then 8 else 0)))])) b) a
 | _=>False
theorem WR(a b:AV)(K:AV->Prop):xN [a,b] K=(onPs (λl=>onA (λm=>okPs 1000 l/\al m<=10000/\l.length=3/\K (.tup [dA (if crV (imgsB l m)=0 then dz else movR (imgsB l m) m),.one (.lit (.int .i64 (if crV (imgsB l m)=0 then 8 else 0)))])) b) a):=propext Iff.rfl
@[congr] theorem Wbu {K:AV->Prop} {l l' : List AV} (h:l=l'):xN l K=xN l' K:=by subst h;rfl
attribute [go_sem,go_sem ↓] WR
def qM(tE:Nat)(l:List AV)(K:AV->Prop):Prop:=
 match l with
 | [a,b]=>onPs (λl=>onA (λm=>okPs 1000 l/\al m<=10000/\K (.tup [dqA (if movC l m=0 then movQ (imgsB l m) (av m) else d0),errV tE (movC l m)])) b) a
 | _=>False
theorem XT(tE:Nat)(a b:AV)(K:AV->Prop):qM tE [a,b] K=(onPs (λl=>onA (λm=>okPs 1000 l/\al m<=10000/\K (.tup [dqA (if movC l m=0 then movQ (imgsB l m) (av m) else d0),errV tE (movC l m)])) b) a):=propext Iff.rfl
@[congr] theorem ubu (tE:Nat) {K:AV->Prop} {l l' : List AV} (h:l=l'):qM tE l K=qM tE l' K:=by subst h;rfl
attribute [go_sem,go_sem ↓] XT
def uN(l:List AV)(K:AV->Prop):Prop:=
 match l with
 | [a,b]=>onPs (λl=>onDy (λd=>okPs 1000 l/\dl d<=100000/\l.length<=1000/\K (.one (.lit (.bool (psnB l d))))) b) a
 | _=>False
theorem JS(a b:AV)(K:AV->Prop):uN [a,b] K=(onPs (λl=>onDy (λd=>okPs 1000 l/\dl d<=100000/\l.length<=1000/\K (.one (.lit (.bool (psnB l d))))) b) a):=propext Iff.rfl
@[congr] theorem Xbu {K:AV->Prop} {l l' : List AV} (h:l=l'):uN l K=uN l' K:=by subst h;rfl
attribute [go_sem,go_sem ↓] JS
def Wam(l:List AV)(K:AV->Prop):Prop:=
 match l with
 | [a]=>onDy (λd=>dl d<=100000/\K (.one (.lit (.bool (dvld d))))) a
 | _=>False
theorem Zau(a:AV)(K:AV->Prop):Wam [a] K=(onDy (λd=>dl d<=100000/\K (.one (.lit (.bool (dvld d))))) a):=propext Iff.rfl
@[congr] theorem wbI {K:AV->Prop} {l l' : List AV} (h:l=l'):Wam l K=Wam l' K:=by subst h;rfl
attribute [go_sem,go_sem ↓] Zau
def WM(l:List AV)(K:AV->Prop):Prop:=
 match l with
 | [a]=>onDy (λd=>dl d<=4294967296/\K (.one (.lit (.bool (sA d.1 && (sA d.2.1 && sR 4 d.2.2)))))) a
 | _=>False
theorem qS(a:AV)(K:AV->Prop):WM [a] K=(onDy (λd=>dl d<=4294967296/\K (.one (.lit (.bool (sA d.1 && (sA d.2.1 && sR 4 d.2.2)))))) a):=propext Iff.rfl
@[congr] theorem Ybu {K:AV->Prop} {l l' : List AV} (h:l=l'):WM l K=WM l' K:=by subst h;rfl
attribute [go_sem,go_sem ↓] qS
def yU(l:List AV)(K:AV->Prop):Prop:=
 match l with
 | [a,b]=>onDy (λd=>onDy (λe=>dl d<=4294967296/\K (.one (.lit (.bool (decide (d=e)))))) b) a
 | _=>False
theorem Vab(a b:AV)(K:AV->Prop):yU [a,b] K=(onDy (λd=>onDy (λe=>dl d<=4294967296/\K (.one (.lit (.bool (decide (d=e)))))) b) a):=propext Iff.rfl
@[congr] theorem Xbw {K:AV->Prop} {l l' : List AV} (h:l=l'):yU l K=yU l' K:=by subst h;rfl
attribute [go_sem,go_sem ↓] Vab
end Go.Abs
end
section
namespace Go.Num
open Go.Abs
theorem ybw{m:Arc}(hw:WLA m)(h:avld m=true):(rcan (av m).1,rcan (av m).2)=m:=by
 unfold avld at h;rw [Bool.and_eq_true]at h;exact Prod.ext (Qz hw.1 h.1) (Qz hw.2 h.2)
end Go.Num
namespace Go.Abs
open Go.Num
variable {P:Program} {Γ:Nat->Spec}
def XV(l:List AV)(K:AV->Prop):Prop:=
 match l with
 | [a,b]=>onPs (λl=>onA (λm=>okPs 1048576 l/\al m<=1048576/\K (.one (.lit (.bool true)))) b) a
 | _=>False
theorem J6(a b:AV)(K:AV->Prop):XV [a,b] K=(onPs (λl=>onA (λm=>okPs 1048576 l/\al m<=1048576/\K (.one (.lit (.bool true)))) b) a):=propext Iff.rfl
@[congr] theorem Qbx {K:AV->Prop} {l l' : List AV} (h:l=l'):XV l K=XV l' K:=by subst h;rfl
attribute [go_sem,go_sem ↓] J6
end Go.Abs
end
section
namespace Go.Num
open Go.Abs
theorem VbB(t:TnQ):cosQ t*cosQ t+sinQ t*sinQ t=1:=by
 unfold cosQ sinQ;by_cases h:t.2=true
 .rw [if_pos h,if_pos h];grind
 .rw [if_neg h,if_neg h];have hd:=Qbu t.1;obtain⟨x,hx⟩:∃x,t.1=x:=⟨_,rfl⟩;rw [hx]at hd ⊢;obtain⟨d,hdd⟩:∃d,1+x*x=d:=⟨_,rfl⟩;rw [hdd]at hd ⊢;have e:(1-x*x)*(1-x*x)+(x+x)*(x+x)=d*d:=by grind
  simp only [Rat.div_def];have hi:d*d⁻¹=1:=Rat.mul_inv_cancel d hd;obtain⟨i,hii⟩:∃i,d⁻¹=i:=⟨_,rfl⟩;rw [hii]at hi ⊢;grind
theorem Za8(t:TnQ):cosQ (backQ t)=cosQ t:=by
 have e:∀x:Rat,-x * -x=x*x:=λx=>by grind
 unfold cosQ backQ;simp only [e]
theorem jbb(t:TnQ):sinQ (backQ t) = -sinQ t:=by
 unfold sinQ backQ;simp only;split
 .grind
 .have e:-t.1 * -t.1=t.1*t.1:=by grind
  rw [e,Rat.div_def,Rat.div_def];grind
theorem zJ(p:PsQ)(m c:V2):sqQ (subQ (appQ (invQ p) c) m)=sqQ (subQ (appQ p m) c):=by
 have h:=VbB p.1;unfold appQ invQ rotQ addQ subQ negQ sqQ;simp only [Za8,jbb];obtain⟨C,hC⟩:∃C,cosQ p.1=C:=⟨_,rfl⟩;obtain⟨S,hS⟩:∃S,sinQ p.1=S:=⟨_,rfl⟩;rw [hC,hS]at h;rw [hC,hS];obtain⟨a,b⟩:=p.2;obtain⟨c1,c2⟩:=c;obtain⟨m1,m2⟩:=m;simp only;grind
theorem YbD{x y z:V2}(h:crossQ (subQ y x) (subQ z x)≠0):sqQ (subQ y (ctrQ x (subQ y x) (subQ z x)))=sqQ (subQ x (ctrQ x (subQ y x) (subQ z x)))/\sqQ (subQ z (ctrQ x (subQ y x) (subQ z x)))=sqQ (subQ x (ctrQ x (subQ y x) (subQ z x))):=by
 have hd:2*crossQ (subQ y x) (subQ z x)≠0:=by intro e;exact h (by grind)
 obtain⟨u,hu⟩:∃u,subQ y x=u:=⟨_,rfl⟩;obtain⟨v,hv⟩:∃v,subQ z x=v:=⟨_,rfl⟩;have ey:y=addQ x u:=by rw [<-hu];unfold addQ subQ;exact Prod.ext (by grind) (by grind)
 have ez:z=addQ x v:=by rw [<-hv];unfold addQ subQ;exact Prod.ext (by grind) (by grind)
 rw [hu,hv]at hd ⊢;rw [ey,ez];obtain⟨a,ha⟩:∃a,(sqQ u*v.2-sqQ v*u.2) / (2*crossQ u v)=a:=⟨_,rfl⟩;obtain⟨b,hb⟩:∃b,(sqQ v*u.1-sqQ u*v.1) / (2*crossQ u v)=b:=⟨_,rfl⟩;have ea:sqQ u*v.2-sqQ v*u.2=a*(2*crossQ u v):=by
  rw [<-ha,Rat.div_def,Rat.mul_assoc,Rat.inv_mul_cancel _ hd,Rat.mul_one]
 have eb:sqQ v*u.1-sqQ u*v.1=b*(2*crossQ u v):=by
  rw [<-hb,Rat.div_def,Rat.mul_assoc,Rat.inv_mul_cancel _ hd,Rat.mul_one]
 have ec:ctrQ x u v=(x.1+a,x.2+b):=by unfold ctrQ;rw [ha,hb]
 rw [ec];obtain⟨u1,u2⟩:=u;obtain⟨v1,v2⟩:=v;obtain⟨x1,x2⟩:=x;unfold addQ subQ sqQ crossQ at *
 simp only at *
 have hne:2*(u1*v2-u2*v1)≠0:=hd;have k1:(2*(u1*v2-u2*v1))*(2*(a*u1+b*u2)-(u1*u1+u2*u2))=0:=by grind
 have k2:(2*(u1*v2-u2*v1))*(2*(a*v1+b*v2)-(v1*v1+v2*v2))=0:=by grind
 have j1:2*(a*u1+b*u2)-(u1*u1+u2*u2)=0:=(Rat.mul_eq_zero.1 k1).resolve_left hne;have j2:2*(a*v1+b*v2)-(v1*v1+v2*v2)=0:=(Rat.mul_eq_zero.1 k2).resolve_left hne;constructor <;> grind
end Go.Num
end
section
namespace Go.Num
open Go.Abs
abbrev P3:=Ps×Ps×Ps
def WL3(t:P3):Prop:=WLP t.1/\WLP t.2.1/\WLP t.2.2
def l3(t:P3):List Ps:=[t.1,t.2.1,t.2.2]
theorem Ua8(a:V2):avld (acan a)=true:=by
 show(vldR (rcan _) && vldR (rcan _))=true;rw [Ui,Ui];rfl
end Go.Num
namespace Go.Abs
open Go.Num
variable {P:Program} {Γ:Nat->Spec}
def p3C(t:P3):List C:=pC t.1++pC t.2.1++pC t.2.2
def p3A(t:P3):AV:=.agg (p3C t)
def onP3(k:P3->Prop)(a:AV):Prop:=onE p3A (λt=>WL3 t/\k t) a
@[congr] theorem ybT {k:P3->Prop} {a a' : AV} (h:a=a'):onP3 k a=onP3 k a':=by subst h;rfl
theorem xa9(t:P3):CleanL (p3C t):=by
 intro c hc;simp only [p3C,List.mem_append]at hc;rcases hc with(hc | hc) | hc
 .exact Wu _ c hc
 .exact Wu _ c hc
 .exact Wu _ c hc
theorem waK(t:P3):(p3C t).length=30:=by simp [p3C,wl]
theorem Xaz(t:P3):(p3C t).drop 0=p3C t:=rfl
theorem qa5(t:P3):(p3C t).take 30=p3C t:=List.take_of_length_le (by rw [waK];decide)
theorem kbF(t:P3):(p3C t).take 10=pC t.1:=by unfold p3C;rw [List.append_assoc,List.take_left' (wl _)]
theorem YbG(t:P3):(p3C t).drop 10=pC t.2.1++pC t.2.2:=by unfold p3C;rw [List.append_assoc,List.drop_left' (wl _)]
theorem Xbx(t:P3):((p3C t).drop 10).take 10=pC t.2.1:=by rw [YbG,List.take_left' (wl _)]
theorem ybA(t:P3):(((p3C t).drop 10).drop 10).take 10=pC t.2.2:=by rw [YbG,List.drop_left' (wl _),List.take_of_length_le (by rw [wl];decide)]
theorem jbi(t:P3)(r:List (List C)):datQ 0 0 (some ⟨p3C t::r,30,true⟩)=.ref (p3C t):=JG [] _ _ _ _ _ ⟨Nat.zero_le _,xa9 t⟩
theorem ybj(k:List Ps->Prop)(p q r:Ps):onPs k (.one (.slice [pC p,pC q,pC r]))=((∀x∈l3 (p,q,r),WLP x)/\k (l3 (p,q,r))):=JJ k (l3 (p,q,r))
theorem wbi(t:P3):p3A t=.agg (p3C t):=eq_of_heq (HEq.refl _)
attribute [go_sem,go_sem ↓] ybj waK Xaz qa5 kbF Xbx ybA jbi wbi
def Uai(l:List AV)(K:AV->Prop):Prop:=
 match l with
 | [a,b]=>onP3 (λt=>onA (λm=>okPs 1048576 (l3 t)/\al m<=1048576/\K (.one (.lit (.bool true)))) b) a
 | _=>False
theorem kav(a b:AV)(K:AV->Prop):Uai [a,b] K=(onP3 (λt=>onA (λm=>okPs 1048576 (l3 t)/\al m<=1048576/\K (.one (.lit (.bool true)))) b) a):=propext Iff.rfl
@[congr] theorem wbK {K:AV->Prop} {l l' : List AV} (h:l=l'):Uai l K=Uai l' K:=by subst h;rfl
attribute [go_sem,go_sem ↓] kav
end Go.Abs
end
