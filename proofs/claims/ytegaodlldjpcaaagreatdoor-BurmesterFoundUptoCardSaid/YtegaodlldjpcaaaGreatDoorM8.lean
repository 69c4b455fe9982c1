/-
  Parts of the proof, merged: PoseF, PoseG, PoseH, PoseJ, PoseQ, PoseL.
-/
import Derived.Test.YtegaodlldjpcaaaGreatDoorM7
set_option linter.unusedVariables false
set_option linter.unusedSimpArgs false
set_option maxRecDepth 100000
section
namespace Go.Num
open Go.Abs
def pt(i:Nat)(A:List V2):V2:=A.getD i (0,0)
theorem ZF(A:List V2)(i:Nat):(A.map acan).getD i a0=acan (pt i A):=by
 unfold pt;rw [List.getD_eq_getElem?_getD,List.getD_eq_getElem?_getD,List.getElem?_map];cases A[i]? with
 | none=>simp only [Option.map_none,Option.getD_none,acan,a0,ub]
 | some x=>rfl
theorem wal(a:V2):acan a=(rcan a.1,rcan a.2):=rfl
def ciV(A:List V2):V2:=ciQ (pt 0 A) (subQ (pt 1 A) (pt 0 A)) (subQ (pt 2 A) (pt 0 A))
def crV(A:List V2):Rat:=crossQ (subQ (pt 1 A) (pt 0 A)) (subQ (pt 2 A) (pt 0 A))
theorem QaJ(A:List V2):ciL (A.map acan)=ciV A:=by unfold ciL ciV;simp only [ZF,Xae]
theorem XaY(A:List V2):crL (A.map acan)=crV A:=by unfold crL crV;simp only [ZF,Xae]
def othV(A:List V2):V2:=if pt 0 A=pt 1 A then pt 2 A else pt 1 A
def lnC(A:List V2):Nat:=if pt 0 A=othV A then 8 else if crV A≠0 then 21 else 0
def lnA(A:List V2):Rat:=if lnC A=0 then (pt 0 A).2-(othV A).2 else 0
def lnB(A:List V2):Rat:=if lnC A=0 then (othV A).1-(pt 0 A).1 else 0
def lnK(A:List V2):Rat:=if lnC A=0 then ((pt 0 A).2-(othV A).2)*(pt 0 A).1+((othV A).1-(pt 0 A).1)*(pt 0 A).2 else 0
abbrev DyQ:=V2×V2×Rat
def dl(d:Dy):Nat:=max (al d.1) (max (al d.2.1) (rl d.2.2))
def dvld(d:Dy):Bool:=avld d.1 && (avld d.2.1 && vldR d.2.2)
def d0:DyQ:=((0,0),(0,0),0)
def cenC(l:List Ps)(m:Arc):Nat:=if chkC l [m]≠0 then chkC l [m] else if crV (imgs l m)=0 then 8 else 0
def cenQ(A:List V2)(m:V2):DyQ:=(ciV A,m,sqQ (subQ (pt 0 A) (ciV A)))
def lineC(l:List Ps)(m:Arc):Nat:=if chkC l [m]≠0 then chkC l [m] else lnC (imgs l m)
def psnC(l:List Ps)(d:Dy):Nat:=if plchk l≠0 then plchk l else if dvld d then 0 else 2
def psnB(l:List Ps)(d:Dy):Bool:=(imgs l d.2.1).all λx=>decide (sqQ (subQ x (av d.1))=rv d.2.2)
theorem YbT{l:List Ps}{m:Arc}(h:chkC l [m]=0):l.length=3/\l.all pvld=true/\avld m=true/\imgC l m=0:=by
 unfold chkC at h;by_cases h1:threeC l=0
 .rw [if_neg (by omega)]at h
  have h2:l.length=3/\l.all pvld=true:=by
   unfold threeC plchk at h1;repeat' split at h1
   all_goals first|contradiction|(try omega)
   rename_i h5;exact⟨by omega,by assumption⟩
  have h3:avld m=true:=by
   unfold placeC at h;split at h
   .rename_i h4;simpa using h4
   .contradiction
  refine⟨h2.1,h2.2,h3,?_⟩;unfold imgC;rw [if_pos];rw [List.all_eq_true]at h2 ⊢;intro p hp;simp only [aok,h2.2 p hp,h3,Bool.and_self]
 .rw [if_pos h1]at h;contradiction
theorem ZaI{l:List Ps}{m:Arc}{b c:Nat}(h:okPs b l)(hw:WLA m)(hm:al m<=c)(i:Nat):zq (pt i (imgs l m))<=9*b+2*c+48:=by
 unfold pt;rw [List.getD_eq_getElem?_getD];unfold imgs;rw [List.getElem?_map];cases hg:l[i]? with
 | none=>
  have:zq (0,0)=0:=by unfold zq;rw [rz_0];rfl
  simp only [Option.map_none,Option.getD_none,this];omega
 | some p=>
  obtain⟨h1,h2⟩:=h p (List.mem_of_getElem? hg);have e:=Zbf (pv p) (av m);have e1:rz (pv p).1.1<=rl p.1.1:=Qj h1.1;have e2:zq (pv p).2<=al p.2:=vI h1.2;have e3:=vI hw;have e4:rl p.1.1<=b:=Nat.le_trans (Nat.le_max_left _ _) h2;have e5:al p.2<=b:=Nat.le_trans (Nat.le_max_right _ _) h2;simp only [Option.map_some,Option.getD_some];omega
theorem X3{l:List Ps}{m:Arc}{b c:Nat}(h:okPs b l)(hw:WLA m)(hm:al m<=c):okAs (9*b+2*c+48) ((imgs l m).map acan):=by
 intro z hz;obtain⟨x,hx,rfl⟩:=List.mem_map.1 hz;obtain⟨i,hi,rfl⟩:=List.mem_iff_getElem.1 hx;refine⟨qB _,?_⟩;have:=ZaI h hw hm i;unfold pt at this;rw [List.getD_eq_getElem?_getD,List.getElem?_eq_getElem hi]at this;exact this
theorem xbH{p u v:V2}{b:Nat}(hu:zq u<=b)(hv:zq v<=b):zq (ciQ p u v)<=zq p+14*b+32:=by
 unfold ciQ;split
 .have:zq (0,0)=0:=by unfold zq;rw [rz_0];rfl
  omega
 .have u1:rz u.1<=zq u:=Nat.le_max_left _ _;have u2:rz u.2<=zq u:=Nat.le_max_right _ _;have v1:rz v.1<=zq v:=Nat.le_max_left _ _;have v2:rz v.2<=zq v:=Nat.le_max_right _ _;have p1:rz p.1<=zq p:=Nat.le_max_left _ _;have p2:rz p.2<=zq p:=Nat.le_max_right _ _;have su:=Vae u;have sv:=Vae v;have zc:=jJ u v;have zt:=xax 2;have zt2:zs 2<=2:=XW (by decide)
  have e2:(((2:Int)):Rat)=2:=rfl;rw [e2]at zt;have md:=Wc 2 (crossQ u v);have m1:=Wc (sqQ u) v.2;have m2:=Wc (sqQ v) u.2;have m3:=Wc (sqQ v) u.1;have m4:=Wc (sqQ u) v.1;have s1:=xA (sqQ u*v.2) (sqQ v*u.2);have s2:=xA (sqQ v*u.1) (sqQ u*v.1);have d1:=ZI (sqQ u*v.2-sqQ v*u.2) (2*crossQ u v);have d2:=ZI (sqQ v*u.1-sqQ u*v.1) (2*crossQ u v);have a1:=xq p.1 ((sqQ u*v.2-sqQ v*u.2) / (2*crossQ u v));have a2:=xq p.2 ((sqQ v*u.1-sqQ u*v.1) / (2*crossQ u v));have g:zq (ctrQ p u v)=max (rz (p.1+(sqQ u*v.2-sqQ v*u.2) / (2*crossQ u v))) (rz (p.2+(sqQ v*u.1-sqQ u*v.1) / (2*crossQ u v))):=rfl;rw [g];exact Nat.max_le.2 ⟨by omega,by omega⟩
theorem Qbe{A:List V2}{c:Nat}(h0:zq (pt 0 A)<=c)(h1:zq (pt 1 A)<=c)(h2:zq (pt 2 A)<=c):zq (ciV A)<=29*c+60:=by
 have u:=jn (pt 1 A) (pt 0 A);have v:=jn (pt 2 A) (pt 0 A);have:=xbH (p:=pt 0 A) (u:=subQ (pt 1 A) (pt 0 A)) (v:=subQ (pt 2 A) (pt 0 A)) (b:=2*c+2) (by omega) (by omega)
 unfold ciV;omega
theorem WaC{b c:Nat}{l:List Arc}(h:okAs b l)(hb:b<=c):okAs c l:=λp hp=>⟨(h p hp).1,Nat.le_trans (h p hp).2 hb⟩
theorem Xf{b c:Nat}{l:List Ps}(h:okPs b l)(hb:b<=c):okPs c l:=λp hp=>⟨(h p hp).1,Nat.le_trans (h p hp).2 hb⟩
end Go.Num
namespace Go.Abs
open Go.Num
variable {P:Program} {Γ:Nat->Spec}
def dqA(d:DyQ):AV:=.agg [cb (rcan d.1.1),cn (rcan d.1.1),cd (rcan d.1.1),cb (rcan d.1.2),cn (rcan d.1.2),cd (rcan d.1.2),cb (rcan d.2.1.1),cn (rcan d.2.1.1),cd (rcan d.2.1.1),cb (rcan d.2.1.2),cn (rcan d.2.1.2),cd (rcan d.2.1.2),cb (rcan d.2.2),cn (rcan d.2.2),cd (rcan d.2.2)]
theorem Qaq(d:DyQ):dqA d=.agg [cb (rcan d.1.1),cn (rcan d.1.1),cd (rcan d.1.1),cb (rcan d.1.2),cn (rcan d.1.2),cd (rcan d.1.2),cb (rcan d.2.1.1),cn (rcan d.2.1.1),cd (rcan d.2.1.1),cb (rcan d.2.1.2),cn (rcan d.2.1.2),cd (rcan d.2.1.2),cb (rcan d.2.2),cn (rcan d.2.2),cd (rcan d.2.2)]:=eq_of_heq (HEq.refl _)
attribute [go_sem,go_sem ↓] Qaq
def uak(tE:Nat)(l:List AV)(K:AV->Prop):Prop:=
 match l with
 | [a,b]=>onPs (λl=>onA (λm=>okPs 1000 l/\al m<=10000/\K (.tup [rQ (if lineC l m=0 then lnA (imgs l m) else 0),rQ (if lineC l m=0 then lnB (imgs l m) else 0),rQ (if lineC l m=0 then lnK (imgs l m) else 0),errV tE (lineC l m)])) b) a
 | _=>False
theorem Vav(tE:Nat)(a b:AV)(K:AV->Prop):uak tE [a,b] K=(onPs (λl=>onA (λm=>okPs 1000 l/\al m<=10000/\K (.tup [rQ (if lineC l m=0 then lnA (imgs l m) else 0),rQ (if lineC l m=0 then lnB (imgs l m) else 0),rQ (if lineC l m=0 then lnK (imgs l m) else 0),errV tE (lineC l m)])) b) a):=propext Iff.rfl
@[congr] theorem zbL (tE:Nat) {K:AV->Prop} {l l' : List AV} (h:l=l'):uak tE l K=uak tE l' K:=by subst h;rfl
attribute [go_sem,go_sem ↓] Vav
def xak(l:List AV)(K:AV->Prop):Prop:=
 match l with
 | [a,b]=>onPs (λl=>onA (λm=>okPs 1000 l/\al m<=10000/\l.length=3/\K (.tup [rQ (lnA (imgs l m)),rQ (lnB (imgs l m)),rQ (lnK (imgs l m)),.one (.lit (.int .i64 (lnC (imgs l m):Nat)))])) b) a
 | _=>False
theorem Waz(a b:AV)(K:AV->Prop):xak [a,b] K=(onPs (λl=>onA (λm=>okPs 1000 l/\al m<=10000/\l.length=3/\K (.tup [rQ (lnA (imgs l m)),rQ (lnB (imgs l m)),rQ (lnK (imgs l m)),.one (.lit (.int .i64 (lnC (imgs l m):Nat)))])) b) a):=propext Iff.rfl
@[congr] theorem YbL {K:AV->Prop} {l l' : List AV} (h:l=l'):xak l K=xak l' K:=by subst h;rfl
attribute [go_sem,go_sem ↓] Waz
def jm(tE:Nat)(l:List AV)(K:AV->Prop):Prop:=
 match l with
 | [a,b]=>onPs (λl=>onA (λm=>okPs 1000 l/\al m<=10000/\K (.tup [dqA (if cenC l m=0 then cenQ (imgs l m) (av m) else d0),errV tE (cenC l m)])) b) a
 | _=>False
theorem VR(tE:Nat)(a b:AV)(K:AV->Prop):jm tE [a,b] K=(onPs (λl=>onA (λm=>okPs 1000 l/\al m<=10000/\K (.tup [dqA (if cenC l m=0 then cenQ (imgs l m) (av m) else d0),errV tE (cenC l m)])) b) a):=propext Iff.rfl
@[congr] theorem Ybu (tE:Nat) {K:AV->Prop} {l l' : List AV} (h:l=l'):jm tE l K=jm tE l' K:=by subst h;rfl
attribute [go_sem,go_sem ↓] VR
theorem jaa(tE:Nat):Good (jm tE):=Ya λas=>by
 unfold jm;split
 .exact(Jy λ_=>(Xw λ_=>(.and λ_=>(.and λ_=>(.ret _)))))
 .exact .of λK hk=>hk.elim
def vm(tE:Nat)(l:List AV)(K:AV->Prop):Prop:=
 match l with
 | [a,b]=>onPs (λl=>onDy (λd=>okPs 1000 l/\dl d<=100000/\K (.tup [.one (.lit (.bool (decide (psnC l d=0) && psnB l d))),errV tE (psnC l d)])) b) a
 | _=>False
theorem qT(tE:Nat)(a b:AV)(K:AV->Prop):vm tE [a,b] K=(onPs (λl=>onDy (λd=>okPs 1000 l/\dl d<=100000/\K (.tup [.one (.lit (.bool (decide (psnC l d=0) && psnB l d))),errV tE (psnC l d)])) b) a):=propext Iff.rfl
@[congr] theorem Xbu (tE:Nat) {K:AV->Prop} {l l' : List AV} (h:l=l'):vm tE l K=vm tE l' K:=by subst h;rfl
attribute [go_sem,go_sem ↓] qT
theorem Xaa(tE:Nat):Good (vm tE):=Ya λas=>by
 unfold vm;split
 .exact(Jy λ_=>(ua2 λ_=>(.and λ_=>(.and λ_=>(.ret _)))))
 .exact .of λK hk=>hk.elim
def Zf(f0 f1 f2 f3 f4 f5:Nat):AC:=(.seq (.ops false [.u 3 (.box 6 (.t 1)),.u 4 (.alloc [(.lit (.bool false)),.emp,.emp,(.lit (.bool false)),.emp,.emp,(.lit (.bool false)),.emp,.emp,(.lit (.bool false)),.emp,.emp,(.lit (.bool false)),.emp,.emp]),.m 5 (.c (.one (.lit .nilIface)))])
 (.fg [0,3,4] (.seq (.seq (.ops false [.m 10 (.t 0),.u 11 (.ld none 6 true (.t 3)),.u 12 (.row 6 [[.x 6 (.t 11)]]),.u 13 (.call f0 [(.t 10),(.t 12)]),.m 6 (.t 13)])
 (.fg [0,3,4,6] (.seq (.ops false [.m 14 (.t 6),.u 15 (.binn .neq (.t 14) (.c (.one (.lit .nilIface))))])
 (.fg [0,3,4,6,15] (.cond (.t 15) (.seq (.ops false [.u 16 (.build [.z [(.lit (.bool false)),.emp,.emp,(.lit (.bool false)),.emp,.emp,(.lit (.bool false)),.emp,.emp,(.lit (.bool false)),.emp,.emp,(.lit (.bool false)),.emp,.emp]]),.m 17 (.t 6),.n (.st none 15 (.t 4) (.t 16)),.m 5 (.t 17)])
 .ret) .skip)))))
 (.fg [0,3,4] (.seq (.ops false [.m 19 (.t 0),.u 20 (.ld none 6 true (.t 3)),.u 21 (.call f1 [(.t 19),(.t 20)]),.m 18 (.t 21),.u 22 (.ext 0 (.t 18)),.u 23 (.ext 1 (.t 18)),.m 7 (.t 22),.m 8 (.t 23)])
 (.fg [3,4,7,8] (.seq (.seq (.ops false [.m 24 (.t 8),.u 25 (.binn .neq (.t 24) (.c (.one (.lit .nilIface))))])
 (.fg [3,4,7,8,25] (.cond (.t 25) (.seq (.ops false [.u 26 (.build [.z [(.lit (.bool false)),.emp,.emp,(.lit (.bool false)),.emp,.emp,(.lit (.bool false)),.emp,.emp,(.lit (.bool false)),.emp,.emp,(.lit (.bool false)),.emp,.emp]]),.m 27 (.t 8),.n (.st none 15 (.t 4) (.t 26)),.m 5 (.t 27)])
 .ret) .skip)))
 (.fg [3,4,7] (.seq (.ops false [.m 29 (.t 7),.u 30 (.call f2 [(.t 29)]),.m 28 (.t 30),.u 31 (.ext 0 (.t 28)),.u 32 (.ext 1 (.t 28)),.u 9 (.alloc [(.lit (.bool false)),.emp,.emp,(.lit (.bool false)),.emp,.emp]),.n (.st none 6 (.t 9) (.t 31)),.m 8 (.t 32)])
 (.fg [3,4,7,8,9] (.seq (.seq (.ops false [.m 33 (.t 8),.u 34 (.binn .neq (.t 33) (.c (.one (.lit .nilIface))))])
 (.fg [3,4,7,8,9,34] (.cond (.t 34) (.seq (.ops false [.u 35 (.build [.z [(.lit (.bool false)),.emp,.emp,(.lit (.bool false)),.emp,.emp,(.lit (.bool false)),.emp,.emp,(.lit (.bool false)),.emp,.emp,(.lit (.bool false)),.emp,.emp]]),.m 36 (.t 8),.n (.st none 15 (.t 4) (.t 35)),.m 5 (.t 36)])
 .ret) .skip)))
 (.fg [3,4,7,9] (.seq (.ops true [.u 37 (.ld none 6 true (.t 9)),.u 38 (.ld none 6 true (.t 3)),.u 39 (.call f3 [(.t 38)]),.m 40 (.t 7),.u 41 (.idx 6 (.t 40) (.i 0)),.u 42 (.ld none 6 true (.t 41)),.u 43 (.ld none 6 true (.t 9)),.u 44 (.call f4 [(.t 42),(.t 43)]),.u 45 (.call f5 [(.t 44)]),.u 46 (.build [.x 6 (.t 37),.x 6 (.t 39),.x 3 (.t 45)]),.n (.st none 15 (.t 4) (.t 46)),.m 5 (.c (.one (.lit .nilIface)))])
 .ret)))))))))))))
def Zd(f0 f1 f2 f3 f4 f5 f6 tE:Nat):AC:=(.seq (.ops false [.u 3 (.box 15 (.t 1)),.m 4 .fa,.m 5 (.c (.one (.lit .nilIface)))])
 (.fg [0,3] (.seq (.seq (.ops false [.m 11 (.t 0),.u 12 (.call f0 [(.t 11)]),.m 6 (.t 12)])
 (.fg [0,3,6] (.seq (.ops false [.m 13 (.t 6),.u 14 (.binn .neq (.t 13) (.c (.one (.lit .nilIface))))])
 (.fg [0,3,6,14] (.cond (.t 14) (.seq (.ops false [.m 15 (.t 6),.m 4 .fa,.m 5 (.t 15)])
 .ret) .skip)))))
 (.fg [0,3] (.seq (.seq (.ops false [.u 16 (.fa 0 (.t 3)),.u 17 (.ld none 6 true (.t 16)),.u 18 (.call f1 [(.t 17)]),.u 19 (.un .not (.t 18)),.m 20 (.t 19),.w 21 20 false (.fa 6 (.t 3)),.w 22 20 false (.ld none 6 true (.t 21)),.w 23 20 false (.call f1 [(.t 22)]),.w 24 20 false (.un .not (.t 23)),.u 25 (.pick (.t 20) .tr (.t 24)),.m 26 (.t 25),.w 27 26 false (.fa 12 (.t 3)),.w 28 26 false (.ld none 3 true (.t 27)),.w 29 26 false (.call f2 [(.t 28)]),.w 30 26 false (.un .not (.t 29)),.u 31 (.pick (.t 26) .tr (.t 30))])
 (.fg [0,3,31] (.cond (.t 31) (.seq (.ops false [.u 32 (.iface tE (.i 2)),.m 4 .fa,.m 5 (.t 32)])
 .ret) .skip)))
 (.fg [0,3] (.seq (.ops false [.m 34 (.t 0),.u 35 (.fa 6 (.t 3)),.u 36 (.ld none 6 true (.t 35)),.u 37 (.call f3 [(.t 34),(.t 36)]),.m 33 (.t 37),.u 38 (.ext 0 (.t 33)),.u 39 (.ext 1 (.t 33)),.m 7 (.t 38),.m 8 (.t 39)])
 (.fg [3,7,8] (.seq (.seq (.ops false [.m 40 (.t 8),.u 41 (.binn .neq (.t 40) (.c (.one (.lit .nilIface))))])
 (.fg [3,7,8,41] (.cond (.t 41) (.seq (.ops false [.m 42 (.t 8),.m 4 .fa,.m 5 (.t 42)])
 .ret) .skip)))
 (.fg [3,7] (.seq (.seq (.ops false [.m 43 (.t 7),.u 44 (.len (.t 43)),.m 45 (.i 0)])
 (.fg [3,43,44,45] (.block 0 (.loop (.seq (.ops false [.u 46 (.bin .lss (.t 45) (.t 44))])
 (.fg [3,43,44,45,46] (.seq (.cond (.t 46) .skip (.exit 0))
 (.fg [3,43,44,45] (.seq (.block 1 (.seq (.ops false [.u 47 (.idx 6 (.t 43) (.t 45)),.u 48 (.ld none 6 true (.t 47)),.u 10 (.alloc [(.lit (.bool false)),.emp,.emp,(.lit (.bool false)),.emp,.emp]),.n (.st none 6 (.t 10) (.t 48))])
 (.fg [3,10,43,44,45] (.seq (.ops true [.u 49 (.ld none 6 true (.t 10)),.u 50 (.fa 0 (.t 3)),.u 51 (.ld none 6 true (.t 50)),.u 52 (.call f4 [(.t 49),(.t 51)]),.u 53 (.call f5 [(.t 52)]),.u 54 (.fa 12 (.t 3)),.u 55 (.ld none 3 true (.t 54)),.u 56 (.call f6 [(.t 53),(.t 55)]),.u 57 (.bin .neq (.t 56) (.i 0))])
 (.fg [3,43,44,45,57] (.cond (.t 57) (.seq (.ops false [.m 4 .fa,.m 5 (.c (.one (.lit .nilIface)))])
 .ret) .skip))))))
 (.fg [3,43,44,45] (.ops false [.u 58 (.bin .add (.t 45) (.i 1)),.m 45 (.t 58)])))))))))))
 (.fg [] (.seq (.ops false [.m 4 .tr,.m 5 (.c (.one (.lit .nilIface)))])
 .ret)))))))))))))
theorem uam(hΓ:Holds P Γ){f fp fm fc:Nat}(hp:Γ fp=.dat false we)(hm:Γ fm=.dat false UA)(hc' : Γ fc=.dat true kB)(hc:check P f=some (26,(yt fp fm fc).strip,[.tmp 4])):Sound P f (.dat true jt):=by
 refine Wa hc yai hΓ (λargs K hcl hfi hG=>?_);match args,hG with
 | [a,b],hG=>
  obtain⟨x,rfl,hx,y,rfl,hy,hl,hl',hK⟩:=hG;refine⟨by simp,?_⟩
  simp only [go_sem,yt,hp,hm,hc',hx,hy];have n1:=yG hx;have d1:=XE hx;have n2:=yG hy;have d2:=XE hy;rw [<-ja4];exact⟨by omega,by omega,by omega,by omega,by omega,by omega,hK⟩
theorem YU(hΓ:Holds P Γ){f fk fi fc fn fs fq tE:Nat}(hk:Γ fk=.dat false (Uz tE))(hi:Γ fi=.dat false (Qw tE))(hx:Γ fc=.dat false (uz tE))(hn:Γ fn=.dat false Qs)(hs:Γ fs=.dat false Yi)(hq' : Γ fq=.dat false JE)(hc:check P f=some (47,(Zf fk fi fc fn fs fq).strip,[.cell 4 15 true,.tmp 5])):Sound P f (.dat false (jm tE)):=by
 refine Wa hc (jaa tE) hΓ (λargs K hcl hfi hG=>?_);match args,hG with
 | [a,b],hG=>
  obtain⟨l,rfl,hwl,m,rfl,hwm,hok,hm,hK⟩:=hG;refine⟨by simp,?_⟩
  have ok1:=Xf hok (by decide:1000<=100000000)
  have ok2:=Xf hok (by decide:1000<=1000000)
  have om:okAs 100000000 [(m.1,m.2)]:=λz hz=>by rw [List.mem_singleton.1 hz];exact⟨hwm,by have e:al (m.1,m.2)=al m:=rfl;omega⟩
  have hm2:al (m.1,m.2)<=1000000:=by have e:al (m.1,m.2)=al m:=rfl;omega
  have hm1:al m<=1000000:=by omega
  have hm3:al m<=100000000:=by omega
  have om1:okAs 100000000 [m]:=om;by_cases h0:chkC l [m]=0
  .obtain⟨h3,hv,ha,hi0⟩:=YbT h0;have hA:=X3 hok hwm hm;have hz0:=ZaI hok hwm hm 0;have hz1:=ZaI hok hwm hm 1;have hz2:=ZaI hok hwm hm 2;have hla:=WI l m;have hle:l.length<=100000:=by omega
   have hwA:=kau (imgs l m);have hA1:=WaC hA (by decide:_<=1000000)
   have hci:=Qbe hz0 hz1 hz2;have ec:cenC l m=if crV (imgs l m)=0 then 8 else 0:=by unfold cenC;rw [if_neg (by omega)]
   rw [ec]at hK;obtain⟨A,hAA⟩:∃A,imgs l m=A:=⟨_,rfl⟩;rw [hAA]at hK hA hz0 hz1 hz2 hla hwA hA1 hci;have g4:3<=A.length:=by omega
   have e1:(if imgC l m=0 then A else [])=A:=if_pos hi0
   have g3:3<=(A.map acan).length:=by rw [List.length_map];omega
   have g0:0<A.length:=by omega
   by_cases hcr:crV A=0
   .rw [if_pos hcr,if_neg (by decide),yb tE (by decide),Qaq]at hK
    unfold d0 at hK;rw [ub]at hK;simp only [go_sem,Zf,hk,hi,hx,hn,hs,hq',Yb,Vb,h0,hi0,hAA,e1,kb,XaY,QaJ,hcr,yb tE (by decide:8≠0)]
    repeat first|refine Va (by omega) ?_|refine Va (by assumption) ?_|refine Va rfl ?_|refine Va ⟨rfl,by omega⟩ ?_|refine Va ⟨rfl,by omega,by omega⟩ ?_|intro _
    exact hK
   .rw [if_neg hcr,if_pos rfl,kb]at hK;simp only [go_sem,Zf,hk,hi,hx,hn,hs,hq',Yb,Vb,h0,hi0,hAA,e1,kb,XaY,QaJ,hcr,List.length_map,g0,ZF,wal,Uam,jc];have c1:al (rcan (pt 0 A).1,rcan (pt 0 A).2)=zq (pt 0 A):=rfl;have c2:al (rcan (ciV A).1,rcan (ciV A).2)=zq (ciV A):=rfl;have c3:al (rcan (subQ (pt 0 A) (ciV A)).1,rcan (subQ (pt 0 A) (ciV A)).2)=zq (subQ (pt 0 A) (ciV A)):=rfl;have c4:=jn (pt 0 A) (ciV A);rw [c1,c2,c3];repeat first|refine Va (by omega) ?_|refine Va (by assumption) ?_|refine Va rfl ?_|refine Va ⟨rfl,by omega⟩ ?_|refine Va ⟨rfl,by omega,by omega⟩ ?_|intro _
    exact hK
  .have ec:cenC l m=chkC l [m]:=by unfold cenC;rw [if_pos h0]
   rw [ec,if_neg h0,yb tE h0,Qaq]at hK;unfold d0 at hK;rw [ub]at hK;simp only [go_sem,Zf,hk,Yb,Vb,yb tE h0];repeat first|refine Va (by omega) ?_|refine Va (by assumption) ?_|refine Va rfl ?_|refine Va ⟨rfl,by omega⟩ ?_|refine Va ⟨rfl,by omega,by omega⟩ ?_|intro _
   exact hK
theorem Qbx{h h' : Nat->HB}{z:Nat}{b:Bool}{d:Dy}:okB h h' (some ⟨[dC d],z,b⟩) (some ⟨[dC d],z,b⟩):=
 ⟨⟨rfl,rfl⟩,.inl ⟨rfl,λe he c hc=>by
  rw [List.mem_singleton.1 he]at hc;simp only [dC,List.mem_cons,List.not_mem_nil,or_false]at hc;rcases hc with rfl|rfl|rfl|rfl|rfl|rfl|rfl|rfl|rfl|rfl|rfl|rfl|rfl|rfl|rfl
  all_goals first|exact of_eq_true (vj _)|exact of_eq_true (qj _)|exact of_eq_true (kj _)⟩⟩
theorem JV(hΓ:Holds P Γ){f fk fv fw fi fs fq fc tE:Nat}(hk:Γ fk=.dat false (YB tE))(hv:Γ fv=.dat true Vd)(hw:Γ fw=.dat true yd)(hi:Γ fi=.dat false (Qw tE))(hs:Γ fs=.dat false Yi)(hq' : Γ fq=.dat false JE)(hcm:Γ fc=.dat true jt)(hc:check P f=some (59,(Zd fk fv fw fi fs fq fc tE).strip,[.tmp 4,.tmp 5])):Sound P f (.dat false (vm tE)):=by
 refine Wa hc (Xaa tE) hΓ (λargs K hcl hfi hG=>?_);match args,hG with
 | [a,b],hG=>
  obtain⟨l,rfl,hwl,d,rfl,hwd,hok,hd,hK⟩:=hG;refine⟨by simp,?_⟩
  obtain⟨c,m,r⟩:=d;obtain⟨hwc,hwm,hwr⟩:=hwd;have dc:al c<=100000:=Nat.le_trans (Nat.le_max_left _ _) hd;have dm:al m<=100000:=Nat.le_trans (Nat.le_trans (Nat.le_max_left _ _) (Nat.le_max_right _ _)) hd;have dr:rl r<=100000:=Nat.le_trans (Nat.le_trans (Nat.le_max_right _ _) (Nat.le_max_right _ _)) hd;simp only at hwc hwm hwr;have ok1:=Xf hok (by decide:1000<=100000000)
  have ok2:=Xf hok (by decide:1000<=1000000)
  by_cases h0:plchk l=0
  .cases hdv:dvld (c,m,r) with
   | false=>
    have ec:psnC l (c,m,r)=2:=by unfold psnC;rw [if_neg (by omega),hdv,if_neg (by decide)]
    rw [ec,yb tE (by decide)]at hK
    have p0:decide (2=0)=false:=rfl;rw [p0,Bool.false_and]at hK;unfold dvld at hdv;simp only at hdv;cases h1:avld c with
    | false=>
     simp only [go_sem,Zd,hk,hv,hw,h0,kb,dA,dC,Vb,h1];repeat first|refine Va (by omega) ?_|refine Va (by assumption) ?_|refine Va rfl ?_|refine Va ⟨rfl,by omega⟩ ?_|refine Va ⟨rfl,by omega,by omega⟩ ?_|intro _
     exact hK
    | true=>
     cases h2:avld m with
     | false=>
      simp only [go_sem,Zd,hk,hv,hw,h0,kb,dA,dC,Vb,h1,h2];repeat first|refine Va (by omega) ?_|refine Va (by assumption) ?_|refine Va rfl ?_|refine Va ⟨rfl,by omega⟩ ?_|refine Va ⟨rfl,by omega,by omega⟩ ?_|intro _
      exact hK
     | true=>
      have h4:vldR r=false:=by rw [h1,h2,Bool.true_and,Bool.true_and]at hdv;exact hdv
      simp only [go_sem,Zd,hk,hv,hw,h0,kb,dA,dC,Vb,h1,h2,h4];repeat first|refine Va (by omega) ?_|refine Va (by assumption) ?_|refine Va rfl ?_|refine Va ⟨rfl,by omega⟩ ?_|refine Va ⟨rfl,by omega,by omega⟩ ?_|intro _
      exact hK
   | true=>
    have ec:psnC l (c,m,r)=0:=by unfold psnC;rw [if_neg (by omega),hdv,if_pos rfl]
    have p0:decide (0=0)=true:=rfl;rw [ec,p0,Bool.true_and,kb]at hK;unfold dvld at hdv;simp only [Bool.and_eq_true]at hdv;obtain⟨h1,h2,h4⟩:=hdv;have hall:l.all pvld=true:=by
     unfold plchk at h0;repeat' split at h0
     all_goals first|contradiction|assumption
    have hi0:imgC l m=0:=by
     unfold imgC;rw [if_pos];rw [List.all_eq_true]at hall ⊢;intro p hp;simp only [aok,hall p hp,h2,Bool.and_self]
    have hlen:l.length<=5:=by
     unfold plchk at h0;repeat' split at h0
     all_goals first|contradiction|omega
    have hA:=X3 hok hwm dm;have hla:=WI l m;have hzz:=ZaI hok hwm dm;have hwA:=kau (imgs l m);unfold psnB at hK;obtain⟨A,hAA⟩:∃A,imgs l m=A:=⟨_,rfl⟩;simp only at hK;rw [hAA]at hK hA hla hzz hwA;have e1:(if imgC l m=0 then A else [])=A:=if_pos hi0
    have dm1:al m<=1000000:=by omega
    have hl1:l.length<=100000:=by omega
    simp only [go_sem,Zd,hk,hv,hw,hi,h0,kb,dA,dC,Vb,h1,h2,h4,hi0,hAA,e1];repeat first|refine Va (by omega) ?_|refine Va (by assumption) ?_|refine Va rfl ?_|refine Va ⟨rfl,by omega⟩ ?_|refine Va ⟨rfl,by omega,by omega⟩ ?_|intro _
    refine Xa (λk:Nat=>⟨mkV [(3,.one (.ptr 3 1 0 0)),(43,qsA A),(44,.one (.lit (.int .i64 (A.map acan).length))),(45,.one (.lit (.int .i64 k)))],mkH [(3,⟨1,some ⟨[dC (c,m,r)],15,true⟩⟩)]⟩) (λk=>k<=A.length/\(A.take k).all (λx=>decide (sqQ (subQ x (av c))=rv r))=true) (λk=>A.length-k) 0 ?_ ?_ ?_
    .exact ja (by simp [okS,okV,okC,okL,okH,okB,okE,Qa,Ja,qa,va,wsA,ws,qsA]) ⟨Qbx (d:=(c,m,r)),trivial⟩
    .exact⟨Nat.zero_le _,rfl⟩
    .rintro k ⟨hkl,hal⟩;by_cases hlt:k<A.length
     .have hx0:A[k]?=some (pt k A):=Uk hlt rfl;have hzx:=hzz k;obtain⟨x,hx⟩:∃x,pt k A=x:=⟨_,rfl⟩;rw [hx]at hx0 hzx;have c1:al (rcan x.1,rcan x.2)=zq x:=rfl;have c2:al (rcan (subQ x (av c)).1,rcan (subQ x (av c)).2)=zq (subQ x (av c)):=rfl;have c3:=jn x (av c);have c4:=vI hwc;have c5:=Vae (subQ x (av c));cases hb:decide (sqQ (subQ x (av c))=rv r) with
      | true=>
       have ho:ordQ (sqQ (subQ x (av c))) (rv r)=0:=Wj.2 (of_decide_eq_true hb);simp only [go_sem,hs,hq',hcm,hlt,dC,List.length_map,ZF,wal,Uam,jc,Vb,hx,c1,c2,ho,Yb];repeat first|refine Va (by omega) ?_|refine Va (by assumption) ?_|refine Va rfl ?_|refine Va ⟨rfl,by omega⟩ ?_|refine Va ⟨rfl,by omega,by omega⟩ ?_|intro _
       exact⟨k+1,ja (by simp [okS,okV,okC,okL,okH,okB,okE,Qa,Ja,qa,va,wsA,ws]) ⟨Qbx (d:=(c,m,r)),trivial⟩,⟨by omega,Zt hx0 hal hb⟩,by omega⟩
      | false=>
       have ho:¬ordQ (sqQ (subQ x (av c))) (rv r)=0:=λh=>of_decide_eq_false hb (Wj.1 h);rw [V9 hx0 hb]at hK;simp only [go_sem,hs,hq',hcm,hlt,dC,List.length_map,ZF,wal,Uam,jc,Vb,hx,c1,c2,ho,Yb];repeat first|refine Va (by omega) ?_|refine Va (by assumption) ?_|refine Va rfl ?_|refine Va ⟨rfl,by omega⟩ ?_|refine Va ⟨rfl,by omega,by omega⟩ ?_|intro _
       exact hK
     .rw [List.take_of_length_le (by omega)]at hal
      rw [hal]at hK;simp only [go_sem,hlt,List.length_map];exact hK
  .have ec:psnC l (c,m,r)=plchk l:=by unfold psnC;rw [if_pos h0]
   rw [ec,decide_eq_false h0,Bool.false_and,yb tE h0]at hK;simp only [go_sem,Zd,hk,yb tE h0,dA,dC];repeat first|refine Va (by omega) ?_|refine Va (by assumption) ?_|refine Va rfl ?_|refine Va ⟨rfl,by omega⟩ ?_|refine Va ⟨rfl,by omega,by omega⟩ ?_|intro _
   exact hK
end Go.Abs
end
section
namespace Go.Num
open Go.Abs
def exPs:List Ps:=[((rcan 0,false),(rcan 0,rcan 0)),((rcan 0,false),(rcan 2,rcan 0)),((rcan 0,true),(rcan 2,rcan 2))]
def o2:Arc:=(rcan 0,rcan 0)
theorem rz_2:rz 2<=2:=by
 have zt:=xax 2;have zt2:zs 2<=2:=XW (by decide)
 have e2:(((2:Int)):Rat)=2:=rfl;rw [e2]at zt;omega
end Go.Num
namespace Go.Abs
open Go.Num
variable {P:Program} {Γ:Nat->Spec}
def zaQ(l:List AV)(K:AV->Prop):Prop:=
 match l with
 | []=>K (psA exPs)
 | _=>False
theorem uaV(K:AV->Prop):zaQ [] K=(K (psA exPs)):=propext Iff.rfl
@[congr] theorem xbS {K:AV->Prop} {l l' : List AV} (h:l=l'):zaQ l K=zaQ l' K:=by subst h;rfl
attribute [go_sem,go_sem ↓] uaV
def kal(l:List AV)(K:AV->Prop):Prop:=
 match l with
 | []=>K (.one (.lit (.bool true)))
 | _=>False
theorem wan(K:AV->Prop):kal [] K=(K (.one (.lit (.bool true)))):=propext Iff.rfl
@[congr] theorem jbJ {K:AV->Prop} {l l' : List AV} (h:l=l'):kal l K=kal l' K:=by subst h;rfl
attribute [go_sem,go_sem ↓] wan
def ZV(l:List AV)(K:AV->Prop):Prop:=
 match l with
 | [a,b]=>onPs (λl=>onA (λm=>okPs 1048576 l/\al m<=1048576/\K (.one (.lit (.bool true)))) b) a
 | _=>False
theorem waa(a b:AV)(K:AV->Prop):ZV [a,b] K=(onPs (λl=>onA (λm=>okPs 1048576 l/\al m<=1048576/\K (.one (.lit (.bool true)))) b) a):=propext Iff.rfl
@[congr] theorem ybC {K:AV->Prop} {l l' : List AV} (h:l=l'):ZV l K=ZV l' K:=by subst h;rfl
attribute [go_sem,go_sem ↓] waa
theorem ZaW{l:List Ps}{m:Arc}(h:threeC l=0):chkC l [m]=if avld m=true then 0 else 2:=by
 unfold chkC placeC;rw [if_neg (by omega)]
 cases hm:avld m <;> simp [hm]
theorem Zba{l:List Ps}(hw:∀p∈l,WLP p)(h:l.all sP=true):okPs 2 l:=by
 intro p hp;have hs:=List.all_eq_true.1 h p hp;simp only [sP,Bool.and_eq_true]at hs;exact⟨hw p hp,Nat.max_le.2 ⟨xa3 hs.1,Nat.max_le.2 ⟨xa3 hs.2.1,xa3 hs.2.2⟩⟩⟩
theorem Zbc{m:Arc}(h:sA m=true):al m<=2:=by
 simp only [sA,Bool.and_eq_true]at h;exact Nat.max_le.2 ⟨xa3 h.1,xa3 h.2⟩
end Go.Abs
end
section
namespace Go.Num
open Go.Abs
instance decAR:DecidableEq (Arc×R):=instDecidableEqProd
instance decDy:DecidableEq Dy:=instDecidableEqProd
def dz:Dy:=(((false,[],[]),(false,[],[])),((false,[],[]),(false,[],[])),(false,[],[]))
def cenR(A:List V2)(m:Arc):Dy:=(acan (ciV A),m,rcan (sqQ (subQ (pt 0 A) (ciV A))))
def movR(A:List V2)(m:Arc):Dy:=(m,acan (ciV A),rcan (sqQ (subQ (pt 0 A) (ciV A))))
def pcan(p:PsQ):Ps:=((rcan p.1.1,p.1.2),acan p.2)
theorem Jby(p:PsQ):pv (pcan p)=p:=by unfold pv pcan tv;simp only [jc,Xae]
def imgsB(l:List Ps)(o:Arc):List V2:=l.map λp=>appQ (invQ (pv p)) (av o)
theorem Jbs(p:PsQ):WLP (pcan p):=⟨xo _,qB _⟩
def movC(l:List Ps)(o:Arc):Nat:=if chkC l [o]≠0 then chkC l [o] else if crV (imgsB l o)=0 then 8 else 0
def movQ(A:List V2)(o:V2):DyQ:=(o,ciV A,sqQ (subQ (pt 0 A) (ciV A)))
end Go.Num
namespace Go.Abs
open Go.Num
variable {P:Program} {Γ:Nat->Spec}
def qM(l:List AV)(K:AV->Prop):Prop:=
 match l with
 | [a,b]=>onPs (λl=>onA (λm=>okPs 1000 l/\al m<=10000/\l.length=3/\K (.tup [dA (if crV (imgs l m)=0 then dz else cenR (imgs l m) m),.one (.lit (.int .i64 (if crV (imgs l m)=0 then 8 else 0)))])) b) a
 | _=>False
theorem yT(a b:AV)(K:AV->Prop):qM [a,b] K=(onPs (λl=>onA (λm=>okPs 1000 l/\al m<=10000/\l.length=3/\K (.tup [dA (if crV (imgs l m)=0 then dz else cenR (imgs l m) m),.one (.lit (.int .i64 (if crV (imgs l m)=0 then 8 else 0)))])) b) a):=propext Iff.rfl
@[congr] theorem zbv {K:AV->Prop} {l l' : List AV} (h:l=l'):qM l K=qM l' K:=by subst h;rfl
attribute [go_sem,go_sem ↓] yT
def XN(l:List AV)(K:AV->Prop):Prop:=
 match l with
 | [a,b]=>onPs (λl=>onA (λm=>okPs 1000 l/\al m<=10000/\l.length=3/\K (.tup [dA (if crV (imgsB l m)=0 then dz else movR (imgsB l m) m),.one (.lit (.int .i64 (if crV (imgsB l m)=0 then 8 else 0)))])) b) a
 | _=>False
theorem YT(a b:AV)(K:AV->Prop):XN [a,b] K=(onPs (λl=>onA (λm=>okPs 1000 l/\al m<=10000/\l.length=3/\K (.tup [dA (if crV (imgsB l m)=0 then dz else movR (imgsB l m) m),.one (.lit (.int .i64 (if crV (imgsB l m)=0 then 8 else 0)))])) b) a):=propext Iff.rfl
@[congr] theorem xbu {K:AV->Prop} {l l' : List AV} (h:l=l'):XN l K=XN l' K:=by subst h;rfl
attribute [go_sem,go_sem ↓] YT
def kL(tE:Nat)(l:List AV)(K:AV->Prop):Prop:=
 match l with
 | [a,b]=>onPs (λl=>onA (λm=>okPs 1000 l/\al m<=10000/\K (.tup [dqA (if movC l m=0 then movQ (imgsB l m) (av m) else d0),errV tE (movC l m)])) b) a
 | _=>False
theorem ZR(tE:Nat)(a b:AV)(K:AV->Prop):kL tE [a,b] K=(onPs (λl=>onA (λm=>okPs 1000 l/\al m<=10000/\K (.tup [dqA (if movC l m=0 then movQ (imgsB l m) (av m) else d0),errV tE (movC l m)])) b) a):=propext Iff.rfl
@[congr] theorem kbu (tE:Nat) {K:AV->Prop} {l l' : List AV} (h:l=l'):kL tE l K=kL tE l' K:=by subst h;rfl
attribute [go_sem,go_sem ↓] ZR
def qL(l:List AV)(K:AV->Prop):Prop:=
 match l with
 | [a,b]=>onPs (λl=>onDy (λd=>okPs 1000 l/\dl d<=100000/\l.length<=1000/\K (.one (.lit (.bool (psnB l d))))) b) a
 | _=>False
theorem XS(a b:AV)(K:AV->Prop):qL [a,b] K=(onPs (λl=>onDy (λd=>okPs 1000 l/\dl d<=100000/\l.length<=1000/\K (.one (.lit (.bool (psnB l d))))) b) a):=propext Iff.rfl
@[congr] theorem Zbv {K:AV->Prop} {l l' : List AV} (h:l=l'):qL l K=qL l' K:=by subst h;rfl
attribute [go_sem,go_sem ↓] XS
def Wak(l:List AV)(K:AV->Prop):Prop:=
 match l with
 | [a]=>onDy (λd=>dl d<=100000/\K (.one (.lit (.bool (dvld d))))) a
 | _=>False
theorem ZaB(a:AV)(K:AV->Prop):Wak [a] K=(onDy (λd=>dl d<=100000/\K (.one (.lit (.bool (dvld d))))) a):=propext Iff.rfl
@[congr] theorem VbI {K:AV->Prop} {l l' : List AV} (h:l=l'):Wak l K=Wak l' K:=by subst h;rfl
attribute [go_sem,go_sem ↓] ZaB
def UN(l:List AV)(K:AV->Prop):Prop:=
 match l with
 | [a]=>onDy (λd=>dl d<=4294967296/\K (.one (.lit (.bool (sA d.1 && (sA d.2.1 && sR 4 d.2.2)))))) a
 | _=>False
theorem JP(a:AV)(K:AV->Prop):UN [a] K=(onDy (λd=>dl d<=4294967296/\K (.one (.lit (.bool (sA d.1 && (sA d.2.1 && sR 4 d.2.2)))))) a):=propext Iff.rfl
@[congr] theorem ybu {K:AV->Prop} {l l' : List AV} (h:l=l'):UN l K=UN l' K:=by subst h;rfl
attribute [go_sem,go_sem ↓] JP
def Ur(l:List AV)(K:AV->Prop):Prop:=
 match l with
 | [a,b]=>onDy (λd=>onDy (λe=>dl d<=4294967296/\K (.one (.lit (.bool (decide (d=e)))))) b) a
 | _=>False
theorem vaf(a b:AV)(K:AV->Prop):Ur [a,b] K=(onDy (λd=>onDy (λe=>dl d<=4294967296/\K (.one (.lit (.bool (decide (d=e)))))) b) a):=propext Iff.rfl
@[congr] theorem zbB {K:AV->Prop} {l l' : List AV} (h:l=l'):Ur l K=Ur l' K:=by subst h;rfl
attribute [go_sem,go_sem ↓] vaf
theorem qam:Good Ur:=Ya λas=>by
 unfold Ur;split
 .exact(ua2 λ_=>(ua2 λ_=>(.and λ_=>(.ret _))))
 .exact .of λK hk=>hk.elim
def kd(f0 f1:Nat):AC:=(.seq (.ops false [.u 2 (.box 15 (.t 0)),.u 3 (.box 15 (.t 1)),.m 4 .fa])
 (.fg [2,3] (.seq (.ops false [.u 5 (.fa 0 (.t 2)),.u 6 (.ld none 6 true (.t 5)),.u 7 (.fa 0 (.t 3)),.u 8 (.ld none 6 true (.t 7)),.u 9 (.call f0 [(.t 6),(.t 8)]),.m 10 (.t 9),.w 11 10 true (.fa 6 (.t 2)),.w 12 10 true (.ld none 6 true (.t 11)),.w 13 10 true (.fa 6 (.t 3)),.w 14 10 true (.ld none 6 true (.t 13)),.w 15 10 true (.call f0 [(.t 12),(.t 14)]),.u 16 (.pick (.t 10) (.t 15) .fa),.m 17 (.t 16),.w 18 17 true (.fa 12 (.t 2)),.w 19 17 true (.ld none 3 true (.t 18)),.w 20 17 true (.fa 12 (.t 3)),.w 21 17 true (.ld none 3 true (.t 20)),.w 22 17 true (.call f1 [(.t 19),(.t 21)]),.u 23 (.pick (.t 17) (.t 22) .fa),.m 4 (.t 23)])
 .ret)))
theorem Z2(hΓ:Holds P Γ){f fs fr:Nat}(hs:Γ fs=.dat true Xy)(hr:Γ fr=.dat true uC)(hc:check P f=some (24,(kd fs fr).strip,[.tmp 4])):Sound P f (.dat true Ur):=by
 refine Wa hc qam hΓ (λargs K hcl hfi hG=>?_);match args,hG with
 | [a,b],hG=>
  obtain⟨⟨c,m,r⟩,rfl,⟨hwc,hwm,hwr⟩,⟨c',m',r'⟩,rfl,⟨hwc',hwm',hwr'⟩,hd,hK⟩:=hG;refine⟨by simp,?_⟩
  have dc:al c<=4294967296:=Nat.le_trans (Nat.le_max_left _ _) hd;have dm:al m<=4294967296:=Nat.le_trans (Nat.le_trans (Nat.le_max_left _ _) (Nat.le_max_right _ _)) hd;have dr:rl r<=4294967296:=Nat.le_trans (Nat.le_trans (Nat.le_max_right _ _) (Nat.le_max_right _ _)) hd;simp only at hwc hwm hwr hwc' hwm' hwr';have e:decide ((c,m,r)=(c',m',r'))=(decide (c=c') && (decide (m=m') && decide (r=r'))):=by
   rw [<-Bool.decide_and,<-Bool.decide_and,decide_eq_decide];simp only [Prod.mk.injEq]
  rw [e]at hK;cases h1:decide (c=c') with
  | false=>
   rw [h1]at hK;simp only [go_sem,kd,hs,hr,dA,dC,Vb,h1];repeat first|refine Va (by omega) ?_|refine Va (by assumption) ?_|refine Va rfl ?_|refine Va ⟨rfl,by omega⟩ ?_|refine Va ⟨rfl,by omega,by omega⟩ ?_|intro _
   exact hK
  | true=>
   cases h2:decide (m=m') with
   | false=>
    rw [h1,h2]at hK;simp only [go_sem,kd,hs,hr,dA,dC,Vb,h1,h2];repeat first|refine Va (by omega) ?_|refine Va (by assumption) ?_|refine Va rfl ?_|refine Va ⟨rfl,by omega⟩ ?_|refine Va ⟨rfl,by omega,by omega⟩ ?_|intro _
    exact hK
   | true=>
    rw [h1,h2,Bool.true_and,Bool.true_and]at hK;simp only [go_sem,kd,hs,hr,dA,dC,Vb,h1,h2];repeat first|refine Va (by omega) ?_|refine Va (by assumption) ?_|refine Va rfl ?_|refine Va ⟨rfl,by omega⟩ ?_|refine Va ⟨rfl,by omega,by omega⟩ ?_|intro _
    exact hK
end Go.Abs
end
section
namespace Go.Num
open Go.Abs
theorem XbH{m:Arc}(hw:WLA m)(h:avld m=true):(rcan (av m).1,rcan (av m).2)=m:=by
 unfold avld at h;rw [Bool.and_eq_true]at h;exact Prod.ext (Xz hw.1 h.1) (Xz hw.2 h.2)
theorem VbS{l:List Ps}{m:Arc}(h:chkC l [m]=0):cenC l m=if crV (imgs l m)=0 then 8 else 0:=by unfold cenC;rw [if_neg (by omega)]
end Go.Num
namespace Go.Abs
open Go.Num
variable {P:Program} {Γ:Nat->Spec}
def UW(l:List AV)(K:AV->Prop):Prop:=
 match l with
 | [a,b]=>onPs (λl=>onA (λm=>okPs 1048576 l/\al m<=1048576/\K (.one (.lit (.bool true)))) b) a
 | _=>False
theorem Y2(a b:AV)(K:AV->Prop):UW [a,b] K=(onPs (λl=>onA (λm=>okPs 1048576 l/\al m<=1048576/\K (.one (.lit (.bool true)))) b) a):=propext Iff.rfl
@[congr] theorem QbA {K:AV->Prop} {l l' : List AV} (h:l=l'):UW l K=UW l' K:=by subst h;rfl
attribute [go_sem,go_sem ↓] Y2
end Go.Abs
end
section
namespace Go.Num
open Go.Abs
theorem xbG{x y z:V2}(h:crossQ (subQ y x) (subQ z x)≠0):sqQ (subQ y (ctrQ x (subQ y x) (subQ z x)))=sqQ (subQ x (ctrQ x (subQ y x) (subQ z x)))/\sqQ (subQ z (ctrQ x (subQ y x) (subQ z x)))=sqQ (subQ x (ctrQ x (subQ y x) (subQ z x))):=by
 have hd:2*crossQ (subQ y x) (subQ z x)≠0:=by intro e;exact h (by grind)
 obtain⟨u,hu⟩:∃u,subQ y x=u:=⟨_,rfl⟩;obtain⟨v,hv⟩:∃v,subQ z x=v:=⟨_,rfl⟩;have ey:y=addQ x u:=by rw [<-hu];unfold addQ subQ;exact Prod.ext (by grind) (by grind)
 have ez:z=addQ x v:=by rw [<-hv];unfold addQ subQ;exact Prod.ext (by grind) (by grind)
 rw [hu,hv]at hd ⊢;rw [ey,ez];obtain⟨a,ha⟩:∃a,(sqQ u*v.2-sqQ v*u.2) / (2*crossQ u v)=a:=⟨_,rfl⟩;obtain⟨b,hb⟩:∃b,(sqQ v*u.1-sqQ u*v.1) / (2*crossQ u v)=b:=⟨_,rfl⟩;have ea:sqQ u*v.2-sqQ v*u.2=a*(2*crossQ u v):=by
  rw [<-ha,Rat.div_def,Rat.mul_assoc,Rat.inv_mul_cancel _ hd,Rat.mul_one]
 have eb:sqQ v*u.1-sqQ u*v.1=b*(2*crossQ u v):=by
  rw [<-hb,Rat.div_def,Rat.mul_assoc,Rat.inv_mul_cancel _ hd,Rat.mul_one]
 have ec:ctrQ x u v=(x.1+a,x.2+b):=by unfold ctrQ;rw [ha,hb]
 rw [ec];obtain⟨u1,u2⟩:=u;obtain⟨v1,v2⟩:=v;obtain⟨x1,x2⟩:=x;unfold addQ subQ sqQ crossQ at *
 simp only at *
 have hne:2*(u1*v2-u2*v1)≠0:=hd;have k1:(2*(u1*v2-u2*v1))*(2*(a*u1+b*u2)-(u1*u1+u2*u2))=0:=by grind
 have k2:(2*(u1*v2-u2*v1))*(2*(a*v1+b*v2)-(v1*v1+v2*v2))=0:=by grind
 have j1:2*(a*u1+b*u2)-(u1*u1+u2*u2)=0:=(Rat.mul_eq_zero.1 k1).resolve_left hne;have j2:2*(a*v1+b*v2)-(v1*v1+v2*v2)=0:=(Rat.mul_eq_zero.1 k2).resolve_left hne;constructor <;> grind
end Go.Num
end
section
namespace Go.Num
open Go.Abs
abbrev P3:=Ps×Ps×Ps
def WL3(t:P3):Prop:=WLP t.1/\WLP t.2.1/\WLP t.2.2
def l3(t:P3):List Ps:=[t.1,t.2.1,t.2.2]
theorem jbG{t:P3}{p:Ps}:p∈l3 t↔p=t.1∨p=t.2.1∨p=t.2.2:=by simp [l3]
theorem ka8(a:V2):avld (acan a)=true:=by
 show(vldR (rcan _) && vldR (rcan _))=true;rw [xm,xm];rfl
end Go.Num
namespace Go.Abs
open Go.Num
variable {P:Program} {Γ:Nat->Spec}
def p3C(t:P3):List C:=pC t.1++pC t.2.1++pC t.2.2
def p3A(t:P3):AV:=.agg (p3C t)
def onP3(k:P3->Prop)(a:AV):Prop:=onE p3A (λt=>WL3 t/\k t) a
@[congr] theorem XbM {k:P3->Prop} {a a' : AV} (h:a=a'):onP3 k a=onP3 k a':=by subst h;rfl
theorem jbd(t:P3):CleanL (p3C t):=by
 intro c hc;simp only [p3C,List.mem_append]at hc;rcases hc with(hc | hc) | hc
 .exact Vv _ c hc
 .exact Vv _ c hc
 .exact Vv _ c hc
theorem vaW(t:P3):(p3C t).length=30:=by simp [p3C,uo]
theorem Uaq(t:P3):(p3C t).drop 0=p3C t:=rfl
theorem ZaK(t:P3):(p3C t).take 30=p3C t:=List.take_of_length_le (by rw [vaW];decide)
theorem kbD(t:P3):(p3C t).take 10=pC t.1:=by unfold p3C;rw [List.append_assoc,List.take_left' (uo _)]
theorem vbF(t:P3):(p3C t).drop 10=pC t.2.1++pC t.2.2:=by unfold p3C;rw [List.append_assoc,List.drop_left' (uo _)]
theorem vbC(t:P3):((p3C t).drop 10).take 10=pC t.2.1:=by rw [vbF,List.take_left' (uo _)]
theorem Zbz(t:P3):(((p3C t).drop 10).drop 10).take 10=pC t.2.2:=by rw [vbF,List.drop_left' (uo _),List.take_of_length_le (by rw [uo];decide)]
theorem wbi(t:P3)(r:List (List C)):datQ 0 0 (some ⟨p3C t::r,30,true⟩)=.ref (p3C t):=VG [] _ _ _ _ _ ⟨Nat.zero_le _,jbd t⟩
theorem qbj(k:List Ps->Prop)(p q r:Ps):onPs k (.one (.slice [pC p,pC q,pC r]))=((∀x∈l3 (p,q,r),WLP x)/\k (l3 (p,q,r))):=Z6 k (l3 (p,q,r))
theorem zbg(t:P3):p3A t=.agg (p3C t):=eq_of_heq (HEq.refl _)
attribute [go_sem,go_sem ↓] qbj vaW Uaq ZaK kbD vbC Zbz wbi zbg
def uah(l:List AV)(K:AV->Prop):Prop:=
 match l with
 | [a,b]=>onP3 (λt=>onA (λm=>okPs 1048576 (l3 t)/\al m<=1048576/\K (.one (.lit (.bool true)))) b) a
 | _=>False
theorem vas(a b:AV)(K:AV->Prop):uah [a,b] K=(onP3 (λt=>onA (λm=>okPs 1048576 (l3 t)/\al m<=1048576/\K (.one (.lit (.bool true)))) b) a):=propext Iff.rfl
@[congr] theorem UbL {K:AV->Prop} {l l' : List AV} (h:l=l'):uah l K=uah l' K:=by subst h;rfl
attribute [go_sem,go_sem ↓] vas
end Go.Abs
end
