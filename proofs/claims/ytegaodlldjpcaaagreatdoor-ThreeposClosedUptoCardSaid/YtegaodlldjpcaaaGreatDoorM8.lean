/-
  Parts of the proof, merged: PoseF, PoseG, PoseH, PoseJ, PoseQ, PoseL.
-/
import Derived.Test.YtegaodlldjpcaaaGreatDoorM7
set_option linter.unusedVariables false
set_option linter.unusedSimpArgs false
set_option maxRecDepth 100000
section
namespace Go.Num
open Go.Abs
def pt(i:Nat)(A:List V2):V2:=A.getD i (0,0)
theorem YE(A:List V2)(i:Nat):(A.map acan).getD i a0=acan (pt i A):=by
 unfold pt;rw [List.getD_eq_getElem?_getD,List.getD_eq_getElem?_getD,List.getElem?_map];cases A[i]? with
 | none=>simp only [Option.map_none,Option.getD_none,acan,a0,Yb]
 | some x=>rfl
theorem zae(a:V2):acan a=(rcan a.1,rcan a.2):=rfl
def ciV(A:List V2):V2:=ciQ (pt 0 A) (subQ (pt 1 A) (pt 0 A)) (subQ (pt 2 A) (pt 0 A))
def crV(A:List V2):Rat:=crossQ (subQ (pt 1 A) (pt 0 A)) (subQ (pt 2 A) (pt 0 A))
theorem xaO(A:List V2):ciL (A.map acan)=ciV A:=by unfold ciL ciV;simp only [YE,XaN]
theorem ZaW(A:List V2):crL (A.map acan)=crV A:=by unfold crL crV;simp only [YE,XaN]
def othV(A:List V2):V2:=if pt 0 A=pt 1 A then pt 2 A else pt 1 A
def lnC(A:List V2):Nat:=if pt 0 A=othV A then 8 else if crV A≠0 then 21 else 0
def lnA(A:List V2):Rat:=if lnC A=0 then (pt 0 A).2-(othV A).2 else 0
def lnB(A:List V2):Rat:=if lnC A=0 then (othV A).1-(pt 0 A).1 else 0
def lnK(A:List V2):Rat:=if lnC A=0 then ((pt 0 A).2-(othV A).2)*(pt 0 A).1+((othV A).1-(pt 0 A).1)*(pt 0 A).2 else 0
abbrev DyQ:=V2×V2×Rat
def dl(d:Dy):Nat:=max (al d.1) (max (al d.2.1) (rl d.2.2))
def dvld(d:Dy):Bool:=avld d.1 && (avld d.2.1 && vldR d.2.2)
def d0:DyQ:=((0,0),(0,0),0)
def cenC(l:List Ps)(m:Arc):Nat:=if chkC l [m]≠0 then chkC l [m] else if crV (imgs l m)=0 then 8 else 0
def cenQ(A:List V2)(m:V2):DyQ:=(ciV A,m,sqQ (subQ (pt 0 A) (ciV A)))
def lineC(l:List Ps)(m:Arc):Nat:=if chkC l [m]≠0 then chkC l [m] else lnC (imgs l m)
def psnC(l:List Ps)(d:Dy):Nat:=if plchk l≠0 then plchk l else if dvld d then 0 else 2
def psnB(l:List Ps)(d:Dy):Bool:=(imgs l d.2.1).all λx=>decide (sqQ (subQ x (av d.1))=rv d.2.2)
theorem VbH{l:List Ps}{m:Arc}(h:chkC l [m]=0):l.length=3/\l.all pvld=true/\avld m=true/\imgC l m=0:=by
 unfold chkC at h;by_cases h1:threeC l=0
 .rw [if_neg (by omega)]at h
  have h2:l.length=3/\l.all pvld=true:=by
   unfold threeC plchk at h1;repeat' split at h1
   all_goals first | contradiction | (try omega)
   rename_i h5;exact⟨by omega,by assumption⟩
  have h3:avld m=true:=by
   unfold placeC at h;split at h
   .rename_i h4;simpa using h4
   .contradiction
  refine⟨h2.1,h2.2,h3,?_⟩;unfold imgC;rw [if_pos];rw [List.all_eq_true]at h2 ⊢;intro p hp;simp only [aok,h2.2 p hp,h3,Bool.and_self]
 .rw [if_pos h1]at h;contradiction
theorem yz{l:List Ps}{m:Arc}{b c:Nat}(h:okPs b l)(hw:WLA m)(hm:al m<=c)(i:Nat):zq (pt i (imgs l m))<=9*b+2*c+48:=by
 unfold pt;rw [List.getD_eq_getElem?_getD];unfold imgs;rw [List.getElem?_map];cases hg:l[i]? with
 | none=>
  have:zq (0,0)=0:=by unfold zq;rw [rz_0];rfl
  simp only [Option.map_none,Option.getD_none,this];omega
 | some p=>
  obtain⟨h1,h2⟩:=h p (List.mem_of_getElem? hg);have e:=Wbu (pv p) (av m);have e1:rz (pv p).1.1<=rl p.1.1:=Wd h1.1;have e2:zq (pv p).2<=al p.2:=Vq h1.2;have e3:=Vq hw;have e4:rl p.1.1<=b:=Nat.le_trans (Nat.le_max_left _ _) h2;have e5:al p.2<=b:=Nat.le_trans (Nat.le_max_right _ _) h2;simp only [Option.map_some,Option.getD_some];omega
theorem uX{l:List Ps}{m:Arc}{b c:Nat}(h:okPs b l)(hw:WLA m)(hm:al m<=c):okAs (9*b+2*c+48) ((imgs l m).map acan):=by
 intro z hz;obtain⟨x,hx,rfl⟩:=List.mem_map.1 hz;obtain⟨i,hi,rfl⟩:=List.mem_iff_getElem.1 hx;refine⟨ky _,?_⟩;have:=yz h hw hm i;unfold pt at this;rw [List.getD_eq_getElem?_getD,List.getElem?_eq_getElem hi]at this;exact this
theorem YbL{p u v:V2}{b:Nat}(hu:zq u<=b)(hv:zq v<=b):zq (ciQ p u v)<=zq p+14*b+32:=by
 unfold ciQ;split
 .have:zq (0,0)=0:=by unfold zq;rw [rz_0];rfl
  omega
 .have u1:rz u.1<=zq u:=Nat.le_max_left _ _;have u2:rz u.2<=zq u:=Nat.le_max_right _ _;have v1:rz v.1<=zq v:=Nat.le_max_left _ _;have v2:rz v.2<=zq v:=Nat.le_max_right _ _;have p1:rz p.1<=zq p:=Nat.le_max_left _ _;have p2:rz p.2<=zq p:=Nat.le_max_right _ _;have su:=vA u;have sv:=vA v;have zc:=zax u v;have zt:=uaa 2;have zt2:zs 2<=2:=uR (by decide)
  have e2:(((2:Int)):Rat)=2:=rfl;rw [e2]at zt;have md:=Zb 2 (crossQ u v);have m1:=Zb (sqQ u) v.2;have m2:=Zb (sqQ v) u.2;have m3:=Zb (sqQ v) u.1;have m4:=Zb (sqQ u) v.1;have s1:=Wl (sqQ u*v.2) (sqQ v*u.2);have s2:=Wl (sqQ v*u.1) (sqQ u*v.1);have d1:=uG (sqQ u*v.2-sqQ v*u.2) (2*crossQ u v);have d2:=uG (sqQ v*u.1-sqQ u*v.1) (2*crossQ u v);have a1:=Wi p.1 ((sqQ u*v.2-sqQ v*u.2) / (2*crossQ u v));have a2:=Wi p.2 ((sqQ v*u.1-sqQ u*v.1) / (2*crossQ u v));have g:zq (ctrQ p u v)=max (rz (p.1+(sqQ u*v.2-sqQ v*u.2) / (2*crossQ u v))) (rz (p.2+(sqQ v*u.1-sqQ u*v.1) / (2*crossQ u v))):=rfl;rw [g];exact Nat.max_le.2 ⟨by omega,by omega⟩
theorem VJ{A:List V2}{c:Nat}(h0:zq (pt 0 A)<=c)(h1:zq (pt 1 A)<=c)(h2:zq (pt 2 A)<=c):zq (ciV A)<=29*c+60:=by
 have u:=Qs (pt 1 A) (pt 0 A);have v:=Qs (pt 2 A) (pt 0 A);have:=YbL (p:=pt 0 A) (u:=subQ (pt 1 A) (pt 0 A)) (v:=subQ (pt 2 A) (pt 0 A)) (b:=2*c+2) (by omega) (by omega)
 unfold ciV;omega
theorem yaA{b c:Nat}{l:List Arc}(h:okAs b l)(hb:b<=c):okAs c l:=λp hp=>⟨(h p hp).1,Nat.le_trans (h p hp).2 hb⟩
theorem Qm{b c:Nat}{l:List Ps}(h:okPs b l)(hb:b<=c):okPs c l:=λp hp=>⟨(h p hp).1,Nat.le_trans (h p hp).2 hb⟩
end Go.Num
namespace Go.Abs
open Go.Num
variable {P:Program} {Γ:Nat->Spec}
def dqA(d:DyQ):AV:=.agg [cb (rcan d.1.1),cn (rcan d.1.1),cd (rcan d.1.1),cb (rcan d.1.2),cn (rcan d.1.2),cd (rcan d.1.2),cb (rcan d.2.1.1),cn (rcan d.2.1.1),cd (rcan d.2.1.1),cb (rcan d.2.1.2),cn (rcan d.2.1.2),cd (rcan d.2.1.2),cb (rcan d.2.2),cn (rcan d.2.2),cd (rcan d.2.2)]
theorem kan(d:DyQ):dqA d=.agg [cb (rcan d.1.1),cn (rcan d.1.1),cd (rcan d.1.1),cb (rcan d.1.2),cn (rcan d.1.2),cd (rcan d.1.2),cb (rcan d.2.1.1),cn (rcan d.2.1.1),cd (rcan d.2.1.1),cb (rcan d.2.1.2),cn (rcan d.2.1.2),cd (rcan d.2.1.2),cb (rcan d.2.2),cn (rcan d.2.2),cd (rcan d.2.2)]:=eq_of_heq (HEq.refl _)
attribute [go_sem,go_sem ↓] kan
def vag(tE:Nat)(l:List AV)(K:AV->Prop):Prop:=
 match l with
 | [a,b]=>onPs (λl=>onA (λm=>okPs 1000 l/\al m<=10000/\K (.tup [rQ (if lineC l m=0 then lnA (imgs l m) else 0),rQ (if lineC l m=0 then lnB (imgs l m) else 0),rQ (if lineC l m=0 then lnK (imgs l m) else 0),errV tE (lineC l m)])) b) a
 | _=>False
theorem yaw(tE:Nat)(a b:AV)(K:AV->Prop):vag tE [a,b] K=(onPs (λl=>onA (λm=>okPs 1000 l/\al m<=10000/\K (.tup [rQ (if lineC l m=0 then lnA (imgs l m) else 0),rQ (if lineC l m=0 then lnB (imgs l m) else 0),rQ (if lineC l m=0 then lnK (imgs l m) else 0),errV tE (lineC l m)])) b) a):=propext Iff.rfl
@[congr] theorem UbC (tE:Nat) {K:AV->Prop} {l l' : List AV} (h:l=l'):vag tE l K=vag tE l' K:=by subst h;rfl
attribute [go_sem,go_sem ↓] yaw
def qaf(l:List AV)(K:AV->Prop):Prop:=
 match l with
 | [a,b]=>onPs (λl=>onA (λm=>okPs 1000 l/\al m<=10000/\l.length=3/\K (.tup [rQ (lnA (imgs l m)),rQ (lnB (imgs l m)),rQ (lnK (imgs l m)),.one (.lit (.int .i64 (lnC (imgs l m):Nat)))])) b) a
 | _=>False
theorem vaj(a b:AV)(K:AV->Prop):qaf [a,b] K=(onPs (λl=>onA (λm=>okPs 1000 l/\al m<=10000/\l.length=3/\K (.tup [rQ (lnA (imgs l m)),rQ (lnB (imgs l m)),rQ (lnK (imgs l m)),.one (.lit (.int .i64 (lnC (imgs l m):Nat)))])) b) a):=propext Iff.rfl
@[congr] theorem kbC {K:AV->Prop} {l l' : List AV} (h:l=l'):qaf l K=qaf l' K:=by subst h;rfl
attribute [go_sem,go_sem ↓] vaj
def Vj(tE:Nat)(l:List AV)(K:AV->Prop):Prop:=
 match l with
 | [a,b]=>onPs (λl=>onA (λm=>okPs 1000 l/\al m<=10000/\K (.tup [dqA (if cenC l m=0 then cenQ (imgs l m) (av m) else d0),errV tE (cenC l m)])) b) a
 | _=>False
theorem JR(tE:Nat)(a b:AV)(K:AV->Prop):Vj tE [a,b] K=(onPs (λl=>onA (λm=>okPs 1000 l/\al m<=10000/\K (.tup [dqA (if cenC l m=0 then cenQ (imgs l m) (av m) else d0),errV tE (cenC l m)])) b) a):=propext Iff.rfl
@[congr] theorem Ybn (tE:Nat) {K:AV->Prop} {l l' : List AV} (h:l=l'):Vj tE l K=Vj tE l' K:=by subst h;rfl
attribute [go_sem,go_sem ↓] JR
theorem XW(tE:Nat):Good (Vj tE):=Va λas=>by
 unfold Vj;split
 .exact(zF λ_=>(Jl λ_=>(.and λ_=>(.and λ_=>(.ret _)))))
 .exact .of λK hk=>hk.elim
def Ul(tE:Nat)(l:List AV)(K:AV->Prop):Prop:=
 match l with
 | [a,b]=>onPs (λl=>onDy (λd=>okPs 1000 l/\dl d<=100000/\K (.tup [.one (.lit (.bool (decide (psnC l d=0) && psnB l d))),errV tE (psnC l d)])) b) a
 | _=>False
theorem uP(tE:Nat)(a b:AV)(K:AV->Prop):Ul tE [a,b] K=(onPs (λl=>onDy (λd=>okPs 1000 l/\dl d<=100000/\K (.tup [.one (.lit (.bool (decide (psnC l d=0) && psnB l d))),errV tE (psnC l d)])) b) a):=propext Iff.rfl
@[congr] theorem Wbn (tE:Nat) {K:AV->Prop} {l l' : List AV} (h:l=l'):Ul tE l K=Ul tE l' K:=by subst h;rfl
attribute [go_sem,go_sem ↓] uP
theorem J0(tE:Nat):Good (Ul tE):=Va λas=>by
 unfold Ul;split
 .exact(zF λ_=>(Ubw λ_=>(.and λ_=>(.and λ_=>(.ret _)))))
 .exact .of λK hk=>hk.elim
def je(f0 f1 f2 f3 f4 f5:Nat):AC:=(.seq (.ops false [.u 3 (.box 6 (.t 1)),.u 4 (.alloc [(.lit (.bool false)),.emp,.emp,(.lit (.bool false)),.emp,.emp,(.lit (.bool false)),.emp,.emp,(.lit (.bool false)),.emp,.emp,(.lit (.bool false)),.emp,.emp]),.m 5 (.c (.one (.lit .nilIface)))])
 (.fg [0,3,4] (.seq (.seq (.ops false [.m 10 (.t 0),.u 11 (.ld none 6 true (.t 3)),.u 12 (.row 6 [[.x 6 (.t 11)]]),.u 13 (.call f0 [(.t 10),(.t 12)]),.m 6 (.t 13)])
 (.fg [0,3,4,6] (.seq (.ops false [.m 14 (.t 6),.u 15 (.binn .neq (.t 14) (.c (.one (.lit .nilIface))))])
 (.fg [0,3,4,6,15] (.cond (.t 15) (.seq (.ops false [.u 16 (.build [.z [(.lit (.bool false)),.emp,.emp,(.lit (.bool false)),.emp,.emp,(.lit (.bool false)),.emp,.emp,(.lit (.bool false)),.emp,.emp,(.lit (.bool false)),.emp,.emp]]),.m 17 (.t 6),.n (.st none 15 (.t 4) (.t 16)),.m 5 (.t 17)])
 .ret) .skip)))))
 (.fg [0,3,4] (.seq (.ops false [.m 19 (.t 0),.u 20 (.ld none 6 true (.t 3)),.u 21 (.call f1 [(.t 19),(.t 20)]),.m 18 (.t 21),.u 22 (.ext 0 (.t 18)),.u 23 (.ext 1 (.t 18)),.m 7 (.t 22),.m 8 (.t 23)])
 (.fg [3,4,7,8] (.seq (.seq (.ops false [.m 24 (.t 8),.u 25 (.binn .neq (.t 24) (.c (.one (.lit .nilIface))))])
 (.fg [3,4,7,8,25] (.cond (.t 25) (.seq (.ops false [.u 26 (.build [.z [(.lit (.bool false)),.emp,.emp,(.lit (.bool false)),.emp,.emp,(.lit (.bool false)),.emp,.emp,(.lit (.bool false)),.emp,.emp,(.lit (.bool false)),.emp,.emp]]),.m 27 (.t 8),.n (.st none 15 (.t 4) (.t 26)),.m 5 (.t 27)])
 .ret) .skip)))
 (.fg [3,4,7] (.seq (.ops false [.m 29 (.t 7),.u 30 (.call f2 [(.t 29)]),.m 28 (.t 30),.u 31 (.ext 0 (.t 28)),.u 32 (.ext 1 (.t 28)),.u 9 (.alloc [(.lit (.bool false)),.emp,.emp,(.lit (.bool false)),.emp,.emp]),.n (.st none 6 (.t 9) (.t 31)),.m 8 (.t 32)])
 (.fg [3,4,7,8,9] (.seq (.seq (.ops false [.m 33 (.t 8),.u 34 (.binn .neq (.t 33) (.c (.one (.lit .nilIface))))])
 (.fg [3,4,7,8,9,34] (.cond (.t 34) (.seq (.ops false [.u 35 (.build [.z [(.lit (.bool false)),.emp,.emp,(.lit (.bool false)),.emp,.emp,(.lit (.bool false)),.emp,.emp,(.lit (.bool false)),.emp,.emp,(.lit (.bool false)),.emp,.emp]]),.m 36 (.t 8),.n (.st none 15 (.t 4) (.t 35)),.m 5 (.t 36)])
 .ret) .skip)))
 (.fg [3,4,7,9] (.seq (.ops true [.u 37 (.ld none 6 true (.t 9)),.u 38 (.ld none 6 true (.t 3)),.u 39 (.call f3 [(.t 38)]),.m 40 (.t 7),.u 41 (.idx 6 (.t 40) (.i 0)),.u 42 (.ld none 6 true (.t 41)),.u 43 (.ld none 6 true (.t 9)),.u 44 (.call f4 [(.t 42),(.t 43)]),.u 45 (.call f5 [(.t 44)]),.u 46 (.build [.x 6 (.t 37),.x 6 (.t 39),.x 3 (.t 45)]),.n (.st none 15 (.t 4) (.t 46)),.m 5 (.c (.one (.lit .nilIface)))])
 .ret)))))))))))))
def Yc(f0 f1 f2 f3 f4 f5 f6 tE:Nat):AC:=(.seq (.ops false [.u 3 (.box 15 (.t 1)),.m 4 .fa,.m 5 (.c (.one (.lit .nilIface)))])
 (.fg [0,3] (.seq (.seq (.ops false [.m 11 (.t 0),.u 12 (.call f0 [(.t 11)]),.m 6 (.t 12)])
 (.fg [0,3,6] (.seq (.ops false [.m 13 (.t 6),.u 14 (.binn .neq (.t 13) (.c (.one (.lit .nilIface))))])
 (.fg [0,3,6,14] (.cond (.t 14) (.seq (.ops false [.m 15 (.t 6),.m 4 .fa,.m 5 (.t 15)])
 .ret) .skip)))))
 (.fg [0,3] (.seq (.seq (.ops false [.u 16 (.fa 0 (.t 3)),.u 17 (.ld none 6 true (.t 16)),.u 18 (.call f1 [(.t 17)]),.u 19 (.un .not (.t 18)),.m 20 (.t 19),.w 21 20 false (.fa 6 (.t 3)),.w 22 20 false (.ld none 6 true (.t 21)),.w 23 20 false (.call f1 [(.t 22)]),.w 24 20 false (.un .not (.t 23)),.u 25 (.pick (.t 20) .tr (.t 24)),.m 26 (.t 25),.w 27 26 false (.fa 12 (.t 3)),.w 28 26 false (.ld none 3 true (.t 27)),.w 29 26 false (.call f2 [(.t 28)]),.w 30 26 false (.un .not (.t 29)),.u 31 (.pick (.t 26) .tr (.t 30))])
 (.fg [0,3,31] (.cond (.t 31) (.seq (.ops false [.u 32 (.iface tE (.i 2)),.m 4 .fa,.m 5 (.t 32)])
 .ret) .skip)))
 (.fg [0,3] (.seq (.ops false [.m 34 (.t 0),.u 35 (.fa 6 (.t 3)),.u 36 (.ld none 6 true (.t 35)),.u 37 (.call f3 [(.t 34),(.t 36)]),.m 33 (.t 37),.u 38 (.ext 0 (.t 33)),.u 39 (.ext 1 (.t 33)),.m 7 (.t 38),.m 8 (.t 39)])
 (.fg [3,7,8] (.seq (.seq (.ops false [.m 40 (.t 8),.u 41 (.binn .neq (.t 40) (.c (.one (.lit .nilIface))))])
 (.fg [3,7,8,41] (.cond (.t 41) (.seq (.ops false [.m 42 (.t 8),.m 4 .fa,.m 5 (.t 42)])
 .ret) .skip)))
 (.fg [3,7] (.seq (.seq (.ops false [.m 43 (.t 7),.u 44 (.len (.t 43)),.m 45 (.i 0)])
 (.fg [3,43,44,45] (.block 0 (.loop (.seq (.ops false [.u 46 (.bin .lss (.t 45) (.t 44))])
 (.fg [3,43,44,45,46] (.seq (.cond (.t 46) .skip (.exit 0))
 (.fg [3,43,44,45] (.seq (.block 1 (.seq (.ops false [.u 47 (.idx 6 (.t 43) (.t 45)),.u 48 (.ld none 6 true (.t 47)),.u 10 (.alloc [(.lit (.bool false)),.emp,.emp,(.lit (.bool false)),.emp,.emp]),.n (.st none 6 (.t 10) (.t 48))])
 (.fg [3,10,43,44,45] (.seq (.ops true [.u 49 (.ld none 6 true (.t 10)),.u 50 (.fa 0 (.t 3)),.u 51 (.ld none 6 true (.t 50)),.u 52 (.call f4 [(.t 49),(.t 51)]),.u 53 (.call f5 [(.t 52)]),.u 54 (.fa 12 (.t 3)),.u 55 (.ld none 3 true (.t 54)),.u 56 (.call f6 [(.t 53),(.t 55)]),.u 57 (.bin .neq (.t 56) (.i 0))])
 (.fg [3,43,44,45,57] (.cond (.t 57) (.seq (.ops false [.m 4 .fa,.m 5 (.c (.one (.lit .nilIface)))])
 .ret) .skip))))))
 (.fg [3,43,44,45] (.ops false [.u 58 (.bin .add (.t 45) (.i 1)),.m 45 (.t 58)])))))))))))
 (.fg [] (.seq (.ops false [.m 4 .tr,.m 5 (.c (.one (.lit .nilIface)))])
 .ret)))))))))))))
theorem Xaf(hΓ:Holds P Γ){f fp fm fc:Nat}(hp:Γ fp=.dat false Yf)(hm:Γ fm=.dat false Jy)(hc' : Γ fc=.dat true jz)(hc:check P f=some (26,(Ys fp fm fc).strip,[.tmp 4])):Sound P f (.dat true Zk):=by
 refine va hc yaf hΓ (λargs K hcl hfi hG=>?_);match args,hG with
 | [a,b],hG=>
  obtain⟨x,rfl,hx,y,rfl,hy,hl,hl',hK⟩:=hG;refine⟨by simp,?_⟩
  simp only [go_sem,Ys,hp,hm,hc',hx,hy];have n1:=QF hx;have d1:=xF hx;have n2:=QF hy;have d2:=xF hy;rw [<-JaK];exact⟨by omega,by omega,by omega,by omega,by omega,by omega,hK⟩
theorem kV(hΓ:Holds P Γ){f fk fi fc fn fs fq tE:Nat}(hk:Γ fk=.dat false (Wu tE))(hi:Γ fi=.dat false (xu tE))(hx:Γ fc=.dat false (kx tE))(hn:Γ fn=.dat false Wp)(hs:Γ fs=.dat false Wg)(hq' : Γ fq=.dat false ZH)(hc:check P f=some (47,(je fk fi fc fn fs fq).strip,[.cell 4 15 true,.tmp 5])):Sound P f (.dat false (Vj tE)):=by
 refine va hc (XW tE) hΓ (λargs K hcl hfi hG=>?_);match args,hG with
 | [a,b],hG=>
  obtain⟨l,rfl,hwl,m,rfl,hwm,hok,hm,hK⟩:=hG;refine⟨by simp,?_⟩
  have ok1:=Qm hok (by decide:1000<=100000000)
  have ok2:=Qm hok (by decide:1000<=1000000)
  have om:okAs 100000000 [(m.1,m.2)]:=λz hz=>by rw [List.mem_singleton.1 hz];exact⟨hwm,by have e:al (m.1,m.2)=al m:=rfl;omega⟩
  have hm2:al (m.1,m.2)<=1000000:=by have e:al (m.1,m.2)=al m:=rfl;omega
  have hm1:al m<=1000000:=by omega
  have hm3:al m<=100000000:=by omega
  have om1:okAs 100000000 [m]:=om;by_cases h0:chkC l [m]=0
  .obtain⟨h3,hv,ha,hi0⟩:=VbH h0;have hA:=uX hok hwm hm;have hz0:=yz hok hwm hm 0;have hz1:=yz hok hwm hm 1;have hz2:=yz hok hwm hm 2;have hla:=wH l m;have hle:l.length<=100000:=by omega
   have hwA:=Vak (imgs l m);have hA1:=yaA hA (by decide:_<=1000000)
   have hci:=VJ hz0 hz1 hz2;have ec:cenC l m=if crV (imgs l m)=0 then 8 else 0:=by unfold cenC;rw [if_neg (by omega)]
   rw [ec]at hK;obtain⟨A,hAA⟩:∃A,imgs l m=A:=⟨_,rfl⟩;rw [hAA]at hK hA hz0 hz1 hz2 hla hwA hA1 hci;have g4:3<=A.length:=by omega
   have e1:(if imgC l m=0 then A else [])=A:=if_pos hi0
   have g3:3<=(A.map acan).length:=by rw [List.length_map];omega
   have g0:0<A.length:=by omega
   by_cases hcr:crV A=0
   .rw [if_pos hcr,if_neg (by decide),wb tE (by decide),kan]at hK
    unfold d0 at hK;rw [Yb]at hK;simp only [go_sem,je,hk,hi,hx,hn,hs,hq',Zd,vb,h0,hi0,hAA,e1,Ua,ZaW,xaO,hcr,wb tE (by decide:8≠0)]
    repeat (first | (refine And.intro (by omega) ?_) | (refine And.intro (by assumption) ?_) | (refine And.intro rfl ?_) | (refine And.intro ⟨rfl,by omega⟩ ?_) | (refine And.intro ⟨rfl,by omega,by omega⟩ ?_) | (intro _))
    exact hK
   .rw [if_neg hcr,if_pos rfl,Ua]at hK;simp only [go_sem,je,hk,hi,hx,hn,hs,hq',Zd,vb,h0,hi0,hAA,e1,Ua,ZaW,xaO,hcr,List.length_map,g0,YE,zae,zU,Wb];have c1:al (rcan (pt 0 A).1,rcan (pt 0 A).2)=zq (pt 0 A):=rfl;have c2:al (rcan (ciV A).1,rcan (ciV A).2)=zq (ciV A):=rfl;have c3:al (rcan (subQ (pt 0 A) (ciV A)).1,rcan (subQ (pt 0 A) (ciV A)).2)=zq (subQ (pt 0 A) (ciV A)):=rfl;have c4:=Qs (pt 0 A) (ciV A);rw [c1,c2,c3];repeat (first | (refine And.intro (by omega) ?_) | (refine And.intro (by assumption) ?_) | (refine And.intro rfl ?_) | (refine And.intro ⟨rfl,by omega⟩ ?_) | (refine And.intro ⟨rfl,by omega,by omega⟩ ?_) | (intro _))
    exact hK
  .have ec:cenC l m=chkC l [m]:=by unfold cenC;rw [if_pos h0]
   rw [ec,if_neg h0,wb tE h0,kan]at hK;unfold d0 at hK;rw [Yb]at hK;simp only [go_sem,je,hk,Zd,vb,wb tE h0];repeat (first | (refine And.intro (by omega) ?_) | (refine And.intro (by assumption) ?_) | (refine And.intro rfl ?_) | (refine And.intro ⟨rfl,by omega⟩ ?_) | (refine And.intro ⟨rfl,by omega,by omega⟩ ?_) | (intro _))
   exact hK
theorem jbp{h h' : Nat->HB}{z:Nat}{b:Bool}{d:Dy}:okB h h' (some ⟨[dC d],z,b⟩) (some ⟨[dC d],z,b⟩):=
 ⟨⟨rfl,rfl⟩,.inl ⟨rfl,λe he c hc=>by
  rw [List.mem_singleton.1 he]at hc;simp only [dC,List.mem_cons,List.not_mem_nil,or_false]at hc;rcases hc with rfl | rfl | rfl | rfl | rfl | rfl | rfl | rfl | rfl | rfl | rfl | rfl | rfl | rfl | rfl
  all_goals first | exact of_eq_true (Uh _) | exact of_eq_true (ji _) | exact of_eq_true (vi _)⟩⟩
theorem uT(hΓ:Holds P Γ){f fk fv fw fi fs fq fc tE:Nat}(hk:Γ fk=.dat false (VA tE))(hv:Γ fv=.dat true yd)(hw:Γ fw=.dat true xe)(hi:Γ fi=.dat false (xu tE))(hs:Γ fs=.dat false Wg)(hq' : Γ fq=.dat false ZH)(hcm:Γ fc=.dat true Zk)(hc:check P f=some (59,(Yc fk fv fw fi fs fq fc tE).strip,[.tmp 4,.tmp 5])):Sound P f (.dat false (Ul tE)):=by
 refine va hc (J0 tE) hΓ (λargs K hcl hfi hG=>?_);match args,hG with
 | [a,b],hG=>
  obtain⟨l,rfl,hwl,d,rfl,hwd,hok,hd,hK⟩:=hG;refine⟨by simp,?_⟩
  obtain⟨c,m,r⟩:=d;obtain⟨hwc,hwm,hwr⟩:=hwd;have dc:al c<=100000:=Nat.le_trans (Nat.le_max_left _ _) hd;have dm:al m<=100000:=Nat.le_trans (Nat.le_trans (Nat.le_max_left _ _) (Nat.le_max_right _ _)) hd;have dr:rl r<=100000:=Nat.le_trans (Nat.le_trans (Nat.le_max_right _ _) (Nat.le_max_right _ _)) hd;simp only at hwc hwm hwr;have ok1:=Qm hok (by decide:1000<=100000000)
  have ok2:=Qm hok (by decide:1000<=1000000)
  by_cases h0:plchk l=0
  .cases hdv:dvld (c,m,r) with
   | false=>
    have ec:psnC l (c,m,r)=2:=by unfold psnC;rw [if_neg (by omega),hdv,if_neg (by decide)]
    rw [ec,wb tE (by decide)]at hK
    have p0:decide (2=0)=false:=rfl;rw [p0,Bool.false_and]at hK;unfold dvld at hdv;simp only at hdv;cases h1:avld c with
    | false=>
     simp only [go_sem,Yc,hk,hv,hw,h0,Ua,dA,dC,vb,h1];repeat (first | (refine And.intro (by omega) ?_) | (refine And.intro (by assumption) ?_) | (refine And.intro rfl ?_) | (refine And.intro ⟨rfl,by omega⟩ ?_) | (refine And.intro ⟨rfl,by omega,by omega⟩ ?_) | (intro _))
     exact hK
    | true=>
     cases h2:avld m with
     | false=>
      simp only [go_sem,Yc,hk,hv,hw,h0,Ua,dA,dC,vb,h1,h2];repeat (first | (refine And.intro (by omega) ?_) | (refine And.intro (by assumption) ?_) | (refine And.intro rfl ?_) | (refine And.intro ⟨rfl,by omega⟩ ?_) | (refine And.intro ⟨rfl,by omega,by omega⟩ ?_) | (intro _))
      exact hK
     | true=>
      have h4:vldR r=false:=by rw [h1,h2,Bool.true_and,Bool.true_and]at hdv;exact hdv
      simp only [go_sem,Yc,hk,hv,hw,h0,Ua,dA,dC,vb,h1,h2,h4];repeat (first | (refine And.intro (by omega) ?_) | (refine And.intro (by assumption) ?_) | (refine And.intro rfl ?_) | (refine And.intro ⟨rfl,by omega⟩ ?_) | (refine And.intro ⟨rfl,by omega,by omega⟩ ?_) | (intro _))
      exact hK
   | true=>
    have ec:psnC l (c,m,r)=0:=by unfold psnC;rw [if_neg (by omega),hdv,if_pos rfl]
    have p0:decide (0=0)=true:=rfl;rw [ec,p0,Bool.true_and,Ua]at hK;unfold dvld at hdv;simp only [Bool.and_eq_true]at hdv;obtain⟨h1,h2,h4⟩:=hdv;have hall:l.all pvld=true:=by
     unfold plchk at h0;repeat' split at h0
     all_goals first | contradiction | assumption
    have hi0:imgC l m=0:=by
     unfold imgC;rw [if_pos];rw [List.all_eq_true]at hall ⊢;intro p hp;simp only [aok,hall p hp,h2,Bool.and_self]
    have hlen:l.length<=5:=by
     unfold plchk at h0;repeat' split at h0
     all_goals first | contradiction | omega
    have hA:=uX hok hwm dm;have hla:=wH l m;have hzz:=yz hok hwm dm;have hwA:=Vak (imgs l m);unfold psnB at hK;obtain⟨A,hAA⟩:∃A,imgs l m=A:=⟨_,rfl⟩;simp only at hK;rw [hAA]at hK hA hla hzz hwA;have e1:(if imgC l m=0 then A else [])=A:=if_pos hi0
    have dm1:al m<=1000000:=by omega
    have hl1:l.length<=100000:=by omega
    simp only [go_sem,Yc,hk,hv,hw,hi,h0,Ua,dA,dC,vb,h1,h2,h4,hi0,hAA,e1];repeat (first | (refine And.intro (by omega) ?_) | (refine And.intro (by assumption) ?_) | (refine And.intro rfl ?_) | (refine And.intro ⟨rfl,by omega⟩ ?_) | (refine And.intro ⟨rfl,by omega,by omega⟩ ?_) | (intro _))
    refine wa (λk:Nat=>⟨mkV [(3,.one (.ptr 3 1 0 0)),(43,qsA A),(44,.one (.lit (.int .i64 (A.map acan).length))),(45,.one (.lit (.int .i64 k)))],mkH [(3,⟨1,some ⟨[dC (c,m,r)],15,true⟩⟩)]⟩) (λk=>k<=A.length/\(A.take k).all (λx=>decide (sqQ (subQ x (av c))=rv r))=true) (λk=>A.length-k) 0 ?_ ?_ ?_
    .exact Qa (by simp [okS,okV,okC,okL,okH,okB,okE,Za,ja,za,Ja,wsA,ws,qsA]) ⟨jbp (d:=(c,m,r)),trivial⟩
    .exact⟨Nat.zero_le _,rfl⟩
    .rintro k ⟨hkl,hal⟩;by_cases hlt:k<A.length
     .have hx0:A[k]?=some (pt k A):=xf hlt rfl;have hzx:=hzz k;obtain⟨x,hx⟩:∃x,pt k A=x:=⟨_,rfl⟩;rw [hx]at hx0 hzx;have c1:al (rcan x.1,rcan x.2)=zq x:=rfl;have c2:al (rcan (subQ x (av c)).1,rcan (subQ x (av c)).2)=zq (subQ x (av c)):=rfl;have c3:=Qs x (av c);have c4:=Vq hwc;have c5:=vA (subQ x (av c));cases hb:decide (sqQ (subQ x (av c))=rv r) with
      | true=>
       have ho:ordQ (sqQ (subQ x (av c))) (rv r)=0:=xd.2 (of_decide_eq_true hb);simp only [go_sem,hs,hq',hcm,hlt,dC,List.length_map,YE,zae,zU,Wb,vb,hx,c1,c2,ho,Zd];repeat (first | (refine And.intro (by omega) ?_) | (refine And.intro (by assumption) ?_) | (refine And.intro rfl ?_) | (refine And.intro ⟨rfl,by omega⟩ ?_) | (refine And.intro ⟨rfl,by omega,by omega⟩ ?_) | (intro _))
       exact⟨k+1,Qa (by simp [okS,okV,okC,okL,okH,okB,okE,Za,ja,za,Ja,wsA,ws]) ⟨jbp (d:=(c,m,r)),trivial⟩,⟨by omega,jt hx0 hal hb⟩,by omega⟩
      | false=>
       have ho:¬ordQ (sqQ (subQ x (av c))) (rv r)=0:=λh=>of_decide_eq_false hb (xd.1 h);rw [uW hx0 hb]at hK;simp only [go_sem,hs,hq',hcm,hlt,dC,List.length_map,YE,zae,zU,Wb,vb,hx,c1,c2,ho,Zd];repeat (first | (refine And.intro (by omega) ?_) | (refine And.intro (by assumption) ?_) | (refine And.intro rfl ?_) | (refine And.intro ⟨rfl,by omega⟩ ?_) | (refine And.intro ⟨rfl,by omega,by omega⟩ ?_) | (intro _))
       exact hK
     .rw [List.take_of_length_le (by omega)]at hal
      rw [hal]at hK;simp only [go_sem,hlt,List.length_map];exact hK
  .have ec:psnC l (c,m,r)=plchk l:=by unfold psnC;rw [if_pos h0]
   rw [ec,decide_eq_false h0,Bool.false_and,wb tE h0]at hK;simp only [go_sem,Yc,hk,wb tE h0,dA,dC];repeat (first | (refine And.intro (by omega) ?_) | (refine And.intro (by assumption) ?_) | (refine And.intro rfl ?_) | (refine And.intro ⟨rfl,by omega⟩ ?_) | (refine And.intro ⟨rfl,by omega,by omega⟩ ?_) | (intro _))
   exact hK
end Go.Abs
end
section
namespace Go.Num
open Go.Abs
def exPs:List Ps:=[((rcan 0,false),(rcan 0,rcan 0)),((rcan 0,false),(rcan 2,rcan 0)),((rcan 0,true),(rcan 2,rcan 2))]
def o2:Arc:=(rcan 0,rcan 0)
theorem rz_2:rz 2<=2:=by
 have zt:=uaa 2;have zt2:zs 2<=2:=uR (by decide)
 have e2:(((2:Int)):Rat)=2:=rfl;rw [e2]at zt;omega
theorem JbK:al o2=0:=by unfold o2;rw [W8,rz_0];rfl
theorem Va4:okPs 1000 exPs:=by
 have z2:=rz_2;intro p hp;simp only [exPs,List.mem_cons,List.not_mem_nil,or_false]at hp;rcases hp with rfl | rfl | rfl
 all_goals
  refine⟨⟨Xb _,Xb _,Xb _⟩,?_⟩;simp only [pl,W8];refine Nat.max_le.2 ⟨by show rz 0<=1000;rw [rz_0];omega,?_⟩
  first | (rw [rz_0];omega) | omega
theorem zbg:∀p∈exPs,WLP p:=λp hp=>(Va4 p hp).1
theorem vbd:exPs.all pvld=true:=by
 simp only [exPs,List.all_cons,List.all_nil,pvld,avld,za2,Qf];decide
theorem Uah:imgs exPs o2=[(0,0),(2,0),(2,2)]:=by
 simp only [imgs,exPs,o2,List.map_cons,List.map_nil,pv,tv,av,Wb,appQ,rotQ,addQ];simp only [List.cons.injEq,Prod.mk.injEq,and_true];refine⟨⟨by grind,by grind⟩,⟨by grind,by grind⟩,by grind,by grind⟩
theorem Vbo:chkC exPs [o2]=0:=by
 have e1:plchk exPs=0:=by unfold plchk;rw [if_neg (by decide),if_neg (by decide),vbd,if_pos rfl]
 have e2:threeC exPs=0:=by unfold threeC;rw [e1,if_neg (by decide),if_pos (by decide)]
 unfold chkC placeC;rw [e2,if_neg (by decide),if_pos]
 simp only [List.all_cons,List.all_nil,avld,o2,Qf];decide
theorem qbp:cenC exPs o2=0:=by
 unfold cenC;rw [Vbo,if_neg (by decide),Uah,if_neg]
 decide +kernel
theorem xbg:cenQ (imgs exPs o2) (av o2)=((1,1),(0,0),2):=by
 rw [Uah];have:av o2=(0,0):=by unfold o2 av;simp only [Wb]
 rw [this];decide +kernel
def exD(r:Rat):Dy:=((rcan 1,rcan 1),(rcan 0,rcan 0),rcan r)
theorem Ybo(r:Rat):psnC exPs (exD r)=0:=by
 have e1:plchk exPs=0:=by unfold plchk;rw [if_neg (by decide),if_neg (by decide),vbd,if_pos rfl]
 unfold psnC;rw [e1,if_neg (by decide),if_pos]
 simp only [dvld,exD,avld,Qf];decide
theorem xaV(r:Rat):psnB exPs (exD r)=decide (2=r):=by
 have e:=Uah;unfold o2 at e;unfold psnB exD;simp only;rw [e];have a1:av (rcan 1,rcan 1)=(1,1):=by unfold av;simp only [Wb]
 have s1:sqQ (subQ (0,0) (1,1))=2:=by decide +kernel
 have s2:sqQ (subQ (2,0) (1,1))=2:=by decide +kernel
 have s3:sqQ (subQ (2,2) (1,1))=2:=by decide +kernel
 rw [a1];simp only [List.all_cons,List.all_nil,s1,s2,s3,Wb,Bool.and_true,Bool.and_self]
end Go.Num
namespace Go.Abs
open Go.Num
variable {P:Program} {Γ:Nat->Spec}
def ZB(l:List AV)(K:AV->Prop):Prop:=
 match l with
 | []=>K (psA exPs)
 | _=>False
theorem vaU(K:AV->Prop):ZB [] K=(K (psA exPs)):=propext Iff.rfl
@[congr] theorem vbF {K:AV->Prop} {l l' : List AV} (h:l=l'):ZB l K=ZB l' K:=by subst h;rfl
attribute [go_sem,go_sem ↓] vaU
theorem yaU:Good ZB:=Va λas=>by
 unfold ZB;split
 .exact(.ret _)
 .exact .of λK hk=>hk.elim
def Yu(l:List AV)(K:AV->Prop):Prop:=
 match l with
 | []=>K (.one (.lit (.bool true)))
 | _=>False
theorem kak(K:AV->Prop):Yu [] K=(K (.one (.lit (.bool true)))):=propext Iff.rfl
@[congr] theorem wbB {K:AV->Prop} {l l' : List AV} (h:l=l'):Yu l K=Yu l' K:=by subst h;rfl
attribute [go_sem,go_sem ↓] kak
theorem XaB:Good Yu:=Va λas=>by
 unfold Yu;split
 .exact(.ret _)
 .exact .of λK hk=>hk.elim
def jU(l:List AV)(K:AV->Prop):Prop:=
 match l with
 | [a,b]=>onPs (λl=>onA (λm=>okPs 1048576 l/\al m<=1048576/\K (.one (.lit (.bool true)))) b) a
 | _=>False
theorem Y6(a b:AV)(K:AV->Prop):jU [a,b] K=(onPs (λl=>onA (λm=>okPs 1048576 l/\al m<=1048576/\K (.one (.lit (.bool true)))) b) a):=propext Iff.rfl
@[congr] theorem Wbp {K:AV->Prop} {l l' : List AV} (h:l=l'):jU l K=jU l' K:=by subst h;rfl
attribute [go_sem,go_sem ↓] Y6
def zf(f0:Nat):AC:=(.seq (.ops false [.m 0 (.c (.one .emp))])
 (.fg [] (.seq (.ops false [.u 2 (.call f0 [(.i 2)]),.u 1 (.alloc [(.lit (.bool false)),.emp,.emp]),.n (.st none 3 (.t 1) (.t 2))])
 (.fg [1] (.seq (.ops false [.u 3 (.build [.z [(.lit (.bool false)),.emp,.emp,(.lit (.bool false)),(.lit (.bool false)),.emp,.emp,(.lit (.bool false)),.emp,.emp]]),.u 4 (.ld none 3 true (.t 1)),.u 5 (.build [.x 3 (.t 4),.z [(.lit (.bool false)),.emp,.emp]]),.u 6 (.build [.z [(.lit (.bool false)),.emp,.emp,(.lit (.bool false))],.x 6 (.t 5)]),.u 7 (.build [.z [(.lit (.bool false)),.emp,.emp],.x 1 .tr]),.u 8 (.ld none 3 true (.t 1)),.u 9 (.ld none 3 true (.t 1)),.u 10 (.build [.x 3 (.t 8),.x 3 (.t 9)]),.u 11 (.build [.x 4 (.t 7),.x 6 (.t 10)]),.u 12 (.row 10 [[.x 10 (.t 3)],[.x 10 (.t 6)],[.x 10 (.t 11)]]),.m 0 (.t 12)])
 .ret)))))
def Vg(f0 f1 f2 f3 f4:Nat):AC:=(.seq (.ops false [.m 0 .fa])
 (.fg [] (.seq (.ops false [.u 8 (.call f0 []),.u 9 (.build [.z [(.lit (.bool false)),.emp,.emp,(.lit (.bool false)),.emp,.emp]]),.u 10 (.call f1 [(.t 8),(.t 9)]),.m 7 (.t 10),.u 11 (.ext 0 (.t 7)),.u 12 (.ext 1 (.t 7)),.u 1 (.alloc [(.lit (.bool false)),.emp,.emp,(.lit (.bool false)),.emp,.emp,(.lit (.bool false)),.emp,.emp,(.lit (.bool false)),.emp,.emp,(.lit (.bool false)),.emp,.emp]),.n (.st none 15 (.t 1) (.t 11)),.m 2 (.t 12)])
 (.fg [1,2] (.seq (.ops true [.u 14 (.call f0 []),.u 15 (.ld none 15 true (.t 1)),.u 16 (.call f2 [(.t 14),(.t 15)]),.m 13 (.t 16),.u 17 (.ext 0 (.t 13)),.u 18 (.ext 1 (.t 13)),.m 3 (.t 17),.m 4 (.t 18)])
 (.fg [1,2,3,4] (.seq (.ops false [.u 19 (.call f3 [(.i 3)]),.u 20 (.fa 12 (.t 1)),.n (.st none 3 (.t 20) (.t 19))])
 (.fg [1,2,3,4] (.seq (.ops true [.u 22 (.call f0 []),.u 23 (.ld none 15 true (.t 1)),.u 24 (.call f2 [(.t 22),(.t 23)]),.m 21 (.t 24),.u 25 (.ext 0 (.t 21)),.u 26 (.ext 1 (.t 21)),.m 5 (.t 25),.m 6 (.t 26)])
 (.fg [1,2,3,4,5,6] (.seq (.ops false [.m 27 (.t 2),.u 28 (.binn .eql (.t 27) (.c (.one (.lit .nilIface)))),.m 29 (.t 28),.w 30 29 true (.mv (.t 4)),.w 31 29 true (.binn .eql (.t 30) (.c (.one (.lit .nilIface)))),.u 32 (.pick (.t 29) (.t 31) .fa),.m 33 (.t 32),.w 34 33 true (.mv (.t 6)),.w 35 33 true (.binn .eql (.t 34) (.c (.one (.lit .nilIface)))),.u 36 (.pick (.t 33) (.t 35) .fa),.m 37 (.t 36),.w 38 37 true (.mv (.t 3)),.u 39 (.pick (.t 37) (.t 38) .fa),.m 40 (.t 39),.w 41 40 true (.mv (.t 5)),.w 42 40 true (.un .not (.t 41)),.u 43 (.pick (.t 40) (.t 42) .fa),.m 44 (.t 43),.w 45 44 true (.fa 0 (.t 1)),.w 46 44 true (.fa 0 (.t 45)),.w 47 44 true (.ld none 3 true (.t 46)),.w 48 44 true (.call f4 [(.t 47)]),.w 49 44 true (.sop 1 [(.t 48),(.c (.one (.lit (.string ⟨#[49]⟩))))]),.u 50 (.pick (.t 44) (.t 49) .fa),.m 51 (.t 50),.w 52 51 true (.fa 0 (.t 1)),.w 53 51 true (.fa 3 (.t 52)),.w 54 51 true (.ld none 3 true (.t 53)),.w 55 51 true (.call f4 [(.t 54)]),.w 56 51 true (.sop 1 [(.t 55),(.c (.one (.lit (.string ⟨#[49]⟩))))]),.u 57 (.pick (.t 51) (.t 56) .fa),.m 0 (.t 57)])
 .ret)))))))))))
theorem kaC(hΓ:Holds P Γ){f fo:Nat}(ho:Γ fo=.dat false ux)(hc:check P f=some (13,(zf fo).strip,[.tmp 0])):Sound P f (.dat false ZB):=by
 refine va hc yaU hΓ (λargs K hcl hfi hG=>?_);match args,hG with
 | [],hG=>
  have hK:=hG;simp only [ZB,psA,psC,exPs,List.map_cons,List.map_nil,pC,Yb]at hK;refine⟨by simp,?_⟩
  have e2:(((2:Int)):Rat)=2:=rfl;simp only [go_sem,zf,ho,e2];repeat (first | (refine And.intro (by omega) ?_) | (refine And.intro (by assumption) ?_) | (refine And.intro rfl ?_) | (refine And.intro ⟨rfl,by omega⟩ ?_) | (refine And.intro ⟨rfl,by omega,by omega⟩ ?_) | (intro _))
  exact hK
theorem Jai(hΓ:Holds P Γ){f fe fc fp fo ft tE:Nat}(he:Γ fe=.dat false ZB)(hx:Γ fc=.dat false (Vj tE))(hp:Γ fp=.dat false (Ul tE))(ho:Γ fo=.dat false ux)(ht:Γ ft=.dat false Jx)(hc:check P f=some (58,(Vg fe fc fp fo ft).strip,[.tmp 0])):Sound P f (.dat true Yu):=by
 refine va hc XaB hΓ (λargs K hcl hfi hG=>?_);match args,hG with
 | [],hG=>
  have hK:=hG;simp only [Yu]at hK;refine⟨by simp,?_⟩
  have o2e:((rcan 0,rcan 0):Arc)=o2:=rfl;have dde:∀r:Rat,(((rcan 1,rcan 1),(rcan 0,rcan 0),rcan r):Dy)=exD r:=λ_=>rfl;have dde' : ∀r:Rat,(((rcan 1,rcan 1),o2,rcan r):Dy)=exD r:=λ_=>rfl;have e3:(((3:Int)):Rat)=3:=rfl;have cq:=xbg;have b2:psnB exPs (exD 2)=true:=by rw [xaV];rfl
  have b3:psnB exPs (exD 3)=false:=by rw [xaV];decide
  simp only [go_sem,Vg,he,hx,hp,ho,ht,o2e,dde,dde',e3,cq,qbp,Ybo,Ua,b2,b3,Wb,JbK,Bool.and_true,Bool.and_false,Bool.true_and,Bool.false_and];have st:((⟨#[49]⟩:ByteArray).toList == (⟨#[49]⟩:ByteArray).toList)=true:=beq_self_eq_true _;rw [st];have w2:∀r,WLD (exD r):=λr=>⟨⟨Xb _,Xb _⟩,⟨Xb _,Xb _⟩,Xb _⟩;have i1:=rz_1;have i2:=rz_2;have i3:=uaa 3;have i4:zs 3<=2:=uR (by decide)
  rw [e3]at i3;have l2:∀r,rz r<=5->dl (exD r)<=100000:=λr hr=>by
   have e1:dl (exD r)=max (max (rz 1) (rz 1)) (max (max (rz 0) (rz 0)) (rz r)):=rfl;rw [e1,rz_0];omega
  exact⟨zbg,Va4,zbg,w2 _,Va4,l2 _ (by omega),by decide,by decide,zbg,w2 _,Va4,l2 _ (by omega),by omega,λ_=>⟨by omega,hK⟩,λh=>by contradiction⟩
theorem VY{l:List Ps}{m:Arc}(h:threeC l=0):chkC l [m]=if avld m=true then 0 else 2:=by
 unfold chkC placeC;rw [if_neg (by omega)]
 cases hm:avld m <;> simp [hm]
theorem ja6{l:List Ps}(hw:∀p∈l,WLP p)(h:l.all sP=true):okPs 2 l:=by
 intro p hp;have hs:=List.all_eq_true.1 h p hp;simp only [sP,Bool.and_eq_true]at hs;exact⟨hw p hp,Nat.max_le.2 ⟨qaK hs.1,Nat.max_le.2 ⟨qaK hs.2.1,qaK hs.2.2⟩⟩⟩
theorem Qau{m:Arc}(h:sA m=true):al m<=2:=by
 simp only [sA,Bool.and_eq_true]at h;exact Nat.max_le.2 ⟨qaK h.1,qaK h.2⟩
end Go.Abs
end
section
namespace Go.Num
open Go.Abs
instance decAR:DecidableEq (Arc×R):=instDecidableEqProd
instance decDy:DecidableEq Dy:=instDecidableEqProd
def dz:Dy:=(((false,[],[]),(false,[],[])),((false,[],[]),(false,[],[])),(false,[],[]))
def cenR(A:List V2)(m:Arc):Dy:=(acan (ciV A),m,rcan (sqQ (subQ (pt 0 A) (ciV A))))
def movR(A:List V2)(m:Arc):Dy:=(m,acan (ciV A),rcan (sqQ (subQ (pt 0 A) (ciV A))))
def imgsB(l:List Ps)(o:Arc):List V2:=l.map λp=>appQ (invQ (pv p)) (av o)
def movC(l:List Ps)(o:Arc):Nat:=if chkC l [o]≠0 then chkC l [o] else if crV (imgsB l o)=0 then 8 else 0
def movQ(A:List V2)(o:V2):DyQ:=(o,ciV A,sqQ (subQ (pt 0 A) (ciV A)))
end Go.Num
namespace Go.Abs
open Go.Num
variable {P:Program} {Γ:Nat->Spec}
theorem xbF{h h' : Nat->HB}{z:Nat}{b:Bool}{es:List (List C)}(hc:CleanR es):okB h h' (some ⟨es,z,b⟩) (some ⟨es,z,b⟩):=⟨⟨rfl,rfl⟩,.inl ⟨rfl,hc⟩⟩
def qK(l:List AV)(K:AV->Prop):Prop:=
 match l with
 | [a,b]=>onPs (λl=>onA (λm=>okPs 1000 l/\al m<=10000/\l.length=3/\K (.tup [dA (if crV (imgs l m)=0 then dz else cenR (imgs l m) m),.one (.lit (.int .i64 (if crV (imgs l m)=0 then 8 else 0)))])) b) a
 | _=>False
theorem WP(a b:AV)(K:AV->Prop):qK [a,b] K=(onPs (λl=>onA (λm=>okPs 1000 l/\al m<=10000/\l.length=3/\K (.tup [dA (if crV (imgs l m)=0 then dz else cenR (imgs l m) m),.one (.lit (.int .i64 (if crV (imgs l m)=0 then 8 else 0)))])) b) a):=propext Iff.rfl
@[congr] theorem wbn {K:AV->Prop} {l l' : List AV} (h:l=l'):qK l K=qK l' K:=by subst h;rfl
attribute [go_sem,go_sem ↓] WP
def ZK(l:List AV)(K:AV->Prop):Prop:=
 match l with
 | [a,b]=>onPs (λl=>onA (λm=>okPs 1000 l/\al m<=10000/\l.length=3/\K (.tup [dA (if crV (imgsB l m)=0 then dz else movR (imgsB l m) m),.one (.lit (.int .i64 (if crV (imgsB l m)=0 then 8 else 0)))])) b) a
 | _=>False
theorem ZN(a b:AV)(K:AV->Prop):ZK [a,b] K=(onPs (λl=>onA (λm=>okPs 1000 l/\al m<=10000/\l.length=3/\K (.tup [dA (if crV (imgsB l m)=0 then dz else movR (imgsB l m) m),.one (.lit (.int .i64 (if crV (imgsB l m)=0 then 8 else 0)))])) b) a):=propext Iff.rfl
@[congr] theorem kbn {K:AV->Prop} {l l' : List AV} (h:l=l'):ZK l K=ZK l' K:=by subst h;rfl
attribute [go_sem,go_sem ↓] ZN
def uI(tE:Nat)(l:List AV)(K:AV->Prop):Prop:=
 match l with
 | [a,b]=>onPs (λl=>onA (λm=>okPs 1000 l/\al m<=10000/\K (.tup [dqA (if movC l m=0 then movQ (imgsB l m) (av m) else d0),errV tE (movC l m)])) b) a
 | _=>False
theorem YM(tE:Nat)(a b:AV)(K:AV->Prop):uI tE [a,b] K=(onPs (λl=>onA (λm=>okPs 1000 l/\al m<=10000/\K (.tup [dqA (if movC l m=0 then movQ (imgsB l m) (av m) else d0),errV tE (movC l m)])) b) a):=propext Iff.rfl
@[congr] theorem Jbn (tE:Nat) {K:AV->Prop} {l l' : List AV} (h:l=l'):uI tE l K=uI tE l' K:=by subst h;rfl
attribute [go_sem,go_sem ↓] YM
def uL(l:List AV)(K:AV->Prop):Prop:=
 match l with
 | [a,b]=>onPs (λl=>onDy (λd=>okPs 1000 l/\dl d<=100000/\l.length<=1000/\K (.one (.lit (.bool (psnB l d))))) b) a
 | _=>False
theorem YO(a b:AV)(K:AV->Prop):uL [a,b] K=(onPs (λl=>onDy (λd=>okPs 1000 l/\dl d<=100000/\l.length<=1000/\K (.one (.lit (.bool (psnB l d))))) b) a):=propext Iff.rfl
@[congr] theorem Zbn {K:AV->Prop} {l l' : List AV} (h:l=l'):uL l K=uL l' K:=by subst h;rfl
attribute [go_sem,go_sem ↓] YO
def yac(l:List AV)(K:AV->Prop):Prop:=
 match l with
 | [a]=>onDy (λd=>dl d<=100000/\K (.one (.lit (.bool (dvld d))))) a
 | _=>False
theorem Yax(a:AV)(K:AV->Prop):yac [a] K=(onDy (λd=>dl d<=100000/\K (.one (.lit (.bool (dvld d))))) a):=propext Iff.rfl
@[congr] theorem zbC {K:AV->Prop} {l l' : List AV} (h:l=l'):yac l K=yac l' K:=by subst h;rfl
attribute [go_sem,go_sem ↓] Yax
def qJ(l:List AV)(K:AV->Prop):Prop:=
 match l with
 | [a]=>onDy (λd=>dl d<=4294967296/\K (.one (.lit (.bool (sA d.1 && (sA d.2.1 && sR 4 d.2.2)))))) a
 | _=>False
theorem QR(a:AV)(K:AV->Prop):qJ [a] K=(onDy (λd=>dl d<=4294967296/\K (.one (.lit (.bool (sA d.1 && (sA d.2.1 && sR 4 d.2.2)))))) a):=propext Iff.rfl
@[congr] theorem qbn {K:AV->Prop} {l l' : List AV} (h:l=l'):qJ l K=qJ l' K:=by subst h;rfl
attribute [go_sem,go_sem ↓] QR
def qV(l:List AV)(K:AV->Prop):Prop:=
 match l with
 | [a,b]=>onDy (λd=>onDy (λe=>dl d<=4294967296/\K (.one (.lit (.bool (decide (d=e)))))) b) a
 | _=>False
theorem W0(a b:AV)(K:AV->Prop):qV [a,b] K=(onDy (λd=>onDy (λe=>dl d<=4294967296/\K (.one (.lit (.bool (decide (d=e)))))) b) a):=propext Iff.rfl
@[congr] theorem Xbr {K:AV->Prop} {l l' : List AV} (h:l=l'):qV l K=qV l' K:=by subst h;rfl
attribute [go_sem,go_sem ↓] W0
end Go.Abs
end
section
namespace Go.Num
open Go.Abs
theorem Uby{m:Arc}(hw:WLA m)(h:avld m=true):(rcan (av m).1,rcan (av m).2)=m:=by
 unfold avld at h;rw [Bool.and_eq_true]at h;exact Prod.ext (Zx hw.1 h.1) (Zx hw.2 h.2)
end Go.Num
namespace Go.Abs
open Go.Num
variable {P:Program} {Γ:Nat->Spec}
def xU(l:List AV)(K:AV->Prop):Prop:=
 match l with
 | [a,b]=>onPs (λl=>onA (λm=>okPs 1048576 l/\al m<=1048576/\K (.one (.lit (.bool true)))) b) a
 | _=>False
theorem W1(a b:AV)(K:AV->Prop):xU [a,b] K=(onPs (λl=>onA (λm=>okPs 1048576 l/\al m<=1048576/\K (.one (.lit (.bool true)))) b) a):=propext Iff.rfl
@[congr] theorem kbs {K:AV->Prop} {l l' : List AV} (h:l=l'):xU l K=xU l' K:=by subst h;rfl
attribute [go_sem,go_sem ↓] W1
end Go.Abs
end
section
namespace Go.Num
open Go.Abs
theorem ubw(t:TnQ):cosQ t*cosQ t+sinQ t*sinQ t=1:=by
 unfold cosQ sinQ;by_cases h:t.2=true
 .rw [if_pos h,if_pos h];grind
 .rw [if_neg h,if_neg h];have hd:=qbi t.1;obtain⟨x,hx⟩:∃x,t.1=x:=⟨_,rfl⟩;rw [hx]at hd ⊢;obtain⟨d,hdd⟩:∃d,1+x*x=d:=⟨_,rfl⟩;rw [hdd]at hd ⊢;have e:(1-x*x)*(1-x*x)+(x+x)*(x+x)=d*d:=by grind
  simp only [Rat.div_def];have hi:d*d⁻¹=1:=Rat.mul_inv_cancel d hd;obtain⟨i,hii⟩:∃i,d⁻¹=i:=⟨_,rfl⟩;rw [hii]at hi ⊢;grind
theorem Jbw{x y z:V2}(h:crossQ (subQ y x) (subQ z x)≠0):sqQ (subQ y (ctrQ x (subQ y x) (subQ z x)))=sqQ (subQ x (ctrQ x (subQ y x) (subQ z x)))/\sqQ (subQ z (ctrQ x (subQ y x) (subQ z x)))=sqQ (subQ x (ctrQ x (subQ y x) (subQ z x))):=by
 have hd:2*crossQ (subQ y x) (subQ z x)≠0:=by intro e;exact h (by grind)
 obtain⟨u,hu⟩:∃u,subQ y x=u:=⟨_,rfl⟩;obtain⟨v,hv⟩:∃v,subQ z x=v:=⟨_,rfl⟩;have ey:y=addQ x u:=by rw [<-hu];unfold addQ subQ;exact Prod.ext (by grind) (by grind)
 have ez:z=addQ x v:=by rw [<-hv];unfold addQ subQ;exact Prod.ext (by grind) (by grind)
 rw [hu,hv]at hd ⊢;rw [ey,ez];obtain⟨a,ha⟩:∃a,(sqQ u*v.2-sqQ v*u.2) / (2*crossQ u v)=a:=⟨_,rfl⟩;obtain⟨b,hb⟩:∃b,(sqQ v*u.1-sqQ u*v.1) / (2*crossQ u v)=b:=⟨_,rfl⟩;have ea:sqQ u*v.2-sqQ v*u.2=a*(2*crossQ u v):=by
  rw [<-ha,Rat.div_def,Rat.mul_assoc,Rat.inv_mul_cancel _ hd,Rat.mul_one]
 have eb:sqQ v*u.1-sqQ u*v.1=b*(2*crossQ u v):=by
  rw [<-hb,Rat.div_def,Rat.mul_assoc,Rat.inv_mul_cancel _ hd,Rat.mul_one]
 have ec:ctrQ x u v=(x.1+a,x.2+b):=by unfold ctrQ;rw [ha,hb]
 rw [ec];obtain⟨u1,u2⟩:=u;obtain⟨v1,v2⟩:=v;obtain⟨x1,x2⟩:=x;unfold addQ subQ sqQ crossQ at *
 simp only at *
 have hne:2*(u1*v2-u2*v1)≠0:=hd;have k1:(2*(u1*v2-u2*v1))*(2*(a*u1+b*u2)-(u1*u1+u2*u2))=0:=by grind
 have k2:(2*(u1*v2-u2*v1))*(2*(a*v1+b*v2)-(v1*v1+v2*v2))=0:=by grind
 have j1:2*(a*u1+b*u2)-(u1*u1+u2*u2)=0:=(Rat.mul_eq_zero.1 k1).resolve_left hne;have j2:2*(a*v1+b*v2)-(v1*v1+v2*v2)=0:=(Rat.mul_eq_zero.1 k2).resolve_left hne;constructor <;> grind
end Go.Num
end
section
namespace Go.Num
open Go.Abs
abbrev P3:=Ps×Ps×Ps
def WL3(t:P3):Prop:=WLP t.1/\WLP t.2.1/\WLP t.2.2
def l3(t:P3):List Ps:=[t.1,t.2.1,t.2.2]
theorem Jba{t:P3}{p:Ps}:p∈l3 t↔p=t.1∨p=t.2.1∨p=t.2.2:=by simp [l3]
theorem kbE{t:P3}(h:WL3 t):∀p∈l3 t,WLP p:=λp hp=>by
 rcases Jba.1 hp with rfl | rfl | rfl
 .exact h.1
 .exact h.2.1
 .exact h.2.2
end Go.Num
namespace Go.Abs
open Go.Num
variable {P:Program} {Γ:Nat->Spec}
def p3C(t:P3):List C:=pC t.1++pC t.2.1++pC t.2.2
def p3A(t:P3):AV:=.agg (p3C t)
theorem zbl(x y:P3)(h:p3A x=p3A y):x=y:=by
 simp only [p3A,p3C,AV.agg.injEq]at h;have h1:=List.append_inj h (by simp [yr])
 have h2:=List.append_inj h1.1 (by simp [yr])
 exact Prod.ext (J3 h2.1) (Prod.ext (J3 h2.2) (J3 h1.2))
def onP3(k:P3->Prop)(a:AV):Prop:=onE p3A (λt=>WL3 t/\k t) a
@[congr] theorem wbI {k:P3->Prop} {a a' : AV} (h:a=a'):onP3 k a=onP3 k a':=by subst h;rfl
theorem ybs{β:Type}{T:P3->(β->Prop)->Prop}(h:∀x,GoodT (T x)){a:AV}:GoodT λK=>onP3 (λx=>T x K) a:=
 zE (e:=p3A) (T:=λp K=>WL3 p/\T p K) zbl λp=>GoodT.and (c:=WL3 p) (T:=T p) λ_=>h p
theorem XH(t:P3):CleanL (p3C t):=by
 intro c hc;simp only [p3C,List.mem_append]at hc;rcases hc with(hc | hc) | hc
 .exact WH _ c hc
 .exact WH _ c hc
 .exact WH _ c hc
theorem XaF(t:P3):(p3C t).length=30:=by simp [p3C,yr]
theorem yao(t:P3):(p3C t).drop 0=p3C t:=rfl
theorem xaR(t:P3):(p3C t).take 30=p3C t:=List.take_of_length_le (by rw [XaF];decide)
theorem Wbz(t:P3):(p3C t).take 10=pC t.1:=by unfold p3C;rw [List.append_assoc,List.take_left' (yr _)]
theorem wbz(t:P3):(p3C t).drop 10=pC t.2.1++pC t.2.2:=by unfold p3C;rw [List.append_assoc,List.drop_left' (yr _)]
theorem wby(t:P3):((p3C t).drop 10).take 10=pC t.2.1:=by rw [wbz,List.take_left' (yr _)]
theorem Qbu(t:P3):(((p3C t).drop 10).drop 10).take 10=pC t.2.2:=by rw [wbz,List.drop_left' (yr _),List.take_of_length_le (by rw [yr];decide)]
theorem JbH(t:P3)(k:Nat)(h:k<3):((p3C t).drop (k*10)).take 10=pC ((l3 t).getD k p0):=by
 have h2:(p3C t).drop 10=pC t.2.1++pC t.2.2:=by unfold p3C;rw [List.append_assoc,List.drop_left' (yr _)]
 match k,h with
 | 0,_=>show(p3C t).take 10=_;unfold p3C;rw [List.append_assoc,List.take_left' (yr _)];rfl
 | 1,_=>show((p3C t).drop 10).take 10=_;rw [h2,List.take_left' (yr _)];rfl
 | 2,_=>
  show((p3C t).drop 20).take 10=_;have e:(p3C t).drop 20=((p3C t).drop 10).drop 10:=by rw [List.drop_drop]
  rw [e,h2,List.drop_left' (yr _),List.take_of_length_le (by rw [yr];decide)];rfl
theorem ya6(t:P3)(r:List (List C)):datQ 0 0 (some ⟨p3C t::r,30,true⟩)=.ref (p3C t):=jI [] _ _ _ _ _ ⟨Nat.zero_le _,XH t⟩
theorem Xbb(k:List Ps->Prop)(p q r:Ps):onPs k (.one (.slice [pC p,pC q,pC r]))=((∀x∈l3 (p,q,r),WLP x)/\k (l3 (p,q,r))):=QaU k (l3 (p,q,r))
theorem jbd(t:P3):p3A t=.agg (p3C t):=eq_of_heq (HEq.refl _)
attribute [go_sem,go_sem ↓] Xbb XaF yao xaR Wbz wby Qbu ya6 jbd
def kae(l:List AV)(K:AV->Prop):Prop:=
 match l with
 | [a,b]=>onP3 (λt=>onA (λm=>okPs 1048576 (l3 t)/\al m<=1048576/\K (.one (.lit (.bool true)))) b) a
 | _=>False
theorem vas(a b:AV)(K:AV->Prop):kae [a,b] K=(onP3 (λt=>onA (λm=>okPs 1048576 (l3 t)/\al m<=1048576/\K (.one (.lit (.bool true)))) b) a):=propext Iff.rfl
@[congr] theorem QbD {K:AV->Prop} {l l' : List AV} (h:l=l'):kae l K=kae l' K:=by subst h;rfl
attribute [go_sem,go_sem ↓] vas
end Go.Abs
end
