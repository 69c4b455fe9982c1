/-
  Parts of the proof, merged: BurC, BurD, AbsZ, BurE, CogT, CoupE, CoupF, CoupG, BurF, BurG.
-/
import Derived.Test.YtneiiodebbmcaaaGreatDoorM10
set_option linter.unusedVariables false
set_option linter.unusedSimpArgs false
set_option maxRecDepth 100000
section
namespace Go.Num
open Go.Abs
def invL(l:List Ps):List Ps:=l.map λp=>pcan (invQ (pv p))
def cnL(l:List Ps):BQ:=bcL (invL l)
def onC(l:List Ps)(m:Arc):Nat:=if fourC l≠0 then fourC l else if avld m=false then 2 else 0
theorem Jb0{l:List Ps}{m:Arc}(h:fourC l≠0):onC l m=fourC l:=if_pos h
theorem Xbx{l:List Ps}{m:Arc}(h:fourC l=0)(h2:avld m=true):onC l m=0:=by
 unfold onC;rw [if_neg (by omega),if_neg (by simp [h2])]
theorem ubZ{l:List Ps}{m:Arc}(h:fourC l=0)(h2:avld m=false):onC l m=2:=by
 unfold onC;rw [if_neg (by omega),if_pos h2]
theorem JL{l:List Ps}(hl:okPs 1000 l)(h:fourC l=0):PB 4 10000000 (bcL l)/\∀m:V2,ev (bcL l) m.1 m.2=dtL l m:=by
 obtain⟨hlen,_⟩:=vay h;obtain⟨p,q,r,s,rfl⟩:=jbd hlen;have k1:=Vt (hl p (by simp)).1 (hl p (by simp)).2
 have k2:=Vt (hl q (by simp)).1 (hl q (by simp)).2
 have k3:=Vt (hl r (by simp)).1 (hl r (by simp)).2
 have k4:=Vt (hl s (by simp)).1 (hl s (by simp)).2
 exact⟨XbV k1 k2 k3 k4,λm=>qbV k1 k2 k3 k4 m⟩
theorem va4(p:PsQ)(h:tchk (pcan p).1=0):pvld (pcan p)=true:=by
 unfold pvld;have:avld (pcan p).2=true:=by show(vldR (rcan _) && vldR (rcan _))=true;rw [Jm,Jm];rfl
 rw [this,h];rfl
theorem wbn{l:List Ps}(hl:okPs 1000 l)(h:fourC l=0){x y:R}(wx:WLR x)(wy:WLR y)(lx:rl x<=10000)(ly:rl y<=10000):rz (dtL l (rv x,rv y))<=4294967296:=by
 obtain⟨pc,e⟩:=JL hl h;have e1:=e (rv x,rv y);have z:=XbF pc.canon.ins (rv x) (rv y);have z1:=jN pc.canon;have z2:=Jg wx;have z3:=Jg wy;have z5:=pc.size;have z6:(bcL l).length*(24*(rz (rv x)+2)+24*(rz (rv y)+2)+8)<=325*(24*(10000+2)+24*(10000+2)+8):=Nat.mul_le_mul z1 (by omega)
 simp only at e1;rw [e1]at z;omega
end Go.Num
namespace Go.Abs
open Go.Num
variable {P:Program} {Γ:Nat->Spec}
def uaU(tE:Nat)(l:List AV)(K:AV->Prop):Prop:=
 match l with
 | [a]=>onPs (λl=>okPs 90 l/\K (.tup [.one (.slice ((bres (fourC l) (cnL l)).map mC)),errV tE (fourC l)])) a
 | _=>False
theorem WaO tE a K:uaU tE [a] K=(onPs (λl=>okPs 90 l/\K (.tup [.one (.slice ((bres (fourC l) (cnL l)).map mC)),errV tE (fourC l)])) a):=propext Iff.rfl
@[congr] theorem UbZ tE{K}{l l'}(h:l=l'):uaU tE l K=uaU tE l' K:=by subst h;rfl
attribute [go_sem,go_sem ↓] WaO
def vM(tE:Nat)(l:List AV)(K:AV->Prop):Prop:=
 match l with
 | [a,b]=>onPs (λl=>onA (λm=>okPs 1000 l/\al m<=10000/\K (.tup [.one (.lit (.bool (decide (onC l m=0) && decide (dtL l (av m)=0)))),errV tE (onC l m)])) b) a
 | _=>False
theorem ybm tE a b K:vM tE [a,b] K=(onPs (λl=>onA (λm=>okPs 1000 l/\al m<=10000/\K (.tup [.one (.lit (.bool (decide (onC l m=0) && decide (dtL l (av m)=0)))),errV tE (onC l m)])) b) a):=propext Iff.rfl
@[congr] theorem qb4 tE{K}{l l'}(h:l=l'):vM tE l K=vM tE l' K:=by subst h;rfl
attribute [go_sem,go_sem ↓] ybm
theorem zbc(tE:Nat):Good (vM tE):=Ya λas=>by
 unfold vM;split
 .exact(VB λ_=>(VA λ_=>(.and λ_=>(.and λ_=>(.ret _)))))
 .exact .of λK hk=>hk.elim
def Uh(f0 f1 f2 f3 f4 tE:Nat):AC:=(.seq (.ops false [.u 3 (.box 6 (.t 1)),.m 4 .fa,.m 5 (.c (.one (.lit .nilIface)))])
 (.fg [0,3] (.seq (.seq (.ops false [.m 10 (.t 0),.u 11 (.call f0 [(.t 10)]),.m 6 (.t 11)])
 (.fg [0,3,6] (.seq (.ops false [.m 12 (.t 6),.u 13 (.binn .neq (.t 12) (.c (.one (.lit .nilIface))))])
 (.fg [0,3,6,13] (.cond (.t 13) (.seq (.ops false [.m 14 (.t 6),.m 4 .fa,.m 5 (.t 14)])
 .ret) .skip)))))
 (.fg [0,3] (.seq (.seq (.ops false [.u 15 (.ld none 6 true (.t 3)),.u 16 (.call f1 [(.t 15)]),.u 17 (.un .not (.t 16))])
 (.fg [0,3,17] (.cond (.t 17) (.seq (.ops false [.u 18 (.iface tE (.i 2)),.m 4 .fa,.m 5 (.t 18)])
 .ret) .skip)))
 (.fg [0,3] (.seq (.ops false [.m 20 (.t 0),.u 21 (.call f2 [(.t 20)]),.m 19 (.t 21),.u 22 (.ext 0 (.t 19)),.u 23 (.ext 1 (.t 19)),.m 7 (.t 22),.m 8 (.t 23)])
 (.fg [3,7,8] (.seq (.seq (.ops false [.m 24 (.t 8),.u 25 (.binn .neq (.t 24) (.c (.one (.lit .nilIface))))])
 (.fg [3,7,8,25] (.cond (.t 25) (.seq (.ops false [.m 26 (.t 8),.m 4 .fa,.m 5 (.t 26)])
 .ret) .skip)))
 (.fg [3,7] (.seq (.ops false [.m 28 (.t 7),.u 29 (.fa 0 (.t 3)),.u 30 (.ld none 3 true (.t 29)),.u 31 (.fa 3 (.t 3)),.u 32 (.ld none 3 true (.t 31)),.u 33 (.call f3 [(.t 28),(.t 30),(.t 32)]),.m 27 (.t 33),.u 34 (.ext 0 (.t 27)),.u 35 (.ext 1 (.t 27)),.u 9 (.alloc [(.lit (.bool false)),.emp,.emp]),.n (.st none 3 (.t 9) (.t 34)),.m 8 (.t 35)])
 (.fg [8,9] (.seq (.ops false [.m 36 (.t 8),.u 37 (.binn .eql (.t 36) (.c (.one (.lit .nilIface)))),.m 38 (.t 37),.w 39 38 true (.ld none 3 true (.t 9)),.w 40 38 true (.call f4 [(.t 39)]),.w 41 38 true (.bin .eql (.t 40) (.i 0)),.u 42 (.pick (.t 38) (.t 41) .fa),.m 43 (.t 8),.m 4 (.t 42),.m 5 (.t 43)])
 .ret)))))))))))))
set_option maxHeartbeats 1000000 in
theorem qaT(hΓ:Holds P Γ){f fk fv fb fe fg tE:Nat}(hk:Γ fk=.dat false (uz tE))(hv:Γ fv=.dat true Qe)(hb:Γ fb=.dat false qA)(he:Γ fe=.dat false (vv tE))(hg:Γ fg=.dat true qg)(hc:check P f=some (44,(Uh fk fv fb fe fg tE).strip,[.tmp 4,.tmp 5])):Sound P f (.dat false (vM tE)):=by
 refine Wa hc (zbc tE) hΓ (λargs K hcl hfi hG=>?_);match args,hG with
 | [a,b],hG=>
  obtain⟨l,rfl,hw,m,rfl,wm,hl,lm,hK⟩:=hG;refine⟨by simp,?_⟩
  have hl2:=Vi hl (by decide:1000<=100000000)
  have lm2:al m<=100000000:=Nat.le_trans lm (by decide)
  have e0:=ub tE;by_cases h0:fourC l=0
  case neg=>
   have e1:=vc tE h0;rw [Jb0 h0,decide_eq_false h0,Bool.false_and,e1]at hK;simp only [go_sem,Uh,hk,Wc,Qb,e1];repeat first | refine Ja (by with_reducible assumption) ?_ | refine Ja (Nat.le_trans (by with_reducible assumption) (by decide)) ?_ | refine Ja (by decide) ?_
   exact hK
  cases hva:avld m with
  | false=>
   have e2:=vc tE (by decide:(2:Nat)≠0)
   have d2:decide (2=0)=false:=rfl;rw [ubZ h0 hva,d2,Bool.false_and,e2]at hK;simp only [go_sem,Uh,hk,hv,Wc,Qb,h0,e0,hva];repeat first | refine Ja (by with_reducible assumption) ?_ | refine Ja (Nat.le_trans (by with_reducible assumption) (by decide)) ?_ | refine Ja (by decide) ?_
   exact hK
  | true=>
   have d0:decide (0=0)=true:=rfl;rw [Xbx h0 hva,d0,Bool.true_and,e0]at hK;obtain⟨pc,hev⟩:=JL hl h0;have i3:ev (bcL l) (rv m.1) (rv m.2)=dtL l (av m):=hev (av m);have cc:=qB pc.canon;have i0:=Uy pc.canon.ins;have i1:=uD (p:=bcL l) (N:=1000000000) (Nat.le_trans pc.size (by decide))
   have i2:=Nat.le_trans pc.size (by decide:_<=100000000)
   have wx:=wm.1;have wy:=wm.2;have lx:=(Nat.max_le.1 lm).1;have ly:=(Nat.max_le.1 lm).2;have z4:rz (dtL l (av m))<=4294967296:=wbn hl h0 wx wy lx ly;simp only [go_sem,Uh,hk,hv,hb,he,hg,Wc,Qb,h0,e0,hva,jB,cc,i3,Wb,Jn];repeat first | refine Ja (by with_reducible assumption) ?_ | refine Ja (Nat.le_trans (by with_reducible assumption) (by decide)) ?_ | refine Ja (by decide) ?_
   exact hK
end Go.Abs
end
section
namespace Go.Num
open Go.Abs
theorem Qbv(a:V2):rz a.1<=zq a:=Nat.le_max_left _ _
theorem wbs(a:V2):rz a.2<=zq a:=Nat.le_max_right _ _
theorem XW{x y z:V2}{b:Nat}(hx:zq x<=b)(hy:zq y<=b)(hz:zq z<=b):zq (ctr3 x y z)<=40*b+100:=by
 have h:=zb1 (p:=x) (u:=subQ y x) (v:=subQ z x) (b:=2*b+2) (Nat.le_trans (YB _ _) (by omega)) (Nat.le_trans (YB _ _) (by omega))
 by_cases hc:crossQ (subQ y x) (subQ z x)=0
 .unfold ctr3 ctrQ;rw [hc];have e:(2:Rat)*0=0:=by decide +kernel
  have d:∀w:Rat,w / 0=0:=λw=>by rw [Rat.div_def,Rat.inv_zero,Rat.mul_zero]
  rw [e,d,d];have a1:=Qbv x;have a2:=wbs x;have z1:x.1+0=x.1:=by grind
  have z2:x.2+0=x.2:=by grind
  rw [z1,z2];exact Nat.max_le.2 ⟨by show rz x.1<=_;omega,by show rz x.2<=_;omega⟩
 .have e:ciQ x (subQ y x) (subQ z x)=ctr3 x y z:=if_neg hc;rw [e]at h;omega
end Go.Num
namespace Go.Abs
open Go.Num
variable {P:Program} {Γ:Nat->Spec}
def xG(tE:Nat)(l:List AV)(K:AV->Prop):Prop:=
 match l with
 | [a,b,c]=>onA (λa=>onA (λb=>onA (λc=>al a<=100000/\al b<=100000/\al c<=100000/\crs (av a) (av b) (av c)≠0/\K (.tup [pQ (ctr3 (av a) (av b) (av c)),.one (.lit .nilIface)])) c) b) a
 | _=>False
theorem ua6 tE a b c K:xG tE [a,b,c] K=(onA (λa=>onA (λb=>onA (λc=>al a<=100000/\al b<=100000/\al c<=100000/\crs (av a) (av b) (av c)≠0/\K (.tup [pQ (ctr3 (av a) (av b) (av c)),.one (.lit .nilIface)])) c) b) a):=propext Iff.rfl
@[congr] theorem wbW tE{K}{l l'}(h:l=l'):xG tE l K=xG tE l' K:=by subst h;rfl
attribute [go_sem,go_sem ↓] ua6
theorem Za4(tE:Nat):Good (xG tE):=Ya λas=>by
 unfold xG;split
 .exact(VA λ_=>(VA λ_=>(VA λ_=>(.and λ_=>(.and λ_=>(.and λ_=>(.and λ_=>(.ret _))))))))
 .exact .of λK hk=>hk.elim
def jf(f0 f1 f2 f3 f4 f5 f6 f7:Nat):AC:=(.seq (.ops false [.u 3 (.box 6 (.t 0)),.u 4 (.box 6 (.t 1)),.u 5 (.box 6 (.t 2)),.u 6 (.alloc [(.lit (.bool false)),.emp,.emp,(.lit (.bool false)),.emp,.emp]),.m 7 (.c (.one (.lit .nilIface)))])
 (.fg [3,4,5,6] (.seq (.ops true [.u 14 (.ld none 6 true (.t 4)),.u 15 (.ld none 6 true (.t 3)),.u 16 (.call f0 [(.t 14),(.t 15)]),.u 17 (.ld none 6 true (.t 5)),.u 18 (.ld none 6 true (.t 3)),.u 19 (.call f0 [(.t 17),(.t 18)]),.u 8 (.alloc [(.lit (.bool false)),.emp,.emp,(.lit (.bool false)),.emp,.emp]),.u 9 (.alloc [(.lit (.bool false)),.emp,.emp,(.lit (.bool false)),.emp,.emp]),.n (.st none 6 (.t 8) (.t 16)),.n (.st none 6 (.t 9) (.t 19))])
 (.fg [3,6,8,9] (.seq (.ops true [.u 20 (.call f1 [(.i 2)]),.u 21 (.ld none 6 true (.t 8)),.u 22 (.ld none 6 true (.t 9)),.u 23 (.call f2 [(.t 21),(.t 22)]),.u 24 (.call f3 [(.t 20),(.t 23)]),.u 10 (.alloc [(.lit (.bool false)),.emp,.emp]),.n (.st none 3 (.t 10) (.t 24))])
 (.fg [3,6,8,9,10] (.seq (.ops true [.u 26 (.ld none 6 true (.t 8)),.u 27 (.call f4 [(.t 26)]),.u 28 (.fa 3 (.t 9)),.u 29 (.ld none 3 true (.t 28)),.u 30 (.call f3 [(.t 27),(.t 29)]),.u 31 (.ld none 6 true (.t 9)),.u 32 (.call f4 [(.t 31)]),.u 33 (.fa 3 (.t 8)),.u 34 (.ld none 3 true (.t 33)),.u 35 (.call f3 [(.t 32),(.t 34)]),.u 36 (.call f5 [(.t 30),(.t 35)]),.u 37 (.ld none 3 true (.t 10)),.u 38 (.call f6 [(.t 36),(.t 37)]),.m 25 (.t 38),.u 39 (.ext 0 (.t 25)),.u 40 (.ext 1 (.t 25)),.u 11 (.alloc [(.lit (.bool false)),.emp,.emp]),.n (.st none 3 (.t 11) (.t 39)),.m 12 (.t 40)])
 (.fg [3,6,8,9,10,11,12] (.seq (.seq (.ops false [.m 41 (.t 12),.u 42 (.binn .neq (.t 41) (.c (.one (.lit .nilIface))))])
 (.fg [3,6,8,9,10,11,12,42] (.cond (.t 42) (.seq (.ops false [.u 43 (.build [.z [(.lit (.bool false)),.emp,.emp,(.lit (.bool false)),.emp,.emp]]),.m 44 (.t 12),.n (.st none 6 (.t 6) (.t 43)),.m 7 (.t 44)])
 .ret) .skip)))
 (.fg [3,6,8,9,10,11] (.seq (.ops true [.u 46 (.ld none 6 true (.t 9)),.u 47 (.call f4 [(.t 46)]),.u 48 (.fa 0 (.t 8)),.u 49 (.ld none 3 true (.t 48)),.u 50 (.call f3 [(.t 47),(.t 49)]),.u 51 (.ld none 6 true (.t 8)),.u 52 (.call f4 [(.t 51)]),.u 53 (.fa 0 (.t 9)),.u 54 (.ld none 3 true (.t 53)),.u 55 (.call f3 [(.t 52),(.t 54)]),.u 56 (.call f5 [(.t 50),(.t 55)]),.u 57 (.ld none 3 true (.t 10)),.u 58 (.call f6 [(.t 56),(.t 57)]),.m 45 (.t 58),.u 59 (.ext 0 (.t 45)),.u 60 (.ext 1 (.t 45)),.u 13 (.alloc [(.lit (.bool false)),.emp,.emp]),.n (.st none 3 (.t 13) (.t 59)),.m 12 (.t 60)])
 (.fg [3,6,11,12,13] (.seq (.ops true [.u 61 (.fa 0 (.t 3)),.u 62 (.ld none 3 true (.t 61)),.u 63 (.ld none 3 true (.t 11)),.u 64 (.call f7 [(.t 62),(.t 63)]),.u 65 (.fa 3 (.t 3)),.u 66 (.ld none 3 true (.t 65)),.u 67 (.ld none 3 true (.t 13)),.u 68 (.call f7 [(.t 66),(.t 67)]),.u 69 (.build [.x 3 (.t 64),.x 3 (.t 68)]),.m 70 (.t 12),.n (.st none 6 (.t 6) (.t 69)),.m 7 (.t 70)])
 .ret)))))))))))))
set_option maxHeartbeats 1000000 in
theorem xaH(hΓ:Holds P Γ){f fs fo fx fm fq fu fd fa tE:Nat}(hs:Γ fs=.dat false Qv)(ho:Γ fo=.dat false wB)(hx:Γ fx=.dat false wn)(hm:Γ fm=.dat false vl)(hq:Γ fq=.dat false WO)(hu:Γ fu=.dat false Vx)(hd:Γ fd=.dat false (jv tE))(ha:Γ fa=.dat false jl)(hc:check P f=some (71,(jf fs fo fx fm fq fu fd fa).strip,[.cell 6 6 true,.tmp 7])):Sound P f (.dat false (xG tE)):=by
 refine Wa hc (Za4 tE) hΓ (λargs K hcl hfi hG=>?_);match args,hG with
 | [x1,x2,x3],hG=>
  obtain⟨a,rfl,wa,b,rfl,wb,c,rfl,wc,la,lb,lc,hcr,hK⟩:=hG;refine⟨by simp,?_⟩
  have la2:al a<=100000000:=Nat.le_trans la (by decide)
  have lb2:al b<=100000000:=Nat.le_trans lb (by decide)
  have lc2:al c<=100000000:=Nat.le_trans lc (by decide)
  have za:=vaJ wa;have zb:=vaJ wb;have zc:=vaJ wc;have wa1:=wa.1;have wa2:=wa.2;have la3:=Nat.le_trans (Nat.max_le.1 la).1 (by decide:_<=4294967296)
  have la4:=Nat.le_trans (Nat.max_le.1 la).2 (by decide:_<=4294967296)
  have e0:=ub tE;have i2:((2:Int):Rat)=2:=rfl;obtain⟨U,hU⟩:∃x,subQ (av b) (av a)=x:=⟨_,rfl⟩;obtain⟨V,hV⟩:∃x,subQ (av c) (av a)=x:=⟨_,rfl⟩;have zU:zq U<=200002:=by rw [<-hU];exact Nat.le_trans (YB _ _) (by omega)
  have zV:zq V<=200002:=by rw [<-hV];exact Nat.le_trans (YB _ _) (by omega)
  have wU:WLA (rcan U.1,rcan U.2):=qy U;have wV' : WLA (rcan V.1,rcan V.2):=qy V;have lU:al (rcan U.1,rcan U.2)<=100000000:=Nat.le_trans zU (by decide)
  have lV:al (rcan V.1,rcan V.2)<=100000000:=Nat.le_trans zV (by decide)
  have u1:=Qbv U;have u2:=wbs U;have v1:=Qbv V;have v2:=wbs V;have hcr2:crossQ U V≠0:=by
   unfold crs at hcr;rw [hU,hV]at hcr;exact hcr
  have ec:ctr3 (av a) (av b) (av c)=((av a).1+(sqQ U*V.2-sqQ V*U.2) / (2*crossQ U V),(av a).2+(sqQ V*U.1-sqQ U*V.1) / (2*crossQ U V)):=by
   unfold ctr3 ctrQ;rw [hU,hV]
  rw [ec]at hK;have x0:=WV U V;obtain⟨X,hX⟩:∃x,crossQ U V=x:=⟨_,rfl⟩;rw [hX]at hK hcr2 x0;have two:=rz_2;have m0:=qc 2 X;have hX2:2*X≠0:=λh=>by
   rcases Rat.mul_eq_zero.1 h with h | h
   .exact absurd h (by decide)
   .exact hcr2 h
  obtain⟨Y,hY⟩:∃x,2*X=x:=⟨_,rfl⟩;rw [hY]at hK hX2 m0;have q1:=kbc U;have q2:=kbc V;obtain⟨A,hA⟩:∃x,sqQ U=x:=⟨_,rfl⟩;obtain⟨B,hB⟩:∃x,sqQ V=x:=⟨_,rfl⟩;rw [hA,hB]at hK;rw [hA]at q1;rw [hB]at q2;have m1:=qc A V.2;have m2:=qc B U.2;have m3:=qc B U.1;have m4:=qc A V.1;have s1:=VC (A*V.2) (B*U.2);have s2:=VC (B*U.1) (A*V.1);have d1:=qS (A*V.2-B*U.2) Y;have d2:=qS (B*U.1-A*V.1) Y;have k1:rz X<=4294967296:=by omega
  have k2:rz Y<=4294967296:=by omega
  have k3:rz A<=4294967296:=by omega
  have k4:rz B<=4294967296:=by omega
  have k5:rz (A*V.2)<=4294967296:=by omega
  have k6:rz (B*U.2)<=4294967296:=by omega
  have k7:rz (B*U.1)<=4294967296:=by omega
  have k8:rz (A*V.1)<=4294967296:=by omega
  have k9:rz (A*V.2-B*U.2)<=4294967296:=by omega
  have k10:rz (B*U.1-A*V.1)<=4294967296:=by omega
  have k11:rz ((A*V.2-B*U.2) / Y)<=4294967296:=by omega
  have k12:rz ((B*U.1-A*V.1) / Y)<=4294967296:=by omega
  have k13:rz U.1<=4294967296:=by omega
  have k14:rz U.2<=4294967296:=by omega
  have k15:rz V.1<=4294967296:=by omega
  have k16:rz V.2<=4294967296:=by omega
  have k17:rz 2<=4294967296:=by omega
  simp only [go_sem,jf,hs,ho,hx,hm,hq,hu,hd,ha,Wc,Qb,hU,hV,QD,hX,hY,hA,hB,Wb,i2,if_neg hX2,e0];repeat first | refine Ja (by with_reducible assumption) ?_ | refine Ja (Nat.le_trans (by with_reducible assumption) (by decide)) ?_ | refine Ja (by decide) ?_
  exact hK
end Go.Abs
end
section
namespace Go.Abs
variable {Γ:Nat->Spec} {body:AC} {Q:Ex->S->Prop} {s:S}
def LL(Γ:Nat->Spec)(body:AC)(Q:Ex->S->Prop):Nat->S->Prop
 | 0,_=>False
 | n+1,s=>LL Γ body Q n s∨∃s0,Weak s s0/\wpA Γ body (Ex.seq (LL Γ body Q n) Q) s0
theorem uaz:∀{n:Nat} {s:S},LL Γ body Q n s↔∃y:Nat×S,Weak s y.2/\wpA Γ body (Ex.seq (LL Γ body Q y.1) Q) y.2/\y.1<n
 | 0,s=>⟨λh=>h.elim,λ⟨y,_,_,h⟩=>absurd h (Nat.not_lt_zero _)⟩
 | n+1,s=>by
  constructor
  .intro h;rcases h with h | ⟨s0,h1,h2⟩
   .obtain⟨y,h1,h2,h3⟩:=uaz.1 h;exact⟨y,h1,h2,by omega⟩
   .exact⟨(n,s0),h1,h2,Nat.lt_succ_self _⟩
  .rintro⟨⟨m,s0⟩,h1,h2,h3⟩;rcases Nat.lt_or_ge m n with h | h
   .exact .inl (uaz.2 ⟨(m,s0),h1,h2,h⟩)
   .have:m=n:=by simp only at h3;omega
    subst this;exact .inr ⟨s0,h1,h2⟩
theorem vbp{n:Nat}(h:LL Γ body Q n s):wpA Γ (.loop body) Q s:=by
 obtain⟨y,h1,h2,_⟩:=uaz.1 h;refine⟨Nat×S,(·.2),λy=>wpA Γ body (Ex.seq (LL Γ body Q y.1) Q) y.2,(·.1),y,h1,h2,λx hx=>?_⟩;have e:LL Γ body Q x.1=λs'=>∃y:Nat×S,Weak s' y.2/\wpA Γ body (Ex.seq (LL Γ body Q y.1) Q) y.2/\y.1<x.1:=funext λs=>propext uaz;have hx' : wpA Γ body (Ex.seq (LL Γ body Q x.1) Q) x.2:=hx;rw [e]at hx';exact hx'
def UnAt(Γ:Nat->Spec)(body:AC)(Q:Ex->S->Prop)(n:Nat)(s:S)(t:Tok (Γ,body,Q,n)):Prop:=LL Γ body Q n s
theorem Xbg(n:Nat)(s0:S)(h0:Weak s s0)(h:wpA Γ body (Ex.seq (λs'=>UnAt Γ body Q n s' .mk) Q) s0){t:Tok (Γ,body,Q)}:LoopAt Γ body Q s t:=
 vbp (n:=n+1) (.inr ⟨s0,h0,h⟩)
theorem Ybr{n:Nat}(s0:S)(h0:Weak s s0)(h:wpA Γ body (Ex.seq (λs'=>UnAt Γ body Q n s' .mk) Q) s0){t:Tok (Γ,body,Q,n+1)}:UnAt Γ body Q (n+1) s t:=
 .inr ⟨s0,h0,h⟩
def kpH(k:List (Nat×HB))(bs:List Nat):List (Nat×HB):=bs.map λr=>(r,mkH k r)
theorem vbD(k:List (Nat×HB))(r:Nat)(bs:List Nat):kpH k (r::bs)=(r,mkH k r)::kpH k bs:=rfl
theorem xbH(k:List (Nat×HB)):kpH k []=[]:=rfl
theorem Zbe{c:C}{l:List C}:CleanL (c::l)=(Clean c/\CleanL l):=propext ⟨λh=>⟨h c (by simp),λx hx=>h x (by simp [hx])⟩,λh x hx=>by
 rcases List.mem_cons.1 hx with rfl | hx
 .exact h.1
 .exact h.2 x hx⟩
theorem Vbc:CleanL []=True:=eq_true λc hc=>by simp at hc
theorem jbe{e:List C}{l:List (List C)}:CleanR (e::l)=(CleanL e/\CleanR l):=propext ⟨λh=>⟨h e (by simp),λx hx=>h x (by simp [hx])⟩,λh x hx=>by
 rcases List.mem_cons.1 hx with rfl | hx
 .exact h.1
 .exact h.2 x hx⟩
theorem Qbf:CleanR []=True:=eq_true λc hc=>by simp at hc
theorem Zbb{h h' : Nat->HB}{b:Option Blk}:(match b with | none=>True | some b=>CleanR b.es)->okB h h' b b:=by
 intro hb;cases b with
 | none=>trivial
 | some b=>exact⟨⟨rfl,rfl⟩,.inl ⟨rfl,hb⟩⟩
def cleanK:List (Nat×HB)->Prop
 | []=>True
 | x::r=>(match x.2.blk with | none=>True | some b=>CleanR b.es)/\cleanK r
theorem yaa{k:List (Nat×HB)}:∀{bs:List Nat},cleanK (kpH k bs)->okH (mkH k) (mkH (kpH k bs)) (kpH k bs):=by
 have this:∀(h' : Nat->HB) (bs:List Nat),cleanK (kpH k bs)->okH (mkH k) h' (kpH k bs):=by
  intro h' bs
  induction bs with
  | nil=>intro _;trivial
  | cons r bs ih=>intro h;exact⟨Zbb h.1,ih h.2⟩
 intro bs h;exact this _ _ h
theorem yy{n:Nat}{l:List (Nat×AV)}{k:List (Nat×HB)}(ks bs:List Nat)(hh:okS (mkH k) (mkH (kpH k bs)) (mkV l) (keepV l ks)/\cleanK (kpH k bs))
  (h:wpA Γ body (Ex.seq (λs'=>UnAt Γ body Q n s' .mk) Q) ⟨mkV (keepV l ks),mkH (kpH k bs)⟩) {t:Tok (Γ,body,Q,n+1)}:UnAt Γ body Q (n+1) ⟨mkV l,mkH k⟩ t:=
 Ybr _ (Qa hh.1 (yaa hh.2)) h
theorem QH(n:Nat){l:List (Nat×AV)}{k:List (Nat×HB)}(ks bs:List Nat)(hh:okS (mkH k) (mkH (kpH k bs)) (mkV l) (keepV l ks)/\cleanK (kpH k bs))
  (h:wpA Γ body (Ex.seq (λs'=>UnAt Γ body Q n s' .mk) Q) ⟨mkV (keepV l ks),mkH (kpH k bs)⟩) {t:Tok (Γ,body,Q)}:LoopAt Γ body Q ⟨mkV l,mkH k⟩ t:=
 Xbg n _ (Qa hh.1 (yaa hh.2)) h
theorem xbn(v:Value):nrmC (.lit v)=.lit v:=eq_of_heq (HEq.refl _)
theorem jbh(es:List (List C)):nrmC (.slice es)=.slice es:=eq_of_heq (HEq.refl _)
theorem Jbl:nrmC .emp=.slice []:=eq_of_heq (HEq.refl _)
theorem QaY(e:List C)(l:List (List C)):nrmR (e::l)=e.map nrmC::nrmR l:=eq_of_heq (HEq.refl _)
theorem Ubg:nrmR []=[]:=eq_of_heq (HEq.refl _)
attribute [go_sem,go_sem ↓] xbn jbh Jbl QaY Ubg
attribute [go_sem] vbD xbH okS okV okC cleanK Zbe Vbc jbe Qbf XE wJ
attribute [go_sem ↓] vbD xbH
end Go.Abs
end
section
namespace Go.Num
open Go.Abs
def dyN:List Ps->V2->Option (V2×V2×V2)
 | [p,q,r,s],m=>dy3 (appQ (pv p) m) (appQ (pv q) m) (appQ (pv r) m) (appQ (pv s) m)
 | _,_=>none
def dyC(l:List Ps)(m:Arc):Nat:=if onC l m≠0 then onC l m else if dtL l (av m)≠0 then 21 else match dyN l (av m) with | none=>8 | some _=>0
def dyR(l:List Ps)(m:Arc):DyQ:=if dyC l m=0 then (match dyN l (av m) with | none=>d0 | some (x,y,z)=>(ctr3 x y z,av m,sqQ (subQ x (ctr3 x y z)))) else d0
theorem xZ{x y z:V2}:crs x y z=0↔crossQ (subQ z x) (subQ y x)=0:=by
 have e:crossQ (subQ z x) (subQ y x) = -crs x y z:=by unfold crs crossQ subQ;simp only;grind
 rw [e];constructor
 .intro h;rw [h];decide +kernel
 .intro h;grind
theorem jas(a:V2):subQ a (0,0)=a:=by unfold subQ;exact Prod.ext (by simp only;grind) (by simp only;grind)
theorem XbH{l:List Ps}{m:Arc}(h:onC l m=0):fourC l=0/\avld m=true:=by
 unfold onC at h;split at h
 .rename_i h1;exact absurd h h1
 .rename_i h1;refine⟨by omega,?_⟩
  cases hv:avld m with
  | true=>rfl
  | false=>rw [if_pos hv]at h;contradiction
end Go.Num
namespace Go.Abs
open Go.Num
variable {P:Program} {Γ:Nat->Spec}
theorem cleanA(l:List Arc):CleanR (l.map aC):=λe he c hc=>by
 obtain⟨x,_,rfl⟩:=List.mem_map.1 he;simp only [aC,List.mem_cons,List.not_mem_nil,or_false]at hc;rcases hc with rfl | rfl | rfl | rfl | rfl | rfl
 .exact of_eq_true (jj _)
 .exact of_eq_true (Zj _)
 .exact of_eq_true (Jj _)
 .exact of_eq_true (jj _)
 .exact of_eq_true (Zj _)
 .exact of_eq_true (Jj _)
theorem cleanA1(a:Arc):CleanR [aC a]:=cleanA [a]
theorem f6(x:V2):∀e:List C,e∈[[cb (rcan x.1),cn (rcan x.1),cd (rcan x.1),cb (rcan x.2),cn (rcan x.2),cd (rcan x.2)]]->e.length=6:=λe he=>by rw [List.mem_singleton.1 he];rfl
def JV(tE:Nat)(l:List AV)(K:AV->Prop):Prop:=
 match l with
 | [a,b]=>onPs (λl=>onA (λm=>okPs 1000 l/\al m<=10000/\K (.tup [dqA (dyR l m),errV tE (dyC l m)])) b) a
 | _=>False
theorem Qbo tE a b K:JV tE [a,b] K=(onPs (λl=>onA (λm=>okPs 1000 l/\al m<=10000/\K (.tup [dqA (dyR l m),errV tE (dyC l m)])) b) a):=propext Iff.rfl
@[congr] theorem Wb3 tE{K}{l l'}(h:l=l'):JV tE l K=JV tE l' K:=by subst h;rfl
attribute [go_sem,go_sem ↓] Qbo
theorem qbb(tE:Nat):Good (JV tE):=Ya λas=>by
 unfold JV;split
 .exact(VB λ_=>(VA λ_=>(.and λ_=>(.and λ_=>(.ret _)))))
 .exact .of λK hk=>hk.elim
def yf(f0 f1 f2 f3 f4 f5 f6 tE:Nat):AC:=(.seq (.ops false [.u 3 (.box 6 (.t 1)),.u 4 (.alloc [(.lit (.bool false)),.emp,.emp,(.lit (.bool false)),.emp,.emp,(.lit (.bool false)),.emp,.emp,(.lit (.bool false)),.emp,.emp,(.lit (.bool false)),.emp,.emp]),.m 5 (.c (.one (.lit .nilIface)))])
 (.fg [0,3,4] (.seq (.ops false [.m 19 (.t 0),.u 20 (.ld none 6 true (.t 3)),.u 21 (.call f0 [(.t 19),(.t 20)]),.m 18 (.t 21),.u 22 (.ext 0 (.t 18)),.u 23 (.ext 1 (.t 18)),.m 6 (.t 22),.m 7 (.t 23)])
 (.fg [0,3,4,6,7] (.seq (.seq (.ops false [.m 24 (.t 7),.u 25 (.binn .neq (.t 24) (.c (.one (.lit .nilIface))))])
 (.fg [0,3,4,6,7,25] (.cond (.t 25) (.seq (.ops false [.u 26 (.build [.z [(.lit (.bool false)),.emp,.emp,(.lit (.bool false)),.emp,.emp,(.lit (.bool false)),.emp,.emp,(.lit (.bool false)),.emp,.emp,(.lit (.bool false)),.emp,.emp]]),.m 27 (.t 7),.n (.st none 15 (.t 4) (.t 26)),.m 5 (.t 27)])
 .ret) .skip)))
 (.fg [0,3,4,6] (.seq (.seq (.ops false [.m 28 (.t 6),.u 29 (.un .not (.t 28))])
 (.fg [0,3,4,29] (.cond (.t 29) (.seq (.ops false [.u 30 (.build [.z [(.lit (.bool false)),.emp,.emp,(.lit (.bool false)),.emp,.emp,(.lit (.bool false)),.emp,.emp,(.lit (.bool false)),.emp,.emp,(.lit (.bool false)),.emp,.emp]]),.u 31 (.iface tE (.i 21)),.n (.st none 15 (.t 4) (.t 30)),.m 5 (.t 31)])
 .ret) .skip)))
 (.fg [0,3,4] (.seq (.ops false [.m 8 (.c (.one .emp))])
 (.fg [0,3,4,8] (.seq (.seq (.ops false [.m 32 (.t 0),.u 33 (.len (.t 32)),.m 34 (.i 0)])
 (.fg [3,4,8,32,33,34] (.block 0 (.loop (.seq (.ops false [.u 35 (.bin .lss (.t 34) (.t 33))])
 (.fg [3,4,8,32,33,34,35] (.seq (.cond (.t 35) .skip (.exit 0))
 (.fg [3,4,8,32,33,34] (.seq (.block 1 (.seq (.ops false [.u 36 (.idx 10 (.t 32) (.t 34)),.u 37 (.ld none 10 true (.t 36)),.u 10 (.alloc [(.lit (.bool false)),.emp,.emp,(.lit (.bool false)),(.lit (.bool false)),.emp,.emp,(.lit (.bool false)),.emp,.emp]),.n (.st none 10 (.t 10) (.t 37))])
 (.fg [3,4,8,10,32,33,34] (.seq (.ops false [.u 39 (.ld none 10 true (.t 10)),.u 40 (.ld none 6 true (.t 3)),.u 41 (.call f1 [(.t 39),(.t 40)]),.m 38 (.t 41),.u 42 (.ext 0 (.t 38)),.u 43 (.ext 1 (.t 38)),.u 11 (.alloc [(.lit (.bool false)),.emp,.emp,(.lit (.bool false)),.emp,.emp]),.n (.st none 6 (.t 11) (.t 42)),.m 12 (.t 43)])
 (.fg [3,4,8,11,12,32,33,34] (.seq (.seq (.ops false [.m 44 (.t 12),.u 45 (.binn .neq (.t 44) (.c (.one (.lit .nilIface))))])
 (.fg [3,4,8,11,12,32,33,34,45] (.cond (.t 45) (.seq (.ops false [.u 46 (.build [.z [(.lit (.bool false)),.emp,.emp,(.lit (.bool false)),.emp,.emp,(.lit (.bool false)),.emp,.emp,(.lit (.bool false)),.emp,.emp,(.lit (.bool false)),.emp,.emp]]),.m 47 (.t 12),.n (.st none 15 (.t 4) (.t 46)),.m 5 (.t 47)])
 .ret) .skip)))
 (.fg [3,4,8,11,32,33,34] (.ops false [.m 48 (.t 8),.u 49 (.ld none 6 true (.t 11)),.u 50 (.row 6 [[.x 6 (.t 49)]]),.u 51 (.app 6 (.t 48) (.t 50)),.m 8 (.t 51)]))))))))
 (.fg [3,4,8,32,33,34] (.ops false [.u 52 (.bin .add (.t 34) (.i 1)),.m 34 (.t 52)])))))))))))
 (.fg [3,4,8] (.seq (.seq (.ops false [.m 53 (.t 8),.u 54 (.len (.t 53)),.m 55 (.i 0)])
 (.fg [3,4,8,54,55] (.block 2 (.loop (.seq (.ops false [.u 56 (.bin .lss (.t 55) (.t 54))])
 (.fg [3,4,8,54,55,56] (.seq (.cond (.t 56) .skip (.exit 2))
 (.fg [3,4,8,54,55] (.seq (.block 3 (.seq (.ops false [.m 57 (.t 55),.m 13 (.t 57)])
 (.fg [3,4,8,13,54,55] (.seq (.ops false [.m 58 (.t 13),.m 59 (.i 0)])
 (.fg [3,4,8,13,54,55,58,59] (.block 4 (.loop (.seq (.ops false [.u 60 (.bin .lss (.t 59) (.t 58))])
 (.fg [3,4,8,13,54,55,58,59,60] (.seq (.cond (.t 60) .skip (.exit 4))
 (.fg [3,4,8,13,54,55,58,59] (.seq (.block 5 (.seq (.ops false [.m 61 (.t 59),.m 14 (.t 61)])
 (.fg [3,4,8,13,14,54,55,58,59] (.seq (.ops false [.m 62 (.t 14),.m 63 (.i 0)])
 (.fg [3,4,8,13,14,54,55,58,59,62,63] (.block 6 (.loop (.seq (.ops false [.u 64 (.bin .lss (.t 63) (.t 62))])
 (.fg [3,4,8,13,14,54,55,58,59,62,63,64] (.seq (.cond (.t 64) .skip (.exit 6))
 (.fg [3,4,8,13,14,54,55,58,59,62,63] (.seq (.block 7 (.seq (.ops false [.m 65 (.t 63),.m 15 (.t 65)])
 (.fg [3,4,8,13,14,15,54,55,58,59,62,63] (.seq (.seq (.ops true [.m 66 (.t 8),.m 67 (.t 13),.u 68 (.idx 6 (.t 66) (.t 67)),.u 69 (.ld none 6 true (.t 68)),.m 70 (.t 8),.m 71 (.t 15),.u 72 (.idx 6 (.t 70) (.t 71)),.u 73 (.ld none 6 true (.t 72)),.u 74 (.call f2 [(.t 69),(.t 73)]),.m 75 (.t 8),.m 76 (.t 14),.u 77 (.idx 6 (.t 75) (.t 76)),.u 78 (.ld none 6 true (.t 77)),.m 79 (.t 8),.m 80 (.t 15),.u 81 (.idx 6 (.t 79) (.t 80)),.u 82 (.ld none 6 true (.t 81)),.u 83 (.call f2 [(.t 78),(.t 82)]),.u 84 (.call f3 [(.t 74),(.t 83)]),.u 85 (.call f4 [(.t 84)]),.u 86 (.bin .eql (.t 85) (.i 0))])
 (.fg [3,4,8,13,14,15,54,55,58,59,62,63,86] (.cond (.t 86) (.exit 7) .skip)))
 (.fg [3,4,8,13,14,15] (.seq (.ops true [.m 88 (.t 8),.m 89 (.t 15),.u 90 (.idx 6 (.t 88) (.t 89)),.u 91 (.ld none 6 true (.t 90)),.m 92 (.t 8),.m 93 (.t 14),.u 94 (.idx 6 (.t 92) (.t 93)),.u 95 (.ld none 6 true (.t 94)),.m 96 (.t 8),.m 97 (.t 13),.u 98 (.idx 6 (.t 96) (.t 97)),.u 99 (.ld none 6 true (.t 98)),.u 100 (.call f5 [(.t 91),(.t 95),(.t 99)]),.m 87 (.t 100),.u 101 (.ext 0 (.t 87)),.u 102 (.ext 1 (.t 87)),.u 16 (.alloc [(.lit (.bool false)),.emp,.emp,(.lit (.bool false)),.emp,.emp]),.n (.st none 6 (.t 16) (.t 101)),.m 17 (.t 102)])
 (.fg [3,4,8,15,16,17] (.seq (.seq (.ops false [.m 103 (.t 17),.u 104 (.binn .neq (.t 103) (.c (.one (.lit .nilIface))))])
 (.fg [3,4,8,15,16,17,104] (.cond (.t 104) (.seq (.ops false [.u 105 (.build [.z [(.lit (.bool false)),.emp,.emp,(.lit (.bool false)),.emp,.emp,(.lit (.bool false)),.emp,.emp,(.lit (.bool false)),.emp,.emp,(.lit (.bool false)),.emp,.emp]]),.m 106 (.t 17),.n (.st none 15 (.t 4) (.t 105)),.m 5 (.t 106)])
 .ret) .skip)))
 (.fg [3,4,8,15,16] (.seq (.ops true [.u 107 (.ld none 6 true (.t 16)),.u 108 (.ld none 6 true (.t 3)),.u 109 (.build [.z [(.lit (.bool false)),.emp,.emp,(.lit (.bool false)),.emp,.emp]]),.u 110 (.call f2 [(.t 108),(.t 109)]),.m 111 (.t 8),.m 112 (.t 15),.u 113 (.idx 6 (.t 111) (.t 112)),.u 114 (.ld none 6 true (.t 113)),.u 115 (.ld none 6 true (.t 16)),.u 116 (.call f2 [(.t 114),(.t 115)]),.u 117 (.call f6 [(.t 116)]),.u 118 (.build [.x 6 (.t 107),.x 6 (.t 110),.x 3 (.t 117)]),.n (.st none 15 (.t 4) (.t 118)),.m 5 (.c (.one (.lit .nilIface)))])
 .ret))))))))))
 (.fg [3,4,8,13,14,54,55,58,59,62,63] (.ops false [.u 119 (.bin .add (.t 63) (.i 1)),.m 63 (.t 119)]))))))))))))))
 (.fg [3,4,8,13,54,55,58,59] (.ops false [.u 120 (.bin .add (.t 59) (.i 1)),.m 59 (.t 120)]))))))))))))))
 (.fg [3,4,8,54,55] (.ops false [.u 121 (.bin .add (.t 55) (.i 1)),.m 55 (.t 121)])))))))))))
 (.fg [4] (.seq (.ops false [.u 122 (.build [.z [(.lit (.bool false)),.emp,.emp,(.lit (.bool false)),.emp,.emp,(.lit (.bool false)),.emp,.emp,(.lit (.bool false)),.emp,.emp,(.lit (.bool false)),.emp,.emp]]),.u 123 (.iface tE (.i 8)),.n (.st none 15 (.t 4) (.t 122)),.m 5 (.t 123)])
 .ret)))))))))))))))
set_option maxHeartbeats 4000000 in
theorem ja8(hΓ:Holds P Γ){f fo fp fs fx fg fcc fq tE:Nat}(ho:Γ fo=.dat false (vM tE))(hp:Γ fp=.dat false (yC tE))(hs:Γ fs=.dat false Qv)(hx:Γ fx=.dat false wn)(hg:Γ fg=.dat true qg)(hcc:Γ fcc=.dat false (xG tE))(hq:Γ fq=.dat false WO)(hc:check P f=some (124,(yf fo fp fs fx fg fcc fq tE).strip,[.cell 4 15 true,.tmp 5])):Sound P f (.dat false (JV tE)):=by
 refine Wa hc (qbb tE) hΓ (λargs K hcl hfi hG=>?_);match args,hG with
 | [a,b],hG=>
  obtain⟨l,rfl,hw,m,rfl,wm,hl,lm,hK⟩:=hG;refine⟨by simp,?_⟩
  have e0:=ub tE;by_cases h0:onC l m=0
  case neg=>
   have e1:=vc tE h0;have ec:dyC l m=onC l m:=if_pos h0;have er:dyR l m=d0:=by unfold dyR;rw [ec,if_neg h0]
   rw [er,ec,e1]at hK;unfold dqA d0 at hK;simp only [Yb]at hK;simp only [go_sem,yf,ho,Wc,Qb,e1];repeat first | refine Ja (by with_reducible assumption) ?_ | refine Ja (Nat.le_trans (by with_reducible assumption) (by decide)) ?_ | refine Ja (by decide) ?_
   exact hK
  have d0' : decide (0=0)=true:=rfl;by_cases hd:dtL l (av m)=0
  case neg=>
   have e1:=vc tE (by decide:(21:Nat)≠0)
   have ec:dyC l m=21:=by unfold dyC;rw [if_neg (by omega),if_pos hd]
   have er:dyR l m=d0:=by unfold dyR;rw [ec,if_neg (by decide)]
   rw [er,ec,e1]at hK;unfold dqA d0 at hK;simp only [Yb]at hK;have gd:=decide_eq_false hd;simp only [go_sem,yf,ho,Wc,Qb,h0,e0,gd,d0',Bool.true_and];repeat first | refine Ja (by with_reducible assumption) ?_ | refine Ja (Nat.le_trans (by with_reducible assumption) (by decide)) ?_ | refine Ja (by decide) ?_
   exact hK
  have gd:=decide_eq_true hd;obtain⟨h4,hvm⟩:=XbH h0;obtain⟨hlen,hval⟩:=vay h4;obtain⟨p,q,r,s,rfl⟩:=jbd hlen;simp only [List.all_cons,List.all_nil,Bool.and_true,Bool.and_eq_true]at hval;obtain⟨vp,vq,vr,vs⟩:=hval;have wp:=(hl p (by simp)).1
  have wq:=(hl q (by simp)).1
  have wr:=(hl r (by simp)).1
  have ws':=(hl s (by simp)).1
  have lp:=Nat.le_trans (hl p (by simp)).2 (by decide:_<=1000000)
  have lq:=Nat.le_trans (hl q (by simp)).2 (by decide:_<=1000000)
  have lr:=Nat.le_trans (hl r (by simp)).2 (by decide:_<=1000000)
  have ls:=Nat.le_trans (hl s (by simp)).2 (by decide:_<=1000000)
  have lm6:al m<=1000000:=Nat.le_trans lm (by decide)
  have lm8:al m<=100000000:=Nat.le_trans lm (by decide)
  have aokv:∀x:Ps,pvld x=true->aok x m=true:=λx hx=>by unfold aok;rw [hx,hvm];rfl
  have kp:=aokv p vp;have kq:=aokv q vq;have kr:=aokv r vr;have ks:=aokv s vs;have zm:=Nat.le_trans (vaJ wm) lm;have img:∀x:Ps,x∈[p,q,r,s]->zq (appQ (pv x) (av m))<=30000:=λx hx=>by
   obtain⟨y1,y2⟩:=Vt (hl x hx).1 (hl x hx).2;have:=Wbj (pv x) (av m);omega
  have zI0:=img p (by simp)
  have zI1:=img q (by simp)
  have zI2:=img r (by simp)
  have zI3:=img s (by simp)
  have eN:dyN [p,q,r,s] (av m)=dy3 (appQ (pv p) (av m)) (appQ (pv q) (av m)) (appQ (pv r) (av m)) (appQ (pv s) (av m)):=rfl;obtain⟨I0,hI0⟩:∃x,appQ (pv p) (av m)=x:=⟨_,rfl⟩;obtain⟨I1,hI1⟩:∃x,appQ (pv q) (av m)=x:=⟨_,rfl⟩;obtain⟨I2,hI2⟩:∃x,appQ (pv r) (av m)=x:=⟨_,rfl⟩;obtain⟨I3,hI3⟩:∃x,appQ (pv s) (av m)=x:=⟨_,rfl⟩;rw [hI0]at zI0;rw [hI1]at zI1;rw [hI2]at zI2;rw [hI3]at zI3;rw [hI0,hI1,hI2,hI3]at eN;have cw:∀X:V2,WLA (rcan X.1,rcan X.2):=λX=>qy X;have w0:=cw I0;have w1:=cw I1;have w2:=cw I2;have w3:=cw I3;have l0:al (rcan I0.1,rcan I0.2)<=100000:=Nat.le_trans zI0 (by decide)
  have l1:al (rcan I1.1,rcan I1.2)<=100000:=Nat.le_trans zI1 (by decide)
  have l2:al (rcan I2.1,rcan I2.2)<=100000:=Nat.le_trans zI2 (by decide)
  have l3' : al (rcan I3.1,rcan I3.2)<=100000:=Nat.le_trans zI3 (by decide)
  have hK2:∀x y z,dy3 I0 I1 I2 I3=some (x,y,z)->K (.tup [.agg [cb (rcan (ctr3 x y z).1),cn (rcan (ctr3 x y z).1),cd (rcan (ctr3 x y z).1),cb (rcan (ctr3 x y z).2),cn (rcan (ctr3 x y z).2),cd (rcan (ctr3 x y z).2),cb (rcan (av m).1),cn (rcan (av m).1),cd (rcan (av m).1),cb (rcan (av m).2),cn (rcan (av m).2),cd (rcan (av m).2),cb (rcan (sqQ (subQ x (ctr3 x y z)))),cn (rcan (sqQ (subQ x (ctr3 x y z)))),cd (rcan (sqQ (subQ x (ctr3 x y z))))],.one (.lit .nilIface)]):=λx y z h=>by
   have ec:dyC [p,q,r,s] m=0:=by unfold dyC;rw [if_neg (by omega),if_neg (by simp [hd]),eN,h]
   have er:dyR [p,q,r,s] m=(ctr3 x y z,av m,sqQ (subQ x (ctr3 x y z))):=by unfold dyR;rw [ec,if_pos rfl,eN,h]
   rw [er,ec,e0]at hK;exact hK
  have hK3:dy3 I0 I1 I2 I3=none->K (.tup [.agg [.lit (.bool false),.slice [],.slice [],.lit (.bool false),.slice [],.slice [],.lit (.bool false),.slice [],.slice [],.lit (.bool false),.slice [],.slice [],.lit (.bool false),.slice [],.slice []],.one (.lit (.iface tE (.int .i64 8)))]):=λh=>by
   have ec:dyC [p,q,r,s] m=8:=by unfold dyC;rw [if_neg (by omega),if_neg (by simp [hd]),eN,h]
   have er:dyR [p,q,r,s] m=d0:=by unfold dyR;rw [ec,if_neg (by decide)]
   rw [er,ec,vc tE (by decide)]at hK
   unfold dqA d0 at hK;simp only [Yb]at hK;exact hK
  have zz:WLA (rcan 0,rcan 0):=cw (0,0);have z0:al (rcan 0,rcan 0)<=100000000:=Nat.max_le.2 ⟨Nat.le_trans (Nat.le_of_eq rz_0) (by decide),Nat.le_trans (Nat.le_of_eq rz_0) (by decide)⟩
  have a00:av (rcan 0,rcan 0)=(0,0):=QD (0,0);have sb:∀{x y:V2},zq x<=30000->zq y<=30000->al (rcan (subQ x y).1,rcan (subQ x y).2)<=100000000:=λ{x y} h1 h2=>Nat.le_trans (YB x y) (by omega)
  have cx:∀{x y z w:V2},zq x<=30000->zq y<=30000->zq z<=30000->zq w<=30000->rz (crossQ (subQ x y) (subQ z w))<=4294967296:=λ{x y z w} h1 h2 h3 h4=>by
   have a1:=YB x y;have a2:=YB z w;exact Nat.le_trans (WV _ _) (by omega)
  have s10:=sb zI1 zI0;have s20:=sb zI2 zI0;have s30:=sb zI3 zI0;have s31:=sb zI3 zI1;have s21:=sb zI2 zI1;have v10:=cw (subQ I1 I0);have v20:=cw (subQ I2 I0);have v30:=cw (subQ I3 I0);have v31:=cw (subQ I3 I1);have v21:=cw (subQ I2 I1);have x1:=cx zI2 zI0 zI1 zI0;have x2:=cx zI3 zI0 zI1 zI0;have x3:=cx zI3 zI0 zI2 zI0;have x4:=cx zI3 zI1 zI2 zI1;have hO:∀k,onPs k (.one (.slice [pC p,pC q,pC r,pC s]))=((∀x∈[p,q,r,s],WLP x)/\k [p,q,r,s]):=λk=>Z3 k [p,q,r,s];have fI0:=f6 I0;have fI1:=f6 I1;have fI2:=f6 I2;have fI3:=f6 I3;have i4:((4:Nat):Int)=4:=rfl;simp only [go_sem,yf,ho,hO,List.map_cons,List.map_nil,Wc,Qb,h0,e0,gd,d0',Bool.true_and];repeat first | refine Ja (by with_reducible assumption) ?_ | refine Ja (Nat.le_trans (by with_reducible assumption) (by decide)) ?_ | refine Ja (by decide) ?_
  refine QH 4 [3,4,8,32,33,34] [3,4] (by simp [go_sem]) ?_
  simp only [go_sem,Int.reduceAdd,Int.reduceLT,true_implies,not_true_eq_false,false_implies,not_false_eq_true,and_true,true_and,i4,Qb,Wc,hp,kp,hI0,e0,fI0];repeat first | refine Ja (by with_reducible assumption) ?_ | refine Ja (Nat.le_trans (by with_reducible assumption) (by decide)) ?_ | refine Ja (by decide) ?_
  refine yy [3,4,8,32,33,34] [3,4,51] (by simp [go_sem]) ?_
  simp only [go_sem,Int.reduceAdd,Int.reduceLT,true_implies,not_true_eq_false,false_implies,not_false_eq_true,and_true,true_and,i4,Qb,Wc,hp,kq,hI1,e0,fI1];repeat first | refine Ja (by with_reducible assumption) ?_ | refine Ja (Nat.le_trans (by with_reducible assumption) (by decide)) ?_ | refine Ja (by decide) ?_
  refine yy [3,4,8,32,33,34] [3,4,51] (by simp [go_sem]) ?_
  simp only [go_sem,Int.reduceAdd,Int.reduceLT,true_implies,not_true_eq_false,false_implies,not_false_eq_true,and_true,true_and,i4,Qb,Wc,hp,kr,hI2,e0,fI2];repeat first | refine Ja (by with_reducible assumption) ?_ | refine Ja (Nat.le_trans (by with_reducible assumption) (by decide)) ?_ | refine Ja (by decide) ?_
  refine yy [3,4,8,32,33,34] [3,4,51] (by simp [go_sem]) ?_
  simp only [go_sem,Int.reduceAdd,Int.reduceLT,true_implies,not_true_eq_false,false_implies,not_false_eq_true,and_true,true_and,i4,Qb,Wc,hp,ks,hI3,e0,fI3];repeat first | refine Ja (by with_reducible assumption) ?_ | refine Ja (Nat.le_trans (by with_reducible assumption) (by decide)) ?_ | refine Ja (by decide) ?_
  refine yy [3,4,8,32,33,34] [3,4,51] (by simp [go_sem]) ?_
  simp only [go_sem,Int.reduceAdd,Int.reduceLT,true_implies,not_true_eq_false,false_implies,not_false_eq_true,and_true,true_and,i4,Qb,Wc];repeat first | refine Ja (by with_reducible assumption) ?_ | refine Ja (Nat.le_trans (by with_reducible assumption) (by decide)) ?_ | refine Ja (by decide) ?_
  refine QH 4 [3,4,8,54,55] [3,4,51] (by simp [go_sem]) ?_
  simp only [go_sem,Int.reduceAdd,Int.reduceLT,true_implies,not_true_eq_false,false_implies,not_false_eq_true,and_true,true_and,i4,Qb,Wc];repeat first | refine Ja (by with_reducible assumption) ?_ | refine Ja (Nat.le_trans (by with_reducible assumption) (by decide)) ?_ | refine Ja (by decide) ?_
  refine QH 0 [3,4,8,13,54,55,58,59] [3,4,51] (by simp [go_sem]) ?_
  simp only [go_sem,Int.reduceAdd,Int.reduceLT,true_implies,not_true_eq_false,false_implies,not_false_eq_true,and_true,true_and,i4,Qb,Wc];repeat first | refine Ja (by with_reducible assumption) ?_ | refine Ja (Nat.le_trans (by with_reducible assumption) (by decide)) ?_ | refine Ja (by decide) ?_
  refine yy [3,4,8,54,55] [3,4,51] (by simp [go_sem]) ?_
  simp only [go_sem,Int.reduceAdd,Int.reduceLT,true_implies,not_true_eq_false,false_implies,not_false_eq_true,and_true,true_and,i4,Qb,Wc];repeat first | refine Ja (by with_reducible assumption) ?_ | refine Ja (Nat.le_trans (by with_reducible assumption) (by decide)) ?_ | refine Ja (by decide) ?_
  refine QH 1 [3,4,8,13,54,55,58,59] [3,4,51] (by simp [go_sem]) ?_
  simp only [go_sem,Int.reduceAdd,Int.reduceLT,true_implies,not_true_eq_false,false_implies,not_false_eq_true,and_true,true_and,i4,Qb,Wc];repeat first | refine Ja (by with_reducible assumption) ?_ | refine Ja (Nat.le_trans (by with_reducible assumption) (by decide)) ?_ | refine Ja (by decide) ?_
  refine QH 0 [3,4,8,13,14,54,55,58,59,62,63] [3,4,51] (by simp [go_sem]) ?_
  simp only [go_sem,Int.reduceAdd,Int.reduceLT,true_implies,not_true_eq_false,false_implies,not_false_eq_true,and_true,true_and,i4,Qb,Wc];repeat first | refine Ja (by with_reducible assumption) ?_ | refine Ja (Nat.le_trans (by with_reducible assumption) (by decide)) ?_ | refine Ja (by decide) ?_
  refine yy [3,4,8,13,54,55,58,59] [3,4,51] (by simp [go_sem]) ?_
  simp only [go_sem,Int.reduceAdd,Int.reduceLT,true_implies,not_true_eq_false,false_implies,not_false_eq_true,and_true,true_and,i4,Qb,Wc];repeat first | refine Ja (by with_reducible assumption) ?_ | refine Ja (Nat.le_trans (by with_reducible assumption) (by decide)) ?_ | refine Ja (by decide) ?_
  refine yy [3,4,8,54,55] [3,4,51] (by simp [go_sem]) ?_
  simp only [go_sem,Int.reduceAdd,Int.reduceLT,true_implies,not_true_eq_false,false_implies,not_false_eq_true,and_true,true_and,i4,Qb,Wc];repeat first | refine Ja (by with_reducible assumption) ?_ | refine Ja (Nat.le_trans (by with_reducible assumption) (by decide)) ?_ | refine Ja (by decide) ?_
  refine QH 2 [3,4,8,13,54,55,58,59] [3,4,51] (by simp [go_sem]) ?_
  simp only [go_sem,Int.reduceAdd,Int.reduceLT,true_implies,not_true_eq_false,false_implies,not_false_eq_true,and_true,true_and,i4,Qb,Wc];repeat first | refine Ja (by with_reducible assumption) ?_ | refine Ja (Nat.le_trans (by with_reducible assumption) (by decide)) ?_ | refine Ja (by decide) ?_
  refine QH 0 [3,4,8,13,14,54,55,58,59,62,63] [3,4,51] (by simp [go_sem]) ?_
  simp only [go_sem,Int.reduceAdd,Int.reduceLT,true_implies,not_true_eq_false,false_implies,not_false_eq_true,and_true,true_and,i4,Qb,Wc];repeat first | refine Ja (by with_reducible assumption) ?_ | refine Ja (Nat.le_trans (by with_reducible assumption) (by decide)) ?_ | refine Ja (by decide) ?_
  refine yy [3,4,8,13,54,55,58,59] [3,4,51] (by simp [go_sem]) ?_
  simp only [go_sem,Int.reduceAdd,Int.reduceLT,true_implies,not_true_eq_false,false_implies,not_false_eq_true,and_true,true_and,i4,Qb,Wc];repeat first | refine Ja (by with_reducible assumption) ?_ | refine Ja (Nat.le_trans (by with_reducible assumption) (by decide)) ?_ | refine Ja (by decide) ?_
  refine QH 1 [3,4,8,13,14,54,55,58,59,62,63] [3,4,51] (by simp [go_sem]) ?_
  by_cases h012:crs I0 I1 I2=0
  case neg=>
   have cz:(crossQ (subQ I2 I0) (subQ I1 I0)=0)=False:=eq_false λh=>h012 (xZ.2 h);have ed:dy3 I0 I1 I2 I3=some (I0,I1,I2):=by unfold dy3;rw [ if_pos h012]
   obtain⟨R,hR⟩:∃R,ctr3 I0 I1 I2=R:=⟨_,rfl⟩;have zR:=XW zI0 zI1 zI2;rw [hR]at zR;have wR:=cw R;have lR:al (rcan R.1,rcan R.2)<=100000000:=Nat.le_trans zR (by decide)
   have zQ:=YB I0 R;have wQ:=cw (subQ I0 R);have lQ:al (rcan (subQ I0 R).1,rcan (subQ I0 R).2)<=100000000:=Nat.le_trans zQ (by omega)
   have hK:=hK2 I0 I1 I2 ed;rw [hR]at hK;simp only [go_sem,Int.reduceAdd,Int.reduceLT,true_implies,not_true_eq_false,false_implies,not_false_eq_true,and_true,true_and,i4,Qb,Wc,hs,hx,hg,hcc,hq,QD,Wb,xo,Jn,cz,decide_false,hR,a00,jas];repeat first | refine Ja (by with_reducible assumption) ?_ | refine Ja (Nat.le_trans (by with_reducible assumption) (by decide)) ?_ | refine Ja (by decide) ?_
   exact hK
  have cz012:(crossQ (subQ I2 I0) (subQ I1 I0)=0)=True:=eq_true (xZ.1 h012);simp only [go_sem,Int.reduceAdd,Int.reduceLT,true_implies,not_true_eq_false,false_implies,not_false_eq_true,and_true,true_and,i4,Qb,Wc,hs,hx,hg,QD,Wb,xo,Jn,cz012,decide_true];repeat first | refine Ja (by with_reducible assumption) ?_ | refine Ja (Nat.le_trans (by with_reducible assumption) (by decide)) ?_ | refine Ja (by decide) ?_
  refine yy [3,4,8,13,14,54,55,58,59,62,63] [3,4,51] (by simp [go_sem]) ?_
  simp only [go_sem,Int.reduceAdd,Int.reduceLT,true_implies,not_true_eq_false,false_implies,not_false_eq_true,and_true,true_and,i4,Qb,Wc];repeat first | refine Ja (by with_reducible assumption) ?_ | refine Ja (Nat.le_trans (by with_reducible assumption) (by decide)) ?_ | refine Ja (by decide) ?_
  refine yy [3,4,8,13,54,55,58,59] [3,4,51] (by simp [go_sem]) ?_
  simp only [go_sem,Int.reduceAdd,Int.reduceLT,true_implies,not_true_eq_false,false_implies,not_false_eq_true,and_true,true_and,i4,Qb,Wc];repeat first | refine Ja (by with_reducible assumption) ?_ | refine Ja (Nat.le_trans (by with_reducible assumption) (by decide)) ?_ | refine Ja (by decide) ?_
  refine yy [3,4,8,54,55] [3,4,51] (by simp [go_sem]) ?_
  simp only [go_sem,Int.reduceAdd,Int.reduceLT,true_implies,not_true_eq_false,false_implies,not_false_eq_true,and_true,true_and,i4,Qb,Wc];repeat first | refine Ja (by with_reducible assumption) ?_ | refine Ja (Nat.le_trans (by with_reducible assumption) (by decide)) ?_ | refine Ja (by decide) ?_
  refine QH 3 [3,4,8,13,54,55,58,59] [3,4,51] (by simp [go_sem]) ?_
  simp only [go_sem,Int.reduceAdd,Int.reduceLT,true_implies,not_true_eq_false,false_implies,not_false_eq_true,and_true,true_and,i4,Qb,Wc];repeat first | refine Ja (by with_reducible assumption) ?_ | refine Ja (Nat.le_trans (by with_reducible assumption) (by decide)) ?_ | refine Ja (by decide) ?_
  refine QH 0 [3,4,8,13,14,54,55,58,59,62,63] [3,4,51] (by simp [go_sem]) ?_
  simp only [go_sem,Int.reduceAdd,Int.reduceLT,true_implies,not_true_eq_false,false_implies,not_false_eq_true,and_true,true_and,i4,Qb,Wc];repeat first | refine Ja (by with_reducible assumption) ?_ | refine Ja (Nat.le_trans (by with_reducible assumption) (by decide)) ?_ | refine Ja (by decide) ?_
  refine yy [3,4,8,13,54,55,58,59] [3,4,51] (by simp [go_sem]) ?_
  simp only [go_sem,Int.reduceAdd,Int.reduceLT,true_implies,not_true_eq_false,false_implies,not_false_eq_true,and_true,true_and,i4,Qb,Wc];repeat first | refine Ja (by with_reducible assumption) ?_ | refine Ja (Nat.le_trans (by with_reducible assumption) (by decide)) ?_ | refine Ja (by decide) ?_
  refine QH 1 [3,4,8,13,14,54,55,58,59,62,63] [3,4,51] (by simp [go_sem]) ?_
  by_cases h013:crs I0 I1 I3=0
  case neg=>
   have cz:(crossQ (subQ I3 I0) (subQ I1 I0)=0)=False:=eq_false λh=>h013 (xZ.2 h);have ed:dy3 I0 I1 I2 I3=some (I0,I1,I3):=by unfold dy3;rw [if_neg (by simp [h012]),if_pos h013]
   obtain⟨R,hR⟩:∃R,ctr3 I0 I1 I3=R:=⟨_,rfl⟩;have zR:=XW zI0 zI1 zI3;rw [hR]at zR;have wR:=cw R;have lR:al (rcan R.1,rcan R.2)<=100000000:=Nat.le_trans zR (by decide)
   have zQ:=YB I0 R;have wQ:=cw (subQ I0 R);have lQ:al (rcan (subQ I0 R).1,rcan (subQ I0 R).2)<=100000000:=Nat.le_trans zQ (by omega)
   have hK:=hK2 I0 I1 I3 ed;rw [hR]at hK;simp only [go_sem,Int.reduceAdd,Int.reduceLT,true_implies,not_true_eq_false,false_implies,not_false_eq_true,and_true,true_and,i4,Qb,Wc,hs,hx,hg,hcc,hq,QD,Wb,xo,Jn,cz,decide_false,hR,a00,jas];repeat first | refine Ja (by with_reducible assumption) ?_ | refine Ja (Nat.le_trans (by with_reducible assumption) (by decide)) ?_ | refine Ja (by decide) ?_
   exact hK
  have cz013:(crossQ (subQ I3 I0) (subQ I1 I0)=0)=True:=eq_true (xZ.1 h013);simp only [go_sem,Int.reduceAdd,Int.reduceLT,true_implies,not_true_eq_false,false_implies,not_false_eq_true,and_true,true_and,i4,Qb,Wc,hs,hx,hg,QD,Wb,xo,Jn,cz013,decide_true];repeat first | refine Ja (by with_reducible assumption) ?_ | refine Ja (Nat.le_trans (by with_reducible assumption) (by decide)) ?_ | refine Ja (by decide) ?_
  refine yy [3,4,8,13,14,54,55,58,59,62,63] [3,4,51] (by simp [go_sem]) ?_
  simp only [go_sem,Int.reduceAdd,Int.reduceLT,true_implies,not_true_eq_false,false_implies,not_false_eq_true,and_true,true_and,i4,Qb,Wc];repeat first | refine Ja (by with_reducible assumption) ?_ | refine Ja (Nat.le_trans (by with_reducible assumption) (by decide)) ?_ | refine Ja (by decide) ?_
  refine yy [3,4,8,13,54,55,58,59] [3,4,51] (by simp [go_sem]) ?_
  simp only [go_sem,Int.reduceAdd,Int.reduceLT,true_implies,not_true_eq_false,false_implies,not_false_eq_true,and_true,true_and,i4,Qb,Wc];repeat first | refine Ja (by with_reducible assumption) ?_ | refine Ja (Nat.le_trans (by with_reducible assumption) (by decide)) ?_ | refine Ja (by decide) ?_
  refine QH 2 [3,4,8,13,14,54,55,58,59,62,63] [3,4,51] (by simp [go_sem]) ?_
  by_cases h023:crs I0 I2 I3=0
  case neg=>
   have cz:(crossQ (subQ I3 I0) (subQ I2 I0)=0)=False:=eq_false λh=>h023 (xZ.2 h);have ed:dy3 I0 I1 I2 I3=some (I0,I2,I3):=by unfold dy3;rw [if_neg (by simp [h012]),if_neg (by simp [h013]),if_pos h023]
   obtain⟨R,hR⟩:∃R,ctr3 I0 I2 I3=R:=⟨_,rfl⟩;have zR:=XW zI0 zI2 zI3;rw [hR]at zR;have wR:=cw R;have lR:al (rcan R.1,rcan R.2)<=100000000:=Nat.le_trans zR (by decide)
   have zQ:=YB I0 R;have wQ:=cw (subQ I0 R);have lQ:al (rcan (subQ I0 R).1,rcan (subQ I0 R).2)<=100000000:=Nat.le_trans zQ (by omega)
   have hK:=hK2 I0 I2 I3 ed;rw [hR]at hK;simp only [go_sem,Int.reduceAdd,Int.reduceLT,true_implies,not_true_eq_false,false_implies,not_false_eq_true,and_true,true_and,i4,Qb,Wc,hs,hx,hg,hcc,hq,QD,Wb,xo,Jn,cz,decide_false,hR,a00,jas];repeat first | refine Ja (by with_reducible assumption) ?_ | refine Ja (Nat.le_trans (by with_reducible assumption) (by decide)) ?_ | refine Ja (by decide) ?_
   exact hK
  have cz023:(crossQ (subQ I3 I0) (subQ I2 I0)=0)=True:=eq_true (xZ.1 h023);simp only [go_sem,Int.reduceAdd,Int.reduceLT,true_implies,not_true_eq_false,false_implies,not_false_eq_true,and_true,true_and,i4,Qb,Wc,hs,hx,hg,QD,Wb,xo,Jn,cz023,decide_true];repeat first | refine Ja (by with_reducible assumption) ?_ | refine Ja (Nat.le_trans (by with_reducible assumption) (by decide)) ?_ | refine Ja (by decide) ?_
  refine yy [3,4,8,13,14,54,55,58,59,62,63] [3,4,51] (by simp [go_sem]) ?_
  by_cases h123:crs I1 I2 I3=0
  case neg=>
   have cz:(crossQ (subQ I3 I1) (subQ I2 I1)=0)=False:=eq_false λh=>h123 (xZ.2 h);have ed:dy3 I0 I1 I2 I3=some (I1,I2,I3):=by unfold dy3;rw [if_neg (by simp [h012]),if_neg (by simp [h013]),if_neg (by simp [h023]),if_pos h123]
   obtain⟨R,hR⟩:∃R,ctr3 I1 I2 I3=R:=⟨_,rfl⟩;have zR:=XW zI1 zI2 zI3;rw [hR]at zR;have wR:=cw R;have lR:al (rcan R.1,rcan R.2)<=100000000:=Nat.le_trans zR (by decide)
   have zQ:=YB I1 R;have wQ:=cw (subQ I1 R);have lQ:al (rcan (subQ I1 R).1,rcan (subQ I1 R).2)<=100000000:=Nat.le_trans zQ (by omega)
   have hK:=hK2 I1 I2 I3 ed;rw [hR]at hK;simp only [go_sem,Int.reduceAdd,Int.reduceLT,true_implies,not_true_eq_false,false_implies,not_false_eq_true,and_true,true_and,i4,Qb,Wc,hs,hx,hg,hcc,hq,QD,Wb,xo,Jn,cz,decide_false,hR,a00,jas];repeat first | refine Ja (by with_reducible assumption) ?_ | refine Ja (Nat.le_trans (by with_reducible assumption) (by decide)) ?_ | refine Ja (by decide) ?_
   exact hK
  have cz123:(crossQ (subQ I3 I1) (subQ I2 I1)=0)=True:=eq_true (xZ.1 h123);simp only [go_sem,Int.reduceAdd,Int.reduceLT,true_implies,not_true_eq_false,false_implies,not_false_eq_true,and_true,true_and,i4,Qb,Wc,hs,hx,hg,QD,Wb,xo,Jn,cz123,decide_true];repeat first | refine Ja (by with_reducible assumption) ?_ | refine Ja (Nat.le_trans (by with_reducible assumption) (by decide)) ?_ | refine Ja (by decide) ?_
  refine yy [3,4,8,13,14,54,55,58,59,62,63] [3,4,51] (by simp [go_sem]) ?_
  simp only [go_sem,Int.reduceAdd,Int.reduceLT,true_implies,not_true_eq_false,false_implies,not_false_eq_true,and_true,true_and,i4,Qb,Wc];repeat first | refine Ja (by with_reducible assumption) ?_ | refine Ja (Nat.le_trans (by with_reducible assumption) (by decide)) ?_ | refine Ja (by decide) ?_
  refine yy [3,4,8,13,54,55,58,59] [3,4,51] (by simp [go_sem]) ?_
  simp only [go_sem,Int.reduceAdd,Int.reduceLT,true_implies,not_true_eq_false,false_implies,not_false_eq_true,and_true,true_and,i4,Qb,Wc];repeat first | refine Ja (by with_reducible assumption) ?_ | refine Ja (Nat.le_trans (by with_reducible assumption) (by decide)) ?_ | refine Ja (by decide) ?_
  refine yy [3,4,8,54,55] [3,4,51] (by simp [go_sem]) ?_
  simp only [go_sem,Int.reduceAdd,Int.reduceLT,true_implies,not_true_eq_false,false_implies,not_false_eq_true,and_true,true_and,i4,Qb,Wc];repeat first | refine Ja (by with_reducible assumption) ?_ | refine Ja (Nat.le_trans (by with_reducible assumption) (by decide)) ?_ | refine Ja (by decide) ?_
  refine hK3 ?_;unfold dy3;rw [if_neg (by simp [h012]),if_neg (by simp [h013]),if_neg (by simp [h023]),if_neg (by simp [h123])]
end Go.Abs
end
section
namespace Go.Num
open Go.Abs
def okT(n:Int):Prop:=n=1∨n=2∨n=4∨n=12
def tx(n:Int):ByteArray:=if n=12 then ⟨#[49,50]⟩ else if n=4 then ⟨#[52]⟩ else if n=2 then ⟨#[50]⟩ else ⟨#[49]⟩
def txR(q:Rat):ByteArray:=if q.den=1 then tx q.num else tx q.num++⟨#[47]⟩++tx (q.den:Nat)
theorem zbB(n:Int):(tx n).size<=2:=by unfold tx;split <;> (try split) <;> (try split) <;> decide
theorem Wbv{n:Int}(h:okT n):∃m:Nat,n=m/\1<=m/\m<=12:=by
 rcases h with h | h | h | h
 .exact⟨1,h,by decide,by decide⟩
 .exact⟨2,h,by decide,by decide⟩
 .exact⟨4,h,by decide,by decide⟩
 .exact⟨12,h,by decide,by decide⟩
theorem ZbH{m:Nat}(h1:1<=m)(h2:m<=12):digs m=[m]:=by rw [uq (by omega),show m / 4294967296=0 by omega,yb,show m % 4294967296=m by omega]
end Go.Num
namespace Go.Abs
open Go.Num
variable {P:Program} {Γ:Nat->Spec}
theorem xbi{h h' : Nat->HB}{z:Nat}{b:Bool}{w:W}:okB h h' (some ⟨[[zb w,zm w]],z,b⟩) (some ⟨[[zb w,zm w]],z,b⟩):=
 ⟨⟨rfl,rfl⟩,.inl ⟨rfl,λe he c hc=>by
  rw [List.mem_singleton.1 he]at hc;simp only [List.mem_cons,List.not_mem_nil,or_false]at hc;rcases hc with rfl | rfl
  .exact of_eq_true (qV _)
  .exact of_eq_true (vZ _)⟩⟩
def eJ(s:ByteArray):AV:=.one (.slice [[.lit (.string s)]])
theorem Vbi(x y:ByteArray)(h:eJ x=eJ y):x=y:=by
 simp only [eJ,AV.one.injEq,C.slice.injEq,List.cons.injEq,C.lit.injEq,Value.string.injEq,and_true]at h;exact h
def onJ(k:ByteArray->Prop)(a:AV):Prop:=onE eJ k a
@[congr] theorem Qb3{k:ByteArray->Prop}{a a'}(h:a=a'):onJ k a=onJ k a':=by subst h;rfl
theorem VbM(k:ByteArray->Prop)(x:ByteArray):onJ k (.one (.slice [[.lit (.string x)]]))=k x:=Qn Vbi k x
theorem XbW{β:Type}{T:ByteArray->(β->Prop)->Prop}(h:∀x,GoodT (T x)){a:AV}:GoodT λK=>onJ (λx=>T x K) a:=
 JD (e:=eJ) (T:=T) Vbi h
attribute [go_sem,go_sem ↓] VbM
def Jq(l:List AV)(K:AV->Prop):Prop:=
 match l with
 | [a]=>asInt (λk n=>k=.i64/\okT n/\K (.one (.lit (.string (tx n))))) a
 | _=>False
theorem U6 a K:Jq [a] K=(asInt (λk n=>k=.i64/\okT n/\K (.one (.lit (.string (tx n))))) a):=propext Iff.rfl
@[congr] theorem kbE{K}{l l'}(h:l=l'):Jq l K=Jq l' K:=by subst h;rfl
attribute [go_sem,go_sem ↓] U6
theorem vai:Good Jq:=Ya λas=>by
 unfold Jq;split
 .exact(Jd (λ_ _=>(.and λ_=>(.and λ_=>(.ret _)))) _)
 .exact .of λK hk=>hk.elim
def Qz(l:List AV)(K:AV->Prop):Prop:=
 match l with
 | [a,b]=>asInt (λk n=>k=.i64/\okT n/\asInt (λk m=>k=.i64/\m=10/\K (.one (.lit (.string (tx n))))) b) a
 | _=>False
theorem QZ a b K:Qz [a,b] K=(asInt (λk n=>k=.i64/\okT n/\asInt (λk m=>k=.i64/\m=10/\K (.one (.lit (.string (tx n))))) b) a):=propext Iff.rfl
@[congr] theorem wbQ{K}{l l'}(h:l=l'):Qz l K=Qz l' K:=by subst h;rfl
attribute [go_sem,go_sem ↓] QZ
theorem YaE:Good Qz:=Ya λas=>by
 unfold Qz;split
 .exact(Jd (λ_ _=>(.and λ_=>(.and λ_=>(Jd (λ_ _=>(.and λ_=>(.and λ_=>(.ret _)))) _)))) _)
 .exact .of λK hk=>hk.elim
def zn(l:List AV)(K:AV->Prop):Prop:=
 match l with
 | [a]=>asInt (λk n=>k=.i64/\okT n/\K (.one (.lit (.string (tx n))))) a
 | _=>False
theorem Xav a K:zn [a] K=(asInt (λk n=>k=.i64/\okT n/\K (.one (.lit (.string (tx n))))) a):=propext Iff.rfl
@[congr] theorem xbQ{K}{l l'}(h:l=l'):zn l K=zn l' K:=by subst h;rfl
attribute [go_sem,go_sem ↓] Xav
theorem XT:Good zn:=Ya λas=>by
 unfold zn;split
 .exact(Jd (λ_ _=>(.and λ_=>(.and λ_=>(.ret _)))) _)
 .exact .of λK hk=>hk.elim
def qz(l:List AV)(K:AV->Prop):Prop:=
 match l with
 | [a,b]=>onJ (λs=>b=.one (.lit (.string ⟨#[]⟩))/\K (.one (.lit (.string s)))) a
 | _=>False
theorem zap a b K:qz [a,b] K=(onJ (λs=>b=.one (.lit (.string ⟨#[]⟩))/\K (.one (.lit (.string s)))) a):=propext Iff.rfl
@[congr] theorem WbR{K}{l l'}(h:l=l'):qz l K=qz l' K:=by subst h;rfl
attribute [go_sem,go_sem ↓] zap
theorem waF:Good qz:=Ya λas=>by
 unfold qz;split
 .exact(XbW λ_=>(.and λ_=>(.ret _)))
 .exact .of λK hk=>hk.elim
def Ur(l:List AV)(K:AV->Prop):Prop:=
 match l with
 | [a]=>onW (λw=>okT (zv w)/\K (.one (.lit (.string (tx (zv w)))))) a
 | _=>False
theorem W4 a K:Ur [a] K=(onW (λw=>okT (zv w)/\K (.one (.lit (.string (tx (zv w)))))) a):=propext Iff.rfl
@[congr] theorem zbN{K}{l l'}(h:l=l'):Ur l K=Ur l' K:=by subst h;rfl
attribute [go_sem,go_sem ↓] W4
theorem Yak:Good Ur:=Ya λas=>by
 unfold Ur;split
 .exact(Zo λ_=>(.and λ_=>(.ret _)))
 .exact .of λK hk=>hk.elim
def Zr(l:List AV)(K:AV->Prop):Prop:=
 match l with
 | [a]=>onR (λx=>okT (rv x).num/\okT ((rv x).den:Nat)/\rl x<=4294967296/\K (.one (.lit (.string (txR (rv x)))))) a
 | _=>False
theorem Jae a K:Zr [a] K=(onR (λx=>okT (rv x).num/\okT ((rv x).den:Nat)/\rl x<=4294967296/\K (.one (.lit (.string (txR (rv x)))))) a):=propext Iff.rfl
@[congr] theorem ybE{K}{l l'}(h:l=l'):Zr l K=Zr l' K:=by subst h;rfl
attribute [go_sem,go_sem ↓] Jae
theorem xam:Good Zr:=Ya λas=>by
 unfold Zr;split
 .exact(Wm λ_=>(.and λ_=>(.and λ_=>(.and λ_=>(.ret _)))))
 .exact .of λK hk=>hk.elim
theorem xae(hΓ:Holds P Γ){f:Nat}(hc:check P f=some (15,(Xb).strip,[.tmp 2])):Sound P f (.dat false Jq):=by
 refine Wa hc vai hΓ (λargs K hcl hfi hG=>?_);match args,hG with
 | [a],hG=>
  obtain⟨k,n,rfl,rfl,hn,hK⟩:=vb hG;refine⟨by simp,?_⟩
  rcases hn with rfl | rfl | rfl | rfl
  .simp only [go_sem,Xb];exact⟨λ_=>⟨by decide,⟨by decide,by decide,by decide⟩,hK⟩,λh=>absurd (by decide) h⟩
  .simp only [go_sem,Xb];exact⟨λ_=>⟨by decide,⟨by decide,by decide,by decide⟩,hK⟩,λh=>absurd (by decide) h⟩
  .simp only [go_sem,Xb];exact⟨λ_=>⟨by decide,⟨by decide,by decide,by decide⟩,hK⟩,λh=>absurd (by decide) h⟩
  .simp only [go_sem,Xb];exact⟨λh=>absurd h (by decide),λ_=>⟨by decide,by decide,by decide,⟨by decide,by decide,by decide⟩,hK⟩⟩
theorem jai(hΓ:Holds P Γ){f fs fn fb fi:Nat}(hs:Γ fs=.dat false Jq)(hc:check P f=some (54,(Wd fs fn fb fi).strip,[.tmp 4])):Sound P f (.dat false Qz):=by
 refine Wa hc YaE hΓ (λargs K hcl hfi hG=>?_);match args,hG with
 | [a,b],hG=>
  rw [QZ]at hG;obtain⟨k,n,rfl,rfl,hn,hG'⟩:=vb hG;obtain⟨k',n',rfl,rfl,rfl,hK⟩:=vb hG';clear hG hG';refine⟨by simp,?_⟩
  have a1:(0:Int)<=n:=by rcases hn with rfl | rfl | rfl | rfl <;> decide
  have a2:n<100:=by rcases hn with rfl | rfl | rfl | rfl <;> decide
  simp only [go_sem,Wd,hs,a1,a2,hn];exact hK
theorem zag(hΓ:Holds P Γ){f fs:Nat}(hs:Γ fs=.dat false Qz)(hc:check P f=some (5,(kf fs).strip,[.tmp 2])):Sound P f (.dat false zn):=by
 refine Wa hc XT hΓ (λargs K hcl hfi hG=>?_);match args,hG with
 | [a],hG=>
  obtain⟨k,n,rfl,rfl,hn,hK⟩:=vb hG;refine⟨by simp,?_⟩
  simp only [go_sem,kf,hs,hn];exact hK
theorem V4(hΓ:Holds P Γ){f fs:Nat}(hs:Γ fs=.dat false zn)(hc:check P f=some (5,(yt fs).strip,[.tmp 2])):Sound P f (.dat false zn):=by
 refine Wa hc XT hΓ (λargs K hcl hfi hG=>?_);match args,hG with
 | [a],hG=>
  obtain⟨k,n,rfl,rfl,hn,hK⟩:=vb hG;refine⟨by simp,?_⟩
  simp only [go_sem,yt,hs,hn];exact hK
theorem Wal(hΓ:Holds P Γ){f fg fw fs:Nat}(hc:check P f=some (75,(Wt fg fw fs).strip,[.tmp 4])):Sound P f (.dat false qz):=by
 refine Wa hc waF hΓ (λargs K hcl hfi hG=>?_);match args,hG with
 | [a,b],hG=>
  obtain⟨s,rfl,rfl,hK⟩:=hG;refine⟨by simp,?_⟩
  simp only [go_sem,Wt,eJ];exact⟨λ_=>⟨by decide,hK⟩,λh=>absurd rfl h⟩
theorem Z2(hΓ:Holds P Γ){f fm fs fi fr fj fn:Nat}(hm:Γ fm=.dat false vj)(hs:Γ fs=.dat false Yv)(hi:Γ fi=.dat false zn)(hj:Γ fj=.dat false qz)(hn:Γ fn=.dat true Yf)(hc:check P f=some (44,(Qs fm fs fi fr fj fn).strip,[.tmp 2])):Sound P f (.dat false Ur):=by
  refine Wa hc Yak hΓ (λargs K hcl hfi hG=>?_);match args,hG with
  | [a],hG=>
    obtain⟨w,rfl,hw,h1,hK⟩:=hG;refine⟨by simp,?_⟩
    obtain⟨m,hm1,m1,m2⟩:=Wbv h1;rw [hm1]at h1 hK;have d1:digs m=[m]:=ZbH m1 m2;have d0:=yb
    have v1 : val [m] / 1000000000 = 0 := by have : val [m] = m := by simp [val]
                                             omega
    have v2 : val [m] % 1000000000 = m := by have : val [m] = m := by simp [val]
                                             omega
    have n0:¬((m:Int)<0):=by omega
    have w1:WL [m]:=xc.2 ⟨by omega,zd⟩
    simp only [go_sem,Qs,hm,hs,hi,hj,hn,hw,hm1,Int.natAbs_natCast,d1];refine Xa (λk:Nat=>if k=0 then ⟨mkV [(1,.one (.ptr 1 1 0 0)),(3,wsA [m]),(4,.one .emp)],mkH [(1,⟨1,some ⟨[[zb w,zm w]],2,true⟩⟩)]⟩ else ⟨mkV [(1,.one (.ptr 1 1 0 0)),(3,wsA []),(4,.one (.full [[.lit (.string (tx m))]]))],mkH [(1,⟨1,some ⟨[[zb w,zm w]],2,true⟩⟩)]⟩) (λ_=>True) (λk=>1-k) 0 ?_ trivial ?_
    . rw [if_pos rfl];exact Qa (by simp [okS,okV,okC,okL,okH,okB,okE,ja,Va,qa,ka,wsA,ws,wc]) ⟨xbi,trivial⟩
    . intro k _
      by_cases hk:k=0
      . subst hk
        rw [if_pos rfl];simp only [go_sem,hs,hi,v1,v2,d0,h1];refine⟨w1,by decide,by decide,by omega,λe he=>by simp at he,1,?_,by decide⟩
        rw [if_neg (by decide)]
        exact Qa (by simp [okS,okV,okC,okL,okH,okB,okE,ja,Va,qa,ka,wsA,ws,wc]) ⟨xbi,trivial⟩
      . rw [if_neg hk]
        simp only [go_sem,hj,hn,hw,hm1,n0];exact hK
theorem Wac(hΓ:Holds P Γ){f fp fo fc ft:Nat}(hp:Γ fp=.dat false Ye)(ho:Γ fo=.dat false Vo)(hc' : Γ fc=.dat true XC)(ht:Γ ft=.dat false Ur)(hc:check P f=some (22,(Vk fp fo fc ft).strip,[.tmp 2])):Sound P f (.dat false Zr):=by
 refine Wa hc xam hΓ (λargs K hcl hfi hG=>?_);match args,hG with
 | [a],hG=>
  obtain⟨x,rfl,hx,h1,h2,hl,hK⟩:=hG;refine⟨by simp,?_⟩
  obtain⟨q,hq⟩:∃q,rv x=q:=⟨_,rfl⟩;rw [hq]at h1 h2 hK;unfold txR at hK;have e1:ordI ((q.den:Nat):Int) 1=0↔q.den=1:=by unfold ordI;split <;> (try split) <;> omega
  by_cases hd:q.den=1
  .rw [if_pos hd]at hK;simp only [go_sem,Vk,hp,ho,hc',ht,hx,hq];exact⟨hl,λ_=>⟨h1,hK⟩,λh=>absurd (e1.2 hd) h⟩
  .rw [if_neg hd]at hK;simp only [go_sem,Vk,hp,ho,hc',ht,hx,hq];have z1:=zbB q.num;have z2:=zbB (q.den:Nat);have z3:(ByteArray.mk #[47]).size=1:=rfl;exact⟨hl,λh=>absurd (e1.1 h) hd,λ_=>⟨h1,by omega,h2,by rw [ByteArray.size_append];omega,hK⟩⟩
end Go.Abs
end
section
namespace Go.Num
open Go.Abs
def liC(c:Cp)(p:Arc):Nat:=if cchk2 c [p]≠0 then cchk2 c [p] else if wV (cpv c) (av p)≠0 then 21 else if wM (cpv c) (av p)=0 then 15 else 0
end Go.Num
namespace Go.Abs
open Go.Num
variable {P:Program} {Γ:Nat->Spec}
def ZaS(tE:Nat)(l:List AV)(K:AV->Prop):Prop:=
 match l with
 | [c,p]=>onCp (λc=>onA (λp=>cl c<=1000/\al p<=1000/\K (.tup [pQ (if liC c p=0 then endA (cpv c) (av p) (zL (cpv c) (av p)) else (0,0)),pQ (if liC c p=0 then endB (cpv c) (av p) (zL (cpv c) (av p)) else (0,0)),errV tE (liC c p)])) p) c
 | _=>False
theorem Qa3 tE c p K:ZaS tE [c,p] K=(onCp (λc=>onA (λp=>cl c<=1000/\al p<=1000/\K (.tup [pQ (if liC c p=0 then endA (cpv c) (av p) (zL (cpv c) (av p)) else (0,0)),pQ (if liC c p=0 then endB (cpv c) (av p) (zL (cpv c) (av p)) else (0,0)),errV tE (liC c p)])) p) c):=propext Iff.rfl
@[congr] theorem qbU tE{K}{l l'}(h:l=l'):ZaS tE l K=ZaS tE l' K:=by subst h;rfl
attribute [go_sem,go_sem ↓] Qa3
end Go.Abs
end
section
namespace Go.Num
open Go.Abs
def cqR(X:CpQ):AV:=.agg [cb (rcan X.1.1),cn (rcan X.1.1),cd (rcan X.1.1),cb (rcan X.1.2),cn (rcan X.1.2),cd (rcan X.1.2),cb (rcan X.2.1.1),cn (rcan X.2.1.1),cd (rcan X.2.1.1),cb (rcan X.2.1.2),cn (rcan X.2.1.2),cd (rcan X.2.1.2),cb (rcan X.2.2.1),cn (rcan X.2.2.1),cd (rcan X.2.2.1),cb (rcan X.2.2.2.1),cn (rcan X.2.2.2.1),cd (rcan X.2.2.2.1),cb (rcan X.2.2.2.2.1),cn (rcan X.2.2.2.2.1),cd (rcan X.2.2.2.2.1),cb (rcan X.2.2.2.2.2.1),cn (rcan X.2.2.2.2.2.1),cd (rcan X.2.2.2.2.2.1),cb (rcan X.2.2.2.2.2.2),cn (rcan X.2.2.2.2.2.2),cd (rcan X.2.2.2.2.2.2)]
def scq(c:CpR)(k k2:Rat):CpR:=((c.1.1*k,c.1.2*k),(c.2.1.1*k,c.2.1.2*k),c.2.2.1*k2,c.2.2.2.1*k2,c.2.2.2.2.1*k2,c.2.2.2.2.2.1,c.2.2.2.2.2.2)
def z27:CpR:=((0,0),(0,0),0,0,0,0,0)
def moC(c:Cp)(g:Ps):Nat:=if cchk c≠0 then cchk c else if pvld g=false then 2 else 0
def scC(c:Cp)(k:R):Nat:=if cchk c≠0 then cchk c else if vldR k=false then 2 else if rv k=0 then 8 else 0
end Go.Num
namespace Go.Abs
open Go.Num
variable {P:Program} {Γ:Nat->Spec}
def pfA(x:R):AV:=.one (.ref [cb x,cn x,cd x])
theorem zbs(x y:R)(h:pfA x=pfA y):x=y:=by
 simp only [pfA,AV.one.injEq,C.ref.injEq,List.cons.injEq,and_true]at h;exact qbB h.1 h.2.1 h.2.2
def onPf(k:R->Prop)(a:AV):Prop:=onE pfA (λx=>WLR x/\k x) a
@[congr] theorem yb0{k:R->Prop}{a a'}(h:a=a'):onPf k a=onPf k a':=by subst h;rfl
theorem vbn(k:R->Prop)(x:R):onPf k (.one (.ref [cb x,cn x,cd x]))=(WLR x/\k x):=Qn zbs (λx=>WLR x/\k x) x
attribute [go_sem,go_sem ↓] vbn
theorem Zae(f r ver i off:Nat):ownC (.clo f [.ptr r ver i off])=[r]:=eq_of_heq (HEq.refl _)
attribute [go_sem,go_sem ↓] Zae
def Ubr(l:List AV)(K:AV->Prop):Prop:=
 match l with
 | [a,k]=>onA (λp=>onPf (λk=>al p<=100000000/\rl k<=100000000/\K (pQ (rv p.1*rv k,rv p.2*rv k))) k) a
 | _=>False
theorem kbk a k K:Ubr [a,k] K=(onA (λp=>onPf (λk=>al p<=100000000/\rl k<=100000000/\K (pQ (rv p.1*rv k,rv p.2*rv k))) k) a):=propext Iff.rfl
@[congr] theorem Zb4{K}{l l'}(h:l=l'):Ubr l K=Ubr l' K:=by subst h;rfl
attribute [go_sem,go_sem ↓] kbk
def Xa8(l:List AV)(K:AV->Prop):Prop:=
 match l with
 | [c,k,l]=>onCp (λc=>onR (λk=>onR (λl=>cl c<=100000000/\rl k<=100000000/\rl l<=100000000/\K (cqR (scq (cpv c) (rv k) (rv l)))) l) k) c
 | _=>False
theorem xaP c k l K:Xa8 [c,k,l] K=(onCp (λc=>onR (λk=>onR (λl=>cl c<=100000000/\rl k<=100000000/\rl l<=100000000/\K (cqR (scq (cpv c) (rv k) (rv l)))) l) k) c):=propext Iff.rfl
@[congr] theorem jbV{K}{l l'}(h:l=l'):Xa8 l K=Xa8 l' K:=by subst h;rfl
attribute [go_sem,go_sem ↓] xaP
def XaU(tE:Nat)(l:List AV)(K:AV->Prop):Prop:=
 match l with
 | [c,g]=>onCp (λc=>onPo (λg=>cl c<=1000/\pl g<=1000/\K (.tup [cqR (if moC c g=0 then movQ38 (cpv c) (pv g) else z27),errV tE (moC c g)])) g) c
 | _=>False
theorem ZaL tE c g K:XaU tE [c,g] K=(onCp (λc=>onPo (λg=>cl c<=1000/\pl g<=1000/\K (.tup [cqR (if moC c g=0 then movQ38 (cpv c) (pv g) else z27),errV tE (moC c g)])) g) c):=propext Iff.rfl
@[congr] theorem vbY tE{K}{l l'}(h:l=l'):XaU tE l K=XaU tE l' K:=by subst h;rfl
attribute [go_sem,go_sem ↓] ZaL
def QaP(tE:Nat)(l:List AV)(K:AV->Prop):Prop:=
 match l with
 | [c,k]=>onCp (λc=>onR (λk=>cl c<=1000/\rl k<=1000/\K (.tup [cqR (if scC c k=0 then sclQ38 (cpv c) (rv k) else z27),errV tE (scC c k)])) k) c
 | _=>False
theorem WaT tE c k K:QaP tE [c,k] K=(onCp (λc=>onR (λk=>cl c<=1000/\rl k<=1000/\K (.tup [cqR (if scC c k=0 then sclQ38 (cpv c) (rv k) else z27),errV tE (scC c k)])) k) c):=propext Iff.rfl
@[congr] theorem ubV tE{K}{l l'}(h:l=l'):QaP tE l K=QaP tE l' K:=by subst h;rfl
attribute [go_sem,go_sem ↓] WaT
end Go.Abs
end
section
namespace Go.Num
open Go.Abs
def cps9(c:Cp):List R:=[c.1.1,c.1.2,c.2.1.1,c.2.1.2,c.2.2.1,c.2.2.2.1,c.2.2.2.2.1,c.2.2.2.2.2.1,c.2.2.2.2.2.2]
def sC(c:Cp):Bool:=(cps9 c).all (sR 2)
def exQ:CpR:=((0,0),(4,0),1,16,1,1 / 2,0)
end Go.Num
namespace Go.Abs
open Go.Num
variable {P:Program} {Γ:Nat->Spec}
theorem U5(dr:Bool):∀(l m:List AO) (Q:S->Prop),wpL Γ dr Q (l++m)=wpL Γ dr (wpL Γ dr Q m) l
 | [],m,Q=>rfl
 | o::l,m,Q=>by
  have ih:=U5 dr l m Q
  funext s
  show wpG Γ dr s (wpL Γ dr Q (l++m)) o=wpG Γ dr s (wpL Γ dr (wpL Γ dr Q m) l) o;rw [ih]
theorem QbK(dr:Bool)(l:List AO)(Q:Ex->S->Prop)(s:S):wpA Γ (.seq (.ops dr l) .ret) Q s=wpL Γ dr (Q .ret) l s:=rfl
def yaT(l:List AV)(K:AV->Prop):Prop:=
 match l with
 | [c]=>onCp (λc=>cl c<=4294967296/\K (.one (.lit (.bool (sC c))))) c
 | _=>False
theorem vaV c K:yaT [c] K=(onCp (λc=>cl c<=4294967296/\K (.one (.lit (.bool (sC c))))) c):=propext Iff.rfl
@[congr] theorem YbX{K}{l l'}(h:l=l'):yaT l K=yaT l' K:=by subst h;rfl
attribute [go_sem,go_sem ↓] vaV
def Zbt(l:List AV)(K:AV->Prop):Prop:=
 match l with
 | [a,b]=>asInt (λk n=>asInt (λk' m=>k=.i64/\k' = .i64/\(-9223372036854775808<=n/\n<=9223372036854775807)/\(-9223372036854775808<=m/\m<=9223372036854775807)/\K (pQ (n,m))) b) a
 | _=>False
theorem Jbj a b K:Zbt [a,b] K=(asInt (λk n=>asInt (λk' m=>k=.i64/\k' = .i64/\(-9223372036854775808<=n/\n<=9223372036854775807)/\(-9223372036854775808<=m/\m<=9223372036854775807)/\K (pQ (n,m))) b) a):=propext Iff.rfl
@[congr] theorem Zb3{K}{l l'}(h:l=l'):Zbt l K=Zbt l' K:=by subst h;rfl
attribute [go_sem,go_sem ↓] Jbj
def kaQ(l:List AV)(K:AV->Prop):Prop:=
 match l with
 | []=>K (cqR exQ)
 | _=>False
theorem zaP K:kaQ [] K=(K (cqR exQ)):=propext Iff.rfl
@[congr] theorem WbW{K}{l l'}(h:l=l'):kaQ l K=kaQ l' K:=by subst h;rfl
attribute [go_sem,go_sem ↓] zaP
def uak(l:List AV)(K:AV->Prop):Prop:=
 match l with
 | []=>K (.one (.lit (.bool true)))
 | _=>False
theorem kar K:uak [] K=(K (.one (.lit (.bool true)))):=propext Iff.rfl
@[congr] theorem ZbR{K}{l l'}(h:l=l'):uak l K=uak l' K:=by subst h;rfl
attribute [go_sem,go_sem ↓] kar
def Xp(f0 f1 f2 f3 f4 f5:Nat):List AO:=[.m 36 (.t 2),.u 37 (.binn .eql (.t 36) (.c (.one (.lit .nilIface)))),.m 38 (.t 37),.w 39 38 true (.mv (.t 5)),.w 40 38 true (.binn .eql (.t 39) (.c (.one (.lit .nilIface)))),.u 41 (.pick (.t 38) (.t 40) .fa),.m 42 (.t 41),.w 43 42 true (.mv (.t 7)),.w 44 42 true (.binn .eql (.t 43) (.c (.one (.lit .nilIface)))),.u 45 (.pick (.t 42) (.t 44) .fa),.m 46 (.t 45),.w 47 46 true (.mv (.t 9))]
def Qr(f0 f1 f2 f3 f4 f5:Nat):List AO:=[.w 48 46 true (.binn .eql (.t 47) (.c (.one (.lit .nilIface)))),.u 49 (.pick (.t 46) (.t 48) .fa),.m 50 (.t 49),.w 51 50 true (.mv (.t 1)),.u 52 (.pick (.t 50) (.t 51) .fa),.m 53 (.t 52),.w 54 53 true (.mv (.t 8)),.w 55 53 true (.un .not (.t 54)),.u 56 (.pick (.t 53) (.t 55) .fa),.m 57 (.t 56),.w 58 57 true (.ld none 6 true (.t 3)),.w 59 57 true (.call f1 [(.i 0),(.i 1)])]
def Jr(f0 f1 f2 f3 f4 f5:Nat):List AO:=[.w 60 57 true (.call f5 [(.t 58),(.t 59)]),.u 61 (.pick (.t 57) (.t 60) .fa),.m 62 (.t 61),.w 63 62 true (.ld none 6 true (.t 4)),.w 64 62 true (.call f1 [(.i 4),(.i 1)]),.w 65 62 true (.call f5 [(.t 63),(.t 64)]),.u 66 (.pick (.t 62) (.t 65) .fa),.m 67 (.t 66),.w 68 67 true (.ld none 6 true (.t 6)),.w 69 67 true (.call f1 [(.i 2),(.i 1)]),.w 70 67 true (.call f5 [(.t 68),(.t 69)]),.u 71 (.pick (.t 67) (.t 70) .fa)]
def Yq(f0 f1 f2 f3 f4 f5:Nat):List AO:=[.m 0 (.t 71)]
def zk(f0 f1 f2 f3 f4 f5:Nat):AC:=(.seq (.ops true (Xp f0 f1 f2 f3 f4 f5++(Qr f0 f1 f2 f3 f4 f5++(Jr f0 f1 f2 f3 f4 f5++(Yq f0 f1 f2 f3 f4 f5)))))
 .ret)
def Zw(f0 f1 f2 f3 f4 f5:Nat):AC:=(.seq (.ops false [.u 17 (.call f0 []),.u 18 (.call f1 [(.i 2),(.i 1)]),.u 19 (.call f3 [(.t 17),(.t 18)]),.m 16 (.t 19),.u 20 (.ext 0 (.t 16)),.u 21 (.ext 1 (.t 16)),.u 22 (.ext 2 (.t 16)),.u 3 (.alloc [(.lit (.bool false)),.emp,.emp,(.lit (.bool false)),.emp,.emp]),.u 4 (.alloc [(.lit (.bool false)),.emp,.emp,(.lit (.bool false)),.emp,.emp]),.n (.st none 6 (.t 3) (.t 20)),.n (.st none 6 (.t 4) (.t 21)),.m 5 (.t 22)])
 (.fg [1,2,3,4,5] (.seq (.ops false [.u 24 (.call f0 []),.u 25 (.call f1 [(.i 0),(.i 1)]),.u 26 (.call f1 [(.i 4),(.i 1)]),.u 27 (.call f4 [(.t 24),(.t 25),(.t 26)]),.m 23 (.t 27),.u 28 (.ext 0 (.t 23)),.u 29 (.ext 1 (.t 23)),.u 6 (.alloc [(.lit (.bool false)),.emp,.emp,(.lit (.bool false)),.emp,.emp]),.n (.st none 6 (.t 6) (.t 28)),.m 7 (.t 29)])
 (.fg [1,2,3,4,5,6,7] (.seq (.ops false [.u 31 (.call f0 []),.u 32 (.call f1 [(.i 2),(.i 2)]),.u 33 (.call f2 [(.t 31),(.t 32)]),.m 30 (.t 33),.u 34 (.ext 0 (.t 30)),.u 35 (.ext 1 (.t 30)),.m 8 (.t 34),.m 9 (.t 35)])
 (.fg [1,2,3,4,5,6,7,8,9] (zk f0 f1 f2 f3 f4 f5)))))))
theorem xh{f0 f1 f2 f3 f4 f5:Nat}(Γ:Nat->Spec)(Q:Ex->S->Prop)(s:S):wpA Γ (Zw f0 f1 f2 f3 f4 f5) Q s=wpA Γ (.seq (.ops false [.u 17 (.call f0 []),.u 18 (.call f1 [(.i 2),(.i 1)]),.u 19 (.call f3 [(.t 17),(.t 18)]),.m 16 (.t 19),.u 20 (.ext 0 (.t 16)),.u 21 (.ext 1 (.t 16)),.u 22 (.ext 2 (.t 16)),.u 3 (.alloc [(.lit (.bool false)),.emp,.emp,(.lit (.bool false)),.emp,.emp]),.u 4 (.alloc [(.lit (.bool false)),.emp,.emp,(.lit (.bool false)),.emp,.emp]),.n (.st none 6 (.t 3) (.t 20)),.n (.st none 6 (.t 4) (.t 21)),.m 5 (.t 22)])
 (.fg [1,2,3,4,5] (.seq (.ops false [.u 24 (.call f0 []),.u 25 (.call f1 [(.i 0),(.i 1)]),.u 26 (.call f1 [(.i 4),(.i 1)]),.u 27 (.call f4 [(.t 24),(.t 25),(.t 26)]),.m 23 (.t 27),.u 28 (.ext 0 (.t 23)),.u 29 (.ext 1 (.t 23)),.u 6 (.alloc [(.lit (.bool false)),.emp,.emp,(.lit (.bool false)),.emp,.emp]),.n (.st none 6 (.t 6) (.t 28)),.m 7 (.t 29)])
 (.fg [1,2,3,4,5,6,7] (.seq (.ops false [.u 31 (.call f0 []),.u 32 (.call f1 [(.i 2),(.i 2)]),.u 33 (.call f2 [(.t 31),(.t 32)]),.m 30 (.t 33),.u 34 (.ext 0 (.t 30)),.u 35 (.ext 1 (.t 30)),.m 8 (.t 34),.m 9 (.t 35)])
 (.fg [1,2,3,4,5,6,7,8,9] (zk f0 f1 f2 f3 f4 f5))))))) Q s:=eq_of_heq (HEq.refl _)
attribute [go_sem ↓] xh
attribute [go_sem] xh
end Go.Abs
end
section
namespace Go.Num
open Go.Abs
def mvP(x y:Rat):Ps:=pcan ((0,false),(x,y))
def mvL(y:Rat):List Ps:=[mvP 0 0,mvP 2 0,mvP 2 2,mvP 0 y]
theorem WH(x y:Rat)(m:V2):appQ (pv (mvP x y)) m=(m.1+x,m.2+y):=by
 have e:pv (mvP x y)=((0,false),(x,y)):=VbI _;rw [e];have c:cosQ ((0:Rat),false)=1:=by decide +kernel
 have s:sinQ ((0:Rat),false)=0:=by decide +kernel
 unfold appQ rotQ addQ;rw [c,s];exact Prod.ext (by simp only;grind) (by simp only;grind)
theorem ZbM(x y:Rat):pvld (mvP x y)=true:=by
 refine va4 _ ?_;unfold tchk;rw [if_pos];exact⟨Jm _,λh=>by have:=h.1;contradiction⟩
theorem ZO(y:Rat):fourC (mvL y)=0:=ZaX rfl (by simp [mvL,ZbM])
theorem jbb{y:Rat}(h:rz y<=6):okPs 90 (mvL y):=λp hp=>by
 have z0:=rz_0;have z2:=rz_2;have k:∀a b:Rat,rz a<=6->rz b<=6->okP 90 (mvP a b):=λa b h1 h2=>⟨ybq _,by
  have e:pl (mvP a b)=max (rz 0) (max (rz a) (rz b)):=rfl;rw [e];simp only [Nat.max_le];exact⟨by omega,by omega,by omega⟩⟩
 simp only [mvL,List.mem_cons,List.not_mem_nil,or_false]at hp;rcases hp with rfl | rfl | rfl | rfl
 .exact k _ _ (by omega) (by omega)
 .exact k _ _ (by omega) (by omega)
 .exact k _ _ (by omega) (by omega)
 .exact k _ _ (by omega) h
theorem xaQ(y:Rat)(m:V2):dtL (mvL y) m=4*y*(y-2):=by
 show detQ (appQ (pv (mvP 0 0)) m) (appQ (pv (mvP 2 0)) m) (appQ (pv (mvP 2 2)) m) (appQ (pv (mvP 0 y)) m)=_;rw [WH,WH,WH,WH];unfold detQ sqQ;simp only;grind
theorem Ubo : rz (3:Rat)<=6:=by
 have h1:=rz_1;have h2:=rz_2;have h3:=Ql 1 2;have e:(1:Rat)+2=3:=by decide +kernel
 rw [e]at h3;omega
theorem mv_2:bcL (mvL 2)=[]:=by
 have hl:=Vi (jbb (y:=2) (by have:=rz_2;omega)) (by decide:90<=1000)
 obtain⟨pb,e⟩:=JL hl (ZO 2);have c0:Canon ([]:BQ):=Qm (l:=[]) (λt ht=>absurd ht (List.not_mem_nil));refine kZ pb.canon c0 λx y=>?_;have h:=e (x,y);rw [xaQ]at h;simp only at h;rw [h];have:(4:Rat)*2*(2-2)=0:=by decide +kernel
 rw [this];rfl
theorem mv_3:bcL (mvL 3)=[(0,0,12)]:=by
 have hl:=Vi (jbb Ubo) (by decide:90<=1000)
 obtain⟨pb,e⟩:=JL hl (ZO 3);have ec:conB 12=[(0,0,12)]:=by decide +kernel
 rw [<-ec];refine kZ pb.canon (PB.con 12).canon λx y=>?_;have h:=e (x,y);rw [xaQ]at h;simp only at h;rw [h,ubE];decide +kernel
theorem vaQ:dyN (mvL 2) (0,0)=some ((0,0),(2,0),(2,2)):=by
 show dy3 (appQ (pv (mvP 0 0)) (0,0)) (appQ (pv (mvP 2 0)) (0,0)) (appQ (pv (mvP 2 2)) (0,0)) (appQ (pv (mvP 0 2)) (0,0))=_;rw [WH,WH,WH,WH];decide +kernel
theorem Vbs:av (rcan 0,rcan 0)=(0,0):=QD (0,0)
theorem kbV:avld (rcan 0,rcan 0)=true:=by show(vldR (rcan _) && vldR (rcan _))=true;rw [Jm];rfl
theorem uby(y:Rat):onC (mvL y) (rcan 0,rcan 0)=0:=Xbx (ZO y) kbV
theorem wbS:dyC (mvL 2) (rcan 0,rcan 0)=0/\dyR (mvL 2) (rcan 0,rcan 0)=((1,1),(0,0),2):=by
 have h1:dtL (mvL 2) (av (rcan 0,rcan 0))=0:=by rw [xaQ];decide +kernel
 have h2:dyC (mvL 2) (rcan 0,rcan 0)=0:=by unfold dyC;rw [uby,if_neg (by decide),if_neg (by simp [h1]),Vbs,vaQ]
 refine⟨h2,?_⟩;unfold dyR;rw [h2,if_pos rfl,Vbs,vaQ];decide +kernel
end Go.Num
namespace Go.Abs
open Go.Num
variable {P:Program} {Γ:Nat->Spec}
def jF(l:List AV)(K:AV->Prop):Prop:=
 match l with
 | [a]=>asInt (λk y=>k=.i64/\(y=2∨y=3)/\K (.one (.slice ((mvL y).map pC)))) a
 | _=>False
theorem Wa3 a K:jF [a] K=(asInt (λk y=>k=.i64/\(y=2∨y=3)/\K (.one (.slice ((mvL y).map pC)))) a):=propext Iff.rfl
@[congr] theorem Vb0{K}{l l'}(h:l=l'):jF l K=jF l' K:=by subst h;rfl
attribute [go_sem,go_sem ↓] Wa3
theorem waY:Good jF:=Ya λas=>by
 unfold jF;split
 .exact(Jd (λ_ _=>(.and λ_=>(.and λ_=>(.ret _)))) _)
 .exact .of λK hk=>hk.elim
def xy(l:List AV)(K:AV->Prop):Prop:=
 match l with
 | []=>K (.one (.lit (.bool true)))
 | _=>False
theorem yan K:xy [] K=(K (.one (.lit (.bool true)))):=propext Iff.rfl
@[congr] theorem JbO{K}{l l'}(h:l=l'):xy l K=xy l' K:=by subst h;rfl
attribute [go_sem,go_sem ↓] yan
theorem QaG:Good xy:=Ya λas=>by
 unfold xy;split
 .exact(.ret _)
 .exact .of λK hk=>hk.elim
def ug(f0:Nat):AC:=(.seq (.ops false [.m 2 (.c (.one .emp))])
 (.fg [0] (.seq (.ops false [.u 4 (.call f0 [(.i 2)]),.u 3 (.alloc [(.lit (.bool false)),.emp,.emp]),.n (.st none 3 (.t 3) (.t 4))])
 (.fg [0,3] (.seq (.ops true [.u 5 (.build [.z [(.lit (.bool false)),.emp,.emp,(.lit (.bool false)),(.lit (.bool false)),.emp,.emp,(.lit (.bool false)),.emp,.emp]]),.u 6 (.ld none 3 true (.t 3)),.u 7 (.build [.x 3 (.t 6),.z [(.lit (.bool false)),.emp,.emp]]),.u 8 (.build [.z [(.lit (.bool false)),.emp,.emp,(.lit (.bool false))],.x 6 (.t 7)]),.u 9 (.ld none 3 true (.t 3)),.u 10 (.ld none 3 true (.t 3)),.u 11 (.build [.x 3 (.t 9),.x 3 (.t 10)]),.u 12 (.build [.z [(.lit (.bool false)),.emp,.emp,(.lit (.bool false))],.x 6 (.t 11)]),.m 13 (.t 0),.u 14 (.call f0 [(.t 13)]),.u 15 (.build [.z [(.lit (.bool false)),.emp,.emp],.x 3 (.t 14)]),.u 16 (.build [.z [(.lit (.bool false)),.emp,.emp,(.lit (.bool false))],.x 6 (.t 15)]),.u 17 (.row 10 [[.x 10 (.t 5)],[.x 10 (.t 8)],[.x 10 (.t 12)],[.x 10 (.t 16)]]),.m 2 (.t 17)])
 .ret)))))
def xd(f0 f1 f2 f3 f4:Nat):List AO:=[.m 39 (.t 2),.u 40 (.binn .eql (.t 39) (.c (.one (.lit .nilIface)))),.m 41 (.t 40),.w 42 41 true (.mv (.t 4)),.w 43 41 true (.binn .eql (.t 42) (.c (.one (.lit .nilIface)))),.u 44 (.pick (.t 41) (.t 43) .fa),.m 45 (.t 44),.w 46 45 true (.mv (.t 6)),.w 47 45 true (.binn .eql (.t 46) (.c (.one (.lit .nilIface)))),.u 48 (.pick (.t 45) (.t 47) .fa),.m 49 (.t 48),.w 50 49 true (.mv (.t 8))]
theorem Jo{f0 f1 f2 f3 f4:Nat}(Γ:Nat->Spec)(dr:Bool)(Q:S->Prop)(s:S):wpL Γ dr Q (xd f0 f1 f2 f3 f4) s=wpL Γ dr Q [.m 39 (.t 2),.u 40 (.binn .eql (.t 39) (.c (.one (.lit .nilIface)))),.m 41 (.t 40),.w 42 41 true (.mv (.t 4)),.w 43 41 true (.binn .eql (.t 42) (.c (.one (.lit .nilIface)))),.u 44 (.pick (.t 41) (.t 43) .fa),.m 45 (.t 44),.w 46 45 true (.mv (.t 6)),.w 47 45 true (.binn .eql (.t 46) (.c (.one (.lit .nilIface)))),.u 48 (.pick (.t 45) (.t 47) .fa),.m 49 (.t 48),.w 50 49 true (.mv (.t 8))] s:=eq_of_heq (HEq.refl _)
def yd(f0 f1 f2 f3 f4:Nat):List AO:=[.w 51 49 true (.binn .eql (.t 50) (.c (.one (.lit .nilIface)))),.u 52 (.pick (.t 49) (.t 51) .fa),.m 53 (.t 52),.w 54 53 true (.mv (.t 10)),.w 55 53 true (.binn .eql (.t 54) (.c (.one (.lit .nilIface)))),.u 56 (.pick (.t 53) (.t 55) .fa),.m 57 (.t 56),.w 58 57 true (.mv (.t 1)),.w 59 57 true (.len (.t 58)),.w 60 57 true (.bin .eql (.t 59) (.i 0)),.u 61 (.pick (.t 57) (.t 60) .fa),.m 62 (.t 61)]
theorem Qo{f0 f1 f2 f3 f4:Nat}(Γ:Nat->Spec)(dr:Bool)(Q:S->Prop)(s:S):wpL Γ dr Q (yd f0 f1 f2 f3 f4) s=wpL Γ dr Q [.w 51 49 true (.binn .eql (.t 50) (.c (.one (.lit .nilIface)))),.u 52 (.pick (.t 49) (.t 51) .fa),.m 53 (.t 52),.w 54 53 true (.mv (.t 10)),.w 55 53 true (.binn .eql (.t 54) (.c (.one (.lit .nilIface)))),.u 56 (.pick (.t 53) (.t 55) .fa),.m 57 (.t 56),.w 58 57 true (.mv (.t 1)),.w 59 57 true (.len (.t 58)),.w 60 57 true (.bin .eql (.t 59) (.i 0)),.u 61 (.pick (.t 57) (.t 60) .fa),.m 62 (.t 61)] s:=eq_of_heq (HEq.refl _)
def Xd(f0 f1 f2 f3 f4:Nat):List AO:=[.w 63 62 true (.mv (.t 3)),.w 64 62 true (.len (.t 63)),.w 65 62 true (.bin .eql (.t 64) (.i 1)),.u 66 (.pick (.t 62) (.t 65) .fa),.m 67 (.t 66),.w 68 67 true (.mv (.t 3)),.w 69 67 true (.idx 5 (.t 68) (.i 0)),.w 70 67 true (.fa 2 (.t 69)),.w 71 67 true (.ld none 3 true (.t 70)),.w 72 67 true (.call f4 [(.t 71)]),.w 73 67 true (.sop 1 [(.t 72),(.c (.one (.lit (.string ⟨#[49,50]⟩))))]),.u 74 (.pick (.t 67) (.t 73) .fa)]
theorem ko{f0 f1 f2 f3 f4:Nat}(Γ:Nat->Spec)(dr:Bool)(Q:S->Prop)(s:S):wpL Γ dr Q (Xd f0 f1 f2 f3 f4) s=wpL Γ dr Q [.w 63 62 true (.mv (.t 3)),.w 64 62 true (.len (.t 63)),.w 65 62 true (.bin .eql (.t 64) (.i 1)),.u 66 (.pick (.t 62) (.t 65) .fa),.m 67 (.t 66),.w 68 67 true (.mv (.t 3)),.w 69 67 true (.idx 5 (.t 68) (.i 0)),.w 70 67 true (.fa 2 (.t 69)),.w 71 67 true (.ld none 3 true (.t 70)),.w 72 67 true (.call f4 [(.t 71)]),.w 73 67 true (.sop 1 [(.t 72),(.c (.one (.lit (.string ⟨#[49,50]⟩))))]),.u 74 (.pick (.t 67) (.t 73) .fa)] s:=eq_of_heq (HEq.refl _)
def Ud(f0 f1 f2 f3 f4:Nat):List AO:=[.m 75 (.t 74),.w 76 75 true (.mv (.t 5)),.u 77 (.pick (.t 75) (.t 76) .fa),.m 78 (.t 77),.w 79 78 true (.mv (.t 7)),.w 80 78 true (.un .not (.t 79)),.u 81 (.pick (.t 78) (.t 80) .fa),.m 82 (.t 81),.w 83 82 true (.fa 12 (.t 9)),.w 84 82 true (.ld none 3 true (.t 83)),.w 85 82 true (.call f4 [(.t 84)]),.w 86 82 true (.sop 1 [(.t 85),(.c (.one (.lit (.string ⟨#[50]⟩))))])]
theorem wo{f0 f1 f2 f3 f4:Nat}(Γ:Nat->Spec)(dr:Bool)(Q:S->Prop)(s:S):wpL Γ dr Q (Ud f0 f1 f2 f3 f4) s=wpL Γ dr Q [.m 75 (.t 74),.w 76 75 true (.mv (.t 5)),.u 77 (.pick (.t 75) (.t 76) .fa),.m 78 (.t 77),.w 79 78 true (.mv (.t 7)),.w 80 78 true (.un .not (.t 79)),.u 81 (.pick (.t 78) (.t 80) .fa),.m 82 (.t 81),.w 83 82 true (.fa 12 (.t 9)),.w 84 82 true (.ld none 3 true (.t 83)),.w 85 82 true (.call f4 [(.t 84)]),.w 86 82 true (.sop 1 [(.t 85),(.c (.one (.lit (.string ⟨#[50]⟩))))])] s:=eq_of_heq (HEq.refl _)
def ud(f0 f1 f2 f3 f4:Nat):List AO:=[.u 87 (.pick (.t 82) (.t 86) .fa),.m 0 (.t 87)]
theorem zo{f0 f1 f2 f3 f4:Nat}(Γ:Nat->Spec)(dr:Bool)(Q:S->Prop)(s:S):wpL Γ dr Q (ud f0 f1 f2 f3 f4) s=wpL Γ dr Q [.u 87 (.pick (.t 82) (.t 86) .fa),.m 0 (.t 87)] s:=eq_of_heq (HEq.refl _)
def Qf(f0 f1 f2 f3 f4:Nat):AC:=(.seq (.ops false (xd f0 f1 f2 f3 f4++(yd f0 f1 f2 f3 f4++(Xd f0 f1 f2 f3 f4++(Ud f0 f1 f2 f3 f4++(ud f0 f1 f2 f3 f4))))))
 .ret)
theorem Ws{f0 f1 f2 f3 f4:Nat}(Γ:Nat->Spec)(Q:Ex->S->Prop)(s:S):wpA Γ (Qf f0 f1 f2 f3 f4) Q s=wpA Γ (.seq (.ops false (xd f0 f1 f2 f3 f4++(yd f0 f1 f2 f3 f4++(Xd f0 f1 f2 f3 f4++(Ud f0 f1 f2 f3 f4++(ud f0 f1 f2 f3 f4))))))
 .ret) Q s:=eq_of_heq (HEq.refl _)
def jk(f0 f1 f2 f3 f4:Nat):AC:=(.seq (.ops false [.u 22 (.call f0 [(.i 2)]),.u 23 (.build [.z [(.lit (.bool false)),.emp,.emp,(.lit (.bool false)),.emp,.emp]]),.u 24 (.call f2 [(.t 22),(.t 23)]),.m 21 (.t 24),.u 25 (.ext 0 (.t 21)),.u 26 (.ext 1 (.t 21)),.m 5 (.t 25),.m 6 (.t 26)])
 (.fg [1,2,3,4,5,6] (.seq (.ops false [.u 28 (.call f0 [(.i 3)]),.u 29 (.build [.z [(.lit (.bool false)),.emp,.emp,(.lit (.bool false)),.emp,.emp]]),.u 30 (.call f2 [(.t 28),(.t 29)]),.m 27 (.t 30),.u 31 (.ext 0 (.t 27)),.u 32 (.ext 1 (.t 27)),.m 7 (.t 31),.m 8 (.t 32)])
 (.fg [1,2,3,4,5,6,7,8] (.seq (.ops false [.u 34 (.call f0 [(.i 2)]),.u 35 (.build [.z [(.lit (.bool false)),.emp,.emp,(.lit (.bool false)),.emp,.emp]]),.u 36 (.call f3 [(.t 34),(.t 35)]),.m 33 (.t 36),.u 37 (.ext 0 (.t 33)),.u 38 (.ext 1 (.t 33)),.u 9 (.alloc [(.lit (.bool false)),.emp,.emp,(.lit (.bool false)),.emp,.emp,(.lit (.bool false)),.emp,.emp,(.lit (.bool false)),.emp,.emp,(.lit (.bool false)),.emp,.emp]),.n (.st none 15 (.t 9) (.t 37)),.m 10 (.t 38)])
 (.fg [1,2,3,4,5,6,7,8,9,10] (Qf f0 f1 f2 f3 f4)))))))
theorem Wh{f0 f1 f2 f3 f4:Nat}(Γ:Nat->Spec)(Q:Ex->S->Prop)(s:S):wpA Γ (jk f0 f1 f2 f3 f4) Q s=wpA Γ (.seq (.ops false [.u 22 (.call f0 [(.i 2)]),.u 23 (.build [.z [(.lit (.bool false)),.emp,.emp,(.lit (.bool false)),.emp,.emp]]),.u 24 (.call f2 [(.t 22),(.t 23)]),.m 21 (.t 24),.u 25 (.ext 0 (.t 21)),.u 26 (.ext 1 (.t 21)),.m 5 (.t 25),.m 6 (.t 26)])
 (.fg [1,2,3,4,5,6] (.seq (.ops false [.u 28 (.call f0 [(.i 3)]),.u 29 (.build [.z [(.lit (.bool false)),.emp,.emp,(.lit (.bool false)),.emp,.emp]]),.u 30 (.call f2 [(.t 28),(.t 29)]),.m 27 (.t 30),.u 31 (.ext 0 (.t 27)),.u 32 (.ext 1 (.t 27)),.m 7 (.t 31),.m 8 (.t 32)])
 (.fg [1,2,3,4,5,6,7,8] (.seq (.ops false [.u 34 (.call f0 [(.i 2)]),.u 35 (.build [.z [(.lit (.bool false)),.emp,.emp,(.lit (.bool false)),.emp,.emp]]),.u 36 (.call f3 [(.t 34),(.t 35)]),.m 33 (.t 36),.u 37 (.ext 0 (.t 33)),.u 38 (.ext 1 (.t 33)),.u 9 (.alloc [(.lit (.bool false)),.emp,.emp,(.lit (.bool false)),.emp,.emp,(.lit (.bool false)),.emp,.emp,(.lit (.bool false)),.emp,.emp,(.lit (.bool false)),.emp,.emp]),.n (.st none 15 (.t 9) (.t 37)),.m 10 (.t 38)])
 (.fg [1,2,3,4,5,6,7,8,9,10] (Qf f0 f1 f2 f3 f4))))))) Q s:=eq_of_heq (HEq.refl _)
attribute [go_sem ↓] Wh
attribute [go_sem] Wh
def Jh(f0 f1 f2 f3 f4:Nat):AC:=(.seq (.ops false [.m 0 .fa])
 (.fg [] (.seq (.ops false [.u 12 (.call f0 [(.i 2)]),.u 13 (.call f1 [(.t 12)]),.m 11 (.t 13),.u 14 (.ext 0 (.t 11)),.u 15 (.ext 1 (.t 11)),.m 1 (.t 14),.m 2 (.t 15)])
 (.fg [1,2] (.seq (.ops false [.u 17 (.call f0 [(.i 3)]),.u 18 (.call f1 [(.t 17)]),.m 16 (.t 18),.u 19 (.ext 0 (.t 16)),.u 20 (.ext 1 (.t 16)),.m 3 (.t 19),.m 4 (.t 20)])
 (.fg [1,2,3,4] (jk f0 f1 f2 f3 f4)))))))
theorem waI(hΓ:Holds P Γ){f fo:Nat}(ho:Γ fo=.dat false wB)(hc:check P f=some (18,(ug fo).strip,[.tmp 2])):Sound P f (.dat false jF):=by
 refine Wa hc waY hΓ (λargs K hcl hfi hG=>?_);match args,hG with
 | [a],hG=>
  obtain⟨k,y,rfl,rfl,hy,hK⟩:=vb hG;refine⟨by simp,?_⟩
  have i2:((2:Int):Rat)=2:=rfl;have b1:-9223372036854775808<=y:=by rcases hy with rfl | rfl <;> decide
  have b2:y<=9223372036854775807:=by rcases hy with rfl | rfl <;> decide
  have eK:((mvL (y:Rat)).map pC)=[[cb (rcan 0),cn (rcan 0),cd (rcan 0),.lit (.bool false),cb (rcan 0),cn (rcan 0),cd (rcan 0),cb (rcan 0),cn (rcan 0),cd (rcan 0)],[cb (rcan 0),cn (rcan 0),cd (rcan 0),.lit (.bool false),cb (rcan 2),cn (rcan 2),cd (rcan 2),cb (rcan 0),cn (rcan 0),cd (rcan 0)],[cb (rcan 0),cn (rcan 0),cd (rcan 0),.lit (.bool false),cb (rcan 2),cn (rcan 2),cd (rcan 2),cb (rcan 2),cn (rcan 2),cd (rcan 2)],[cb (rcan 0),cn (rcan 0),cd (rcan 0),.lit (.bool false),cb (rcan 0),cn (rcan 0),cd (rcan 0),cb (rcan (y:Rat)),cn (rcan (y:Rat)),cd (rcan (y:Rat))]]:=rfl;rw [eK]at hK;simp only [Yb]at hK;simp only [go_sem,ug,ho,i2];refine⟨by decide,by decide,b1,b2,?_⟩
  exact hK
set_option maxHeartbeats 2000000 in
theorem Uak(hΓ:Holds P Γ){f fm fb fo fd ft tE:Nat}(hm:Γ fm=.dat false jF)(hb:Γ fb=.dat false (kG tE))(ho:Γ fo=.dat false (vM tE))(hd:Γ fd=.dat false (JV tE))(ht:Γ ft=.dat false Zr)(hc:check P f=some (88,(Jh fm fb fo fd ft).strip,[.tmp 0])):Sound P f (.dat true xy):=by
 refine Wa hc QaG hΓ (λargs K hcl hfi hG=>?_);match args,hG with
 | [],hK=>
  refine⟨by simp,?_⟩
  have e0:=ub tE;have i2:((2:Int):Rat)=2:=rfl;have i3:((3:Int):Rat)=3:=rfl;have k2:okPs 1000 (mvL 2):=Vi (jbb (by have:=rz_2;omega)) (by decide)
  have k3:okPs 1000 (mvL 3):=Vi (jbb Ubo) (by decide)
  have w2:∀p∈mvL 2,WLP p:=λp hp=>(k2 p hp).1;have w3:∀p∈mvL 3,WLP p:=λp hp=>(k3 p hp).1;have f2:=ZO 2;have f3:=ZO 3;have b2:bres 0 (bcL (mvL 2))=[]:=by rw [mv_2];rfl
  have b3:bres 0 (bcL (mvL 3))=[(0,0,rcan 12)]:=by rw [mv_3];rfl
  have o2:=uby 2;have o3:=uby 3;have d2:dtL (mvL 2) (0,0)=0:=by rw [xaQ];decide +kernel
  have d3:(dtL (mvL 3) (0,0)=0)=False:=eq_false (by rw [xaQ];decide +kernel)
  have zz:WLA (rcan 0,rcan 0):=qy (0,0);have z0:al (rcan 0,rcan 0)<=10000:=Nat.max_le.2 ⟨Nat.le_trans (Nat.le_of_eq rz_0) (by decide),Nat.le_trans (Nat.le_of_eq rz_0) (by decide)⟩
  obtain⟨c2,r2⟩:=wbS;have g0:decide ((0:Nat)=0)=true:=rfl;have t12:txR 12=⟨#[49,50]⟩:=by decide +kernel
  have t2:txR 2=⟨#[50]⟩:=by decide +kernel
  obtain⟨L2,hL2⟩:∃L,mvL 2=L:=⟨_,rfl⟩;obtain⟨L3,hL3⟩:∃L,mvL 3=L:=⟨_,rfl⟩;rw [hL2]at k2 w2 f2 b2 o2 d2 c2 r2;rw [hL3]at k3 w3 f3 b3 o3 d3;simp only [go_sem,Jh,hm,hb,ho,hd,i2,i3,hL2,hL3,f2,f3,b2,b3,e0,o2,o3,c2,r2,Vbs,d2,d3,g0,decide_false,decide_true,Bool.true_and,Bool.and_false];repeat first | refine Ja (by with_reducible assumption) ?_ | refine Ja (Nat.le_trans (by with_reducible assumption) (by decide)) ?_ | refine Ja (by decide) ?_
  rw [Ws,QbK,U5,U5,U5,U5];rw [Jo];simp only [go_sem];rw [Qo];simp only [go_sem];rw [ko];have bb:∀l:List UInt8,(l == l)=true:=λl=>beq_self_eq_true l;have n1:(((1:Nat):Int)=1)=True:=eq_true rfl;have k1:okT (Rat.num 12):=Or.inr (Or.inr (Or.inr rfl));have k4:okT ((Rat.den 12:Nat):Int):=Or.inl rfl;have k5:okT (Rat.num 2):=Or.inr (Or.inl rfl);have k6:okT ((Rat.den 2:Nat):Int):=Or.inl rfl;have l22:rz 2<=4294967296:=Nat.le_trans rz_2 (by decide)
  have l12:rz 12<=4294967296:=by
   have h1:=Ubo;have h2:=rz_2;have h3:=qc 2 2;have h4:=qc 3 4;have e1:(2:Rat)*2=4:=by decide +kernel
   have e2:(3:Rat)*4=12:=by decide +kernel
   rw [e1]at h3;rw [e2]at h4;omega
  simp only [go_sem,ht,Wb,t2,t12,bb,n1,decide_true,mC,List.drop,List.take];repeat first | refine Ja (by with_reducible assumption) ?_ | refine Ja (Nat.le_trans (by with_reducible assumption) (by decide)) ?_ | refine Ja (by decide) ?_
  rw [wo];simp only [go_sem,ht,Wb,t2,t12,bb];repeat first | refine Ja (by with_reducible assumption) ?_ | refine Ja (Nat.le_trans (by with_reducible assumption) (by decide)) ?_ | refine Ja (by decide) ?_
  rw [zo];simp only [go_sem,ht,Wb,t2,t12,bb];exact hK
end Go.Abs
end
section
namespace Go.Num
open Go.Abs
abbrev P4:=Ps×Ps×Ps×Ps
def WL4(t:P4):Prop:=WLP t.1/\WLP t.2.1/\WLP t.2.2.1/\WLP t.2.2.2
def l4(t:P4):List Ps:=[t.1,t.2.1,t.2.2.1,t.2.2.2]
theorem ybk{t:P4}{p:Ps}:p∈l4 t↔p=t.1∨p=t.2.1∨p=t.2.2.1∨p=t.2.2.2:=by simp [l4]
theorem ybF{t:P4}(h:WL4 t):∀p∈l4 t,WLP p:=λp hp=>by
 rcases ybk.1 hp with rfl | rfl | rfl | rfl
 .exact h.1
 .exact h.2.1
 .exact h.2.2.1
 .exact h.2.2.2
end Go.Num
namespace Go.Abs
open Go.Num
variable {P:Program} {Γ:Nat->Spec}
def p4C(t:P4):List C:=pC t.1++(pC t.2.1++(pC t.2.2.1++pC t.2.2.2))
def p4A(t:P4):AV:=.agg (p4C t)
theorem uaK(x y:P4)(h:p4A x=p4A y):x=y:=by
 simp only [p4A,p4C,AV.agg.injEq]at h;have h1:=List.append_inj h (by simp [Wp])
 have h2:=List.append_inj h1.2 (by simp [Wp])
 have h3:=List.append_inj h2.2 (by simp [Wp])
 exact Prod.ext (xP h1.1) (Prod.ext (xP h2.1) (Prod.ext (xP h3.1) (xP h3.2)))
def onP4(k:P4->Prop)(a:AV):Prop:=onE p4A (λt=>WL4 t/\k t) a
@[congr] theorem Qb1{k:P4->Prop}{a a'}(h:a=a'):onP4 k a=onP4 k a':=by subst h;rfl
theorem Vbh{β:Type}{T:P4->(β->Prop)->Prop}(h:∀x,GoodT (T x)){a:AV}:GoodT λK=>onP4 (λx=>T x K) a:=
 JD (e:=p4A) (T:=λp K=>WL4 p/\T p K) uaK λp=>GoodT.and (c:=WL4 p) (T:=T p) λ_=>h p
theorem ybi(k:P4->Prop)(t:P4):onP4 k (.agg (p4C t))=(WL4 t/\k t):=
 propext ⟨λ⟨x,h,hk⟩=>by have:=uaK x t h.symm;subst this;exact hk,λh=>⟨t,rfl,h⟩⟩
theorem XI(t:P4):CleanL (p4C t):=by
 intro c hc;simp only [p4C,List.mem_append]at hc;rcases hc with hc | hc | hc | hc
 .exact Ju _ c hc
 .exact Ju _ c hc
 .exact Ju _ c hc
 .exact Ju _ c hc
theorem ka4(t:P4):(p4C t).length=40:=by simp [p4C,Wp]
theorem vaz(t:P4):(p4C t).drop 0=p4C t:=rfl
theorem za5(t:P4):(p4C t).take 40=p4C t:=List.take_of_length_le (by rw [ka4];decide)
theorem UI(t:P4):chunk 10 4 (p4C t)=[pC t.1,pC t.2.1,pC t.2.2.1,pC t.2.2.2]:=by
 have h4:(pC t.2.2.2).take 10=pC t.2.2.2:=List.take_of_length_le (by rw [Wp];decide)
 simp only [chunk,p4C,List.take_left' (Wp _),List.drop_left' (Wp _),h4]
theorem WbK(t:P4)(k:Nat)(h:k<4):((p4C t).drop (k*10)).take 10=pC ((l4 t).getD k p0):=by
 have e:=JC 10 4 (p4C t) k h;rw [UI]at e;match k,h with
 | 0,_=>exact(Option.some.inj e).symm
 | 1,_=>exact(Option.some.inj e).symm
 | 2,_=>exact(Option.some.inj e).symm
 | 3,_=>exact(Option.some.inj e).symm
theorem Zbn(t:P4)(r:List (List C)):datQ 0 0 (some ⟨p4C t::r,40,true⟩)=.ref (p4C t):=kE [] _ _ _ _ _ ⟨Nat.zero_le _,XI t⟩
theorem xbl(k:List Ps->Prop)(t:P4):onPs k (.one (.slice [pC t.1,pC t.2.1,pC t.2.2.1,pC t.2.2.2]))=((∀x∈l4 t,WLP x)/\k (l4 t)):=Z3 k (l4 t)
theorem Ybn(t:P4):p4A t=.agg (p4C t):=eq_of_heq (HEq.refl _)
theorem qar(h:Nat->HB)(p:Ps):(pC p).map (datC h)=pC p:=eq_of_heq (HEq.refl _)
theorem va5(h:Nat->HB)(t:P4):(p4C t).map (datC h)=p4C t:=by unfold p4C;rw [List.map_append,List.map_append,List.map_append,qar,qar,qar,qar]
theorem kaU(t:P4):(p4C t).flatMap ownC=[]:=by
 have e:∀p:Ps,(pC p).flatMap ownC=[]:=λp=>eq_of_heq (HEq.refl _);unfold p4C;rw [List.flatMap_append,List.flatMap_append,List.flatMap_append,e,e,e,e];rfl
attribute [go_sem,go_sem ↓] va5 kaU
attribute [go_sem,go_sem ↓] xbl ybi ka4 vaz za5 UI Zbn Ybn
def jz(l:List AV)(K:AV->Prop):Prop:=
 match l with
 | [a]=>onP4 (λt=>okPs 1048576 (l4 t)/\K (.one (.lit (.bool ((l4 t).all pvld && (decide ((l4 t).length<=20) && (l4 t).all sP)))))) a
 | _=>False
theorem yaq a K:jz [a] K=(onP4 (λt=>okPs 1048576 (l4 t)/\K (.one (.lit (.bool ((l4 t).all pvld && (decide ((l4 t).length<=20) && (l4 t).all sP)))))) a):=propext Iff.rfl
@[congr] theorem ubP{K}{l l'}(h:l=l'):jz l K=jz l' K:=by subst h;rfl
attribute [go_sem,go_sem ↓] yaq
theorem jaF:Good jz:=Ya λas=>by
 unfold jz;split
 .exact(Vbh λ_=>(.and λ_=>(.ret _)))
 .exact .of λK hk=>hk.elim
def wh(f0 f1:Nat):AC:=(.seq (.ops false [.u 1 (.box 40 (.t 0)),.m 2 .fa])
 (.fg [1] (.fz [1] (.seq (.seq (.ops false [.u 5 (.ld none 40 true (.t 1)),.m 6 (.i 0)])
 (.fg [1,5,6] (.block 0 (.loop (.seq (.ops false [.u 7 (.bin .lss (.t 6) (.i 4))])
 (.fg [1,5,6,7] (.seq (.cond (.t 7) .skip (.exit 0))
 (.fg [1,5,6] (.seq (.block 1 (.seq (.ops false [.u 8 (.aix 10 true 4 (.t 5) (.t 6)),.u 4 (.alloc [(.lit (.bool false)),.emp,.emp,(.lit (.bool false)),(.lit (.bool false)),.emp,.emp,(.lit (.bool false)),.emp,.emp]),.n (.st none 10 (.t 4) (.t 8))])
 (.fg [1,4,5,6] (.seq (.ops false [.u 9 (.ld none 10 true (.t 4)),.u 10 (.call f0 [(.t 9)]),.u 11 (.un .not (.t 10))])
 (.fg [1,5,6,11] (.cond (.t 11) (.seq (.ops false [.m 2 .fa])
 .ret) .skip))))))
 (.fg [1,5,6] (.ops false [.u 12 (.bin .add (.t 6) (.i 1)),.m 6 (.t 12)])))))))))))
 (.fg [1] (.seq (.ops false [.u 13 (.rsl 10 4 (.t 1)),.u 14 (.call f1 [(.t 13)]),.m 2 (.t 14)])
 .ret))))))
theorem Qan(hΓ:Holds P Γ){f fv fs:Nat}(hv:Γ fv=.dat true Yu)(hs:Γ fs=.dat true Yr)(hc:check P f=some (15,(wh fv fs).strip,[.tmp 2])):Sound P f (.dat true jz):=by
 refine Wa hc jaF hΓ (λargs K hcl hfi hG=>?_);match args,hG with
 | [a],hG=>
  obtain⟨t,rfl,hwt,hok,hK⟩:=hG;refine⟨by simp,?_⟩
  have hwl:=ybF hwt;have ok1:=Vi hok (by decide:1048576<=4294967296)
  have hl4:(l4 t).length=4:=rfl;simp only [go_sem,wh];refine Xa (λk:Nat=>⟨mkV [(1,.one (.ref (p4C t))),(5,.agg (p4C t)),(6,.one (.lit (.int .i64 k)))],mkH []⟩) (λk=>k<=4/\((l4 t).take k).all pvld=true) (λk=>4-k) 0 ?_ ?_ ?_
  .exact Qa (by simp [okS,okV,okC,okL,okH,okB,okE,ja,Va,qa,ka,wsA,ws];exact .inl (XI t)) trivial
  .exact⟨Nat.zero_le _,rfl⟩
  .rintro k ⟨hk,hall⟩;by_cases hlt:k<4
   .obtain⟨p,hpp⟩:∃p,(l4 t).getD k p0=p:=⟨_,rfl⟩;have hp0:=Xu (by rw [hl4];exact hlt) hpp
    obtain⟨hp1,hp2⟩:=hok p (List.mem_of_getElem? hp0);have hlt' : ((k:Nat):Int)<4:=by omega
    have ek:((p4C t).drop (k*10)).take 10=pC p:=by rw [WbK t k hlt,hpp]
    have el:10<=40-k*10:=by omega
    have ep:pl p<=100000000:=by omega
    cases hb:pvld p with
    | true=>
     simp only [go_sem,hlt',hv,ek,xa3,Qb,hb,List.length_drop];repeat first | refine Ja (by omega) ?_ | refine Ja (by assumption) ?_ | refine Ja rfl ?_ | refine Ja ⟨rfl,by omega⟩ ?_ | refine Ja ⟨rfl,by omega,by omega⟩ ?_ | intro _
     exact⟨k+1,Qa (by simp [okS,okV,okC,okL,okH,okB,okE,ja,Va,qa,ka,wsA,ws];exact .inl (XI t)) trivial,⟨by omega,qC hp0 hall hb⟩,by omega⟩
    | false=>
     have hvl:(l4 t).all pvld=false:=by
      cases hq:(l4 t).all pvld with
      | false=>rfl
      | true=>rw [List.all_eq_true.1 hq p (List.mem_of_getElem? hp0)]at hb;contradiction
     rw [hvl,Bool.false_and]at hK;simp only [go_sem,hlt',hv,ek,xa3,Qb,hb,List.length_drop];repeat first | refine Ja (by omega) ?_ | refine Ja (by assumption) ?_ | refine Ja rfl ?_ | refine Ja ⟨rfl,by omega⟩ ?_ | refine Ja ⟨rfl,by omega,by omega⟩ ?_ | intro _
     exact hK
   .have hvl:(l4 t).all pvld=true:=by rw [List.take_of_length_le (by rw [hl4];omega)]at hall;exact hall
    have hlt' : ¬((k:Nat):Int)<4:=by omega
    rw [hvl,Bool.true_and]at hK;simp only [go_sem,hlt',hs];repeat first | refine Ja (by omega) ?_ | refine Ja (by assumption) ?_ | refine Ja rfl ?_ | refine Ja ⟨rfl,by omega⟩ ?_ | refine Ja ⟨rfl,by omega,by omega⟩ ?_ | intro _
    exact hK
end Go.Abs
end
