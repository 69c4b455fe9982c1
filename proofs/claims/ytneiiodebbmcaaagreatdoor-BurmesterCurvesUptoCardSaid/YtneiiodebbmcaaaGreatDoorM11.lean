/-
  Parts of the proof, merged: BurC, BurD, AbsZ, BurE, CogT, CoupE, CoupF, CoupG, BurF, BurG.
-/
import Derived.Test.YtneiiodebbmcaaaGreatDoorM10
set_option linter.unusedVariables false
set_option linter.unusedSimpArgs false
set_option maxRecDepth 100000
section
namespace Go.Num
open Go.Abs
def invL(l:List Ps):List Ps:=l.map λp=>pcan (invQ (pv p))
def cnL(l:List Ps):BQ:=bcL (invL l)
def onC(l:List Ps)(m:Arc):Nat:=if Vd l≠0 then Vd l else if avld m=false then 2 else 0
theorem ub8{l:List Ps}{m:Arc}(h:Vd l≠0):onC l m=Vd l:=if_pos h
theorem jbX{l:List Ps}{m:Arc}(h:Vd l=0)(h2:avld m=true):onC l m=0:=by
 unfold onC;rw [if_neg (by omega),if_neg (by simp [h2])]
theorem Vcb{l:List Ps}{m:Arc}(h:Vd l=0)(h2:avld m=false):onC l m=2:=by
 unfold onC;rw [if_neg (by omega),if_pos h2]
theorem VI{l:List Ps}(hl:okPs 1000 l)(h:Vd l=0):PB 4 10000000 (bcL l)/\∀m:V2,ev (bcL l) m.1 m.2=dtL l m:=by
 obtain⟨hlen,_⟩:=kG h;obtain⟨p,q,r,s,rfl⟩:=Y7 hlen;have k1:=Yg (hl p (by simp)).1 (hl p (by simp)).2
 have k2:=Yg (hl q (by simp)).1 (hl q (by simp)).2
 have k3:=Yg (hl r (by simp)).1 (hl r (by simp)).2
 have k4:=Yg (hl s (by simp)).1 (hl s (by simp)).2
 exact⟨Wcb k1 k2 k3 k4,λm=>zb7 k1 k2 k3 k4 m⟩
theorem Wah(p:PsQ)(h:tchk (pcan p).1=0):pvld (pcan p)=true:=by
 unfold pvld;have:avld (pcan p).2=true:=by show(vldR (rcan _) && vldR (rcan _))=true;rw [Qp,Qp];rfl
 rw [this,h];rfl
theorem Ubl{p:Ps}(h:tchk p.1=0):tchk (pcan (invQ (pv p))).1=0:=by
 unfold tchk at h ⊢;split at h
 .rename_i h1;rw [if_pos];refine⟨Qp _,λh2=>h1.2 ⟨h2.1,?_⟩⟩;intro h3;apply h2.2;show rv (rcan (-(rv p.1.1)))=0;rw [Vb,h3];rfl
 .contradiction
theorem Ubn{p:Ps}(h:pvld p=true):pvld (pcan (invQ (pv p)))=true:=Wah _ (Ubl (Vbd h).1)
theorem vaT{l:List Ps}(hl:okPs 90 l):okPs 1000 (invL l):=λp hp=>by
 obtain⟨q,hq,rfl⟩:=List.mem_map.1 hp;have h:=qbV (hl q hq);exact⟨h.1,Nat.le_trans h.2 (by decide)⟩
theorem uax{l:List Ps}(h:Vd l=0):Vd (invL l)=0:=by
 obtain⟨h1,h2⟩:=kG h;refine wbe (by unfold invL;rw [List.length_map];exact h1) (List.all_eq_true.2 λp hp=>?_)
 obtain⟨q,hq,rfl⟩:=List.mem_map.1 hp;exact Ubn (List.all_eq_true.1 h2 q hq)
theorem zbX{l:List Ps}(hl:okPs 1000 l)(h:Vd l=0){x y:R}(wx:WLR x)(wy:WLR y)(lx:rl x<=10000)(ly:rl y<=10000):rz (dtL l (rv x,rv y))<=4294967296:=by
 obtain⟨pc,e⟩:=VI hl h;have e1:=e (rv x,rv y);have z:=WbV pc.canon.ins (rv x) (rv y);have z1:=VF pc.canon;have z2:=Vg wx;have z3:=Vg wy;have z5:=pc.size;have z6:(bcL l).length*(24*(rz (rv x)+2)+24*(rz (rv y)+2)+8)<=325*(24*(10000+2)+24*(10000+2)+8):=Nat.mul_le_mul z1 (by omega)
 simp only at e1;rw [e1]at z;omega
end Go.Num
namespace Go.Abs
open Go.Num
variable {P:Program} {Γ:Nat->Spec}
def jL(tE:Nat)(l:List AV)(K:AV->Prop):Prop:=
 match l with
 | [a]=>onPs (λl=>okPs 90 l/\K (.tup [.one (.slice ((bres (Vd l) (cnL l)).map mC)),errV tE (Vd l)])) a
 | _=>False
theorem qaU tE a K:jL tE [a] K=(onPs (λl=>okPs 90 l/\K (.tup [.one (.slice ((bres (Vd l) (cnL l)).map mC)),errV tE (Vd l)])) a):=propext Iff.rfl
@[congr] theorem xcb tE{K}{l l'}(h:l=l'):jL tE l K=jL tE l' K:=by subst h;rfl
attribute [go_sem,go_sem ↓] qaU
theorem ZaZ(tE:Nat):Good (jL tE):=Wa λas=>by
 unfold jL;split
 .exact(Qs λ_=>(.and λ_=>(.ret _)))
 .exact .of λK hk=>hk.elim
def xac(tE:Nat)(l:List AV)(K:AV->Prop):Prop:=
 match l with
 | [a,b]=>onPs (λl=>onA (λm=>okPs 1000 l/\al m<=10000/\K (.tup [.one (.lit (.bool (decide (onC l m=0) && decide (dtL l (av m)=0)))),errV tE (onC l m)])) b) a
 | _=>False
theorem Ubs tE a b K:xac tE [a,b] K=(onPs (λl=>onA (λm=>okPs 1000 l/\al m<=10000/\K (.tup [.one (.lit (.bool (decide (onC l m=0) && decide (dtL l (av m)=0)))),errV tE (onC l m)])) b) a):=propext Iff.rfl
@[congr] theorem wch tE{K}{l l'}(h:l=l'):xac tE l K=xac tE l' K:=by subst h;rfl
attribute [go_sem,go_sem ↓] Ubs
theorem ubo(tE:Nat):Good (xac tE):=Wa λas=>by
 unfold xac;split
 .exact(Qs λ_=>(qD λ_=>(.and λ_=>(.and λ_=>(.ret _)))))
 .exact .of λK hk=>hk.elim
theorem ZF(q:PsQ){p' : Ps}(h:pcan (invQ q)=p'):([cb (rcan (invQ q).1.1),cn (rcan (invQ q).1.1),cd (rcan (invQ q).1.1),.lit (.bool (invQ q).1.2),cb (rcan (invQ q).2.1),cn (rcan (invQ q).2.1),cd (rcan (invQ q).2.1),cb (rcan (invQ q).2.2),cn (rcan (invQ q).2.2),cd (rcan (invQ q).2.2)]:List C)=pC p':=by rw [<-h];rfl
def Wg(f0 f1 f2:Nat):AC:=(.o [.m 2 (.c (.one .emp)),.m 3 (.c (.one (.lit .nilIface)))] [0] (.f (.o [.M 10 0,.H 11 f0 10,.M 4 11] [0,4] (.o [.M 12 4,.R 13 12] [0,4,13] (.cond (.t 13) (.seq (.p [.M 14 4,.m 2 (.c (.one .emp)),.M 3 14]) .ret) .skip))) [0] (.o [.m 5 (.c (.one .emp))] [0,5] (.f (.o [.M 15 0,.Z 16 15,.N 17 0] [5,15,16,17] (.block 0 (.loop (.o [.B 18 .lss 17 16] [5,15,16,17,18] (.f (.cond (.t 18) .skip (.exit 0)) [5,15,16,17] (.f (.block 1 (.o [.J 19 10 15 17,.L 20 10 19,.G 7 [.z,.emp,.emp,.z,.z,.emp,.emp,.z,.emp,.emp],.S 10 7 20] [5,7,15,16,17] (.o [.L 22 10 7,.H 23 f1 22,.M 21 23,.X 24 0 21,.X 25 1 21,.G 8 [.z,.emp,.emp,.z,.z,.emp,.emp,.z,.emp,.emp],.S 10 8 24,.M 9 25] [5,8,9,15,16,17] (.f (.o [.M 26 9,.R 27 26] [5,8,9,15,16,17,27] (.cond (.t 27) (.seq (.p [.M 28 9,.m 2 (.c (.one .emp)),.M 3 28]) .ret) .skip)) [5,8,15,16,17] (.p [.M 29 5,.L 30 10 8,.u 31 (.row 10 [[.x 10 (.t 30)]]),.u 32 (.app 10 (.t 29) (.t 31)),.M 5 32]))))) [5,15,16,17] (.p [.I 33 .add 17 1,.M 17 33]))))))) [5] (.seq (.p [.M 34 5,.H 35 f2 34,.X 36 0 35,.X 37 1 35,.M 2 36,.M 3 37]) .ret)))))
def vk(f0 f1 f2 f3 f4 tE:Nat):AC:=(.o [.K 3 6 1,.m 4 .fa,.m 5 (.c (.one (.lit .nilIface)))] [0,3] (.f (.o [.M 10 0,.H 11 f0 10,.M 6 11] [0,3,6] (.o [.M 12 6,.R 13 12] [0,3,6,13] (.cond (.t 13) (.seq (.p [.M 14 6,.m 4 .fa,.M 5 14]) .ret) .skip))) [0,3] (.f (.o [.L 15 6 3,.H 16 f1 15,.u 17 (.un .not (.t 16))] [0,3,17] (.cond (.t 17) (.seq (.p [.u 18 (.iface tE (.i 2)),.m 4 .fa,.M 5 18]) .ret) .skip)) [0,3] (.o [.M 20 0,.H 21 f2 20,.M 19 21,.X 22 0 19,.X 23 1 19,.M 7 22,.M 8 23] [3,7,8] (.f (.o [.M 24 8,.R 25 24] [3,7,8,25] (.cond (.t 25) (.seq (.p [.M 26 8,.m 4 .fa,.M 5 26]) .ret) .skip)) [3,7] (.o [.M 28 7,.A 29 0 3,.L 30 3 29,.A 31 3 3,.L 32 3 31,.E 33 f3 28 30 32,.M 27 33,.X 34 0 27,.X 35 1 27,.G 9 [.z,.emp,.emp],.S 3 9 34,.M 8 35] [8,9] (.seq (.p [.M 36 8,.u 37 (.binn .eql (.t 36) (.c (.one (.lit .nilIface)))),.M 38 37,.U 39 38 true 3 true 9,.W 40 38 true f4 39,.w 41 38 true (.bin .eql (.t 40) (.i 0)),.P 42 38 41,.M 43 8,.M 4 42,.M 5 43]) .ret)))))))
set_option maxHeartbeats 1000000 in
theorem yaW(hΓ:Xa P Γ){f fk fv fb fe fg tE:Nat}(hk:Γ fk=.dat false (zD tE))(hv:Γ fv=.dat true Uk)(hb:Γ fb=.dat false VE)(he:Γ fe=.dat false (XD tE))(hg:Γ fg=.dat true yn)(hc:check P f=some (44,(vk fk fv fb fe fg tE).strip,[.tmp 4,.tmp 5])):ua P f (.dat false (xac tE)):=by
 refine ka hc (ubo tE) hΓ (λargs K hcl hfi hG=>?_);match args,hG with
 | [a,b],hG=>
  obtain⟨l,rfl,hw,m,rfl,wm,hl,lm,hK⟩:=hG;refine⟨by simp,?_⟩
  have hl2:=Uh hl (by decide:1000<=100000000)
  have lm2:al m<=100000000:=Nat.le_trans lm (by decide)
  have e0:=Qc tE;by_cases h0:Vd l=0
  case neg=>
   have e1:=Zd tE h0;rw [ub8 h0,decide_eq_false h0,Bool.false_and,e1]at hK;simp only [go_sem,vk,hk,ze,Wb,e1];repeat refine Wr ?_
   exact hK
  cases hva:avld m with
  | false=>
   have e2:=Zd tE (by decide:(2:Nat)≠0)
   have d2:decide (2=0)=false:=rfl;rw [Vcb h0 hva,d2,Bool.false_and,e2]at hK;simp only [go_sem,vk,hk,hv,ze,Wb,h0,e0,hva];repeat refine Wr ?_
   exact hK
  | true=>
   have d0:decide (0=0)=true:=rfl;rw [jbX h0 hva,d0,Bool.true_and,e0]at hK;obtain⟨pc,hev⟩:=VI hl h0;have i3:ev (bcL l) (rv m.1) (rv m.2)=dtL l (av m):=hev (av m);have cc:=WH pc.canon;have i0:=uy pc.canon.ins;have i1:=vG (p:=bcL l) (N:=1000000000) (Nat.le_trans pc.size (by decide))
   have i2:=Nat.le_trans pc.size (by decide:_<=100000000)
   have wx:=wm.1;have wy:=wm.2;have lx:=(Nat.max_le.1 lm).1;have ly:=(Nat.max_le.1 lm).2;have z4:rz (dtL l (av m))<=4294967296:=zbX hl h0 wx wy lx ly;simp only [go_sem,vk,hk,hv,hb,he,hg,ze,Wb,h0,e0,hva,qH,cc,i3,Vb,uu];repeat refine Wr ?_
   exact hK
theorem cleanP:∀l:List Ps,jc (l.map pC):=λl=>of_eq_true (qO l)
set_option maxHeartbeats 1000000 in
theorem WaO(hΓ:Xa P Γ){f fk fi fb tE:Nat}(hk:Γ fk=.dat false (zD tE))(hi:Γ fi=.dat false (WM tE))(hb:Γ fb=.dat false VE)(hc:check P f=some (38,(Wg fk fi fb).strip,[.tmp 2,.tmp 3])):ua P f (.dat false (jL tE)):=by
 refine ka hc (ZaZ tE) hΓ (λargs K hcl hfi hG=>?_);match args,hG with
 | [a],hG=>
  obtain⟨l,rfl,hw,hl,hK⟩:=hG;refine⟨by simp,?_⟩
  have hl2:=Uh hl (by decide:90<=100000000)
  have e0:=Qc tE;by_cases h0:Vd l=0
  case neg=>
   have e1:=Zd tE h0;rw [wG h0,e1]at hK;simp only [go_sem,Wg,hk,e1];repeat refine Wr ?_
   exact hK
  rw [h0,yC,e0]at hK;have hI:=vaT hl;have hI4:=uax h0;obtain⟨hlen,hval⟩:=kG h0;obtain⟨p,q,r,s,rfl⟩:=Y7 hlen;simp only [List.all_cons,List.all_nil,Bool.and_true,Bool.and_eq_true]at hval;obtain⟨vp,vq,vr,vs⟩:=hval;have wp:=(hl p (by simp)).1
  have wq:=(hl q (by simp)).1
  have wr:=(hl r (by simp)).1
  have ws':=(hl s (by simp)).1
  have lp:=Nat.le_trans (hl p (by simp)).2 (by decide:_<=1000000)
  have lq:=Nat.le_trans (hl q (by simp)).2 (by decide:_<=1000000)
  have lr:=Nat.le_trans (hl r (by simp)).2 (by decide:_<=1000000)
  have ls:=Nat.le_trans (hl s (by simp)).2 (by decide:_<=1000000)
  obtain⟨p',hp'⟩:∃x,pcan (invQ (pv p))=x:=⟨_,rfl⟩;obtain⟨q',hq'⟩:∃x,pcan (invQ (pv q))=x:=⟨_,rfl⟩;obtain⟨r',hr'⟩:∃x,pcan (invQ (pv r))=x:=⟨_,rfl⟩;obtain⟨s',hs'⟩:∃x,pcan (invQ (pv s))=x:=⟨_,rfl⟩;have np:=ZF (pv p) hp';have hpl:∀e:List C,e∈[pC p']->e.length=10:=λe he=>by rw [List.mem_singleton.1 he];exact uh _
  have nq:=ZF (pv q) hq';have hql:∀e:List C,e∈[pC q']->e.length=10:=λe he=>by rw [List.mem_singleton.1 he];exact uh _
  have nr:=ZF (pv r) hr';have hrl:∀e:List C,e∈[pC r']->e.length=10:=λe he=>by rw [List.mem_singleton.1 he];exact uh _
  have ns:=ZF (pv s) hs';have hsl:∀e:List C,e∈[pC s']->e.length=10:=λe he=>by rw [List.mem_singleton.1 he];exact uh _
  have eI:invL [p,q,r,s]=[p',q',r',s']:=by rw [<-hp',<-hq',<-hr',<-hs'];rfl
  have eC:cnL [p,q,r,s]=bcL [p',q',r',s']:=by unfold cnL;rw [eI]
  rw [eI]at hI hI4;rw [eC]at hK;have wI:∀x∈[p',q',r',s'],WLP x:=λx hx=>(hI x hx).1;have hD:datO (some [pC p',pC q',pC r',pC s'])=.slice [pC p',pC q',pC r',pC s']:=uo _ (cleanP [p',q',r',s']);have hO:∀k,onPs k (.one (.slice [pC p,pC q,pC r,pC s]))=((∀x∈[p,q,r,s],WLP x)/\k [p,q,r,s]):=λk=>JM k [p,q,r,s];have hO' : ∀k,onPs k (.one (.slice [pC p',pC q',pC r',pC s']))=((∀x∈[p',q',r',s'],WLP x)/\k [p',q',r',s']):=λk=>JM k [p',q',r',s'];simp only [go_sem,Wg,hk,List.map_cons,List.map_nil,h0,e0,hO];repeat refine Wr ?_
  refine Ya (λk:Nat=>if k=0 then ⟨mkV [(5,.one .emp),(15,.one (.slice [pC p,pC q,pC r,pC s])),(16,.one (.lit (.int .i64 ((4:Nat):Int)))),(17,.one (.lit (.int .i64 k)))],mkH []⟩ else ⟨mkV [(5,.one (.own 32 1 10 0 k)),(15,.one (.slice [pC p,pC q,pC r,pC s])),(16,.one (.lit (.int .i64 ((4:Nat):Int)))),(17,.one (.lit (.int .i64 k)))],mkH [(32,⟨1,some ⟨if k=1 then [pC p'] else if k=2 then [pC p',pC q'] else if k=3 then [pC p',pC q',pC r'] else [pC p',pC q',pC r',pC s'],10,true⟩⟩)]⟩) (λk=>k<=4) (λk=>4-k) 0 ?_ ?_ ?_
  .exact Qa (by simp [okS,okV,okC,okL,okH,okB,okE,ja,Ja,qa,Va,wsA,ws]) trivial
  .exact Nat.zero_le _
  .intro k hk4;have n10:¬(1=0):=by decide
   have n20:¬(2=0):=by decide
   have n30:¬(3=0):=by decide
   have n40:¬(4=0):=by decide
   have n21:¬(2=1):=by decide
   have n31:¬(3=1):=by decide
   have n32:¬(3=2):=by decide
   have n41:¬(4=1):=by decide
   have n42:¬(4=2):=by decide
   have n43:¬(4=3):=by decide
   match k,hk4 with
   | 0,_=>
    rw [if_pos rfl];simp only [go_sem,hi,Wb,vp,np,e0];repeat refine Wr ?_
    refine⟨1,?_,by decide,by decide⟩
    rw [if_neg n10,if_pos rfl];exact Qa (by simp [okS,okV,okC,okL,okH,okB,okE,ja,Ja,qa,Va,wsA,ws]) ⟨kT (cleanP [p']),trivial⟩
   | 1,_=>
    rw [if_neg n10,if_pos rfl];simp only [go_sem,hi,Wb,vq,nq,e0];repeat refine Wr ?_
    refine⟨2,?_,by decide,by decide⟩
    rw [if_neg n20,if_neg n21,if_pos rfl];exact Qa (by simp [okS,okV,okC,okL,okH,okB,okE,ja,Ja,qa,Va,wsA,ws]) ⟨kT (cleanP [p',q']),trivial⟩
   | 2,_=>
    rw [if_neg n20,if_neg n21,if_pos rfl];simp only [go_sem,hi,Wb,vr,nr,e0];repeat refine Wr ?_
    refine⟨3,?_,by decide,by decide⟩
    rw [if_neg n30,if_neg n31,if_neg n32,if_pos rfl];exact Qa (by simp [okS,okV,okC,okL,okH,okB,okE,ja,Ja,qa,Va,wsA,ws]) ⟨kT (cleanP [p',q',r']),trivial⟩
   | 3,_=>
    rw [if_neg n30,if_neg n31,if_neg n32,if_pos rfl];simp only [go_sem,hi,Wb,vs,ns,e0];repeat refine Wr ?_
    refine⟨4,?_,by decide,by decide⟩
    rw [if_neg n40,if_neg n41,if_neg n42,if_neg n43];exact Qa (by simp [okS,okV,okC,okL,okH,okB,okE,ja,Ja,qa,Va,wsA,ws]) ⟨kT (cleanP [p',q',r',s']),trivial⟩
   | 4,_=>
    rw [if_neg n40,if_neg n41,if_neg n42,if_neg n43];simp only [go_sem,hb,hD,hO',List.map_cons,List.map_nil];repeat refine Wr ?_
    exact hK
end Go.Abs
end
section
namespace Go.Num
open Go.Abs
theorem xbI(a:V2):rz a.1<=zq a:=Nat.le_max_left _ _
theorem JbF(a:V2):rz a.2<=zq a:=Nat.le_max_right _ _
theorem Q9{x y z:V2}{b:Nat}(hx:zq x<=b)(hy:zq y<=b)(hz:zq z<=b):zq (ctr3 x y z)<=40*b+100:=by
 have h:=Ub8 (p:=x) (u:=subQ y x) (v:=subQ z x) (b:=2*b+2) (Nat.le_trans (WE _ _) (by omega)) (Nat.le_trans (WE _ _) (by omega))
 by_cases hc:Je (subQ y x) (subQ z x)=0
 .unfold ctr3 ctrQ;rw [hc];have e:(2:Rat)*0=0:=by decide +kernel
  have d:∀w:Rat,w / 0=0:=λw=>by rw [Rat.div_def,Rat.inv_zero,Rat.mul_zero]
  rw [e,d,d];have a1:=xbI x;have a2:=JbF x;have z1:x.1+0=x.1:=by grind
  have z2:x.2+0=x.2:=by grind
  rw [z1,z2];exact Nat.max_le.2 ⟨by show rz x.1<=_;omega,by show rz x.2<=_;omega⟩
 .have e:ciQ x (subQ y x) (subQ z x)=ctr3 x y z:=if_neg hc;rw [e]at h;omega
end Go.Num
namespace Go.Abs
open Go.Num
variable {P:Program} {Γ:Nat->Spec}
def XK(tE:Nat)(l:List AV)(K:AV->Prop):Prop:=
 match l with
 | [a,b,c]=>onA (λa=>onA (λb=>onA (λc=>al a<=100000/\al b<=100000/\al c<=100000/\crs (av a) (av b) (av c)≠0/\K (.tup [pQ (ctr3 (av a) (av b) (av c)),.one (.lit .nilIface)])) c) b) a
 | _=>False
theorem Vbf tE a b c K:XK tE [a,b,c] K=(onA (λa=>onA (λb=>onA (λc=>al a<=100000/\al b<=100000/\al c<=100000/\crs (av a) (av b) (av c)≠0/\K (.tup [pQ (ctr3 (av a) (av b) (av c)),.one (.lit .nilIface)])) c) b) a):=propext Iff.rfl
@[congr] theorem Qcd tE{K}{l l'}(h:l=l'):XK tE l K=XK tE l' K:=by subst h;rfl
attribute [go_sem,go_sem ↓] Vbf
theorem ja1(tE:Nat):Good (XK tE):=Wa λas=>by
 unfold XK;split
 .exact(qD λ_=>(qD λ_=>(qD λ_=>(.and λ_=>(.and λ_=>(.and λ_=>(.and λ_=>(.ret _))))))))
 .exact .of λK hk=>hk.elim
def qg(f0 f1 f2 f3 f4 f5 f6 f7:Nat):AC:=(.o [.K 3 6 0,.K 4 6 1,.K 5 6 2,.G 6 [.z,.emp,.emp,.z,.emp,.emp],.m 7 (.c (.one (.lit .nilIface)))] [3,4,5,6] (.f (.y [.L 14 6 4,.L 15 6 3,.D 16 f0 14 15,.L 17 6 5,.L 18 6 3,.D 19 f0 17 18,.G 8 [.z,.emp,.emp,.z,.emp,.emp],.G 9 [.z,.emp,.emp,.z,.emp,.emp],.S 6 8 16,.S 6 9 19]) [3,6,8,9] (.f (.y [.u 20 (.call f1 [(.i 2)]),.L 21 6 8,.L 22 6 9,.D 23 f2 21 22,.D 24 f3 20 23,.G 10 [.z,.emp,.emp],.S 3 10 24]) [3,6,8,9,10] (.f (.y [.L 26 6 8,.H 27 f4 26,.A 28 3 9,.L 29 3 28,.D 30 f3 27 29,.L 31 6 9,.H 32 f4 31,.A 33 3 8,.L 34 3 33,.D 35 f3 32 34,.D 36 f5 30 35,.L 37 3 10,.D 38 f6 36 37,.M 25 38,.X 39 0 25,.X 40 1 25,.G 11 [.z,.emp,.emp],.S 3 11 39,.M 12 40]) [3,6,8,9,10,11,12] (.f (.o [.M 41 12,.R 42 41] [3,6,8,9,10,11,12,42] (.cond (.t 42) (.seq (.p [.u 43 (.build [.z [.z,.emp,.emp,.z,.emp,.emp]]),.M 44 12,.S 6 6 43,.M 7 44]) .ret) .skip)) [3,6,8,9,10,11] (.f (.y [.L 46 6 9,.H 47 f4 46,.A 48 0 8,.L 49 3 48,.D 50 f3 47 49,.L 51 6 8,.H 52 f4 51,.A 53 0 9,.L 54 3 53,.D 55 f3 52 54,.D 56 f5 50 55,.L 57 3 10,.D 58 f6 56 57,.M 45 58,.X 59 0 45,.X 60 1 45,.G 13 [.z,.emp,.emp],.S 3 13 59,.M 12 60]) [3,6,11,12,13] (.seq (.y [.A 61 0 3,.L 62 3 61,.L 63 3 11,.D 64 f7 62 63,.A 65 3 3,.L 66 3 65,.L 67 3 13,.D 68 f7 66 67,.u 69 (.build [.x 3 (.t 64),.x 3 (.t 68)]),.M 70 12,.S 6 6 69,.M 7 70]) .ret)))))))
set_option maxHeartbeats 1000000 in
theorem JaM(hΓ:Xa P Γ){f fs fo fx fm fq fu fd fa tE:Nat}(hs:Γ fs=.dat false Xv)(ho:Γ fo=.dat false XE)(hx:Γ fx=.dat false Vu)(hm:Γ fm=.dat false jl)(hq:Γ fq=.dat false Uac)(hu:Γ fu=.dat false yw)(hd:Γ fd=.dat false (xB tE))(ha:Γ fa=.dat false wl)(hc:check P f=some (71,(qg fs fo fx fm fq fu fd fa).strip,[.cell 6 6 true,.tmp 7])):ua P f (.dat false (XK tE)):=by
 refine ka hc (ja1 tE) hΓ (λargs K hcl hfi hG=>?_);match args,hG with
 | [x1,x2,x3],hG=>
  obtain⟨a,rfl,wa,b,rfl,wb,c,rfl,wc,la,lb,lc,hcr,hK⟩:=hG;refine⟨by simp,?_⟩
  have la2:al a<=100000000:=Nat.le_trans la (by decide)
  have lb2:al b<=100000000:=Nat.le_trans lb (by decide)
  have lc2:al c<=100000000:=Nat.le_trans lc (by decide)
  have za:=kac wa;have zb:=kac wb;have zc:=kac wc;have wa1:=wa.1;have wa2:=wa.2;have la3:=Nat.le_trans (Nat.max_le.1 la).1 (by decide:_<=4294967296)
  have la4:=Nat.le_trans (Nat.max_le.1 la).2 (by decide:_<=4294967296)
  have e0:=Qc tE;have i2:((2:Int):Rat)=2:=rfl;obtain⟨U,hU⟩:∃x,subQ (av b) (av a)=x:=⟨_,rfl⟩;obtain⟨V,hV⟩:∃x,subQ (av c) (av a)=x:=⟨_,rfl⟩;have zU:zq U<=200002:=by rw [<-hU];exact Nat.le_trans (WE _ _) (by omega)
  have zV:zq V<=200002:=by rw [<-hV];exact Nat.le_trans (WE _ _) (by omega)
  have wU:WLA (rcan U.1,rcan U.2):=jU U;have wV' : WLA (rcan V.1,rcan V.2):=jU V;have lU:al (rcan U.1,rcan U.2)<=100000000:=Nat.le_trans zU (by decide)
  have lV:al (rcan V.1,rcan V.2)<=100000000:=Nat.le_trans zV (by decide)
  have u1:=xbI U;have u2:=JbF U;have v1:=xbI V;have v2:=JbF V;have hcr2:Je U V≠0:=by
   unfold crs at hcr;rw [hU,hV]at hcr;exact hcr
  have ec:ctr3 (av a) (av b) (av c)=((av a).1+(sqQ U*V.2-sqQ V*U.2) / (2*Je U V),(av a).2+(sqQ V*U.1-sqQ U*V.1) / (2*Je U V)):=by
   unfold ctr3 ctrQ;rw [hU,hV]
  rw [ec]at hK;have x0:=uab U V;obtain⟨X,hX⟩:∃x,Je U V=x:=⟨_,rfl⟩;rw [hX]at hK hcr2 x0;have two:=rz_2;have m0:=Zc 2 X;have hX2:2*X≠0:=λh=>by
   rcases Rat.mul_eq_zero.1 h with h | h
   .exact absurd h (by decide)
   .exact hcr2 h
  obtain⟨Y,hY⟩:∃x,2*X=x:=⟨_,rfl⟩;rw [hY]at hK hX2 m0;have q1:=wbo U;have q2:=wbo V;obtain⟨A,hA⟩:∃x,sqQ U=x:=⟨_,rfl⟩;obtain⟨B,hB⟩:∃x,sqQ V=x:=⟨_,rfl⟩;rw [hA,hB]at hK;rw [hA]at q1;rw [hB]at q2;have m1:=Zc A V.2;have m2:=Zc B U.2;have m3:=Zc B U.1;have m4:=Zc A V.1;have s1:=QG (A*V.2) (B*U.2);have s2:=QG (B*U.1) (A*V.1);have d1:=vY (A*V.2-B*U.2) Y;have d2:=vY (B*U.1-A*V.1) Y;have k1:rz X<=4294967296:=by omega
  have k2:rz Y<=4294967296:=by omega
  have k3:rz A<=4294967296:=by omega
  have k4:rz B<=4294967296:=by omega
  have k5:rz (A*V.2)<=4294967296:=by omega
  have k6:rz (B*U.2)<=4294967296:=by omega
  have k7:rz (B*U.1)<=4294967296:=by omega
  have k8:rz (A*V.1)<=4294967296:=by omega
  have k9:rz (A*V.2-B*U.2)<=4294967296:=by omega
  have k10:rz (B*U.1-A*V.1)<=4294967296:=by omega
  have k11:rz ((A*V.2-B*U.2) / Y)<=4294967296:=by omega
  have k12:rz ((B*U.1-A*V.1) / Y)<=4294967296:=by omega
  have k13:rz U.1<=4294967296:=by omega
  have k14:rz U.2<=4294967296:=by omega
  have k15:rz V.1<=4294967296:=by omega
  have k16:rz V.2<=4294967296:=by omega
  have k17:rz 2<=4294967296:=by omega
  simp only [go_sem,qg,hs,ho,hx,hm,hq,hu,hd,ha,ze,Wb,hU,hV,XO,hX,hY,hA,hB,Vb,i2,if_neg hX2,e0];repeat refine Wr ?_
  exact hK
end Go.Abs
end
section
namespace Go.Abs
variable {Γ:Nat->Spec} {body:AC} {Q:Ex->S->Prop} {s:S}
def LL(Γ:Nat->Spec)(body:AC)(Q:Ex->S->Prop):Nat->S->Prop
 | 0,_=>False
 | n+1,s=>LL Γ body Q n s∨∃s0,Weak s s0/\wpA Γ body (Ex.seq (LL Γ body Q n) Q) s0
theorem Xax:∀{n:Nat} {s:S},LL Γ body Q n s↔∃y:Nat×S,Weak s y.2/\wpA Γ body (Ex.seq (LL Γ body Q y.1) Q) y.2/\y.1<n
 | 0,s=>⟨λh=>h.elim,λ⟨y,_,_,h⟩=>absurd h (Nat.not_lt_zero _)⟩
 | n+1,s=>by
  constructor
  .intro h;rcases h with h | ⟨s0,h1,h2⟩
   .obtain⟨y,h1,h2,h3⟩:=Xax.1 h;exact⟨y,h1,h2,by omega⟩
   .exact⟨(n,s0),h1,h2,Nat.lt_succ_self _⟩
  .rintro⟨⟨m,s0⟩,h1,h2,h3⟩;rcases Nat.lt_or_ge m n with h | h
   .exact .inl (Xax.2 ⟨(m,s0),h1,h2,h⟩)
   .have:m=n:=by simp only at h3;omega
    subst this;exact .inr ⟨s0,h1,h2⟩
theorem jbG{n:Nat}(h:LL Γ body Q n s):wpA Γ (.loop body) Q s:=by
 obtain⟨y,h1,h2,_⟩:=Xax.1 h;refine⟨Nat×S,(·.2),λy=>wpA Γ body (Ex.seq (LL Γ body Q y.1) Q) y.2,(·.1),y,h1,h2,λx hx=>?_⟩;have e:LL Γ body Q x.1=λs'=>∃y:Nat×S,Weak s' y.2/\wpA Γ body (Ex.seq (LL Γ body Q y.1) Q) y.2/\y.1<x.1:=funext λs=>propext Xax;have hx' : wpA Γ body (Ex.seq (LL Γ body Q x.1) Q) x.2:=hx;rw [e]at hx';exact hx'
def UnAt(Γ:Nat->Spec)(body:AC)(Q:Ex->S->Prop)(n:Nat)(s:S)(t:Tok (Γ,body,Q,n)):Prop:=LL Γ body Q n s
theorem Wbs(n:Nat)(s0:S)(h0:Weak s s0)(h:wpA Γ body (Ex.seq (λs'=>UnAt Γ body Q n s' .mk) Q) s0){t:Tok (Γ,body,Q)}:LoopAt Γ body Q s t:=
 jbG (n:=n+1) (.inr ⟨s0,h0,h⟩)
theorem jbH{n:Nat}(s0:S)(h0:Weak s s0)(h:wpA Γ body (Ex.seq (λs'=>UnAt Γ body Q n s' .mk) Q) s0){t:Tok (Γ,body,Q,n+1)}:UnAt Γ body Q (n+1) s t:=
 .inr ⟨s0,h0,h⟩
def kpH(k:List (Nat×HB))(bs:List Nat):List (Nat×HB):=bs.map λr=>(r,mkH k r)
theorem XbO(k:List (Nat×HB))(r:Nat)(bs:List Nat):kpH k (r::bs)=(r,mkH k r)::kpH k bs:=rfl
theorem wb0(k:List (Nat×HB)):kpH k []=[]:=rfl
theorem wbl{c:C}{l:List C}:Jd (c::l)=(Clean c/\Jd l):=propext ⟨λh=>⟨h c (by simp),λx hx=>h x (by simp [hx])⟩,λh x hx=>by
 rcases List.mem_cons.1 hx with rfl | hx
 .exact h.1
 .exact h.2 x hx⟩
theorem jaE:Jd []=True:=eq_true λc hc=>by simp at hc
theorem Qbp{e:List C}{l:List (List C)}:jc (e::l)=(Jd e/\jc l):=propext ⟨λh=>⟨h e (by simp),λx hx=>h x (by simp [hx])⟩,λh x hx=>by
 rcases List.mem_cons.1 hx with rfl | hx
 .exact h.1
 .exact h.2 x hx⟩
theorem vbr:jc []=True:=eq_true λc hc=>by simp at hc
theorem ybm{h h' : Nat->HB}{b:Option Blk}:(match b with | none=>True | some b=>jc b.es)->okB h h' b b:=by
 intro hb;cases b with
 | none=>trivial
 | some b=>exact⟨⟨rfl,rfl⟩,.inl ⟨rfl,hb⟩⟩
def cleanK:List (Nat×HB)->Prop
 | []=>True
 | x::r=>(match x.2.blk with | none=>True | some b=>jc b.es)/\cleanK r
theorem Qad{k:List (Nat×HB)}:∀{bs:List Nat},cleanK (kpH k bs)->okH (mkH k) (mkH (kpH k bs)) (kpH k bs):=by
 have this:∀(h' : Nat->HB) (bs:List Nat),cleanK (kpH k bs)->okH (mkH k) h' (kpH k bs):=by
  intro h' bs
  induction bs with
  | nil=>intro _;trivial
  | cons r bs ih=>intro h;exact⟨ybm h.1,ih h.2⟩
 intro bs h;exact this _ _ h
theorem ww{n:Nat}{l:List (Nat×AV)}{k:List (Nat×HB)}(ks bs:List Nat)(hh:okS (mkH k) (mkH (kpH k bs)) (mkV l) (keepV l ks)/\cleanK (kpH k bs))
  (h:wpA Γ body (Ex.seq (λs'=>UnAt Γ body Q n s' .mk) Q) ⟨mkV (keepV l ks),mkH (kpH k bs)⟩) {t:Tok (Γ,body,Q,n+1)}:UnAt Γ body Q (n+1) ⟨mkV l,mkH k⟩ t:=
 jbH _ (Qa hh.1 (Qad hh.2)) h
theorem qG(n:Nat){l:List (Nat×AV)}{k:List (Nat×HB)}(ks bs:List Nat)(hh:okS (mkH k) (mkH (kpH k bs)) (mkV l) (keepV l ks)/\cleanK (kpH k bs))
  (h:wpA Γ body (Ex.seq (λs'=>UnAt Γ body Q n s' .mk) Q) ⟨mkV (keepV l ks),mkH (kpH k bs)⟩) {t:Tok (Γ,body,Q)}:LoopAt Γ body Q ⟨mkV l,mkH k⟩ t:=
 Wbs n _ (Qa hh.1 (Qad hh.2)) h
theorem vbx(v:Value):nrmC (.lit v)=.lit v:=eq_of_heq (HEq.refl _)
theorem wbu(es:List (List C)):nrmC (.slice es)=.slice es:=eq_of_heq (HEq.refl _)
theorem wbv:nrmC .emp=.slice []:=eq_of_heq (HEq.refl _)
theorem jbk(e:List C)(l:List (List C)):nrmR (e::l)=e.map nrmC::nrmR l:=eq_of_heq (HEq.refl _)
theorem vbw:nrmR []=[]:=eq_of_heq (HEq.refl _)
attribute [go_sem,go_sem ↓] vbx wbu wbv jbk vbw
attribute [go_sem] XbO wb0 okS okV okC cleanK wbl jaE Qbp vbr kJ wT
attribute [go_sem ↓] XbO wb0
end Go.Abs
end
section
namespace Go.Num
open Go.Abs
def dyN:List Ps->V2->Option (V2×V2×V2)
 | [p,q,r,s],m=>dy3 (appQ (pv p) m) (appQ (pv q) m) (appQ (pv r) m) (appQ (pv s) m)
 | _,_=>none
def dyC(l:List Ps)(m:Arc):Nat:=if onC l m≠0 then onC l m else if dtL l (av m)≠0 then 21 else match dyN l (av m) with | none=>8 | some _=>0
def dyR(l:List Ps)(m:Arc):DyQ:=if dyC l m=0 then (match dyN l (av m) with | none=>d0 | some (x,y,z)=>(ctr3 x y z,av m,sqQ (subQ x (ctr3 x y z)))) else d0
theorem yam{x y z:V2}:crs x y z=0↔Je (subQ z x) (subQ y x)=0:=by
 have e:Je (subQ z x) (subQ y x) = -crs x y z:=by unfold crs Je subQ;simp only;grind
 rw [e];constructor
 .intro h;rw [h];decide +kernel
 .intro h;grind
theorem JaH(a:V2):subQ a (0,0)=a:=by unfold subQ;exact Prod.ext (by simp only;grind) (by simp only;grind)
theorem kbW{l:List Ps}{m:Arc}(h:onC l m=0):Vd l=0/\avld m=true:=by
 unfold onC at h;split at h
 .rename_i h1;exact absurd h h1
 .rename_i h1;refine⟨by omega,?_⟩
  cases hv:avld m with
  | true=>rfl
  | false=>rw [if_pos hv]at h;contradiction
end Go.Num
namespace Go.Abs
open Go.Num
variable {P:Program} {Γ:Nat->Spec}
theorem f6(x:V2):∀e:List C,e∈[[cb (rcan x.1),cn (rcan x.1),cd (rcan x.1),cb (rcan x.2),cn (rcan x.2),cd (rcan x.2)]]->e.length=6:=λe he=>by rw [List.mem_singleton.1 he];rfl
def yal(tE:Nat)(l:List AV)(K:AV->Prop):Prop:=
 match l with
 | [a,b]=>onPs (λl=>onA (λm=>okPs 1000 l/\al m<=10000/\K (.tup [dqA (dyR l m),errV tE (dyC l m)])) b) a
 | _=>False
theorem kbx tE a b K:yal tE [a,b] K=(onPs (λl=>onA (λm=>okPs 1000 l/\al m<=10000/\K (.tup [dqA (dyR l m),errV tE (dyC l m)])) b) a):=propext Iff.rfl
@[congr] theorem Qci tE{K}{l l'}(h:l=l'):yal tE l K=yal tE l' K:=by subst h;rfl
attribute [go_sem,go_sem ↓] kbx
theorem Qbo(tE:Nat):Good (yal tE):=Wa λas=>by
 unfold yal;split
 .exact(Qs λ_=>(qD λ_=>(.and λ_=>(.and λ_=>(.ret _)))))
 .exact .of λK hk=>hk.elim
def yg(f0 f1 f2 f3 f4 f5 f6 tE:Nat):AC:=(.o [.K 3 6 1,.G 4 [.z,.emp,.emp,.z,.emp,.emp,.z,.emp,.emp,.z,.emp,.emp,.z,.emp,.emp],.m 5 (.c (.one (.lit .nilIface)))] [0,3,4] (.o [.M 19 0,.L 20 6 3,.D 21 f0 19 20,.M 18 21,.X 22 0 18,.X 23 1 18,.M 6 22,.M 7 23] [0,3,4,6,7] (.f (.o [.M 24 7,.R 25 24] [0,3,4,6,7,25] (.cond (.t 25) (.seq (.p [.u 26 (.build [.z [.z,.emp,.emp,.z,.emp,.emp,.z,.emp,.emp,.z,.emp,.emp,.z,.emp,.emp]]),.M 27 7,.S 15 4 26,.M 5 27]) .ret) .skip)) [0,3,4,6] (.f (.o [.M 28 6,.u 29 (.un .not (.t 28))] [0,3,4,29] (.cond (.t 29) (.seq (.p [.u 30 (.build [.z [.z,.emp,.emp,.z,.emp,.emp,.z,.emp,.emp,.z,.emp,.emp,.z,.emp,.emp]]),.u 31 (.iface tE (.i 21)),.S 15 4 30,.M 5 31]) .ret) .skip)) [0,3,4] (.o [.m 8 (.c (.one .emp))] [0,3,4,8] (.f (.o [.M 32 0,.Z 33 32,.N 34 0] [3,4,8,32,33,34] (.block 0 (.loop (.o [.B 35 .lss 34 33] [3,4,8,32,33,34,35] (.f (.cond (.t 35) .skip (.exit 0)) [3,4,8,32,33,34] (.f (.block 1 (.o [.J 36 10 32 34,.L 37 10 36,.G 10 [.z,.emp,.emp,.z,.z,.emp,.emp,.z,.emp,.emp],.S 10 10 37] [3,4,8,10,32,33,34] (.o [.L 39 10 10,.L 40 6 3,.D 41 f1 39 40,.M 38 41,.X 42 0 38,.X 43 1 38,.G 11 [.z,.emp,.emp,.z,.emp,.emp],.S 6 11 42,.M 12 43] [3,4,8,11,12,32,33,34] (.f (.o [.M 44 12,.R 45 44] [3,4,8,11,12,32,33,34,45] (.cond (.t 45) (.seq (.p [.u 46 (.build [.z [.z,.emp,.emp,.z,.emp,.emp,.z,.emp,.emp,.z,.emp,.emp,.z,.emp,.emp]]),.M 47 12,.S 15 4 46,.M 5 47]) .ret) .skip)) [3,4,8,11,32,33,34] (.p [.M 48 8,.L 49 6 11,.u 50 (.row 6 [[.x 6 (.t 49)]]),.u 51 (.app 6 (.t 48) (.t 50)),.M 8 51]))))) [3,4,8,32,33,34] (.p [.I 52 .add 34 1,.M 34 52]))))))) [3,4,8] (.f (.o [.M 53 8,.Z 54 53,.N 55 0] [3,4,8,54,55] (.block 2 (.loop (.o [.B 56 .lss 55 54] [3,4,8,54,55,56] (.f (.cond (.t 56) .skip (.exit 2)) [3,4,8,54,55] (.f (.block 3 (.o [.M 57 55,.M 13 57] [3,4,8,13,54,55] (.o [.M 58 13,.N 59 0] [3,4,8,13,54,55,58,59] (.block 4 (.loop (.o [.B 60 .lss 59 58] [3,4,8,13,54,55,58,59,60] (.f (.cond (.t 60) .skip (.exit 4)) [3,4,8,13,54,55,58,59] (.f (.block 5 (.o [.M 61 59,.M 14 61] [3,4,8,13,14,54,55,58,59] (.o [.M 62 14,.N 63 0] [3,4,8,13,14,54,55,58,59,62,63] (.block 6 (.loop (.o [.B 64 .lss 63 62] [3,4,8,13,14,54,55,58,59,62,63,64] (.f (.cond (.t 64) .skip (.exit 6)) [3,4,8,13,14,54,55,58,59,62,63] (.f (.block 7 (.o [.M 65 63,.M 15 65] [3,4,8,13,14,15,54,55,58,59,62,63] (.f (.f (.y [.M 66 8,.M 67 13,.J 68 6 66 67,.L 69 6 68,.M 70 8,.M 71 15,.J 72 6 70 71,.L 73 6 72,.D 74 f2 69 73,.M 75 8,.M 76 14,.J 77 6 75 76,.L 78 6 77,.M 79 8,.M 80 15,.J 81 6 79 80,.L 82 6 81,.D 83 f2 78 82,.D 84 f3 74 83,.H 85 f4 84,.I 86 .eql 85 0]) [3,4,8,13,14,15,54,55,58,59,62,63,86] (.cond (.t 86) (.exit 7) .skip)) [3,4,8,13,14,15] (.f (.y [.M 88 8,.M 89 15,.J 90 6 88 89,.L 91 6 90,.M 92 8,.M 93 14,.J 94 6 92 93,.L 95 6 94,.M 96 8,.M 97 13,.J 98 6 96 97,.L 99 6 98,.E 100 f5 91 95 99,.M 87 100,.X 101 0 87,.X 102 1 87,.G 16 [.z,.emp,.emp,.z,.emp,.emp],.S 6 16 101,.M 17 102]) [3,4,8,15,16,17] (.f (.o [.M 103 17,.R 104 103] [3,4,8,15,16,17,104] (.cond (.t 104) (.seq (.p [.u 105 (.build [.z [.z,.emp,.emp,.z,.emp,.emp,.z,.emp,.emp,.z,.emp,.emp,.z,.emp,.emp]]),.M 106 17,.S 15 4 105,.M 5 106]) .ret) .skip)) [3,4,8,15,16] (.seq (.y [.L 107 6 16,.L 108 6 3,.u 109 (.build [.z [.z,.emp,.emp,.z,.emp,.emp]]),.D 110 f2 108 109,.M 111 8,.M 112 15,.J 113 6 111 112,.L 114 6 113,.L 115 6 16,.D 116 f2 114 115,.H 117 f6 116,.u 118 (.build [.x 6 (.t 107),.x 6 (.t 110),.x 3 (.t 117)]),.S 15 4 118,.m 5 (.c (.one (.lit .nilIface)))]) .ret)))))) [3,4,8,13,14,54,55,58,59,62,63] (.p [.I 119 .add 63 1,.M 63 119]))))))))) [3,4,8,13,54,55,58,59] (.p [.I 120 .add 59 1,.M 59 120]))))))))) [3,4,8,54,55] (.p [.I 121 .add 55 1,.M 55 121]))))))) [4] (.seq (.p [.u 122 (.build [.z [.z,.emp,.emp,.z,.emp,.emp,.z,.emp,.emp,.z,.emp,.emp,.z,.emp,.emp]]),.u 123 (.iface tE (.i 8)),.S 15 4 122,.M 5 123]) .ret))))))))
set_option maxHeartbeats 4000000 in
theorem zaV(hΓ:Xa P Γ){f fo fp fs fx fg fcc fq tE:Nat}(ho:Γ fo=.dat false (xac tE))(hp:Γ fp=.dat false (wL tE))(hs:Γ fs=.dat false Xv)(hx:Γ fx=.dat false Vu)(hg:Γ fg=.dat true yn)(hcc:Γ fcc=.dat false (XK tE))(hq:Γ fq=.dat false Uac)(hc:check P f=some (124,(yg fo fp fs fx fg fcc fq tE).strip,[.cell 4 15 true,.tmp 5])):ua P f (.dat false (yal tE)):=by
 refine ka hc (Qbo tE) hΓ (λargs K hcl hfi hG=>?_);match args,hG with
 | [a,b],hG=>
  obtain⟨l,rfl,hw,m,rfl,wm,hl,lm,hK⟩:=hG;refine⟨by simp,?_⟩
  have e0:=Qc tE;by_cases h0:onC l m=0
  case neg=>
   have e1:=Zd tE h0;have ec:dyC l m=onC l m:=if_pos h0;have er:dyR l m=d0:=by unfold dyR;rw [ec,if_neg h0]
   rw [er,ec,e1]at hK;unfold dqA d0 at hK;simp only [ub]at hK;simp only [go_sem,yg,ho,ze,Wb,e1];repeat refine Wr ?_
   exact hK
  have d0' : decide (0=0)=true:=rfl;by_cases hd:dtL l (av m)=0
  case neg=>
   have e1:=Zd tE (by decide:(21:Nat)≠0)
   have ec:dyC l m=21:=by unfold dyC;rw [if_neg (by omega),if_pos hd]
   have er:dyR l m=d0:=by unfold dyR;rw [ec,if_neg (by decide)]
   rw [er,ec,e1]at hK;unfold dqA d0 at hK;simp only [ub]at hK;have gd:=decide_eq_false hd;simp only [go_sem,yg,ho,ze,Wb,h0,e0,gd,d0',Bool.true_and];repeat refine Wr ?_
   exact hK
  have gd:=decide_eq_true hd;obtain⟨h4,hvm⟩:=kbW h0;obtain⟨hlen,hval⟩:=kG h4;obtain⟨p,q,r,s,rfl⟩:=Y7 hlen;simp only [List.all_cons,List.all_nil,Bool.and_true,Bool.and_eq_true]at hval;obtain⟨vp,vq,vr,vs⟩:=hval;have wp:=(hl p (by simp)).1
  have wq:=(hl q (by simp)).1
  have wr:=(hl r (by simp)).1
  have ws':=(hl s (by simp)).1
  have lp:=Nat.le_trans (hl p (by simp)).2 (by decide:_<=1000000)
  have lq:=Nat.le_trans (hl q (by simp)).2 (by decide:_<=1000000)
  have lr:=Nat.le_trans (hl r (by simp)).2 (by decide:_<=1000000)
  have ls:=Nat.le_trans (hl s (by simp)).2 (by decide:_<=1000000)
  have lm6:al m<=1000000:=Nat.le_trans lm (by decide)
  have lm8:al m<=100000000:=Nat.le_trans lm (by decide)
  have aokv:∀x:Ps,pvld x=true->aok x m=true:=λx hx=>by unfold aok;rw [hx,hvm];rfl
  have kp:=aokv p vp;have kq:=aokv q vq;have kr:=aokv r vr;have ks:=aokv s vs;have zm:=Nat.le_trans (kac wm) lm;have img:∀x:Ps,x∈[p,q,r,s]->zq (appQ (pv x) (av m))<=30000:=λx hx=>by
   obtain⟨y1,y2⟩:=Yg (hl x hx).1 (hl x hx).2;have:=vbT (pv x) (av m);omega
  have zI0:=img p (by simp)
  have zI1:=img q (by simp)
  have zI2:=img r (by simp)
  have zI3:=img s (by simp)
  have eN:dyN [p,q,r,s] (av m)=dy3 (appQ (pv p) (av m)) (appQ (pv q) (av m)) (appQ (pv r) (av m)) (appQ (pv s) (av m)):=rfl;obtain⟨I0,hI0⟩:∃x,appQ (pv p) (av m)=x:=⟨_,rfl⟩;obtain⟨I1,hI1⟩:∃x,appQ (pv q) (av m)=x:=⟨_,rfl⟩;obtain⟨I2,hI2⟩:∃x,appQ (pv r) (av m)=x:=⟨_,rfl⟩;obtain⟨I3,hI3⟩:∃x,appQ (pv s) (av m)=x:=⟨_,rfl⟩;rw [hI0]at zI0;rw [hI1]at zI1;rw [hI2]at zI2;rw [hI3]at zI3;rw [hI0,hI1,hI2,hI3]at eN;have cw:∀X:V2,WLA (rcan X.1,rcan X.2):=λX=>jU X;have w0:=cw I0;have w1:=cw I1;have w2:=cw I2;have w3:=cw I3;have l0:al (rcan I0.1,rcan I0.2)<=100000:=Nat.le_trans zI0 (by decide)
  have l1:al (rcan I1.1,rcan I1.2)<=100000:=Nat.le_trans zI1 (by decide)
  have l2:al (rcan I2.1,rcan I2.2)<=100000:=Nat.le_trans zI2 (by decide)
  have l3' : al (rcan I3.1,rcan I3.2)<=100000:=Nat.le_trans zI3 (by decide)
  have hK2:∀x y z,dy3 I0 I1 I2 I3=some (x,y,z)->K (.tup [.agg [cb (rcan (ctr3 x y z).1),cn (rcan (ctr3 x y z).1),cd (rcan (ctr3 x y z).1),cb (rcan (ctr3 x y z).2),cn (rcan (ctr3 x y z).2),cd (rcan (ctr3 x y z).2),cb (rcan (av m).1),cn (rcan (av m).1),cd (rcan (av m).1),cb (rcan (av m).2),cn (rcan (av m).2),cd (rcan (av m).2),cb (rcan (sqQ (subQ x (ctr3 x y z)))),cn (rcan (sqQ (subQ x (ctr3 x y z)))),cd (rcan (sqQ (subQ x (ctr3 x y z))))],.one (.lit .nilIface)]):=λx y z h=>by
   have ec:dyC [p,q,r,s] m=0:=by unfold dyC;rw [if_neg (by omega),if_neg (by simp [hd]),eN,h]
   have er:dyR [p,q,r,s] m=(ctr3 x y z,av m,sqQ (subQ x (ctr3 x y z))):=by unfold dyR;rw [ec,if_pos rfl,eN,h]
   rw [er,ec,e0]at hK;exact hK
  have hK3:dy3 I0 I1 I2 I3=none->K (.tup [.agg [.lit (.bool false),.slice [],.slice [],.lit (.bool false),.slice [],.slice [],.lit (.bool false),.slice [],.slice [],.lit (.bool false),.slice [],.slice [],.lit (.bool false),.slice [],.slice []],.one (.lit (.iface tE (.int .i64 8)))]):=λh=>by
   have ec:dyC [p,q,r,s] m=8:=by unfold dyC;rw [if_neg (by omega),if_neg (by simp [hd]),eN,h]
   have er:dyR [p,q,r,s] m=d0:=by unfold dyR;rw [ec,if_neg (by decide)]
   rw [er,ec,Zd tE (by decide)]at hK
   unfold dqA d0 at hK;simp only [ub]at hK;exact hK
  have zz:WLA (rcan 0,rcan 0):=cw (0,0);have z0:al (rcan 0,rcan 0)<=100000000:=Nat.max_le.2 ⟨Nat.le_trans (Nat.le_of_eq rz_0) (by decide),Nat.le_trans (Nat.le_of_eq rz_0) (by decide)⟩
  have a00:av (rcan 0,rcan 0)=(0,0):=XO (0,0);have sb:∀{x y:V2},zq x<=30000->zq y<=30000->al (rcan (subQ x y).1,rcan (subQ x y).2)<=100000000:=λ{x y} h1 h2=>Nat.le_trans (WE x y) (by omega)
  have cx:∀{x y z w:V2},zq x<=30000->zq y<=30000->zq z<=30000->zq w<=30000->rz (Je (subQ x y) (subQ z w))<=4294967296:=λ{x y z w} h1 h2 h3 h4=>by
   have a1:=WE x y;have a2:=WE z w;exact Nat.le_trans (uab _ _) (by omega)
  have s10:=sb zI1 zI0;have s20:=sb zI2 zI0;have s30:=sb zI3 zI0;have s31:=sb zI3 zI1;have s21:=sb zI2 zI1;have v10:=cw (subQ I1 I0);have v20:=cw (subQ I2 I0);have v30:=cw (subQ I3 I0);have v31:=cw (subQ I3 I1);have v21:=cw (subQ I2 I1);have x1:=cx zI2 zI0 zI1 zI0;have x2:=cx zI3 zI0 zI1 zI0;have x3:=cx zI3 zI0 zI2 zI0;have x4:=cx zI3 zI1 zI2 zI1;have hO:∀k,onPs k (.one (.slice [pC p,pC q,pC r,pC s]))=((∀x∈[p,q,r,s],WLP x)/\k [p,q,r,s]):=λk=>JM k [p,q,r,s];have fI0:=f6 I0;have fI1:=f6 I1;have fI2:=f6 I2;have fI3:=f6 I3;have i4:((4:Nat):Int)=4:=rfl;simp only [go_sem,yg,ho,hO,List.map_cons,List.map_nil,ze,Wb,h0,e0,gd,d0',Bool.true_and];repeat refine Wr ?_
  refine qG 4 [3,4,8,32,33,34] [3,4] (by simp [go_sem]) ?_
  simp only [go_sem,Int.reduceAdd,Int.reduceLT,i4,Wb,ze,hp,kp,hI0,e0,fI0];repeat refine Wr ?_
  refine ww [3,4,8,32,33,34] [3,4,51] (by simp [go_sem]) ?_
  simp only [go_sem,Int.reduceAdd,Int.reduceLT,i4,Wb,ze,hp,kq,hI1,e0,fI1];repeat refine Wr ?_
  refine ww [3,4,8,32,33,34] [3,4,51] (by simp [go_sem]) ?_
  simp only [go_sem,Int.reduceAdd,Int.reduceLT,i4,Wb,ze,hp,kr,hI2,e0,fI2];repeat refine Wr ?_
  refine ww [3,4,8,32,33,34] [3,4,51] (by simp [go_sem]) ?_
  simp only [go_sem,Int.reduceAdd,Int.reduceLT,i4,Wb,ze,hp,ks,hI3,e0,fI3];repeat refine Wr ?_
  refine ww [3,4,8,32,33,34] [3,4,51] (by simp [go_sem]) ?_
  simp only [go_sem,Int.reduceAdd,Int.reduceLT,i4,Wb,ze];repeat refine Wr ?_
  refine qG 4 [3,4,8,54,55] [3,4,51] (by simp [go_sem]) ?_
  simp only [go_sem,Int.reduceAdd,Int.reduceLT,i4,Wb,ze];repeat refine Wr ?_
  refine qG 0 [3,4,8,13,54,55,58,59] [3,4,51] (by simp [go_sem]) ?_
  simp only [go_sem,Int.reduceAdd,Int.reduceLT,i4,Wb,ze];repeat refine Wr ?_
  refine ww [3,4,8,54,55] [3,4,51] (by simp [go_sem]) ?_
  simp only [go_sem,Int.reduceAdd,Int.reduceLT,i4,Wb,ze];repeat refine Wr ?_
  refine qG 1 [3,4,8,13,54,55,58,59] [3,4,51] (by simp [go_sem]) ?_
  simp only [go_sem,Int.reduceAdd,Int.reduceLT,i4,Wb,ze];repeat refine Wr ?_
  refine qG 0 [3,4,8,13,14,54,55,58,59,62,63] [3,4,51] (by simp [go_sem]) ?_
  simp only [go_sem,Int.reduceAdd,Int.reduceLT,i4,Wb,ze];repeat refine Wr ?_
  refine ww [3,4,8,13,54,55,58,59] [3,4,51] (by simp [go_sem]) ?_
  simp only [go_sem,Int.reduceAdd,Int.reduceLT,i4,Wb,ze];repeat refine Wr ?_
  refine ww [3,4,8,54,55] [3,4,51] (by simp [go_sem]) ?_
  simp only [go_sem,Int.reduceAdd,Int.reduceLT,i4,Wb,ze];repeat refine Wr ?_
  refine qG 2 [3,4,8,13,54,55,58,59] [3,4,51] (by simp [go_sem]) ?_
  simp only [go_sem,Int.reduceAdd,Int.reduceLT,i4,Wb,ze];repeat refine Wr ?_
  refine qG 0 [3,4,8,13,14,54,55,58,59,62,63] [3,4,51] (by simp [go_sem]) ?_
  simp only [go_sem,Int.reduceAdd,Int.reduceLT,i4,Wb,ze];repeat refine Wr ?_
  refine ww [3,4,8,13,54,55,58,59] [3,4,51] (by simp [go_sem]) ?_
  simp only [go_sem,Int.reduceAdd,Int.reduceLT,i4,Wb,ze];repeat refine Wr ?_
  refine qG 1 [3,4,8,13,14,54,55,58,59,62,63] [3,4,51] (by simp [go_sem]) ?_
  by_cases h012:crs I0 I1 I2=0
  case neg=>
   have cz:(Je (subQ I2 I0) (subQ I1 I0)=0)=False:=eq_false λh=>h012 (yam.2 h);have ed:dy3 I0 I1 I2 I3=some (I0,I1,I2):=by unfold dy3;rw [ if_pos h012]
   obtain⟨R,hR⟩:∃R,ctr3 I0 I1 I2=R:=⟨_,rfl⟩;have zR:=Q9 zI0 zI1 zI2;rw [hR]at zR;have wR:=cw R;have lR:al (rcan R.1,rcan R.2)<=100000000:=Nat.le_trans zR (by decide)
   have zQ:=WE I0 R;have wQ:=cw (subQ I0 R);have lQ:al (rcan (subQ I0 R).1,rcan (subQ I0 R).2)<=100000000:=Nat.le_trans zQ (by omega)
   have hK:=hK2 I0 I1 I2 ed;rw [hR]at hK;simp only [go_sem,Int.reduceAdd,Int.reduceLT,i4,Wb,ze,hs,hx,hg,hcc,hq,XO,Vb,Wy,uu,cz,decide_false,hR,a00,JaH];repeat refine Wr ?_
   exact hK
  have cz012:(Je (subQ I2 I0) (subQ I1 I0)=0)=True:=eq_true (yam.1 h012);simp only [go_sem,Int.reduceAdd,Int.reduceLT,i4,Wb,ze,hs,hx,hg,XO,Vb,Wy,uu,cz012,decide_true];repeat refine Wr ?_
  refine ww [3,4,8,13,14,54,55,58,59,62,63] [3,4,51] (by simp [go_sem]) ?_
  simp only [go_sem,Int.reduceAdd,Int.reduceLT,i4,Wb,ze];repeat refine Wr ?_
  refine ww [3,4,8,13,54,55,58,59] [3,4,51] (by simp [go_sem]) ?_
  simp only [go_sem,Int.reduceAdd,Int.reduceLT,i4,Wb,ze];repeat refine Wr ?_
  refine ww [3,4,8,54,55] [3,4,51] (by simp [go_sem]) ?_
  simp only [go_sem,Int.reduceAdd,Int.reduceLT,i4,Wb,ze];repeat refine Wr ?_
  refine qG 3 [3,4,8,13,54,55,58,59] [3,4,51] (by simp [go_sem]) ?_
  simp only [go_sem,Int.reduceAdd,Int.reduceLT,i4,Wb,ze];repeat refine Wr ?_
  refine qG 0 [3,4,8,13,14,54,55,58,59,62,63] [3,4,51] (by simp [go_sem]) ?_
  simp only [go_sem,Int.reduceAdd,Int.reduceLT,i4,Wb,ze];repeat refine Wr ?_
  refine ww [3,4,8,13,54,55,58,59] [3,4,51] (by simp [go_sem]) ?_
  simp only [go_sem,Int.reduceAdd,Int.reduceLT,i4,Wb,ze];repeat refine Wr ?_
  refine qG 1 [3,4,8,13,14,54,55,58,59,62,63] [3,4,51] (by simp [go_sem]) ?_
  by_cases h013:crs I0 I1 I3=0
  case neg=>
   have cz:(Je (subQ I3 I0) (subQ I1 I0)=0)=False:=eq_false λh=>h013 (yam.2 h);have ed:dy3 I0 I1 I2 I3=some (I0,I1,I3):=by unfold dy3;rw [if_neg (by simp [h012]),if_pos h013]
   obtain⟨R,hR⟩:∃R,ctr3 I0 I1 I3=R:=⟨_,rfl⟩;have zR:=Q9 zI0 zI1 zI3;rw [hR]at zR;have wR:=cw R;have lR:al (rcan R.1,rcan R.2)<=100000000:=Nat.le_trans zR (by decide)
   have zQ:=WE I0 R;have wQ:=cw (subQ I0 R);have lQ:al (rcan (subQ I0 R).1,rcan (subQ I0 R).2)<=100000000:=Nat.le_trans zQ (by omega)
   have hK:=hK2 I0 I1 I3 ed;rw [hR]at hK;simp only [go_sem,Int.reduceAdd,Int.reduceLT,i4,Wb,ze,hs,hx,hg,hcc,hq,XO,Vb,Wy,uu,cz,decide_false,hR,a00,JaH];repeat refine Wr ?_
   exact hK
  have cz013:(Je (subQ I3 I0) (subQ I1 I0)=0)=True:=eq_true (yam.1 h013);simp only [go_sem,Int.reduceAdd,Int.reduceLT,i4,Wb,ze,hs,hx,hg,XO,Vb,Wy,uu,cz013,decide_true];repeat refine Wr ?_
  refine ww [3,4,8,13,14,54,55,58,59,62,63] [3,4,51] (by simp [go_sem]) ?_
  simp only [go_sem,Int.reduceAdd,Int.reduceLT,i4,Wb,ze];repeat refine Wr ?_
  refine ww [3,4,8,13,54,55,58,59] [3,4,51] (by simp [go_sem]) ?_
  simp only [go_sem,Int.reduceAdd,Int.reduceLT,i4,Wb,ze];repeat refine Wr ?_
  refine qG 2 [3,4,8,13,14,54,55,58,59,62,63] [3,4,51] (by simp [go_sem]) ?_
  by_cases h023:crs I0 I2 I3=0
  case neg=>
   have cz:(Je (subQ I3 I0) (subQ I2 I0)=0)=False:=eq_false λh=>h023 (yam.2 h);have ed:dy3 I0 I1 I2 I3=some (I0,I2,I3):=by unfold dy3;rw [if_neg (by simp [h012]),if_neg (by simp [h013]),if_pos h023]
   obtain⟨R,hR⟩:∃R,ctr3 I0 I2 I3=R:=⟨_,rfl⟩;have zR:=Q9 zI0 zI2 zI3;rw [hR]at zR;have wR:=cw R;have lR:al (rcan R.1,rcan R.2)<=100000000:=Nat.le_trans zR (by decide)
   have zQ:=WE I0 R;have wQ:=cw (subQ I0 R);have lQ:al (rcan (subQ I0 R).1,rcan (subQ I0 R).2)<=100000000:=Nat.le_trans zQ (by omega)
   have hK:=hK2 I0 I2 I3 ed;rw [hR]at hK;simp only [go_sem,Int.reduceAdd,Int.reduceLT,i4,Wb,ze,hs,hx,hg,hcc,hq,XO,Vb,Wy,uu,cz,decide_false,hR,a00,JaH];repeat refine Wr ?_
   exact hK
  have cz023:(Je (subQ I3 I0) (subQ I2 I0)=0)=True:=eq_true (yam.1 h023);simp only [go_sem,Int.reduceAdd,Int.reduceLT,i4,Wb,ze,hs,hx,hg,XO,Vb,Wy,uu,cz023,decide_true];repeat refine Wr ?_
  refine ww [3,4,8,13,14,54,55,58,59,62,63] [3,4,51] (by simp [go_sem]) ?_
  by_cases h123:crs I1 I2 I3=0
  case neg=>
   have cz:(Je (subQ I3 I1) (subQ I2 I1)=0)=False:=eq_false λh=>h123 (yam.2 h);have ed:dy3 I0 I1 I2 I3=some (I1,I2,I3):=by unfold dy3;rw [if_neg (by simp [h012]),if_neg (by simp [h013]),if_neg (by simp [h023]),if_pos h123]
   obtain⟨R,hR⟩:∃R,ctr3 I1 I2 I3=R:=⟨_,rfl⟩;have zR:=Q9 zI1 zI2 zI3;rw [hR]at zR;have wR:=cw R;have lR:al (rcan R.1,rcan R.2)<=100000000:=Nat.le_trans zR (by decide)
   have zQ:=WE I1 R;have wQ:=cw (subQ I1 R);have lQ:al (rcan (subQ I1 R).1,rcan (subQ I1 R).2)<=100000000:=Nat.le_trans zQ (by omega)
   have hK:=hK2 I1 I2 I3 ed;rw [hR]at hK;simp only [go_sem,Int.reduceAdd,Int.reduceLT,i4,Wb,ze,hs,hx,hg,hcc,hq,XO,Vb,Wy,uu,cz,decide_false,hR,a00,JaH];repeat refine Wr ?_
   exact hK
  have cz123:(Je (subQ I3 I1) (subQ I2 I1)=0)=True:=eq_true (yam.1 h123);simp only [go_sem,Int.reduceAdd,Int.reduceLT,i4,Wb,ze,hs,hx,hg,XO,Vb,Wy,uu,cz123,decide_true];repeat refine Wr ?_
  refine ww [3,4,8,13,14,54,55,58,59,62,63] [3,4,51] (by simp [go_sem]) ?_
  simp only [go_sem,Int.reduceAdd,Int.reduceLT,i4,Wb,ze];repeat refine Wr ?_
  refine ww [3,4,8,13,54,55,58,59] [3,4,51] (by simp [go_sem]) ?_
  simp only [go_sem,Int.reduceAdd,Int.reduceLT,i4,Wb,ze];repeat refine Wr ?_
  refine ww [3,4,8,54,55] [3,4,51] (by simp [go_sem]) ?_
  simp only [go_sem,Int.reduceAdd,Int.reduceLT,i4,Wb,ze];repeat refine Wr ?_
  refine hK3 ?_;unfold dy3;rw [if_neg (by simp [h012]),if_neg (by simp [h013]),if_neg (by simp [h023]),if_neg (by simp [h123])]
end Go.Abs
end
section
namespace Go.Num
open Go.Abs
def okT(n:Int):Prop:=n=1∨n=2∨n=4∨n=12
def tx(n:Int):ByteArray:=if n=12 then ⟨#[49,50]⟩ else if n=4 then ⟨#[52]⟩ else if n=2 then ⟨#[50]⟩ else ⟨#[49]⟩
def txR(q:Rat):ByteArray:=if q.den=1 then tx q.num else tx q.num++⟨#[47]⟩++tx (q.den:Nat)
theorem zbS(n:Int):(tx n).size<=2:=by unfold tx;split <;> (try split) <;> (try split) <;> decide
theorem WbK{n:Int}(h:okT n):∃m:Nat,n=m/\1<=m/\m<=12:=by
 rcases h with h | h | h | h
 .exact⟨1,h,by decide,by decide⟩
 .exact⟨2,h,by decide,by decide⟩
 .exact⟨4,h,by decide,by decide⟩
 .exact⟨12,h,by decide,by decide⟩
theorem WbN{m:Nat}(h1:1<=m)(h2:m<=12):digs m=[m]:=by rw [yu (by omega),show m / 4294967296=0 by omega,qc,show m % 4294967296=m by omega]
end Go.Num
namespace Go.Abs
open Go.Num
variable {P:Program} {Γ:Nat->Spec}
theorem yby{h h' : Nat->HB}{z:Nat}{b:Bool}{w:W}:okB h h' (some ⟨[[zb w,zm w]],z,b⟩) (some ⟨[[zb w,zm w]],z,b⟩):=
 ⟨⟨rfl,rfl⟩,.inl ⟨rfl,λe he c hc=>by
  rw [List.mem_singleton.1 he]at hc;simp only [List.mem_cons,List.not_mem_nil,or_false]at hc;rcases hc with rfl | rfl
  .exact of_eq_true (vab _)
  .exact of_eq_true (jaa _)⟩⟩
def eJ(s:ByteArray):AV:=.one (.slice [[.lit (.string s)]])
theorem kbv(x y:ByteArray)(h:eJ x=eJ y):x=y:=by
 simp only [eJ,AV.one.injEq,C.slice.injEq,List.cons.injEq,C.lit.injEq,Value.string.injEq,and_true]at h;exact h
def onJ(k:ByteArray->Prop)(a:AV):Prop:=onE eJ k a
@[congr] theorem vci{k:ByteArray->Prop}{a a'}(h:a=a'):onJ k a=onJ k a':=by subst h;rfl
theorem vbW(k:ByteArray->Prop)(x:ByteArray):onJ k (.one (.slice [[.lit (.string x)]]))=k x:=Zq kbv k x
theorem zb9{β:Type}{T:ByteArray->(β->Prop)->Prop}(h:∀x,GoodT (T x)){a:AV}:GoodT λK=>onJ (λx=>T x K) a:=
 ZJ (e:=eJ) (T:=T) kbv h
attribute [go_sem,go_sem ↓] vbW
def Ux(l:List AV)(K:AV->Prop):Prop:=
 match l with
 | [a]=>asInt (λk n=>k=.i64/\okT n/\K (.one (.lit (.string (tx n))))) a
 | _=>False
theorem uae a K:Ux [a] K=(asInt (λk n=>k=.i64/\okT n/\K (.one (.lit (.string (tx n))))) a):=propext Iff.rfl
@[congr] theorem zbV{K}{l l'}(h:l=l'):Ux l K=Ux l' K:=by subst h;rfl
attribute [go_sem,go_sem ↓] uae
theorem Qau:Good Ux:=Wa λas=>by
 unfold Ux;split
 .exact(Xd (λ_ _=>(.and λ_=>(.and λ_=>(.ret _)))) _)
 .exact .of λK hk=>hk.elim
def VD(l:List AV)(K:AV->Prop):Prop:=
 match l with
 | [a,b]=>asInt (λk n=>k=.i64/\okT n/\asInt (λk m=>k=.i64/\m=10/\K (.one (.lit (.string (tx n))))) b) a
 | _=>False
theorem V4 a b K:VD [a,b] K=(asInt (λk n=>k=.i64/\okT n/\asInt (λk m=>k=.i64/\m=10/\K (.one (.lit (.string (tx n))))) b) a):=propext Iff.rfl
@[congr] theorem kb2{K}{l l'}(h:l=l'):VD l K=VD l' K:=by subst h;rfl
attribute [go_sem,go_sem ↓] V4
theorem jaN:Good VD:=Wa λas=>by
 unfold VD;split
 .exact(Xd (λ_ _=>(.and λ_=>(.and λ_=>(Xd (λ_ _=>(.and λ_=>(.and λ_=>(.ret _)))) _)))) _)
 .exact .of λK hk=>hk.elim
def zw(l:List AV)(K:AV->Prop):Prop:=
 match l with
 | [a]=>asInt (λk n=>k=.i64/\okT n/\K (.one (.lit (.string (tx n))))) a
 | _=>False
theorem zaw a K:zw [a] K=(asInt (λk n=>k=.i64/\okT n/\K (.one (.lit (.string (tx n))))) a):=propext Iff.rfl
@[congr] theorem Xb4{K}{l l'}(h:l=l'):zw l K=zw l' K:=by subst h;rfl
attribute [go_sem,go_sem ↓] zaw
theorem U0:Good zw:=Wa λas=>by
 unfold zw;split
 .exact(Xd (λ_ _=>(.and λ_=>(.and λ_=>(.ret _)))) _)
 .exact .of λK hk=>hk.elim
def yD(l:List AV)(K:AV->Prop):Prop:=
 match l with
 | [a,b]=>onJ (λs=>b=.one (.lit (.string ⟨#[]⟩))/\K (.one (.lit (.string s)))) a
 | _=>False
theorem jaJ a b K:yD [a,b] K=(onJ (λs=>b=.one (.lit (.string ⟨#[]⟩))/\K (.one (.lit (.string s)))) a):=propext Iff.rfl
@[congr] theorem Vb2{K}{l l'}(h:l=l'):yD l K=yD l' K:=by subst h;rfl
attribute [go_sem,go_sem ↓] jaJ
theorem WaN:Good yD:=Wa λas=>by
 unfold yD;split
 .exact(zb9 λ_=>(.and λ_=>(.ret _)))
 .exact .of λK hk=>hk.elim
def Vx(l:List AV)(K:AV->Prop):Prop:=
 match l with
 | [a]=>onW (λw=>okT (zv w)/\K (.one (.lit (.string (tx (zv w)))))) a
 | _=>False
theorem Zam a K:Vx [a] K=(onW (λw=>okT (zv w)/\K (.one (.lit (.string (tx (zv w)))))) a):=propext Iff.rfl
@[congr] theorem XbU{K}{l l'}(h:l=l'):Vx l K=Vx l' K:=by subst h;rfl
attribute [go_sem,go_sem ↓] Zam
theorem Vau:Good Vx:=Wa λas=>by
 unfold Vx;split
 .exact(qq λ_=>(.and λ_=>(.ret _)))
 .exact .of λK hk=>hk.elim
def ux(l:List AV)(K:AV->Prop):Prop:=
 match l with
 | [a]=>onR (λx=>okT (rv x).num/\okT ((rv x).den:Nat)/\rl x<=4294967296/\K (.one (.lit (.string (txR (rv x)))))) a
 | _=>False
theorem kal a K:ux [a] K=(onR (λx=>okT (rv x).num/\okT ((rv x).den:Nat)/\rl x<=4294967296/\K (.one (.lit (.string (txR (rv x)))))) a):=propext Iff.rfl
@[congr] theorem ubN{K}{l l'}(h:l=l'):ux l K=ux l' K:=by subst h;rfl
attribute [go_sem,go_sem ↓] kal
theorem Uao:Good ux:=Wa λas=>by
 unfold ux;split
 .exact(Jj λ_=>(.and λ_=>(.and λ_=>(.and λ_=>(.ret _)))))
 .exact .of λK hk=>hk.elim
theorem wai(hΓ:Xa P Γ){f:Nat}(hc:check P f=some (15,(xc).strip,[.tmp 2])):ua P f (.dat false Ux):=by
 refine ka hc Qau hΓ (λargs K hcl hfi hG=>?_);match args,hG with
 | [a],hG=>
  obtain⟨k,n,rfl,rfl,hn,hK⟩:=Yb hG;refine⟨by simp,?_⟩
  rcases hn with rfl | rfl | rfl | rfl
  .simp only [go_sem,xc];exact⟨λ_=>⟨by decide,⟨by decide,by decide,by decide⟩,hK⟩,λh=>absurd (by decide) h⟩
  .simp only [go_sem,xc];exact⟨λ_=>⟨by decide,⟨by decide,by decide,by decide⟩,hK⟩,λh=>absurd (by decide) h⟩
  .simp only [go_sem,xc];exact⟨λ_=>⟨by decide,⟨by decide,by decide,by decide⟩,hK⟩,λh=>absurd (by decide) h⟩
  .simp only [go_sem,xc];exact⟨λh=>absurd h (by decide),λ_=>⟨by decide,by decide,by decide,⟨by decide,by decide,by decide⟩,hK⟩⟩
theorem Wau(hΓ:Xa P Γ){f fs fn fb fi:Nat}(hs:Γ fs=.dat false Ux)(hc:check P f=some (54,(ve fs fn fb fi).strip,[.tmp 4])):ua P f (.dat false VD):=by
 refine ka hc jaN hΓ (λargs K hcl hfi hG=>?_);match args,hG with
 | [a,b],hG=>
  rw [V4]at hG;obtain⟨k,n,rfl,rfl,hn,hG'⟩:=Yb hG;obtain⟨k',n',rfl,rfl,rfl,hK⟩:=Yb hG';clear hG hG';refine⟨by simp,?_⟩
  have a1:(0:Int)<=n:=by rcases hn with rfl | rfl | rfl | rfl <;> decide
  have a2:n<100:=by rcases hn with rfl | rfl | rfl | rfl <;> decide
  simp only [go_sem,ve,hs,a1,a2,hn];exact hK
theorem Xar(hΓ:Xa P Γ){f fs:Nat}(hs:Γ fs=.dat false VD)(hc:check P f=some (5,(xg fs).strip,[.tmp 2])):ua P f (.dat false zw):=by
 refine ka hc U0 hΓ (λargs K hcl hfi hG=>?_);match args,hG with
 | [a],hG=>
  obtain⟨k,n,rfl,rfl,hn,hK⟩:=Yb hG;refine⟨by simp,?_⟩
  simp only [go_sem,xg,hs,hn];exact hK
theorem jai(hΓ:Xa P Γ){f fs:Nat}(hs:Γ fs=.dat false zw)(hc:check P f=some (5,(Jw fs).strip,[.tmp 2])):ua P f (.dat false zw):=by
 refine ka hc U0 hΓ (λargs K hcl hfi hG=>?_);match args,hG with
 | [a],hG=>
  obtain⟨k,n,rfl,rfl,hn,hK⟩:=Yb hG;refine⟨by simp,?_⟩
  simp only [go_sem,Jw,hs,hn];exact hK
theorem Wao(hΓ:Xa P Γ){f fg fw fs:Nat}(hc:check P f=some (75,(yv fg fw fs).strip,[.tmp 4])):ua P f (.dat false yD):=by
 refine ka hc WaN hΓ (λargs K hcl hfi hG=>?_);match args,hG with
 | [a,b],hG=>
  obtain⟨s,rfl,rfl,hK⟩:=hG;refine⟨by simp,?_⟩
  simp only [go_sem,yv,eJ];exact⟨λ_=>⟨by decide,hK⟩,λh=>absurd rfl h⟩
theorem Zan(hΓ:Xa P Γ){f fm fs fi fr fj fn:Nat}(hm:Γ fm=.dat false zo)(hs:Γ fs=.dat false vC)(hi:Γ fi=.dat false zw)(hj:Γ fj=.dat false yD)(hn:Γ fn=.dat true Uj)(hc:check P f=some (44,(Zw fm fs fi fr fj fn).strip,[.tmp 2])):ua P f (.dat false Vx):=by
  refine ka hc Vau hΓ (λargs K hcl hfi hG=>?_);match args,hG with
  | [a],hG=>
    obtain⟨w,rfl,hw,h1,hK⟩:=hG;refine⟨by simp,?_⟩
    obtain⟨m,hm1,m1,m2⟩:=WbK h1;rw [hm1]at h1 hK;have d1:digs m=[m]:=WbN m1 m2;have d0:=qc
    have v1 : val [m] / 1000000000 = 0 := by have : val [m] = m := by simp [val]
                                             omega
    have v2 : val [m] % 1000000000 = m := by have : val [m] = m := by simp [val]
                                             omega
    have n0:¬((m:Int)<0):=by omega
    have w1:WL [m]:=kd.2 ⟨by omega,Wd⟩
    simp only [go_sem,Zw,hm,hs,hi,hj,hn,hw,hm1,Int.natAbs_natCast,d1];refine Ya (λk:Nat=>if k=0 then ⟨mkV [(1,.one (.ptr 1 1 0 0)),(3,wsA [m]),(4,.one .emp)],mkH [(1,⟨1,some ⟨[[zb w,zm w]],2,true⟩⟩)]⟩ else ⟨mkV [(1,.one (.ptr 1 1 0 0)),(3,wsA []),(4,.one (.full [[.lit (.string (tx m))]]))],mkH [(1,⟨1,some ⟨[[zb w,zm w]],2,true⟩⟩)]⟩) (λ_=>True) (λk=>1-k) 0 ?_ trivial ?_
    . rw [if_pos rfl];exact Qa (by simp [okS,okV,okC,okL,okH,okB,okE,ja,Ja,qa,Va,wsA,ws,wc]) ⟨yby,trivial⟩
    . intro k _
      by_cases hk:k=0
      . subst hk
        rw [if_pos rfl];simp only [go_sem,hs,hi,v1,v2,d0,h1];refine⟨w1,by decide,by decide,by omega,λe he=>by simp at he,1,?_,by decide⟩
        rw [if_neg (by decide)]
        exact Qa (by simp [okS,okV,okC,okL,okH,okB,okE,ja,Ja,qa,Va,wsA,ws,wc]) ⟨yby,trivial⟩
      . rw [if_neg hk]
        simp only [go_sem,hj,hn,hw,hm1,n0];exact hK
theorem Vam(hΓ:Xa P Γ){f fp fo fc ft:Nat}(hp:Γ fp=.dat false kg)(ho:Γ fo=.dat false vv)(hc' : Γ fc=.dat true WJ)(ht:Γ ft=.dat false Vx)(hc:check P f=some (22,(Vn fp fo fc ft).strip,[.tmp 2])):ua P f (.dat false ux):=by
 refine ka hc Uao hΓ (λargs K hcl hfi hG=>?_);match args,hG with
 | [a],hG=>
  obtain⟨x,rfl,hx,h1,h2,hl,hK⟩:=hG;refine⟨by simp,?_⟩
  obtain⟨q,hq⟩:∃q,rv x=q:=⟨_,rfl⟩;rw [hq]at h1 h2 hK;unfold txR at hK;have e1:ordI ((q.den:Nat):Int) 1=0↔q.den=1:=by unfold ordI;split <;> (try split) <;> omega
  by_cases hd:q.den=1
  .rw [if_pos hd]at hK;simp only [go_sem,Vn,hp,ho,hc',ht,hx,hq];exact⟨hl,λ_=>⟨h1,hK⟩,λh=>absurd (e1.2 hd) h⟩
  .rw [if_neg hd]at hK;simp only [go_sem,Vn,hp,ho,hc',ht,hx,hq];have z1:=zbS q.num;have z2:=zbS (q.den:Nat);have z3:(ByteArray.mk #[47]).size=1:=rfl;exact⟨hl,λh=>absurd (e1.1 h) hd,λ_=>⟨h1,by omega,h2,by rw [ByteArray.size_append];omega,hK⟩⟩
end Go.Abs
end
section
namespace Go.Num
open Go.Abs
def liC(c:Cp)(p:Arc):Nat:=if cchk2 c [p]≠0 then cchk2 c [p] else if wV (cpv c) (av p)≠0 then 21 else if wM (cpv c) (av p)=0 then 15 else 0
end Go.Num
namespace Go.Abs
open Go.Num
variable {P:Program} {Γ:Nat->Spec}
def Xbi(tE:Nat)(l:List AV)(K:AV->Prop):Prop:=
 match l with
 | [c,p]=>onCp (λc=>onA (λp=>cl c<=1000/\al p<=1000/\K (.tup [pQ (if liC c p=0 then endA (cpv c) (av p) (zL (cpv c) (av p)) else (0,0)),pQ (if liC c p=0 then endB (cpv c) (av p) (zL (cpv c) (av p)) else (0,0)),errV tE (liC c p)])) p) c
 | _=>False
theorem UaV tE c p K:Xbi tE [c,p] K=(onCp (λc=>onA (λp=>cl c<=1000/\al p<=1000/\K (.tup [pQ (if liC c p=0 then endA (cpv c) (av p) (zL (cpv c) (av p)) else (0,0)),pQ (if liC c p=0 then endB (cpv c) (av p) (zL (cpv c) (av p)) else (0,0)),errV tE (liC c p)])) p) c):=propext Iff.rfl
@[congr] theorem Qb8 tE{K}{l l'}(h:l=l'):Xbi tE l K=Xbi tE l' K:=by subst h;rfl
attribute [go_sem,go_sem ↓] UaV
end Go.Abs
end
section
namespace Go.Num
open Go.Abs
def cqR(X:CpQ):AV:=.agg [cb (rcan X.1.1),cn (rcan X.1.1),cd (rcan X.1.1),cb (rcan X.1.2),cn (rcan X.1.2),cd (rcan X.1.2),cb (rcan X.2.1.1),cn (rcan X.2.1.1),cd (rcan X.2.1.1),cb (rcan X.2.1.2),cn (rcan X.2.1.2),cd (rcan X.2.1.2),cb (rcan X.2.2.1),cn (rcan X.2.2.1),cd (rcan X.2.2.1),cb (rcan X.2.2.2.1),cn (rcan X.2.2.2.1),cd (rcan X.2.2.2.1),cb (rcan X.2.2.2.2.1),cn (rcan X.2.2.2.2.1),cd (rcan X.2.2.2.2.1),cb (rcan X.2.2.2.2.2.1),cn (rcan X.2.2.2.2.2.1),cd (rcan X.2.2.2.2.2.1),cb (rcan X.2.2.2.2.2.2),cn (rcan X.2.2.2.2.2.2),cd (rcan X.2.2.2.2.2.2)]
def scq(c:CpR)(k k2:Rat):CpR:=((c.1.1*k,c.1.2*k),(c.2.1.1*k,c.2.1.2*k),c.2.2.1*k2,c.2.2.2.1*k2,c.2.2.2.2.1*k2,c.2.2.2.2.2.1,c.2.2.2.2.2.2)
def z27:CpR:=((0,0),(0,0),0,0,0,0,0)
def moC(c:Cp)(g:Ps):Nat:=if cchk c≠0 then cchk c else if pvld g=false then 2 else 0
def scC(c:Cp)(k:R):Nat:=if cchk c≠0 then cchk c else if vldR k=false then 2 else if rv k=0 then 8 else 0
end Go.Num
namespace Go.Abs
open Go.Num
variable {P:Program} {Γ:Nat->Spec}
def pfA(x:R):AV:=.one (.ref [cb x,cn x,cd x])
theorem ybE(x y:R)(h:pfA x=pfA y):x=y:=by
 simp only [pfA,AV.one.injEq,C.ref.injEq,List.cons.injEq,and_true]at h;exact YbT h.1 h.2.1 h.2.2
def onPf(k:R->Prop)(a:AV):Prop:=onE pfA (λx=>WLR x/\k x) a
@[congr] theorem Yb7{k:R->Prop}{a a'}(h:a=a'):onPf k a=onPf k a':=by subst h;rfl
theorem Uby(k:R->Prop)(x:R):onPf k (.one (.ref [cb x,cn x,cd x]))=(WLR x/\k x):=Zq ybE (λx=>WLR x/\k x) x
attribute [go_sem,go_sem ↓] Uby
theorem uN(y:R):Jd [cb y,cn y,cd y]:=by
 intro c hc;simp only [List.mem_cons,List.not_mem_nil,or_false]at hc;rcases hc with rfl | rfl | rfl
 .exact of_eq_true (qn _)
 .exact of_eq_true (Um _)
 .exact of_eq_true (vn _)
theorem vai(f r ver i off:Nat):ownC (.clo f [.ptr r ver i off])=[r]:=eq_of_heq (HEq.refl _)
attribute [go_sem,go_sem ↓] vai
def xbD(l:List AV)(K:AV->Prop):Prop:=
 match l with
 | [a,k]=>onA (λp=>onPf (λk=>al p<=100000000/\rl k<=100000000/\K (pQ (rv p.1*rv k,rv p.2*rv k))) k) a
 | _=>False
theorem Ubx a k K:xbD [a,k] K=(onA (λp=>onPf (λk=>al p<=100000000/\rl k<=100000000/\K (pQ (rv p.1*rv k,rv p.2*rv k))) k) a):=propext Iff.rfl
@[congr] theorem uch{K}{l l'}(h:l=l'):xbD l K=xbD l' K:=by subst h;rfl
attribute [go_sem,go_sem ↓] Ubx
def Ube(l:List AV)(K:AV->Prop):Prop:=
 match l with
 | [c,k,l]=>onCp (λc=>onR (λk=>onR (λl=>cl c<=100000000/\rl k<=100000000/\rl l<=100000000/\K (cqR (scq (cpv c) (rv k) (rv l)))) l) k) c
 | _=>False
theorem xaW c k l K:Ube [c,k,l] K=(onCp (λc=>onR (λk=>onR (λl=>cl c<=100000000/\rl k<=100000000/\rl l<=100000000/\K (cqR (scq (cpv c) (rv k) (rv l)))) l) k) c):=propext Iff.rfl
@[congr] theorem Yb8{K}{l l'}(h:l=l'):Ube l K=Ube l' K:=by subst h;rfl
attribute [go_sem,go_sem ↓] xaW
def wbf(tE:Nat)(l:List AV)(K:AV->Prop):Prop:=
 match l with
 | [c,g]=>onCp (λc=>onPo (λg=>cl c<=1000/\pl g<=1000/\K (.tup [cqR (if moC c g=0 then movQ38 (cpv c) (pv g) else z27),errV tE (moC c g)])) g) c
 | _=>False
theorem VaT tE c g K:wbf tE [c,g] K=(onCp (λc=>onPo (λg=>cl c<=1000/\pl g<=1000/\K (.tup [cqR (if moC c g=0 then movQ38 (cpv c) (pv g) else z27),errV tE (moC c g)])) g) c):=propext Iff.rfl
@[congr] theorem zcc tE{K}{l l'}(h:l=l'):wbf tE l K=wbf tE l' K:=by subst h;rfl
attribute [go_sem,go_sem ↓] VaT
def Vba(tE:Nat)(l:List AV)(K:AV->Prop):Prop:=
 match l with
 | [c,k]=>onCp (λc=>onR (λk=>cl c<=1000/\rl k<=1000/\K (.tup [cqR (if scC c k=0 then sclQ38 (cpv c) (rv k) else z27),errV tE (scC c k)])) k) c
 | _=>False
theorem ubi tE c k K:Vba tE [c,k] K=(onCp (λc=>onR (λk=>cl c<=1000/\rl k<=1000/\K (.tup [cqR (if scC c k=0 then sclQ38 (cpv c) (rv k) else z27),errV tE (scC c k)])) k) c):=propext Iff.rfl
@[congr] theorem Yb6 tE{K}{l l'}(h:l=l'):Vba tE l K=Vba tE l' K:=by subst h;rfl
attribute [go_sem,go_sem ↓] ubi
end Go.Abs
end
section
namespace Go.Num
open Go.Abs
def cps9(c:Cp):List R:=[c.1.1,c.1.2,c.2.1.1,c.2.1.2,c.2.2.1,c.2.2.2.1,c.2.2.2.2.1,c.2.2.2.2.2.1,c.2.2.2.2.2.2]
def sC(c:Cp):Bool:=(cps9 c).all (sR 2)
def exQ:CpR:=((0,0),(4,0),1,16,1,1 / 2,0)
end Go.Num
namespace Go.Abs
open Go.Num
variable {P:Program} {Γ:Nat->Spec}
theorem vag(dr:Bool):∀(l m:List AO) (Q:S->Prop),wpL Γ dr Q (l++m)=wpL Γ dr (wpL Γ dr Q m) l
 | [],m,Q=>rfl
 | o::l,m,Q=>by
  have ih:=vag dr l m Q
  funext s
  show wpG Γ dr s (wpL Γ dr Q (l++m)) o=wpG Γ dr s (wpL Γ dr (wpL Γ dr Q m) l) o;rw [ih]
theorem vbP(dr:Bool)(l:List AO)(Q:Ex->S->Prop)(s:S):wpA Γ (.seq (.ops dr l) .ret) Q s=wpL Γ dr (Q .ret) l s:=rfl
def JaZ(l:List AV)(K:AV->Prop):Prop:=
 match l with
 | [c]=>onCp (λc=>cl c<=4294967296/\K (.one (.lit (.bool (sC c))))) c
 | _=>False
theorem xa2 c K:JaZ [c] K=(onCp (λc=>cl c<=4294967296/\K (.one (.lit (.bool (sC c))))) c):=propext Iff.rfl
@[congr] theorem zcg{K}{l l'}(h:l=l'):JaZ l K=JaZ l' K:=by subst h;rfl
attribute [go_sem,go_sem ↓] xa2
def zbB(l:List AV)(K:AV->Prop):Prop:=
 match l with
 | [a,b]=>asInt (λk n=>asInt (λk' m=>k=.i64/\k' = .i64/\(-9223372036854775808<=n/\n<=9223372036854775807)/\(-9223372036854775808<=m/\m<=9223372036854775807)/\K (pQ (n,m))) b) a
 | _=>False
theorem Ubv a b K:zbB [a,b] K=(asInt (λk n=>asInt (λk' m=>k=.i64/\k' = .i64/\(-9223372036854775808<=n/\n<=9223372036854775807)/\(-9223372036854775808<=m/\m<=9223372036854775807)/\K (pQ (n,m))) b) a):=propext Iff.rfl
@[congr] theorem xci{K}{l l'}(h:l=l'):zbB l K=zbB l' K:=by subst h;rfl
attribute [go_sem,go_sem ↓] Ubv
def Zbg(l:List AV)(K:AV->Prop):Prop:=
 match l with
 | []=>K (cqR exQ)
 | _=>False
theorem ua5 K:Zbg [] K=(K (cqR exQ)):=propext Iff.rfl
@[congr] theorem jcb{K}{l l'}(h:l=l'):Zbg l K=Zbg l' K:=by subst h;rfl
attribute [go_sem,go_sem ↓] ua5
def Zap(l:List AV)(K:AV->Prop):Prop:=
 match l with
 | []=>K (.one (.lit (.bool true)))
 | _=>False
theorem VaJ K:Zap [] K=(K (.one (.lit (.bool true)))):=propext Iff.rfl
@[congr] theorem Qb4{K}{l l'}(h:l=l'):Zap l K=Zap l' K:=by subst h;rfl
attribute [go_sem,go_sem ↓] VaJ
def Qu(f0 f1 f2 f3 f4 f5:Nat):List AO:=[.M 36 2,.u 37 (.binn .eql (.t 36) (.c (.one (.lit .nilIface)))),.M 38 37,.V 39 38 true 5,.w 40 38 true (.binn .eql (.t 39) (.c (.one (.lit .nilIface)))),.P 41 38 40,.M 42 41,.V 43 42 true 7,.w 44 42 true (.binn .eql (.t 43) (.c (.one (.lit .nilIface)))),.P 45 42 44,.M 46 45,.V 47 46 true 9]
def xu(f0 f1 f2 f3 f4 f5:Nat):List AO:=[.w 48 46 true (.binn .eql (.t 47) (.c (.one (.lit .nilIface)))),.P 49 46 48,.M 50 49,.V 51 50 true 1,.P 52 50 51,.M 53 52,.V 54 53 true 8,.w 55 53 true (.un .not (.t 54)),.P 56 53 55,.M 57 56,.U 58 57 true 6 true 3,.w 59 57 true (.call f1 [(.i 0),(.i 1)])]
def ut(f0 f1 f2 f3 f4 f5:Nat):List AO:=[.Y 60 57 true f5 58 59,.P 61 57 60,.M 62 61,.U 63 62 true 6 true 4,.w 64 62 true (.call f1 [(.i 4),(.i 1)]),.Y 65 62 true f5 63 64,.P 66 62 65,.M 67 66,.U 68 67 true 6 true 6,.w 69 67 true (.call f1 [(.i 2),(.i 1)]),.Y 70 67 true f5 68 69,.P 71 67 70]
def Wu(f0 f1 f2 f3 f4 f5:Nat):List AO:=[.M 0 71]
def ym(f0 f1 f2 f3 f4 f5:Nat):AC:=(.seq (.ops true (Qu f0 f1 f2 f3 f4 f5++(xu f0 f1 f2 f3 f4 f5++(ut f0 f1 f2 f3 f4 f5++(Wu f0 f1 f2 f3 f4 f5))))) .ret)
def Zz(f0 f1 f2 f3 f4 f5:Nat):AC:=(.o [.u 17 (.call f0 []),.u 18 (.call f1 [(.i 2),(.i 1)]),.D 19 f3 17 18,.M 16 19,.X 20 0 16,.X 21 1 16,.X 22 2 16,.G 3 [.z,.emp,.emp,.z,.emp,.emp],.G 4 [.z,.emp,.emp,.z,.emp,.emp],.S 6 3 20,.S 6 4 21,.M 5 22] [1,2,3,4,5] (.o [.u 24 (.call f0 []),.u 25 (.call f1 [(.i 0),(.i 1)]),.u 26 (.call f1 [(.i 4),(.i 1)]),.E 27 f4 24 25 26,.M 23 27,.X 28 0 23,.X 29 1 23,.G 6 [.z,.emp,.emp,.z,.emp,.emp],.S 6 6 28,.M 7 29] [1,2,3,4,5,6,7] (.o [.u 31 (.call f0 []),.u 32 (.call f1 [(.i 2),(.i 2)]),.D 33 f2 31 32,.M 30 33,.X 34 0 30,.X 35 1 30,.M 8 34,.M 9 35] [1,2,3,4,5,6,7,8,9] (ym f0 f1 f2 f3 f4 f5))))
theorem xj{f0 f1 f2 f3 f4 f5:Nat}(Γ:Nat->Spec)(Q:Ex->S->Prop)(s:S):wpA Γ (Zz f0 f1 f2 f3 f4 f5) Q s=wpA Γ (.seq (.ops false [.u 17 (.call f0 []),.u 18 (.call f1 [(.i 2),(.i 1)]),.u 19 (.call f3 [(.t 17),(.t 18)]),.m 16 (.t 19),.u 20 (.ext 0 (.t 16)),.u 21 (.ext 1 (.t 16)),.u 22 (.ext 2 (.t 16)),.u 3 (.alloc [(.lit (.bool false)),.emp,.emp,(.lit (.bool false)),.emp,.emp]),.u 4 (.alloc [(.lit (.bool false)),.emp,.emp,(.lit (.bool false)),.emp,.emp]),.n (.st none 6 (.t 3) (.t 20)),.n (.st none 6 (.t 4) (.t 21)),.m 5 (.t 22)])
 (.fg [1,2,3,4,5] (.seq (.ops false [.u 24 (.call f0 []),.u 25 (.call f1 [(.i 0),(.i 1)]),.u 26 (.call f1 [(.i 4),(.i 1)]),.u 27 (.call f4 [(.t 24),(.t 25),(.t 26)]),.m 23 (.t 27),.u 28 (.ext 0 (.t 23)),.u 29 (.ext 1 (.t 23)),.u 6 (.alloc [(.lit (.bool false)),.emp,.emp,(.lit (.bool false)),.emp,.emp]),.n (.st none 6 (.t 6) (.t 28)),.m 7 (.t 29)])
 (.fg [1,2,3,4,5,6,7] (.seq (.ops false [.u 31 (.call f0 []),.u 32 (.call f1 [(.i 2),(.i 2)]),.u 33 (.call f2 [(.t 31),(.t 32)]),.m 30 (.t 33),.u 34 (.ext 0 (.t 30)),.u 35 (.ext 1 (.t 30)),.m 8 (.t 34),.m 9 (.t 35)])
 (.fg [1,2,3,4,5,6,7,8,9] (ym f0 f1 f2 f3 f4 f5))))))) Q s:=eq_of_heq (HEq.refl _)
attribute [go_sem ↓] xj
attribute [go_sem] xj
end Go.Abs
end
section
namespace Go.Num
open Go.Abs
def mvP(x y:Rat):Ps:=pcan ((0,false),(x,y))
def mvL(y:Rat):List Ps:=[mvP 0 0,mvP 2 0,mvP 2 2,mvP 0 y]
theorem jM(x y:Rat)(m:V2):appQ (pv (mvP x y)) m=(m.1+x,m.2+y):=by
 have e:pv (mvP x y)=((0,false),(x,y)):=Wb0 _;rw [e];have c:cosQ ((0:Rat),false)=1:=by decide +kernel
 have s:sinQ ((0:Rat),false)=0:=by decide +kernel
 unfold appQ rotQ addQ;rw [c,s];exact Prod.ext (by simp only;grind) (by simp only;grind)
theorem xbX(x y:Rat):pvld (mvP x y)=true:=by
 refine Wah _ ?_;unfold tchk;rw [if_pos];exact⟨Qp _,λh=>by have:=h.1;contradiction⟩
theorem WS(y:Rat):Vd (mvL y)=0:=wbe rfl (by simp [mvL,xbX])
theorem Qbn{y:Rat}(h:rz y<=6):okPs 90 (mvL y):=λp hp=>by
 have z0:=rz_0;have z2:=rz_2;have k:∀a b:Rat,rz a<=6->rz b<=6->okP 90 (mvP a b):=λa b h1 h2=>⟨Ubg _,by
  have e:pl (mvP a b)=max (rz 0) (max (rz a) (rz b)):=rfl;rw [e];simp only [Nat.max_le];exact⟨by omega,by omega,by omega⟩⟩
 simp only [mvL,List.mem_cons,List.not_mem_nil,or_false]at hp;rcases hp with rfl | rfl | rfl | rfl
 .exact k _ _ (by omega) (by omega)
 .exact k _ _ (by omega) (by omega)
 .exact k _ _ (by omega) (by omega)
 .exact k _ _ (by omega) h
theorem xbf(y:Rat)(m:V2):dtL (mvL y) m=4*y*(y-2):=by
 show detQ (appQ (pv (mvP 0 0)) m) (appQ (pv (mvP 2 0)) m) (appQ (pv (mvP 2 2)) m) (appQ (pv (mvP 0 y)) m)=_;rw [jM,jM,jM,jM];unfold detQ sqQ;simp only;grind
theorem ZbJ : rz (3:Rat)<=6:=by
 have h1:=rz_1;have h2:=rz_2;have h3:=km 1 2;have e:(1:Rat)+2=3:=by decide +kernel
 rw [e]at h3;omega
theorem mv_2:bcL (mvL 2)=[]:=by
 have hl:=Uh (Qbn (y:=2) (by have:=rz_2;omega)) (by decide:90<=1000)
 obtain⟨pb,e⟩:=VI hl (WS 2);have c0:Canon ([]:BQ):=Wp (l:=[]) (λt ht=>absurd ht (List.not_mem_nil));refine vO pb.canon c0 λx y=>?_;have h:=e (x,y);rw [xbf]at h;simp only at h;rw [h];have:(4:Rat)*2*(2-2)=0:=by decide +kernel
 rw [this];rfl
theorem mv_3:bcL (mvL 3)=[(0,0,12)]:=by
 have hl:=Uh (Qbn ZbJ) (by decide:90<=1000)
 obtain⟨pb,e⟩:=VI hl (WS 3);have ec:conB 12=[(0,0,12)]:=by decide +kernel
 rw [<-ec];refine vO pb.canon (PB.con 12).canon λx y=>?_;have h:=e (x,y);rw [xbf]at h;simp only at h;rw [h,JbS];decide +kernel
theorem Ja4:dyN (mvL 2) (0,0)=some ((0,0),(2,0),(2,2)):=by
 show dy3 (appQ (pv (mvP 0 0)) (0,0)) (appQ (pv (mvP 2 0)) (0,0)) (appQ (pv (mvP 2 2)) (0,0)) (appQ (pv (mvP 0 2)) (0,0))=_;rw [jM,jM,jM,jM];decide +kernel
theorem QbC:av (rcan 0,rcan 0)=(0,0):=XO (0,0)
theorem Jch:avld (rcan 0,rcan 0)=true:=by show(vldR (rcan _) && vldR (rcan _))=true;rw [Qp];rfl
theorem wbE(y:Rat):onC (mvL y) (rcan 0,rcan 0)=0:=jbX (WS y) Jch
theorem kb7:dyC (mvL 2) (rcan 0,rcan 0)=0/\dyR (mvL 2) (rcan 0,rcan 0)=((1,1),(0,0),2):=by
 have h1:dtL (mvL 2) (av (rcan 0,rcan 0))=0:=by rw [xbf];decide +kernel
 have h2:dyC (mvL 2) (rcan 0,rcan 0)=0:=by unfold dyC;rw [wbE,if_neg (by decide),if_neg (by simp [h1]),QbC,Ja4]
 refine⟨h2,?_⟩;unfold dyR;rw [h2,if_pos rfl,QbC,Ja4];decide +kernel
end Go.Num
namespace Go.Abs
open Go.Num
variable {P:Program} {Γ:Nat->Spec}
def YN(l:List AV)(K:AV->Prop):Prop:=
 match l with
 | [a]=>asInt (λk y=>k=.i64/\(y=2∨y=3)/\K (.one (.slice ((mvL y).map pC)))) a
 | _=>False
theorem ka3 a K:YN [a] K=(asInt (λk y=>k=.i64/\(y=2∨y=3)/\K (.one (.slice ((mvL y).map pC)))) a):=propext Iff.rfl
@[congr] theorem yce{K}{l l'}(h:l=l'):YN l K=YN l' K:=by subst h;rfl
attribute [go_sem,go_sem ↓] ka3
theorem VaZ:Good YN:=Wa λas=>by
 unfold YN;split
 .exact(Xd (λ_ _=>(.and λ_=>(.and λ_=>(.ret _)))) _)
 .exact .of λK hk=>hk.elim
def zE(l:List AV)(K:AV->Prop):Prop:=
 match l with
 | []=>K (.one (.lit (.bool true)))
 | _=>False
theorem uaB K:zE [] K=(K (.one (.lit (.bool true)))):=propext Iff.rfl
@[congr] theorem qb4{K}{l l'}(h:l=l'):zE l K=zE l' K:=by subst h;rfl
attribute [go_sem,go_sem ↓] uaB
theorem XaR:Good zE:=Wa λas=>by
 unfold zE;split
 .exact(.ret _)
 .exact .of λK hk=>hk.elim
def xi(f0:Nat):AC:=(.o [.m 2 (.c (.one .emp))] [0] (.o [.u 4 (.call f0 [(.i 2)]),.G 3 [.z,.emp,.emp],.S 3 3 4] [0,3] (.seq (.y [.u 5 (.build [.z [.z,.emp,.emp,.z,.z,.emp,.emp,.z,.emp,.emp]]),.L 6 3 3,.u 7 (.build [.x 3 (.t 6),.z [.z,.emp,.emp]]),.u 8 (.build [.z [.z,.emp,.emp,.z],.x 6 (.t 7)]),.L 9 3 3,.L 10 3 3,.u 11 (.build [.x 3 (.t 9),.x 3 (.t 10)]),.u 12 (.build [.z [.z,.emp,.emp,.z],.x 6 (.t 11)]),.M 13 0,.H 14 f0 13,.u 15 (.build [.z [.z,.emp,.emp],.x 3 (.t 14)]),.u 16 (.build [.z [.z,.emp,.emp,.z],.x 6 (.t 15)]),.u 17 (.row 10 [[.x 10 (.t 5)],[.x 10 (.t 8)],[.x 10 (.t 12)],[.x 10 (.t 16)]]),.M 2 17]) .ret)))
def We(f0 f1 f2 f3 f4:Nat):List AO:=[.M 39 2,.u 40 (.binn .eql (.t 39) (.c (.one (.lit .nilIface)))),.M 41 40,.V 42 41 true 4,.w 43 41 true (.binn .eql (.t 42) (.c (.one (.lit .nilIface)))),.P 44 41 43,.M 45 44,.V 46 45 true 6,.w 47 45 true (.binn .eql (.t 46) (.c (.one (.lit .nilIface)))),.P 48 45 47,.M 49 48,.V 50 49 true 8]
theorem js{f0 f1 f2 f3 f4:Nat}(Γ:Nat->Spec)(dr:Bool)(Q:S->Prop)(s:S):wpL Γ dr Q (We f0 f1 f2 f3 f4) s=wpL Γ dr Q [.m 39 (.t 2),.u 40 (.binn .eql (.t 39) (.c (.one (.lit .nilIface)))),.m 41 (.t 40),.w 42 41 true (.mv (.t 4)),.w 43 41 true (.binn .eql (.t 42) (.c (.one (.lit .nilIface)))),.u 44 (.pick (.t 41) (.t 43) .fa),.m 45 (.t 44),.w 46 45 true (.mv (.t 6)),.w 47 45 true (.binn .eql (.t 46) (.c (.one (.lit .nilIface)))),.u 48 (.pick (.t 45) (.t 47) .fa),.m 49 (.t 48),.w 50 49 true (.mv (.t 8))] s:=eq_of_heq (HEq.refl _)
def xe(f0 f1 f2 f3 f4:Nat):List AO:=[.w 51 49 true (.binn .eql (.t 50) (.c (.one (.lit .nilIface)))),.P 52 49 51,.M 53 52,.V 54 53 true 10,.w 55 53 true (.binn .eql (.t 54) (.c (.one (.lit .nilIface)))),.P 56 53 55,.M 57 56,.V 58 57 true 1,.w 59 57 true (.len (.t 58)),.w 60 57 true (.bin .eql (.t 59) (.i 0)),.P 61 57 60,.M 62 61]
theorem Us{f0 f1 f2 f3 f4:Nat}(Γ:Nat->Spec)(dr:Bool)(Q:S->Prop)(s:S):wpL Γ dr Q (xe f0 f1 f2 f3 f4) s=wpL Γ dr Q [.w 51 49 true (.binn .eql (.t 50) (.c (.one (.lit .nilIface)))),.u 52 (.pick (.t 49) (.t 51) .fa),.m 53 (.t 52),.w 54 53 true (.mv (.t 10)),.w 55 53 true (.binn .eql (.t 54) (.c (.one (.lit .nilIface)))),.u 56 (.pick (.t 53) (.t 55) .fa),.m 57 (.t 56),.w 58 57 true (.mv (.t 1)),.w 59 57 true (.len (.t 58)),.w 60 57 true (.bin .eql (.t 59) (.i 0)),.u 61 (.pick (.t 57) (.t 60) .fa),.m 62 (.t 61)] s:=eq_of_heq (HEq.refl _)
def Xe(f0 f1 f2 f3 f4:Nat):List AO:=[.V 63 62 true 3,.w 64 62 true (.len (.t 63)),.w 65 62 true (.bin .eql (.t 64) (.i 1)),.P 66 62 65,.M 67 66,.V 68 67 true 3,.w 69 67 true (.idx 5 (.t 68) (.i 0)),.T 70 67 true 2 69,.U 71 67 true 3 true 70,.W 72 67 true f4 71,.w 73 67 true (.sop 1 [(.t 72),(.c (.one (.lit (.string ⟨#[49,50]⟩))))]),.P 74 67 73]
theorem qs{f0 f1 f2 f3 f4:Nat}(Γ:Nat->Spec)(dr:Bool)(Q:S->Prop)(s:S):wpL Γ dr Q (Xe f0 f1 f2 f3 f4) s=wpL Γ dr Q [.w 63 62 true (.mv (.t 3)),.w 64 62 true (.len (.t 63)),.w 65 62 true (.bin .eql (.t 64) (.i 1)),.u 66 (.pick (.t 62) (.t 65) .fa),.m 67 (.t 66),.w 68 67 true (.mv (.t 3)),.w 69 67 true (.idx 5 (.t 68) (.i 0)),.w 70 67 true (.fa 2 (.t 69)),.w 71 67 true (.ld none 3 true (.t 70)),.w 72 67 true (.call f4 [(.t 71)]),.w 73 67 true (.sop 1 [(.t 72),(.c (.one (.lit (.string ⟨#[49,50]⟩))))]),.u 74 (.pick (.t 67) (.t 73) .fa)] s:=eq_of_heq (HEq.refl _)
def we(f0 f1 f2 f3 f4:Nat):List AO:=[.M 75 74,.V 76 75 true 5,.P 77 75 76,.M 78 77,.V 79 78 true 7,.w 80 78 true (.un .not (.t 79)),.P 81 78 80,.M 82 81,.T 83 82 true 12 9,.U 84 82 true 3 true 83,.W 85 82 true f4 84,.w 86 82 true (.sop 1 [(.t 85),(.c (.one (.lit (.string ⟨#[50]⟩))))])]
theorem Vs{f0 f1 f2 f3 f4:Nat}(Γ:Nat->Spec)(dr:Bool)(Q:S->Prop)(s:S):wpL Γ dr Q (we f0 f1 f2 f3 f4) s=wpL Γ dr Q [.m 75 (.t 74),.w 76 75 true (.mv (.t 5)),.u 77 (.pick (.t 75) (.t 76) .fa),.m 78 (.t 77),.w 79 78 true (.mv (.t 7)),.w 80 78 true (.un .not (.t 79)),.u 81 (.pick (.t 78) (.t 80) .fa),.m 82 (.t 81),.w 83 82 true (.fa 12 (.t 9)),.w 84 82 true (.ld none 3 true (.t 83)),.w 85 82 true (.call f4 [(.t 84)]),.w 86 82 true (.sop 1 [(.t 85),(.c (.one (.lit (.string ⟨#[50]⟩))))])] s:=eq_of_heq (HEq.refl _)
def ye(f0 f1 f2 f3 f4:Nat):List AO:=[.P 87 82 86,.M 0 87]
theorem Xs{f0 f1 f2 f3 f4:Nat}(Γ:Nat->Spec)(dr:Bool)(Q:S->Prop)(s:S):wpL Γ dr Q (ye f0 f1 f2 f3 f4) s=wpL Γ dr Q [.u 87 (.pick (.t 82) (.t 86) .fa),.m 0 (.t 87)] s:=eq_of_heq (HEq.refl _)
def Jg(f0 f1 f2 f3 f4:Nat):AC:=(.seq (.ops false (We f0 f1 f2 f3 f4++(xe f0 f1 f2 f3 f4++(Xe f0 f1 f2 f3 f4++(we f0 f1 f2 f3 f4++(ye f0 f1 f2 f3 f4)))))) .ret)
theorem Vv{f0 f1 f2 f3 f4:Nat}(Γ:Nat->Spec)(Q:Ex->S->Prop)(s:S):wpA Γ (Jg f0 f1 f2 f3 f4) Q s=wpA Γ (.seq (.ops false (We f0 f1 f2 f3 f4++(xe f0 f1 f2 f3 f4++(Xe f0 f1 f2 f3 f4++(we f0 f1 f2 f3 f4++(ye f0 f1 f2 f3 f4))))))
 .ret) Q s:=eq_of_heq (HEq.refl _)
def Vm(f0 f1 f2 f3 f4:Nat):AC:=(.o [.u 22 (.call f0 [(.i 2)]),.u 23 (.build [.z [.z,.emp,.emp,.z,.emp,.emp]]),.D 24 f2 22 23,.M 21 24,.X 25 0 21,.X 26 1 21,.M 5 25,.M 6 26] [1,2,3,4,5,6] (.o [.u 28 (.call f0 [(.i 3)]),.u 29 (.build [.z [.z,.emp,.emp,.z,.emp,.emp]]),.D 30 f2 28 29,.M 27 30,.X 31 0 27,.X 32 1 27,.M 7 31,.M 8 32] [1,2,3,4,5,6,7,8] (.o [.u 34 (.call f0 [(.i 2)]),.u 35 (.build [.z [.z,.emp,.emp,.z,.emp,.emp]]),.D 36 f3 34 35,.M 33 36,.X 37 0 33,.X 38 1 33,.G 9 [.z,.emp,.emp,.z,.emp,.emp,.z,.emp,.emp,.z,.emp,.emp,.z,.emp,.emp],.S 15 9 37,.M 10 38] [1,2,3,4,5,6,7,8,9,10] (Jg f0 f1 f2 f3 f4))))
theorem qk{f0 f1 f2 f3 f4:Nat}(Γ:Nat->Spec)(Q:Ex->S->Prop)(s:S):wpA Γ (Vm f0 f1 f2 f3 f4) Q s=wpA Γ (.seq (.ops false [.u 22 (.call f0 [(.i 2)]),.u 23 (.build [.z [(.lit (.bool false)),.emp,.emp,(.lit (.bool false)),.emp,.emp]]),.u 24 (.call f2 [(.t 22),(.t 23)]),.m 21 (.t 24),.u 25 (.ext 0 (.t 21)),.u 26 (.ext 1 (.t 21)),.m 5 (.t 25),.m 6 (.t 26)])
 (.fg [1,2,3,4,5,6] (.seq (.ops false [.u 28 (.call f0 [(.i 3)]),.u 29 (.build [.z [(.lit (.bool false)),.emp,.emp,(.lit (.bool false)),.emp,.emp]]),.u 30 (.call f2 [(.t 28),(.t 29)]),.m 27 (.t 30),.u 31 (.ext 0 (.t 27)),.u 32 (.ext 1 (.t 27)),.m 7 (.t 31),.m 8 (.t 32)])
 (.fg [1,2,3,4,5,6,7,8] (.seq (.ops false [.u 34 (.call f0 [(.i 2)]),.u 35 (.build [.z [(.lit (.bool false)),.emp,.emp,(.lit (.bool false)),.emp,.emp]]),.u 36 (.call f3 [(.t 34),(.t 35)]),.m 33 (.t 36),.u 37 (.ext 0 (.t 33)),.u 38 (.ext 1 (.t 33)),.u 9 (.alloc [(.lit (.bool false)),.emp,.emp,(.lit (.bool false)),.emp,.emp,(.lit (.bool false)),.emp,.emp,(.lit (.bool false)),.emp,.emp,(.lit (.bool false)),.emp,.emp]),.n (.st none 15 (.t 9) (.t 37)),.m 10 (.t 38)])
 (.fg [1,2,3,4,5,6,7,8,9,10] (Jg f0 f1 f2 f3 f4))))))) Q s:=eq_of_heq (HEq.refl _)
attribute [go_sem ↓] qk
attribute [go_sem] qk
def Ui(f0 f1 f2 f3 f4:Nat):AC:=(.o [.m 0 .fa] [] (.o [.u 12 (.call f0 [(.i 2)]),.H 13 f1 12,.M 11 13,.X 14 0 11,.X 15 1 11,.M 1 14,.M 2 15] [1,2] (.o [.u 17 (.call f0 [(.i 3)]),.H 18 f1 17,.M 16 18,.X 19 0 16,.X 20 1 16,.M 3 19,.M 4 20] [1,2,3,4] (Vm f0 f1 f2 f3 f4))))
theorem UaP(hΓ:Xa P Γ){f fo:Nat}(ho:Γ fo=.dat false XE)(hc:check P f=some (18,(xi fo).strip,[.tmp 2])):ua P f (.dat false YN):=by
 refine ka hc VaZ hΓ (λargs K hcl hfi hG=>?_);match args,hG with
 | [a],hG=>
  obtain⟨k,y,rfl,rfl,hy,hK⟩:=Yb hG;refine⟨by simp,?_⟩
  have i2:((2:Int):Rat)=2:=rfl;have b1:-9223372036854775808<=y:=by rcases hy with rfl | rfl <;> decide
  have b2:y<=9223372036854775807:=by rcases hy with rfl | rfl <;> decide
  have eK:((mvL (y:Rat)).map pC)=[[cb (rcan 0),cn (rcan 0),cd (rcan 0),.lit (.bool false),cb (rcan 0),cn (rcan 0),cd (rcan 0),cb (rcan 0),cn (rcan 0),cd (rcan 0)],[cb (rcan 0),cn (rcan 0),cd (rcan 0),.lit (.bool false),cb (rcan 2),cn (rcan 2),cd (rcan 2),cb (rcan 0),cn (rcan 0),cd (rcan 0)],[cb (rcan 0),cn (rcan 0),cd (rcan 0),.lit (.bool false),cb (rcan 2),cn (rcan 2),cd (rcan 2),cb (rcan 2),cn (rcan 2),cd (rcan 2)],[cb (rcan 0),cn (rcan 0),cd (rcan 0),.lit (.bool false),cb (rcan 0),cn (rcan 0),cd (rcan 0),cb (rcan (y:Rat)),cn (rcan (y:Rat)),cd (rcan (y:Rat))]]:=rfl;rw [eK]at hK;simp only [ub]at hK;simp only [go_sem,xi,ho,i2];refine⟨by decide,by decide,b1,b2,?_⟩
  exact hK
set_option maxHeartbeats 2000000 in
theorem Jat(hΓ:Xa P Γ){f fm fb fo fd ft tE:Nat}(hm:Γ fm=.dat false YN)(hb:Γ fb=.dat false (XI tE))(ho:Γ fo=.dat false (xac tE))(hd:Γ fd=.dat false (yal tE))(ht:Γ ft=.dat false ux)(hc:check P f=some (88,(Ui fm fb fo fd ft).strip,[.tmp 0])):ua P f (.dat true zE):=by
 refine ka hc XaR hΓ (λargs K hcl hfi hG=>?_);match args,hG with
 | [],hK=>
  refine⟨by simp,?_⟩
  have e0:=Qc tE;have i2:((2:Int):Rat)=2:=rfl;have i3:((3:Int):Rat)=3:=rfl;have k2:okPs 1000 (mvL 2):=Uh (Qbn (by have:=rz_2;omega)) (by decide)
  have k3:okPs 1000 (mvL 3):=Uh (Qbn ZbJ) (by decide)
  have w2:∀p∈mvL 2,WLP p:=λp hp=>(k2 p hp).1;have w3:∀p∈mvL 3,WLP p:=λp hp=>(k3 p hp).1;have f2:=WS 2;have f3:=WS 3;have b2:bres 0 (bcL (mvL 2))=[]:=by rw [mv_2];rfl
  have b3:bres 0 (bcL (mvL 3))=[(0,0,rcan 12)]:=by rw [mv_3];rfl
  have o2:=wbE 2;have o3:=wbE 3;have d2:dtL (mvL 2) (0,0)=0:=by rw [xbf];decide +kernel
  have d3:(dtL (mvL 3) (0,0)=0)=False:=eq_false (by rw [xbf];decide +kernel)
  have zz:WLA (rcan 0,rcan 0):=jU (0,0);have z0:al (rcan 0,rcan 0)<=10000:=Nat.max_le.2 ⟨Nat.le_trans (Nat.le_of_eq rz_0) (by decide),Nat.le_trans (Nat.le_of_eq rz_0) (by decide)⟩
  obtain⟨c2,r2⟩:=kb7;have g0:decide ((0:Nat)=0)=true:=rfl;have t12:txR 12=⟨#[49,50]⟩:=by decide +kernel
  have t2:txR 2=⟨#[50]⟩:=by decide +kernel
  obtain⟨L2,hL2⟩:∃L,mvL 2=L:=⟨_,rfl⟩;obtain⟨L3,hL3⟩:∃L,mvL 3=L:=⟨_,rfl⟩;rw [hL2]at k2 w2 f2 b2 o2 d2 c2 r2;rw [hL3]at k3 w3 f3 b3 o3 d3;simp only [go_sem,Ui,hm,hb,ho,hd,i2,i3,hL2,hL3,f2,f3,b2,b3,e0,o2,o3,c2,r2,QbC,d2,d3,g0,decide_false,decide_true,Bool.true_and,Bool.and_false];repeat refine Wr ?_
  rw [Vv,vbP,vag,vag,vag,vag];rw [js];simp only [go_sem];rw [Us];simp only [go_sem];rw [qs];have bb:∀l:List UInt8,(l == l)=true:=λl=>beq_self_eq_true l;have n1:(((1:Nat):Int)=1)=True:=eq_true rfl;have k1:okT (Rat.num 12):=Or.inr (Or.inr (Or.inr rfl));have k4:okT ((Rat.den 12:Nat):Int):=Or.inl rfl;have k5:okT (Rat.num 2):=Or.inr (Or.inl rfl);have k6:okT ((Rat.den 2:Nat):Int):=Or.inl rfl;have l22:rz 2<=4294967296:=Nat.le_trans rz_2 (by decide)
  have l12:rz 12<=4294967296:=by
   have h1:=ZbJ;have h2:=rz_2;have h3:=Zc 2 2;have h4:=Zc 3 4;have e1:(2:Rat)*2=4:=by decide +kernel
   have e2:(3:Rat)*4=12:=by decide +kernel
   rw [e1]at h3;rw [e2]at h4;omega
  simp only [go_sem,ht,Vb,t2,t12,bb,n1,decide_true,mC,List.drop,List.take];repeat refine Wr ?_
  rw [Vs];simp only [go_sem,ht,Vb,t2,t12,bb];repeat refine Wr ?_
  rw [Xs];simp only [go_sem,ht,Vb,t2,t12,bb];exact hK
end Go.Abs
end
section
namespace Go.Num
open Go.Abs
abbrev P4:=Ps×Ps×Ps×Ps
def WL4(t:P4):Prop:=WLP t.1/\WLP t.2.1/\WLP t.2.2.1/\WLP t.2.2.2
def l4(t:P4):List Ps:=[t.1,t.2.1,t.2.2.1,t.2.2.2]
end Go.Num
namespace Go.Abs
open Go.Num
variable {P:Program} {Γ:Nat->Spec}
def p4C(t:P4):List C:=pC t.1++(pC t.2.1++(pC t.2.2.1++pC t.2.2.2))
def p4A(t:P4):AV:=.agg (p4C t)
theorem kbI(x y:P4)(h:p4A x=p4A y):x=y:=by
 simp only [p4A,p4C,AV.agg.injEq]at h;have h1:=List.append_inj h (by simp [uh])
 have h2:=List.append_inj h1.2 (by simp [uh])
 have h3:=List.append_inj h2.2 (by simp [uh])
 exact Prod.ext (VY h1.1) (Prod.ext (VY h2.1) (Prod.ext (VY h3.1) (VY h3.2)))
def onP4(k:P4->Prop)(a:AV):Prop:=onE p4A (λt=>WL4 t/\k t) a
@[congr] theorem vce{k:P4->Prop}{a a'}(h:a=a'):onP4 k a=onP4 k a':=by subst h;rfl
theorem Ybt(k:P4->Prop)(t:P4):onP4 k (.agg (p4C t))=(WL4 t/\k t):=
 propext ⟨λ⟨x,h,hk⟩=>by have:=kbI x t h.symm;subst this;exact hk,λh=>⟨t,rfl,h⟩⟩
theorem vbn(t:P4):Jd (p4C t):=by
 intro c hc;simp only [p4C,List.mem_append]at hc;rcases hc with hc | hc | hc | hc
 .exact Ju _ c hc
 .exact Ju _ c hc
 .exact Ju _ c hc
 .exact Ju _ c hc
theorem qbd(t:P4):(p4C t).length=40:=by simp [p4C,uh]
theorem vaB(t:P4):(p4C t).drop 0=p4C t:=rfl
theorem va4(t:P4):(p4C t).take 40=p4C t:=List.take_of_length_le (by rw [qbd];decide)
theorem QaB(t:P4):chunk 10 4 (p4C t)=[pC t.1,pC t.2.1,pC t.2.2.1,pC t.2.2.2]:=by
 have h4:(pC t.2.2.2).take 10=pC t.2.2.2:=List.take_of_length_le (by rw [uh];decide)
 simp only [chunk,p4C,List.take_left' (uh _),List.drop_left' (uh _),h4]
theorem QbA(t:P4)(r:List (List C)):datQ 0 0 (some ⟨p4C t::r,40,true⟩)=.ref (p4C t):=UI [] _ _ _ _ _ ⟨Nat.zero_le _,vbn t⟩
theorem Jbt(k:List Ps->Prop)(t:P4):onPs k (.one (.slice [pC t.1,pC t.2.1,pC t.2.2.1,pC t.2.2.2]))=((∀x∈l4 t,WLP x)/\k (l4 t)):=JM k (l4 t)
theorem zbw(t:P4):p4A t=.agg (p4C t):=eq_of_heq (HEq.refl _)
theorem XaF(h:Nat->HB)(p:Ps):(pC p).map (datC h)=pC p:=eq_of_heq (HEq.refl _)
theorem Xa8(h:Nat->HB)(t:P4):(p4C t).map (datC h)=p4C t:=by unfold p4C;rw [List.map_append,List.map_append,List.map_append,XaF,XaF,XaF,XaF]
theorem Ja1(t:P4):(p4C t).flatMap ownC=[]:=by
 have e:∀p:Ps,(pC p).flatMap ownC=[]:=λp=>eq_of_heq (HEq.refl _);unfold p4C;rw [List.flatMap_append,List.flatMap_append,List.flatMap_append,e,e,e,e];rfl
attribute [go_sem,go_sem ↓] Xa8 Ja1
attribute [go_sem,go_sem ↓] Jbt Ybt qbd vaB va4 QaB QbA zbw
def xaq(l:List AV)(K:AV->Prop):Prop:=
 match l with
 | [a]=>onP4 (λt=>okPs 1048576 (l4 t)/\K (.one (.lit (.bool ((l4 t).all pvld && (decide ((l4 t).length<=20) && (l4 t).all sP)))))) a
 | _=>False
theorem UaL a K:xaq [a] K=(onP4 (λt=>okPs 1048576 (l4 t)/\K (.one (.lit (.bool ((l4 t).all pvld && (decide ((l4 t).length<=20) && (l4 t).all sP)))))) a):=propext Iff.rfl
@[congr] theorem Xb5{K}{l l'}(h:l=l'):xaq l K=xaq l' K:=by subst h;rfl
attribute [go_sem,go_sem ↓] UaL
end Go.Abs
end
