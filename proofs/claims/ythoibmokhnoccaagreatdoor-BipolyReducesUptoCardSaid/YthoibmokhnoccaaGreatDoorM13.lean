/-
  Parts of the proof, merged: BiqG, BiqH, BiqI, BiqJ, BiqK, BiqL, BiqM, BipY, BipZ, BiqC, BiqD, BiqE.
-/
import Derived.Test.YthoibmokhnoccaaGreatDoorM12
set_option linter.unusedVariables false
set_option linter.unusedSimpArgs false
set_option maxRecDepth 100000
section
namespace Go.Num
open Go.Abs
def accB(l:BQ):BQ:=nfo l.reverse
theorem kaE(l:BQ)(t:MQ):accB (l++[t])=ins t (accB l):=by unfold accB;rw [List.reverse_append];rfl
theorem qaJ{l:BQ}(h:InQ l):InQ (accB l):=uaN λt ht=>h t (by simpa using ht)
theorem vaH(l:BQ):sz (accB l)<=sz l:=by
 have h1:=qa6 l.reverse;rw [VaR (List.reverse_perm l)]at h1;exact h1
theorem xal(l:BQ):(accB l).length<=l.length:=by
 have h1:=xbc l.reverse;rw [List.length_reverse]at h1;exact h1
theorem qbf{l:BQ}(h:InQ l):(accB l).filter nz=nf l:=by
 show nf l.reverse=nf l;exact wbd (List.reverse_perm l) λt ht=>h t (by simpa using ht)
def befB(t:MQ):BQ->Nat
 | []=>0
 | u::p=>if kq u<kq t then befB t p+1 else 0
theorem UX{t:MQ}:∀{p:BQ} {i:Nat} {u:MQ},p[i]?=some u->i<=befB t p->(kq u<kq t->i+1<=befB t p)/\(¬kq u<kq t->i=befB t p)
 | v::p,0,u,h,hi=>by
  simp only [List.getElem?_cons_zero,Option.some.injEq]at h;subst h;simp only [befB];exact⟨λh=>by rw [if_pos h];omega,λh=>by rw [if_neg h]⟩
 | v::p,i+1,u,h,hi=>by
  simp only [List.getElem?_cons_succ]at h;simp only [befB]at hi ⊢;by_cases hv:kq v<kq t
  .rw [if_pos hv]at hi ⊢;have:=UX h (by omega:i<=befB t p)
   exact⟨λh=>by have:=this.1 h;omega,λh=>by have:=this.2 h;omega⟩
  .rw [if_neg hv]at hi;omega
theorem waR(t:MQ):∀p:BQ,befB t p<=p.length
 | []=>Nat.le_refl _
 | u::p=>by
  have:=waR t p;simp only [befB,List.length_cons];split <;> omega
theorem jaf{t:MQ}:∀{p:BQ},(∀u,p[befB t p]?=some u->kq u≠kq t)->ins t p=p.take (befB t p)++t::p.drop (befB t p)
 | [],_=>rfl
 | u::p,h=>by
  simp only [befB,ins]at h ⊢;by_cases hu:kq u<kq t
  .simp only [if_pos hu,List.getElem?_cons_succ]at h ⊢;rw [if_neg (by omega),if_neg (by omega),jaf h];rfl
  .simp only [if_neg hu,List.getElem?_cons_zero,Option.some.injEq,forall_eq']at h ⊢;rw [if_pos (by omega)];rfl
theorem XaB{t u:MQ}:∀{p:BQ},p[befB t p]?=some u->kq u=kq t->ins t p=p.set (befB t p) (u.1,u.2.1,u.2.2+t.2.2)
 | [],h,_=>by simp at h
 | v::p,h,e=>by
  simp only [befB,ins]at h ⊢;by_cases hu:kq v<kq t
  .simp only [if_pos hu,List.getElem?_cons_succ]at h ⊢;rw [if_neg (by omega),if_neg (by omega),XaB h e];rfl
  .simp only [if_neg hu,List.getElem?_cons_zero,Option.some.injEq]at h ⊢;subst h;rw [if_neg (by omega),if_pos e.symm];rfl
theorem vba{p:BQ}{i:Nat}{u:MQ}(h:p[i]?=some u):(mcs p).getD i mo0=mcan u:=by
 unfold mcs;rw [List.getD_eq_getElem?_getD,List.getElem?_map,h];rfl
theorem wai(p:BQ):(mcs p).length=p.length:=List.length_map _
theorem UaW{p:BQ}{i:Nat}{u:MQ}(c:Rat):(mcs p).set i ((mcan u).1,(mcan u).2.1,rcan (rv (mcan u).2.2+c))=mcs (p.set i (u.1,u.2.1,u.2.2+c)):=by
 have e:rv (mcan u).2.2=u.2.2:=qc _;rw [e];unfold mcs;rw [List.map_set];rfl
theorem XaV{p:BQ}{x:Mo}{i:Nat}(h1:((mcs p).take i).length=i):((mcs p).take i++[(x.1,x.2.1,rcan (rv x.2.2+0))]).take (i+1)++(mcs p).drop i=mcs (p.take i++mv x::p.drop i):=by
 rw [List.take_of_length_le (by simp only [List.length_append,List.length_cons,List.length_nil];omega),Xo]
 simp only [mcs,mcan,mv,Rat.add_zero,List.map_take,List.map_drop,List.map_cons,List.append_assoc,List.singleton_append]
theorem vav{f:Mo->Bool}{l:List Mo}{k:Nat}{x:Mo}(hx:l[k]?=some x):(l.take (k+1)).filter f=(l.take k).filter f++if f x=true then [x] else []:=by
 rw [List.take_add_one,hx,List.filter_append];cases h:f x <;> simp [h]
end Go.Num
namespace Go.Abs
open Go.Num
variable {P:Program} {Γ:Nat->Spec}
theorem yR{a b:Nat}(ha:a<pinA/\b<pinA){v:Nat->AV}{h:Nat->HB}{l l' : List (Nat×AV)}{k k' : List (Nat×HB)}(hl:swL a b l=l')(hk:swK a b k=k')(hh:okS h (mkH k) v l/\okH h (mkH k) k):Weak ⟨v,h⟩ ⟨mkV l',mkH k'⟩:=by
 subst hl;subst hk;exact zaj ha hh
theorem JaX(a b ver z:Nat)(l:List Mo)(t:Bool):swB a b ⟨ver,some ⟨l.map mC,z,t⟩⟩=⟨ver,some ⟨l.map mC,z,t⟩⟩:=by
 unfold swB;simp only [Option.map_some,HB.mk.injEq,Option.some.injEq,Blk.mk.injEq,and_true,true_and];rw [List.map_map];exact List.map_congr_left λj _=>rfl
theorem Jad{p:BQ}{x:Mo}{i:Nat}(h1:((mcs p).take i).length=i):(((mcs p).take i).map mC++[[C.lit (.int .i64 x.1),C.lit (.int .i64 x.2.1),cb (rcan (rv x.2.2+0)),cn (rcan (rv x.2.2+0)),cd (rcan (rv x.2.2+0))]]).take (i+1)++((mcs p).drop i).map mC=(mcs (p.take i++mv x::p.drop i)).map mC:=by
 rw [<-XaV h1,zbo,vaP,WaH]
def xi(f0 f1 f2:Nat):AC:=(.o [.m 2 (.c (.one .emp))] [0] (.o [.m 3 (.c (.one .emp))] [0,3] (.f (.o [.M 11 0,.Z 12 11,.N 13 0] [3,11,12,13] (.block 0 (.loop (.o [.B 14 .lss 13 12] [3,11,12,13,14] (.f (.cond (.t 14) .skip (.exit 0)) [3,11,12,13] (.f (.block 1 (.o [.J 15 5 11 13,.L 16 5 15,.G 5 [(.lit (.int .i64 0)),(.lit (.int .i64 0)),.z,.emp,.emp],.S 5 5 16] [3,5,11,12,13] (.o [.N 6 0] [3,5,6,11,12,13] (.f (.block 2 (.loop (.f (.f (.y [.M 17 6,.M 18 3,.Z 19 18,.B 20 .lss 17 19,.M 21 20,.V 22 21 true 3,.V 23 21 true 6,.w 24 21 true (.idx 5 (.t 22) (.t 23)),.U 25 21 true 5 true 24,.U 26 21 true 5 true 5,.Y 27 21 true f0 25 26,.P 28 21 27]) [3,5,6,11,12,13,28] (.cond (.t 28) .skip (.exit 2))) [3,5,6,11,12,13] (.block 3 (.p [.M 29 6,.I 30 .add 29 1,.M 6 30]))))) [3,5,6,11,12,13] (.f (.f (.y [.M 31 6,.M 32 3,.Z 33 32,.B 34 .lss 31 33,.M 35 34,.V 36 35 true 3,.V 37 35 true 6,.w 38 35 true (.idx 5 (.t 36) (.t 37)),.T 39 35 true 0 38,.U 40 35 true 1 false 39,.T 41 35 true 0 5,.U 42 35 true 1 false 41,.w 43 35 true (.bin .eql (.t 40) (.t 42)),.P 44 35 43,.M 45 44,.V 46 45 true 3,.V 47 45 true 6,.w 48 45 true (.idx 5 (.t 46) (.t 47)),.T 49 45 true 1 48,.U 50 45 true 1 false 49,.T 51 45 true 1 5,.U 52 45 true 1 false 51,.w 53 45 true (.bin .eql (.t 50) (.t 52)),.P 54 45 53]) [3,5,6,11,12,13,54] (.cond (.t 54) (.seq (.y [.M 55 3,.M 56 6,.M 57 3,.M 58 6,.J 59 5 57 58,.A 60 2 59,.L 61 3 60,.A 62 2 5,.L 63 3 62,.D 64 f1 61 63,.J 65 5 55 56,.A 66 2 65,.S 3 66 64]) (.exit 1)) .skip)) [3,5,6,11,12,13] (.o [.m 67 (.c (.one .emp)),.M 68 3,.M 69 6,.u 70 (.sl 5 (.t 68) none (some (.t 69))),.u 71 (.app0 5 (.t 67) (.t 70)),.M 7 71] [3,5,6,7,11,12,13] (.f (.y [.M 72 7,.A 73 0 5,.F 74 1 73,.A 75 1 5,.F 76 1 75,.A 77 2 5,.L 78 3 77,.u 79 (.build [.z [.z,.emp,.emp]]),.D 80 f1 78 79,.u 81 (.build [.x 1 (.t 74),.x 1 (.t 76),.x 3 (.t 80)]),.u 82 (.row 5 [[.x 5 (.t 81)]]),.u 83 (.app 5 (.t 72) (.t 82)),.M 7 83]) [3,6,7,11,12,13] (.p [.M 84 7,.M 85 3,.M 86 6,.u 87 (.sl 5 (.t 85) (some (.t 86)) none),.u 88 (.app 5 (.t 84) (.t 87)),.M 3 88])))))))) [3,11,12,13] (.p [.I 89 .add 13 1,.M 13 89]))))))) [3] (.o [.m 8 (.c (.one .emp))] [3,8] (.f (.o [.M 90 3,.Z 91 90,.N 92 0] [8,90,91,92] (.block 4 (.loop (.o [.B 93 .lss 92 91] [8,90,91,92,93] (.f (.cond (.t 93) .skip (.exit 4)) [8,90,91,92] (.f (.block 5 (.o [.J 94 5 90 92,.L 95 5 94,.G 10 [(.lit (.int .i64 0)),(.lit (.int .i64 0)),.z,.emp,.emp],.S 5 10 95] [8,10,90,91,92] (.o [.A 96 2 10,.L 97 3 96,.H 98 f2 97,.I 99 .neq 98 0] [8,10,90,91,92,99] (.cond (.t 99) (.p [.M 100 8,.L 101 5 10,.u 102 (.row 5 [[.x 5 (.t 101)]]),.u 103 (.app 5 (.t 100) (.t 102)),.M 8 103]) .skip)))) [8,90,91,92] (.p [.I 104 .add 92 1,.M 92 104]))))))) [8] (.seq (.p [.M 105 8,.M 2 105]) .ret))))))
set_option maxHeartbeats 1000000 in
theorem Jav(hΓ:Holds P Γ){f fb fa fs m:Nat}(hm:m<=1000000000)(hb:Γ fb=.dat false kG)(ha:Γ fa=.dat false kk)(hs:Γ fs=.dat true Zk)(hc:check P f=some (106,(xi fb fa fs).strip,[.tmp 2])):Sound P f (.dat false (Uv m)):=by
 refine Qa hc (xX m) hΓ (λargs K hcl hfi hG=>?_);match args,hG with
 | [a],hG=>
  obtain⟨l,rfl,hw,hok,hlm,hsz,hK⟩:=hG;refine⟨by simp,?_⟩
  have hin:InQ (l.map mv):=λt ht=>by
   obtain⟨x,hx,rfl⟩:=List.mem_map.1 ht;exact(hok x hx).1
  have hink:∀k,InQ ((l.take k).map mv):=λk t ht=>by
   obtain⟨x,hx,rfl⟩:=List.mem_map.1 ht;exact(hok x (List.mem_of_mem_take hx)).1
  have hszk:∀k,sz ((l.take k).map mv)<=1000000000:=λk=>by
   have h1:=Uo (l.map mv) k;rw [List.map_take];omega
  simp only [go_sem,xi];intro _;refine ja (λk:Nat=>if k=0 then ⟨mkV [(3,.one .emp),(11,msA l),(12,.one (.lit (.int .i64 l.length))),(13,.one (.lit (.int .i64 k)))],mkH []⟩
    else ⟨mkV [(3,.one (.own 3 1 5 0 (accB ((l.take k).map mv)).length)),(11,msA l),(12,.one (.lit (.int .i64 l.length))),(13,.one (.lit (.int .i64 k)))],mkH [(3,⟨1,some ⟨(mcs (accB ((l.take k).map mv))).map mC,5,true⟩⟩)]⟩) (λk=>k<=l.length) (λk=>l.length-k) 0 ?_ ?_ ?_
  .exact za (by simp [bitvec_to_nat,msA,ms]) trivial
  .exact Nat.zero_le _
  .intro k hk;by_cases hlt:k<l.length
   .obtain⟨x,hx⟩:∃x,l.getD k mo0=x:=⟨_,rfl⟩;have hx0:=getDm hlt hx;have hxm:=List.mem_of_getElem? hx0;have hwx:=hw x hxm;have hwx3:=hwx.2.2;obtain⟨hix,hrx⟩:=hok x hxm;have rz0:=rz_0;have hnext:accB ((l.take (k+1)).map mv)=ins (mv x) (accB ((l.take k).map mv)):=by rw [jD hx0,kaE]
    by_cases hk0:k=0
    .subst hk0;have e0:accB ((l.take 0).map mv)=[]:=rfl;rw [e0]at hnext;simp only [go_sem,hlt,hx,mC,Int.lt_irrefl];refine JaY 0 [3,5,6,11,12,13] [5] (by simp [go_sem]) ?_
     simp only [go_sem,hlt,hx,mC,Int.lt_irrefl,ha];refine⟨by omega,by simp,hwx3,hrx,by omega,λe he=>by rw [List.mem_singleton.1 he];rfl,by omega,by simp,by decide,1,?_,by omega,by omega⟩
     have hq:accB ((l.take 1).map mv)=[mv x]:=hnext;rw [if_neg (by decide),hq]
     exact yR (a:=71) (b:=3) (l:=[(3,.one (.own 71 1 5 0 1)),(11,msA l),(12,.one (.lit (.int .i64 l.length))),(13,.one (.lit (.int .i64 (1:Nat))))]) (k:=[(71,⟨1,some ⟨(mcs [mv x]).map mC,5,true⟩⟩)]) ⟨by decide,by decide⟩ rfl (by simp only [XR,Qay,JaX];rfl) ⟨by simp [bitvec_to_nat,msA,ms],xc (by simp [mcs,mcan,mv,mC,Rat.add_zero]),trivial⟩
    .obtain⟨p,hp⟩:∃p,accB ((l.take k).map mv)=p:=⟨_,rfl⟩;have hpi:InQ p:=by rw [<-hp];exact qaJ (hink k)
     have hps:sz p<=1000000000:=by rw [<-hp];exact Nat.le_trans (vaH _) (hszk k)
     have hpl:p.length<=k:=by
      rw [<-hp];have:=xal ((l.take k).map mv);rw [List.length_map,List.length_take]at this;omega
     have hml:=wai p;rw [hp]at hnext;have hbl:=waR (mv x) p;simp only [go_sem,hlt,hx,mC,hk0,hp];refine ja (λi:Nat=>⟨mkV [(3,.one (.own 3 1 5 0 p.length)),(5,.one (.ptr 5 1 0 0)),(6,.one (.lit (.int .i64 i))),(11,msA l),(12,.one (.lit (.int .i64 l.length))),(13,.one (.lit (.int .i64 k)))],mkH [(3,⟨1,some ⟨(mcs p).map mC,5,true⟩⟩),(5,⟨1,some ⟨[mC x],5,true⟩⟩)]⟩) (λi=>i<=befB (mv x) p) (λi=>p.length-i) 0 ?_ ?_ ?_
     .exact za (by simp [bitvec_to_nat,msA,ms]) ⟨xc rfl,xc (l':=[x]) rfl,trivial⟩
     .exact Nat.zero_le _
     .intro i hi;have hil0:i<=p.length:=Nat.le_trans hi hbl;have hti:(List.take i (mcs p)).length=i:=by rw [List.length_take];omega
      have htd:List.take (p.length-i) (List.drop i (mcs p))=List.drop i (mcs p):=List.take_of_length_le (by rw [List.length_drop];omega)
      have hdl:(List.drop i (mcs p)).length=p.length-i:=by rw [List.length_drop];omega
      have hlen:(p.take i++mv x::p.drop i).length=i+1+(p.length-i):=by
       rw [List.length_append,List.length_take,List.length_cons,List.length_drop];omega
      by_cases hil:i<p.length
      .obtain⟨u,hu⟩:∃u,p[i]?=some u:=⟨_,List.getElem?_eq_getElem hil⟩;have hum:=List.mem_of_getElem? hu;have hui:inM (mcan u):=hpi u hum;have hwu:WLM (mcan u):=VI (hpi u hum);have hgd:=vba hu;have hst:=UX hu hi;have hkk:(kM (mcan u)<kM x)=(kq u<kq (mv x)):=rfl;by_cases hq:kq u<kq (mv x)
       .simp only [go_sem,hil,hgd,hml,hb,mC,hkk,hq];refine⟨by omega,hwu,hwx,hui,hix,by omega,i+1,?_,hst.1 hq,by omega⟩
        exact za (by simp [bitvec_to_nat,msA,ms]) ⟨xc rfl,xc (l':=[x]) rfl,trivial⟩
       .have hib:=hst.2 hq;have hru:rl (mcan u).2.2<=4294967296:=by
         have h3:=wV hum;have h4:rl (mcan u).2.2=rz u.2.2:=rfl;omega
        have hwu3:=hwu.2.2;by_cases e1:(mcan u).1=x.1/\(mcan u).2.1=x.2.1
        .have d1:=decide_eq_true e1.1;have d2:=decide_eq_true e1.2;have hkq:kq u=kq (mv x):=(vaL (t:=mv x) (hpi u hum) (yaF hix)).2 e1;have hset:=XaB (t:=mv x) (by rw [<-hib];exact hu) hkq
         simp only [go_sem,hil,hgd,hml,hb,mC,hkk,hq,d1,d2,ha];refine⟨by omega,hwu,hwx,hui,hix,by omega,hwu3,hwx3,hru,hrx,by omega,k+1,?_,by omega,by omega⟩
         rw [if_neg (by omega),hnext,hset,<-hib]
         exact za (by simp [bitvec_to_nat,msA,ms]) ⟨xc (by rw [UaW];rfl),trivial⟩
        .have hkq:kq u≠kq (mv x):=λh=>e1 ((vaL (t:=mv x) (hpi u hum) (yaF hix)).1 h);have hnew:=jaf (t:=mv x) (p:=p) (λv hv=>by
          rw [<-hib,hu]at hv;simp only [Option.some.injEq]at hv;subst hv;exact hkq)
         rw [<-hib]at hnew;by_cases e2:(mcan u).1=x.1
         .have d1:=decide_eq_true e2;have d2:=decide_eq_false (λh=>e1 ⟨e2,h⟩:¬(mcan u).2.1=x.2.1);simp only [go_sem,hil,hgd,hml,hb,mC,hkk,hq,d1,d2,ha,hti,htd,hdl];refine⟨by omega,hwu,hwx,hui,hix,by omega,by omega,by omega,by omega,hwx3,hrx,by omega,λe he=>by rw [List.mem_singleton.1 he];rfl,by omega,by omega,by omega,⟨by rw [List.length_append,List.length_map,hti];exact Nat.le_refl _,by omega⟩,by omega,k+1,?_,by omega,by omega⟩
          rw [if_neg (by omega),hnext,hnew,hlen]
          exact yR (a:=71) (b:=3) (l:=[(3,.one (.own 71 1 5 0 (i+1+(p.length-i)))),(11,msA l),(12,.one (.lit (.int .i64 l.length))),(13,.one (.lit (.int .i64 (k+1:Nat))))]) (k:=[(71,⟨1,some ⟨(mcs (p.take i++mv x::p.drop i)).map mC,5,true⟩⟩)]) ⟨by decide,by decide⟩ rfl (by simp only [XR,Qay,JaX];rfl) ⟨by simp [bitvec_to_nat,msA,ms],xc (Jad hti),trivial⟩
         .have d1:=decide_eq_false e2;simp only [go_sem,hil,hgd,hml,hb,mC,hkk,hq,d1,ha,hti,htd,hdl];refine⟨by omega,hwu,hwx,hui,hix,by omega,by omega,by omega,by omega,hwx3,hrx,by omega,λe he=>by rw [List.mem_singleton.1 he];rfl,by omega,by omega,by omega,⟨by rw [List.length_append,List.length_map,hti];exact Nat.le_refl _,by omega⟩,by omega,k+1,?_,by omega,by omega⟩
          rw [if_neg (by omega),hnext,hnew,hlen]
          exact yR (a:=71) (b:=3) (l:=[(3,.one (.own 71 1 5 0 (i+1+(p.length-i)))),(11,msA l),(12,.one (.lit (.int .i64 l.length))),(13,.one (.lit (.int .i64 (k+1:Nat))))]) (k:=[(71,⟨1,some ⟨(mcs (p.take i++mv x::p.drop i)).map mC,5,true⟩⟩)]) ⟨by decide,by decide⟩ rfl (by simp only [XR,Qay,JaX];rfl) ⟨by simp [bitvec_to_nat,msA,ms],xc (Jad hti),trivial⟩
      .have hib:i=befB (mv x) p:=by omega
       have hnew:=jaf (t:=mv x) (p:=p) (λv hv=>by
        rw [<-hib,List.getElem?_eq_none (by omega)]at hv;simp at hv)
       rw [<-hib]at hnew;simp only [go_sem,hil,hml,ha,hb,mC,hti,htd,hdl];refine⟨by omega,by omega,by omega,by omega,by omega,hwx3,hrx,by omega,λe he=>by rw [List.mem_singleton.1 he];rfl,by omega,by omega,by omega,⟨by rw [List.length_append,List.length_map,hti];exact Nat.le_refl _,by omega⟩,by omega,k+1,?_,by omega,by omega⟩
       rw [if_neg (by omega),hnext,hnew,hlen]
       exact yR (a:=71) (b:=3) (l:=[(3,.one (.own 71 1 5 0 (i+1+(p.length-i)))),(11,msA l),(12,.one (.lit (.int .i64 l.length))),(13,.one (.lit (.int .i64 (k+1:Nat))))]) (k:=[(71,⟨1,some ⟨(mcs (p.take i++mv x::p.drop i)).map mC,5,true⟩⟩)]) ⟨by decide,by decide⟩ rfl (by simp only [XR,Qay,JaX];rfl) ⟨by simp [bitvec_to_nat,msA,ms],xc (Jad hti),trivial⟩
   .have ek:l.take k=l:=List.take_of_length_le (by omega)
    have hfin:(mcs (accB (l.map mv))).filter nzM=mcs (nf (l.map mv)):=by rw [vL,qbf hin]
    by_cases hk0:k=0
    .subst hk0;have hl0:l=[]:=List.length_eq_zero_iff.1 (by omega)
     subst hl0;simp only [go_sem,hlt];refine JaY 0 [8,90,91,92] [] (by simp [go_sem]) ?_
     simp only [go_sem,Int.lt_irrefl];exact hK
    .obtain⟨q,hq⟩:∃q,mcs (accB (l.map mv))=q:=⟨_,rfl⟩;have hql:(accB (l.map mv)).length=q.length:=by rw [<-hq,wai]
     have hqb:q.length<=m:=by
      have:=xal (l.map mv);rw [List.length_map]at this;omega
     have hqw:∀t∈q,WLM t/\rl t.2.2<=4294967296:=λt ht=>by
      rw [<-hq]at ht;obtain⟨u,hu,rfl⟩:=List.mem_map.1 ht;refine⟨VI (qaJ hin u hu),?_⟩;have h3:=wV hu;have h4:rl (mcan u).2.2=rz u.2.2:=rfl;have h5:=vaH (l.map mv);omega
     rw [hq]at hfin;rw [<-hfin]at hK;simp only [go_sem,hlt,hk0,ek,hq,hql];intro _;refine ja (λj:Nat=>if ((q.take j).filter nzM).length=0 then ⟨mkV [(8,.one .emp),(90,.one (.own 3 1 5 0 q.length)),(91,.one (.lit (.int .i64 q.length))),(92,.one (.lit (.int .i64 j)))],mkH [(3,⟨1,some ⟨q.map mC,5,true⟩⟩)]⟩
       else ⟨mkV [(8,.one (.own 103 1 5 0 ((q.take j).filter nzM).length)),(90,.one (.own 3 1 5 0 q.length)),(91,.one (.lit (.int .i64 q.length))),(92,.one (.lit (.int .i64 j)))],mkH [(3,⟨1,some ⟨q.map mC,5,true⟩⟩),(103,⟨1,some ⟨((q.take j).filter nzM).map mC,5,true⟩⟩)]⟩) (λj=>j<=q.length) (λj=>q.length-j) 0 ?_ ?_ ?_
     .exact za (by simp [bitvec_to_nat]) ⟨xc rfl,trivial⟩
     .exact Nat.zero_le _
     .intro j hj;by_cases hjl:j<q.length
      .obtain⟨y,hy⟩:∃y,q.getD j mo0=y:=⟨_,rfl⟩;have hy0:=getDm hjl hy;have hym:=List.mem_of_getElem? hy0;obtain⟨hwy,hry⟩:=hqw y hym;have hwy3:=hwy.2.2;have hta:=vav (f:=nzM) hy0;have hnl:((q.take j).filter nzM).length<=j:=Nat.le_trans (List.length_filter_le _ _) (by rw [List.length_take];omega)
       obtain⟨n,hn⟩:∃n,((q.take j).filter nzM).length=n:=⟨_,rfl⟩;rw [hn]at hnl ⊢;by_cases hz:ordQ (rv y.2.2) 0=0
       .have hnz:¬nzM y=true:=by unfold nzM;rw [Jj]at hz;simp [hz]
        rw [if_neg hnz,List.append_nil]at hta;by_cases hn0:n=0
        .rw [if_pos hn0];simp only [go_sem,hjl,hy,hs,mC,hz,hn0];repeat first | refine q_Wk ?_ | intro _
         refine⟨j+1,?_,by omega,by omega⟩
         rw [hta,hn,if_pos hn0];exact za (by simp [bitvec_to_nat]) ⟨xc rfl,trivial⟩
        .rw [if_neg hn0];simp only [go_sem,hjl,hy,hs,mC,hz,hn0,hn];repeat first | refine q_Wk ?_ | intro _
         refine⟨j+1,?_,by omega,by omega⟩
         rw [hta,hn,if_neg hn0];exact za (by simp [bitvec_to_nat]) ⟨xc rfl,xc rfl,trivial⟩
       .have hnz:nzM y=true:=by unfold nzM;rw [Jj]at hz;simp [hz]
        rw [if_pos hnz]at hta;have hall:∀e∈[[C.lit (.int .i64 y.1),C.lit (.int .i64 y.2.1),cb y.2.2,cn y.2.2,cd y.2.2]],e.length=5:=λe he=>by rw [List.mem_singleton.1 he];rfl
        by_cases hn0:n=0
        .rw [if_pos hn0];have hnil:=List.length_eq_zero_iff.1 (hn.trans hn0);simp only [go_sem,hjl,hy,hs,mC,hz,hn0];repeat first | refine q_Wk ?_ | intro _
         refine⟨j+1,?_,by omega,by omega⟩
         rw [hta,List.length_append,hn,if_neg (by simp),hnil,hn0]
         exact za (by simp [bitvec_to_nat]) ⟨xc rfl,xc (by simp [mC]),trivial⟩
        .rw [if_neg hn0];simp only [go_sem,hjl,hy,hs,mC,hz,hn0,hn];repeat first | refine q_Wk ?_ | intro _
         refine⟨j+1,?_,by omega,by omega⟩
         rw [hta,List.length_append,hn,if_neg (by simp)]
         exact za (by simp [bitvec_to_nat]) ⟨xc rfl,xc (by simp [mC]),trivial⟩
      .have et:q.take j=q:=List.take_of_length_le (by omega)
       rw [et];by_cases hn0:(q.filter nzM).length=0
       .rw [if_pos hn0];have hnil:=List.length_eq_zero_iff.1 hn0;rw [hnil]at hK;simp only [go_sem,hjl];exact hK
       .rw [if_neg hn0];simp only [go_sem,hjl];exact hK
end Go.Abs
end
section
namespace Go.Abs
open Go.Num
variable {P:Program} {Γ:Nat->Spec}
def ku:q_T:=q_c2 λa n K=>onR (λx=>asInt (λk n=>k=.i64/\0<=n/\n<=64/\rl x<=10000000/\K (rQ (pw (rv x) n.toNat))) n) a
theorem jad:Good ku:=q_g2 λ_ _=>(xk λ_=>(Jc (λ_ _=>(.and λ_=>(.and λ_=>(.and λ_=>(.and λ_=>(.ret _)))))) _))
def qD:q_T:=q_c3 λa b c K=>onMs (λp=>onR (λx=>onR (λy=>(∀t∈p,rl t.2.2<=1000000000)/\rl x<=10000/\rl y<=10000/\sz (p.map mv)<=100000000/\K (.tup [rQ (if chkB p=0 then ev (p.map mv) (rv x) (rv y) else 0),.one (.lit (.int .i64 (chkB p:Nat)))])) c) b) a
theorem wau:Good qD:=q_g3 λ_ _ _=>(Ve λ_=>(xk λ_=>(xk λ_=>(.and λ_=>(.and λ_=>(.and λ_=>(.and λ_=>(.ret _))))))))
def XO:q_T:=q_c3 λp b c K=>onMs (λp=>asBool (λb=>onR (λc=>(∀t∈p,rl t.2.2<=1000000000)/\rl c<=10000/\sz (p.map mv)<=100000000/\K (.tup [.one (.slice ((if chkB p=0 then (trimL (fixL b (rv c) (p.map mv))).map rcan else []).map rC)),.one (.lit (.int .i64 (chkB p:Nat)))])) c) b) p
theorem UaN:Good XO:=q_g3 λ_ _ _=>(Ve λ_=>(Qo (λ_=>(xk λ_=>(.and λ_=>(.and λ_=>(.and λ_=>(.ret _)))))) _))
attribute [go_sem] ku qD XO
def Qg(f0 f1:Nat):AC:=(.o [.K 2 3 0,.G 4 [.z,.emp,.emp]] [1,2,4] (.o [.u 6 (.call f0 [(.i 1)]),.G 5 [.z,.emp,.emp],.S 3 5 6] [1,2,4,5] (.f (.o [.M 7 1,.N 8 0] [2,4,5,7,8] (.block 0 (.loop (.o [.B 9 .lss 8 7] [2,4,5,7,8,9] (.f (.cond (.t 9) .skip (.exit 0)) [2,4,5,7,8] (.f (.block 1 (.p [.L 10 3 5,.L 11 3 2,.D 12 f1 10 11,.S 3 5 12])) [2,4,5,7,8] (.p [.I 13 .add 8 1,.M 8 13]))))))) [4,5] (.seq (.p [.L 14 3 5,.S 3 4 14]) .ret))))
def ze(f0 f1 f2 f3:Nat):AC:=(.o [.K 4 3 1,.K 5 3 2,.G 6 [.z,.emp,.emp],.N 7 0] [0,4,5,6] (.f (.o [.M 12 0,.H 13 f0 12,.M 8 13] [0,4,5,6,8] (.o [.M 14 8,.I 15 .neq 14 0] [0,4,5,6,8,15] (.cond (.t 15) (.seq (.p [.u 16 (.build [.z [.z,.emp,.emp]]),.M 17 8,.S 3 6 16,.M 7 17]) .ret) .skip))) [0,4,5,6] (.o [.G 9 [.z,.emp,.emp]] [0,4,5,6,9] (.f (.o [.M 18 0,.Z 19 18,.N 20 0] [4,5,6,9,18,19,20] (.block 0 (.loop (.o [.B 21 .lss 20 19] [4,5,6,9,18,19,20,21] (.f (.cond (.t 21) .skip (.exit 0)) [4,5,6,9,18,19,20] (.f (.block 1 (.o [.J 22 5 18 20,.L 23 5 22,.G 11 [(.lit (.int .i64 0)),(.lit (.int .i64 0)),.z,.emp,.emp],.S 5 11 23] [4,5,6,9,11,18,19,20] (.y [.L 24 3 9,.A 25 2 11,.L 26 3 25,.L 27 3 4,.A 28 0 11,.F 29 1 28,.D 30 f1 27 29,.L 31 3 5,.A 32 1 11,.F 33 1 32,.D 34 f1 31 33,.D 35 f2 30 34,.D 36 f2 26 35,.D 37 f3 24 36,.S 3 9 37]))) [4,5,6,9,18,19,20] (.p [.I 38 .add 20 1,.M 20 38]))))))) [6,9] (.seq (.p [.L 39 3 9,.S 3 6 39,.N 7 0]) .ret)))))
def ke(f0 f1 f2 f3 f4:Nat):AC:=(.o [.K 5 3 2,.m 6 (.c (.one .emp)),.N 7 0] [0,1,5] (.f (.o [.M 12 0,.H 13 f0 12,.M 8 13] [0,1,5,8] (.o [.M 14 8,.I 15 .neq 14 0] [0,1,5,8,15] (.cond (.t 15) (.seq (.p [.M 16 8,.m 6 (.c (.one .emp)),.M 7 16]) .ret) .skip))) [0,1,5] (.o [.u 17 (.mk 3 [.z,.emp,.emp] (.i 25) (.i 25)),.M 9 17] [0,1,5,9] (.f (.o [.M 18 0,.Z 19 18,.N 20 0] [1,5,9,18,19,20] (.block 0 (.loop (.o [.B 21 .lss 20 19] [1,5,9,18,19,20,21] (.f (.cond (.t 21) .skip (.exit 0)) [1,5,9,18,19,20] (.f (.block 1 (.o [.J 22 5 18 20,.L 23 5 22,.G 11 [(.lit (.int .i64 0)),(.lit (.int .i64 0)),.z,.emp,.emp],.S 5 11 23] [1,5,9,11,18,19,20] (.o [.M 24 1] [1,5,9,11,18,19,20,24] (.cond (.t 24) (.y [.M 25 9,.A 26 0 11,.F 27 1 26,.M 28 9,.A 29 0 11,.F 30 1 29,.J 31 3 28 30,.L 32 3 31,.A 33 2 11,.L 34 3 33,.L 35 3 5,.A 36 1 11,.F 37 1 36,.D 38 f1 35 37,.D 39 f2 34 38,.D 40 f3 32 39,.J 41 3 25 27,.S 3 41 40]) (.y [.M 42 9,.A 43 1 11,.F 44 1 43,.M 45 9,.A 46 1 11,.F 47 1 46,.J 48 3 45 47,.L 49 3 48,.A 50 2 11,.L 51 3 50,.L 52 3 5,.A 53 0 11,.F 54 1 53,.D 55 f1 52 54,.D 56 f2 51 55,.D 57 f3 49 56,.J 58 3 42 44,.S 3 58 57]))))) [1,5,9,18,19,20] (.p [.I 59 .add 20 1,.M 20 59]))))))) [9] (.seq (.p [.M 60 9,.u 61 (.callf f4 [(.t 60)]),.M 6 61,.N 7 0]) .ret)))))
theorem Q7(hΓ:Holds P Γ){f fo fm:Nat}(ho:Γ fo=.dat false vw)(hm:Γ fm=.dat false Zj)(hc:check P f=some (15,(Qg fo fm).strip,[.cell 4 3 true])):Sound P f (.dat false ku):=by
 refine Qa hc jad hΓ (λargs K hcl hfi hG=>?_);match args,hG with
 | [a,b],hG=>
  obtain⟨x,rfl,hwx,hG⟩:=hG;obtain⟨k,n,rfl,rfl,h0,h1,hrx,hK⟩:=Xa hG;refine⟨by simp,?_⟩
  obtain⟨N,rfl⟩:∃N:Nat,n=N:=⟨n.toNat,by omega⟩
  rw [Int.toNat_natCast]at hK;simp only [go_sem,Qg,ho,rA,rone1];refine⟨by decide,by decide,?_⟩
  refine ja (λk:Nat=>⟨mkV [(2,.one (.ptr 2 1 0 0)),(4,.one (.ptr 4 1 0 0)),(5,.one (.ptr 5 1 0 0)),(7,.one (.lit (.int .i64 N))),(8,.one (.lit (.int .i64 k)))],mkH [(2,⟨1,some ⟨[[cb x,cn x,cd x]],3,true⟩⟩),(4,⟨1,some ⟨[[.lit (.bool false),.emp,.emp]],3,true⟩⟩),(5,⟨1,some ⟨[[cb (rcan (pw (rv x) k)),cn (rcan (pw (rv x) k)),cd (rcan (pw (rv x) k))]],3,true⟩⟩)]⟩) (λk=>k<=N) (λk=>N-k) 0 ?_ ?_ ?_
  .exact za (by simp [bitvec_to_nat]) ⟨Yc,yn,Yc,trivial⟩
  .exact Nat.zero_le _
  .intro k hk;have hz:=wC (rv x) k;have hz2:=qm hwx;have hz3:k*(rz (rv x)+2)<=64*(rz (rv x)+2):=Nat.mul_le_mul_right _ (by omega)
   by_cases hlt:k<N
   .simp only [go_sem,hlt,hm,qc];exact⟨hwx,by omega,by omega,by omega,k+1,za (by simp [bitvec_to_nat]) ⟨Yc,yn,Yc,trivial⟩,by omega,by omega⟩
   .have ek:k=N:=by omega
    subst ek;simp only [go_sem,hlt,Int.lt_irrefl,Nat.lt_irrefl];exact hK
theorem Wac(hΓ:Holds P Γ){f fk fp fm fa:Nat}(hk:Γ fk=.dat false Ym)(hp:Γ fp=.dat false ku)(hm:Γ fm=.dat false Zj)(ha:Γ fa=.dat false kk)(hc:check P f=some (40,(ze fk fp fm fa).strip,[.cell 6 3 true,.tmp 7])):Sound P f (.dat false qD):=by
 refine Qa hc wau hΓ (λargs K hcl hfi hG=>?_);match args,hG with
 | [a,b,c],hG=>
  obtain⟨p,rfl,hwp,x,rfl,hwx,y,rfl,hwy,hrp,hrx,hry,hsz,hK⟩:=hG;refine⟨by simp,?_⟩
  have hrp' : ∀t∈p,rl t.2.2<=4294967296:=λt ht=>Nat.le_trans (hrp t ht) (by decide)
  by_cases h0:chkB p=0
  .rw [if_pos h0,h0]at hK;obtain⟨i1,j1,l1⟩:=qk h0 hwp;simp only [go_sem,ze,hk,rA,h0];refine⟨hwp,hrp',λ_=>?_⟩;refine ja (λk:Nat=>⟨mkV [(4,.one (.ptr 4 1 0 0)),(5,.one (.ptr 5 1 0 0)),(6,.one (.ptr 6 1 0 0)),(9,.one (.ptr 9 1 0 0)),(18,msA p),(19,.one (.lit (.int .i64 p.length))),(20,.one (.lit (.int .i64 k)))],mkH [(4,⟨1,some ⟨[[cb x,cn x,cd x]],3,true⟩⟩),(5,⟨1,some ⟨[[cb y,cn y,cd y]],3,true⟩⟩),(6,⟨1,some ⟨[[.lit (.bool false),.emp,.emp]],3,true⟩⟩),(9,⟨1,some ⟨[if k=0 then [.lit (.bool false),.emp,.emp] else [cb (rcan (ev ((p.take k).map mv) (rv x) (rv y))),cn (rcan (ev ((p.take k).map mv) (rv x) (rv y))),cd (rcan (ev ((p.take k).map mv) (rv x) (rv y)))]],3,true⟩⟩)]⟩) (λk=>k<=p.length) (λk=>p.length-k) 0 ?_ ?_ ?_
   .rw [if_pos rfl];exact za (by simp [bitvec_to_nat,msA,ms]) ⟨Yc,Yc,yn,yn,trivial⟩
   .exact Nat.zero_le _
   .intro k hk2;by_cases hlt:k<p.length
    .obtain⟨t,ht⟩:∃t,p.getD k mo0=t:=⟨_,rfl⟩;have ht0:=getDm hlt ht;have htm:=List.mem_of_getElem? ht0;obtain⟨t1,t2,t3⟩:=i1 t htm;have hwt:=(hwp t htm).2.2;have hrt:=hrp t htm;have het:=ZaE ht0 (rv x) (rv y);have z0:=rz_0;have z1:=qm hwx;have z2:=qm hwy;have z3:=qm hwt;have z4:=wC (rv x) t.1.toNat;have z5:=wC (rv y) t.2.1.toNat;have z6:t.1.toNat*(rz (rv x)+2)<=24*(rz (rv x)+2):=Nat.mul_le_mul_right _ (by omega)
     have z7:t.2.1.toNat*(rz (rv y)+2)<=24*(rz (rv y)+2):=Nat.mul_le_mul_right _ (by omega)
     have z8:=ve (pw (rv x) t.1.toNat) (pw (rv y) t.2.1.toNat);have z9:=ve (rv t.2.2) (pw (rv x) t.1.toNat*pw (rv y) t.2.1.toNat);have z10:rz (ev ((p.take k).map mv) (rv x) (rv y))<=1000000000:=by
      have w1:=zaX (l:=(p.take k).map mv) (λu hu=>by
       obtain⟨v,hv,rfl⟩:=List.mem_map.1 hu;exact i1 v (List.mem_of_mem_take hv)) (rv x) (rv y)
      have w2:=Uo (p.map mv) k;rw [<-List.map_take]at w2;rw [List.length_map,List.length_take]at w1;have w3:=Nat.mul_le_mul (show min k p.length<=325 by omega) (show 24*(rz (rv x)+2)+24*(rz (rv y)+2)+8<=24*10002+24*10002+8 by omega)
      omega
     by_cases hk0:k=0
     .subst hk0;simp only [go_sem,hlt,ht,hp,hm,ha,mC,qc,rQ];repeat first | refine q_Wk ?_ | intro _
      refine⟨1,?_,by omega,by omega⟩
      rw [if_neg (by decide)]
      have het0:ev ((p.take 1).map mv) (rv x) (rv y)=0+rv t.2.2*(pw (rv x) t.1.toNat*pw (rv y) t.2.1.toNat):=het;rw [het0];exact za (by simp [bitvec_to_nat,msA,ms]) ⟨Yc,Yc,yn,Yc,trivial⟩
     .simp only [go_sem,hlt,ht,hp,hm,ha,mC,qc,rQ,hk0];repeat first | refine q_Wk ?_ | intro _
      refine⟨k+1,?_,by omega,by omega⟩
      rw [if_neg (by omega),het]
      exact za (by simp [bitvec_to_nat,msA,ms]) ⟨Yc,Yc,yn,Yc,trivial⟩
    .have ek:p.take k=p:=List.take_of_length_le (by omega)
     by_cases hk0:k=0
     .subst hk0;simp only [go_sem,hlt,rQ];have hp0:p=[]:=List.length_eq_zero_iff.1 (by omega)
      subst hp0;have e00:ev (([]:List Mo).map mv) (rv x) (rv y)=0:=rfl;rw [e00,rQ_0]at hK;exact hK
     .simp only [go_sem,hlt,rQ,hk0,ek];exact hK
  .rw [if_neg h0]at hK;simp only [go_sem,ze,hk,rA,h0];rw [rQ_0]at hK;exact⟨hwp,hrp',hK⟩
theorem yay(hΓ:Holds P Γ){f fk fp fm fa ft:Nat}(hk:Γ fk=.dat false Ym)(hp:Γ fp=.dat false ku)(hm:Γ fm=.dat false Zj)(ha:Γ fa=.dat false kk)(htr:Γ ft=.fresh 3 jk)(hc:check P f=some (62,(ke fk fp fm fa ft).strip,[.tmp 6,.tmp 7])):Sound P f (.dat false XO):=by
 refine Qa hc UaN hΓ (λargs K hcl hfi hG=>?_);match args,hG with
 | [a0,a1,a2],hG=>
  obtain⟨p,rfl,hwp,hG1⟩:=hG;obtain⟨b,rfl,hG2⟩:=xh hG1;obtain⟨c,rfl,hwc,hrp,hrc,hsz,hK⟩:=hG2;refine⟨by simp,?_⟩
  have hrp' : ∀t∈p,rl t.2.2<=4294967296:=λt ht=>Nat.le_trans (hrp t ht) (by decide)
  by_cases h0:chkB p=0
  case neg=>
   rw [if_neg h0]at hK;simp only [go_sem,ke,hk,rA,h0];repeat first | refine q_Wk ?_ | intro _
   exact hK
  rw [if_pos h0,h0]at hK;obtain⟨i1,j1,l1⟩:=qk h0 hwp;simp only [go_sem,ke,hk,rA,h0];repeat first | refine q_Wk ?_ | intro _
  refine ja (λk:Nat=>⟨mkV [(1,.one (.lit (.bool b))),(5,.one (.ptr 5 1 0 0)),(9,.one (.own 17 1 3 0 25)),(18,msA p),(19,.one (.lit (.int .i64 p.length))),(20,.one (.lit (.int .i64 k)))],mkH [(5,⟨1,some ⟨[[cb c,cn c,cd c]],3,true⟩⟩),(17,⟨1,some ⟨((fixL b (rv c) ((p.take k).map mv)).map rcan).map rC,3,true⟩⟩)]⟩) (λk=>k<=p.length) (λk=>p.length-k) 0 ?_ ?_ ?_
  .exact za (by simp [bitvec_to_nat,msA,ms]) ⟨Yc,⟨⟨rfl,rfl⟩,.inr (by rw [List.take_zero,List.map_nil,Xbj];exact UC 25)⟩,trivial⟩
  .exact Nat.zero_le _
  .intro k hk2;have hsP:sz ((p.take k).map mv)<=100000000:=by
    have w2:=Uo (p.map mv) k;rw [<-List.map_take]at w2;omega
   have inP:InQ ((p.take k).map mv):=λu hu=>by
    obtain⟨v,hv,rfl⟩:=List.mem_map.1 hu;exact i1 v (List.mem_of_mem_take hv)
   have lP:((p.take k).map mv).length<=325:=by rw [List.length_map,List.length_take];omega
   have z1:=qm hwc;have bF:∀j,rz (fxB b (rv c) j ((p.take k).map mv))<=1000000000:=λj=>by
    have w1:=qaV b (rv c) j inP;have w3:=Nat.mul_le_mul lP (show 24*(rz (rv c)+2)+8<=24*10002+8 by omega)
    omega
   have lF:((fixL b (rv c) ((p.take k).map mv)).map rcan).length=25:=by rw [List.length_map,qaI]
   by_cases hlt:k<p.length
   .obtain⟨t,ht⟩:∃t,p.getD k mo0=t:=⟨_,rfl⟩;have ht0:=getDm hlt ht;have htm:=List.mem_of_getElem? ht0;obtain⟨t1,t2,t3⟩:=i1 t htm;have hwt:=(hwp t htm).2.2;have hrt:=hrp t htm;have z3:=qm hwt;obtain⟨X,hX⟩:=Int.eq_ofNat_of_zero_le t1;obtain⟨Y,hY⟩:=Int.eq_ofNat_of_zero_le t2;have hsnoc:(p.take (k+1)).map mv=(p.take k).map mv++[mv t]:=by rw [List.take_add_one,ht0];simp
    cases b with
    | false=>
     have hg:=JS false (rv c) ((p.take k).map mv) (j:=Y) (by omega)
     have hst:=YE false (rv c) ((p.take k).map mv) (mv t) (j:=Y) hY;have en:(nxM false (mv t)).toNat=X:=by show t.1.toNat=X;omega
     rw [en,<-hsnoc]at hst;have ev2:(mv t).2.2=rv t.2.2:=rfl;rw [ev2]at hst;have z4:=wC (rv c) X;have z5:X*(rz (rv c)+2)<=24*(rz (rv c)+2):=Nat.mul_le_mul_right _ (by omega)
     have z6:=ve (rv t.2.2) (pw (rv c) X);have bY:=bF Y;obtain⟨v,hv⟩:∃v,fxB false (rv c) Y ((p.take k).map mv)=v:=⟨_,rfl⟩;rw [hv]at hg hst bY;obtain⟨F,hF⟩:∃F,(fixL false (rv c) ((p.take k).map mv)).map rcan=F:=⟨_,rfl⟩;rw [hF]at hg lF;simp only [go_sem,hlt,ht,hp,hm,ha,mC,hX,hY,qc,rQ,hF,hg,Xf,lF,Int.toNat_natCast,Nat.zero_add];repeat first | refine q_Wk ?_ | intro _
     refine⟨k+1,?_,by omega,by omega⟩
     rw [<-hst,List.map_set,hF];exact za (by simp [bitvec_to_nat,msA,ms]) ⟨Yc,qC (by rw [Q5]),trivial⟩
    | true=>
     have hg:=JS true (rv c) ((p.take k).map mv) (j:=X) (by omega)
     have hst:=YE true (rv c) ((p.take k).map mv) (mv t) (j:=X) hX;have en:(nxM true (mv t)).toNat=Y:=by show t.2.1.toNat=Y;omega
     rw [en,<-hsnoc]at hst;have ev2:(mv t).2.2=rv t.2.2:=rfl;rw [ev2]at hst;have z4:=wC (rv c) Y;have z5:Y*(rz (rv c)+2)<=24*(rz (rv c)+2):=Nat.mul_le_mul_right _ (by omega)
     have z6:=ve (rv t.2.2) (pw (rv c) Y);have bY:=bF X;obtain⟨v,hv⟩:∃v,fxB true (rv c) X ((p.take k).map mv)=v:=⟨_,rfl⟩;rw [hv]at hg hst bY;obtain⟨F,hF⟩:∃F,(fixL true (rv c) ((p.take k).map mv)).map rcan=F:=⟨_,rfl⟩;rw [hF]at hg lF;simp only [go_sem,hlt,ht,hp,hm,ha,mC,hX,hY,qc,rQ,hF,hg,Xf,lF,Int.toNat_natCast,Nat.zero_add];repeat first | refine q_Wk ?_ | intro _
     refine⟨k+1,?_,by omega,by omega⟩
     rw [<-hst,List.map_set,hF];exact za (by simp [bitvec_to_nat,msA,ms]) ⟨Yc,qC (by rw [Q5]),trivial⟩
   .have ek:p.take k=p:=List.take_of_length_le (by omega)
    rw [ek]at bF lF ⊢;have hFv:((fixL b (rv c) (p.map mv)).map rcan).map rv=fixL b (rv c) (p.map mv):=by
     rw [List.map_map];have:rv ∘ rcan=id:=funext λx=>qc x;rw [this,List.map_id]
    have oF:okRs 4000000000 ((fixL b (rv c) (p.map mv)).map rcan):=λx hx=>by
     obtain⟨y,hy,rfl⟩:=List.mem_map.1 hx;unfold fixL at hy;obtain⟨j,hj,rfl⟩:=List.mem_map.1 hy;exact⟨xj _,Nat.le_trans (bF j) (by decide)⟩
    have wF:∀x∈(fixL b (rv c) (p.map mv)).map rcan,WLR x:=λx hx=>(oF x hx).1;obtain⟨F,hF⟩:∃F,(fixL b (rv c) (p.map mv)).map rcan=F:=⟨_,rfl⟩;rw [hF]at hFv oF wF lF;have ht:(F.map rC).take 25=F.map rC:=List.take_of_length_le (by rw [List.length_map,lF];exact Nat.le_refl _)
    simp only [go_sem,hlt,htr,hF,List.length_map,lF,ht,hFv];exact⟨wF,oF,hK⟩
end Go.Abs
end
section
namespace Go.Abs
open Go.Num
variable {P:Program} {Γ:Nat->Spec}
def nB(b:Bool):Nat:=if b then 41 else 63
theorem nB_t:nB true=41:=rfl
theorem nB_f:nB false=63:=rfl
def JD:q_T:=q_c2 λp b K=>onMs (λp=>asBool (λb=>(∀t∈p,rl t.2.2<=1000000000)/\sz (p.map mv)<=100000000/\K (.tup [.one (.slice ((bres (chkB p) (dvB b (p.map mv))).map mC)),.one (.lit (.int .i64 (chkB p:Nat)))])) b) p
theorem Wau:Good JD:=q_g2 λ_ _=>(Ve λ_=>(Qo (λ_=>(.and λ_=>(.and λ_=>(.ret _)))) _))
attribute [go_sem] JD
def uc(f0 f1 f2 f3:Nat):AC:=(.o [.m 4 (.c (.one .emp)),.N 5 0] [0,1] (.f (.o [.M 10 0,.H 11 f0 10,.M 6 11] [0,1,6] (.o [.M 12 6,.I 13 .neq 12 0] [0,1,6,13] (.cond (.t 13) (.seq (.p [.M 14 6,.m 4 (.c (.one .emp)),.M 5 14]) .ret) .skip))) [0,1] (.o [.m 7 (.c (.one .emp))] [0,1,7] (.f (.o [.M 15 0,.Z 16 15,.N 17 0] [1,7,15,16,17] (.block 0 (.loop (.o [.B 18 .lss 17 16] [1,7,15,16,17,18] (.f (.cond (.t 18) .skip (.exit 0)) [1,7,15,16,17] (.f (.block 1 (.o [.J 19 5 15 17,.L 20 5 19,.G 9 [(.lit (.int .i64 0)),(.lit (.int .i64 0)),.z,.emp,.emp],.S 5 9 20] [1,7,9,15,16,17] (.f (.o [.M 21 1,.M 22 21,.T 23 22 true 1 9,.U 24 22 true 1 false 23,.w 25 22 true (.bin .gtr (.t 24) (.i 0)),.P 26 22 25] [1,7,9,15,16,17,26] (.cond (.t 26) (.y [.M 27 7,.A 28 0 9,.F 29 1 28,.A 30 1 9,.F 31 1 30,.I 32 .sub 31 1,.A 33 1 9,.F 34 1 33,.H 35 f1 34,.A 36 2 9,.L 37 3 36,.D 38 f2 35 37,.u 39 (.build [.x 1 (.t 29),.x 1 (.t 32),.x 3 (.t 38)]),.u 40 (.row 5 [[.x 5 (.t 39)]]),.u 41 (.app 5 (.t 27) (.t 40)),.M 7 41]) .skip)) [1,7,9,15,16,17] (.o [.M 42 1,.u 43 (.un .not (.t 42)),.M 44 43,.T 45 44 true 0 9,.U 46 44 true 1 false 45,.w 47 44 true (.bin .gtr (.t 46) (.i 0)),.P 48 44 47] [1,7,9,15,16,17,48] (.cond (.t 48) (.y [.M 49 7,.A 50 0 9,.F 51 1 50,.I 52 .sub 51 1,.A 53 1 9,.F 54 1 53,.A 55 0 9,.F 56 1 55,.H 57 f1 56,.A 58 2 9,.L 59 3 58,.D 60 f2 57 59,.u 61 (.build [.x 1 (.t 52),.x 1 (.t 54),.x 3 (.t 60)]),.u 62 (.row 5 [[.x 5 (.t 61)]]),.u 63 (.app 5 (.t 49) (.t 62)),.M 7 63]) .skip))))) [1,7,15,16,17] (.p [.I 64 .add 17 1,.M 17 64]))))))) [7] (.seq (.p [.M 65 7,.H 66 f3 65,.M 4 66,.N 5 0]) .ret)))))
theorem Wad(hΓ:Holds P Γ){f fk fo fm fs m:Nat}(hm' : 325<=m)(hk:Γ fk=.dat false Ym)(ho:Γ fo=.dat false vw)(hm:Γ fm=.dat false Zj)(hs:Γ fs=.dat false (Uv m))(hc:check P f=some (67,(uc fk fo fm fs).strip,[.tmp 4,.tmp 5])):Sound P f (.dat false JD):=by
 refine Qa hc Wau hΓ (λargs K hcl hfi hG=>?_);match args,hG with
 | [a,c],hG=>
  obtain⟨p,rfl,hwp,hG2⟩:=hG;obtain⟨b,rfl,hrp,hsz,hK⟩:=xh hG2;clear hG2;refine⟨by simp,?_⟩
  have hrp4:∀t∈p,rl t.2.2<=4294967296:=λt ht=>Nat.le_trans (hrp t ht) (by decide)
  by_cases h0:chkB p=0
  case neg=>
   rw [yW h0]at hK;simp only [go_sem,uc,hk,ms,h0];exact⟨hwp,hrp4,hK⟩
  rw [h0,qaa]at hK;obtain⟨i1,i2,i3⟩:=qk h0 hwp;simp only [go_sem,uc,hk,ms,h0];refine⟨hwp,hrp4,?_⟩;repeat first | refine q_Wk ?_ | intro _
  refine ja (λk:Nat=>if (dvM b (p.take k)).length=0 then ⟨mkV [(1,.one (.lit (.bool b))),(7,.one .emp),(15,msA p),(16,.one (.lit (.int .i64 p.length))),(17,.one (.lit (.int .i64 k)))],mkH []⟩
    else ⟨mkV [(1,.one (.lit (.bool b))),(7,.one (.own (nB b) 1 5 0 (dvM b (p.take k)).length)),(15,msA p),(16,.one (.lit (.int .i64 p.length))),(17,.one (.lit (.int .i64 k)))],mkH [(nB b,⟨1,some ⟨(dvM b (p.take k)).map mC,5,true⟩⟩)]⟩) (λk=>k<=p.length) (λk=>p.length-k) 0 ?_ ?_ ?_
  .exact za (by simp [bitvec_to_nat,msA,ms]) trivial
  .exact Nat.zero_le _
  .intro k hk';have hlk:=yT b (p.take k);rw [List.length_take]at hlk;by_cases hlt:k<p.length
   .obtain⟨x,hx⟩:∃x,p.getD k mo0=x:=⟨_,rfl⟩;have hx0:=getDm hlt hx;have hxm:=List.mem_of_getElem? hx0;have hwx:=hwp x hxm;have hrx:=hrp4 x hxm;obtain⟨j1,j2,j3⟩:=i1 x hxm;have ht:=Yam (b:=b) hx0;obtain⟨n,hn⟩:∃n,(dvM b (p.take k)).length=n:=⟨_,rfl⟩;rw [hn]at hlk ⊢;have hall:∀e∈[[C.lit (.int .i64 (dTM b x).1),C.lit (.int .i64 (dTM b x).2.1),cb (dTM b x).2.2,cn (dTM b x).2.2,cd (dTM b x).2.2]],e.length=5:=λe he=>by rw [List.mem_singleton.1 he];rfl
    have z1:=kt (n:=x.1) (by omega)
    have z2:=kt (n:=x.2.1) (by omega)
    have z3:rz (x.1:Rat)<=4294967296:=by omega
    have z4:rz (x.2.1:Rat)<=4294967296:=by omega
    have q1:-9223372036854775808<=x.1-1/\x.1-1<=9223372036854775807:=by omega
    have q2:-9223372036854775808<=x.2.1-1/\x.2.1-1<=9223372036854775807:=by omega
    have q3:=hwx.2.2;by_cases hn0:n=0
    .rw [if_pos hn0];have hnil:=List.length_eq_zero_iff.1 (hn.trans hn0);cases b
     .by_cases hz:x.1=0
      .have hxM:xM false x=x.1:=rfl;have hz2:¬(0:Int)<x.1:=by omega
       rw [hxM,if_pos hz]at ht;simp only [go_sem,hlt,hx,hm,ho,mC,hz2,hn,nB_t,nB_f];repeat first | refine q_Wk ?_ | intro _
       refine⟨k+1,?_,by omega,by omega⟩
       rw [ht,List.append_nil,hn,if_pos hn0];exact za (by simp [bitvec_to_nat,msA,ms]) trivial
      .have hxM:xM false x=x.1:=rfl;have hz2:(0:Int)<x.1:=by omega
       have hmc:(((x.1:Int):Rat))*rv x.2.2=rv x.2.2*((x.1:Int):Rat):=Rat.mul_comm _ _;rw [hxM,if_neg hz]at ht;simp only [go_sem,hlt,hx,hm,ho,mC,hz2,hn,nB_t,nB_f,hmc];repeat first | refine q_Wk ?_ | intro _
       refine⟨k+1,?_,by omega,by omega⟩
       rw [ht,List.length_append,hn,if_neg (by simp)]
       rw [hnil,hn0];exact za (by simp [bitvec_to_nat,msA,ms]) ⟨xc (by simp [mC,dTM]),trivial⟩
     .by_cases hz:x.2.1=0
      .have hxM:xM true x=x.2.1:=rfl;have hz2:¬(0:Int)<x.2.1:=by omega
       rw [hxM,if_pos hz]at ht;simp only [go_sem,hlt,hx,hm,ho,mC,hz2,hn,nB_t,nB_f];repeat first | refine q_Wk ?_ | intro _
       refine⟨k+1,?_,by omega,by omega⟩
       rw [ht,List.append_nil,hn,if_pos hn0];exact za (by simp [bitvec_to_nat,msA,ms]) trivial
      .have hxM:xM true x=x.2.1:=rfl;have hz2:(0:Int)<x.2.1:=by omega
       have hmc:(((x.2.1:Int):Rat))*rv x.2.2=rv x.2.2*((x.2.1:Int):Rat):=Rat.mul_comm _ _;rw [hxM,if_neg hz]at ht;simp only [go_sem,hlt,hx,hm,ho,mC,hz2,hn,nB_t,nB_f,hmc];repeat first | refine q_Wk ?_ | intro _
       refine⟨k+1,?_,by omega,by omega⟩
       rw [ht,List.length_append,hn,if_neg (by simp)]
       rw [hnil,hn0];exact za (by simp [bitvec_to_nat,msA,ms]) ⟨xc (by simp [mC,dTM]),trivial⟩
    .rw [if_neg hn0];cases b
     .by_cases hz:x.1=0
      .have hxM:xM false x=x.1:=rfl;have hz2:¬(0:Int)<x.1:=by omega
       rw [hxM,if_pos hz]at ht;simp only [go_sem,hlt,hx,hm,ho,mC,hz2,hn,hn0,nB_t,nB_f];repeat first | refine q_Wk ?_ | intro _
       refine⟨k+1,?_,by omega,by omega⟩
       rw [ht,List.append_nil,hn,if_neg hn0];exact za (by simp [bitvec_to_nat,msA,ms]) ⟨xc rfl,trivial⟩
      .have hxM:xM false x=x.1:=rfl;have hz2:(0:Int)<x.1:=by omega
       have hmc:(((x.1:Int):Rat))*rv x.2.2=rv x.2.2*((x.1:Int):Rat):=Rat.mul_comm _ _;rw [hxM,if_neg hz]at ht;simp only [go_sem,hlt,hx,hm,ho,mC,hz2,hn,hn0,nB_t,nB_f,hmc];repeat first | refine q_Wk ?_ | intro _
       refine⟨k+1,?_,by omega,by omega⟩
       rw [ht,List.length_append,hn,if_neg (by simp)]
       skip
       exact za (by simp [bitvec_to_nat,msA,ms]) ⟨xc (by simp [mC,dTM]),trivial⟩
     .by_cases hz:x.2.1=0
      .have hxM:xM true x=x.2.1:=rfl;have hz2:¬(0:Int)<x.2.1:=by omega
       rw [hxM,if_pos hz]at ht;simp only [go_sem,hlt,hx,hm,ho,mC,hz2,hn,hn0,nB_t,nB_f];repeat first | refine q_Wk ?_ | intro _
       refine⟨k+1,?_,by omega,by omega⟩
       rw [ht,List.append_nil,hn,if_neg hn0];exact za (by simp [bitvec_to_nat,msA,ms]) ⟨xc rfl,trivial⟩
      .have hxM:xM true x=x.2.1:=rfl;have hz2:(0:Int)<x.2.1:=by omega
       have hmc:(((x.2.1:Int):Rat))*rv x.2.2=rv x.2.2*((x.2.1:Int):Rat):=Rat.mul_comm _ _;rw [hxM,if_neg hz]at ht;simp only [go_sem,hlt,hx,hm,ho,mC,hz2,hn,hn0,nB_t,nB_f,hmc];repeat first | refine q_Wk ?_ | intro _
       refine⟨k+1,?_,by omega,by omega⟩
       rw [ht,List.length_append,hn,if_neg (by simp)]
       skip
       exact za (by simp [bitvec_to_nat,msA,ms]) ⟨xc (by simp [mC,dTM]),trivial⟩
   .have et:p.take k=p:=List.take_of_length_le (by omega)
    rw [et];have hsz2:=xZ (b:=b) i2;rw [<-uP]at hsz2;have hl2:=yT b p;have hin:InQ ((dvM b p).map mv):=by rw [uP];exact Uas i2
    have hin2:∀t∈dvM b p,inM t:=λt ht=>hin (mv t) (List.mem_map_of_mem ht);have hw2:∀t∈dvM b p,WLM t:=λt ht=>by
     unfold dvM at ht;obtain⟨u,hu,rfl⟩:=List.mem_map.1 ht;obtain⟨j1,j2,j3⟩:=hin2 _ (by unfold dvM;exact List.mem_map_of_mem hu)
     refine⟨⟨by omega,by omega⟩,⟨by omega,by omega⟩,?_⟩
     cases b <;> exact xj _
    have hr2:∀t∈dvM b p,rl t.2.2<=4294967296:=λt ht=>by
     have h1:rz (mv t).2.2<=sz ((dvM b p).map mv):=wV (List.mem_map_of_mem ht);have h2:rl t.2.2=rz (mv t).2.2:=by
      unfold dvM at ht;obtain⟨u,hu,rfl⟩:=List.mem_map.1 ht;rw [UaO];cases b <;> rfl
     omega
    have hsz3:sz ((dvM b p).map mv)<=1000000000:=by omega
    have hl3:(dvM b p).length<=m:=by omega
    have hK2:K (.tup [.one (.slice ((mcs (nf ((dvM b p).map mv))).map mC)),(.one (.lit (.int .i64 (0:Nat))))]):=by rw [uP];exact hK
    obtain⟨n,hn⟩:∃n,(dvM b p).length=n:=⟨_,rfl⟩;rw [hn];by_cases hn0:n=0
    .rw [if_pos hn0];have hnil:dvM b p=[]:=List.length_eq_zero_iff.1 (hn.trans hn0);rw [hnil]at hK2 hsz3;simp only [go_sem,hlt,hs];exact⟨by simp,by omega,by simp [sz],hK2⟩
    .rw [if_neg hn0];cases b
     all_goals
      simp only [go_sem,hlt,hs,hn,nB_t,nB_f];exact⟨hw2,λt ht=>⟨hin2 t ht,hr2 t ht⟩,by omega,hsz3,hK2⟩
end Go.Abs
end
section
namespace Go.Num
open Go.Abs
theorem QI(c:Rat):∀(q:List Rat) (k:Nat) (o:List Rat) (i:Nat),k+q.length<=o.length->(timI c q k o).getD i 0=o.getD i 0+(if k<=i then c*q.getD (i-k) 0 else 0)
 | [],k,o,i,_=>by
  simp only [timI,List.getD_nil,Rat.mul_zero];split <;> rw [Rat.add_zero]
 | y::q,k,o,i,h=>by
  simp only [List.length_cons]at h;have ih:=QI c q (k+1) (addAt o k (c*y)) i (by rw [ZH];omega)
  simp only [timI];rw [ih,YD _ _ (by omega)]
  rcases Nat.lt_trichotomy i k with h1 | h1 | h1
  .rw [if_neg (by omega),if_neg (by omega),if_neg (by omega)]
  .subst h1;rw [if_pos rfl,if_neg (by omega),if_pos (Nat.le_refl _),Nat.sub_self,Rat.add_zero];rfl
  .rw [if_neg (by omega),if_pos (by omega),if_pos (by omega),show i-k=(i-(k+1))+1 by omega,List.getD_cons_succ]
theorem UaV{l m:List Rat}(h:l.length=m.length)(hg:∀i,l.getD i 0=m.getD i 0):l=m:=by
 refine List.ext_getElem h λi h1 h2=>?_;have:=hg i
 rwa [List.getD_eq_getElem?_getD,List.getD_eq_getElem?_getD,List.getElem?_eq_getElem h1,List.getElem?_eq_getElem h2]at this
def joinO(p q:List Rat):List Rat:=p++List.replicate (max p.length q.length-p.length) 0
theorem zJ(p q:List Rat):(joinO p q).length=max p.length q.length:=by unfold joinO;rw [List.length_append,List.length_replicate];omega
theorem jL(p q:List Rat)(i:Nat):(joinO p q).getD i 0=p.getD i 0:=by
 unfold joinO;rw [List.getD_eq_getElem?_getD,List.getD_eq_getElem?_getD,List.getElem?_append,List.getElem?_replicate];split
 .rfl
 .rename_i h;rw [List.getElem?_eq_none (by omega:p.length<=i)]
  split <;> rfl
theorem va7(p q:List Rat)(c:Rat):timI c q 0 (joinO p q)=plusP p q c:=by
 refine UaV (by rw [Yu,zJ,QH]) λi=>?_
 rw [QI c q 0 _ i (by rw [zJ];omega),jL,if_pos (Nat.zero_le _),Nat.sub_zero]
 unfold plusP;by_cases h:i<max p.length q.length
 .rw [uf _ _ h]
 .have e1:p.getD i 0=0:=by rw [List.getD_eq_getElem?_getD,List.getElem?_eq_none (by omega:p.length<=i)];rfl
  have e2:q.getD i 0=0:=by rw [List.getD_eq_getElem?_getD,List.getElem?_eq_none (by omega:q.length<=i)];rfl
  have e3:((List.range (max p.length q.length)).map λi=>p.getD i 0+c*q.getD i 0).getD i 0=0:=by
   rw [List.getD_eq_getElem?_getD,List.getElem?_eq_none (by rw [List.length_map,List.length_range];omega)];rfl
  rw [e1,e2,e3,Rat.mul_zero,Rat.add_zero]
end Go.Num
namespace Go.Abs
open Go.Num
variable {P:Program} {Γ:Nat->Spec}
def qz:q_T:=q_c2 λa b K=>onLq (λp=>onLq (λq=>(∀x∈p,rz x<=10000)/\(∀x∈q,rz x<=10000)/\p.length<=210/\q.length<=210/\K (lqA (prodL p q))) b) a
theorem Qax:Good qz:=q_g2 λ_ _=>(qo λ_=>(qo λ_=>(.and λ_=>(.and λ_=>(.and λ_=>(.and λ_=>(.ret _)))))))
def Qz:q_T:=q_c3 λa b m K=>onLq (λp=>onLq (λq=>asBool (λm=>(∀x∈p,rz x<=100000000)/\(∀x∈q,rz x<=100000000)/\p.length<=500/\q.length<=500/\K (lqA (plusT p q (if m then -1 else 1)))) m) b) a
theorem xav:Good Qz:=q_g3 λ_ _ _=>(qo λ_=>(qo λ_=>(Qo (λ_=>(.and λ_=>(.and λ_=>(.and λ_=>(.and λ_=>(.ret _)))))) _)))
attribute [go_sem] qz Qz
def ye(f0 f1 f2:Nat):AC:=(.o [.m 4 (.c (.one .emp))] [0,1] (.o [.M 10 0,.Z 11 10,.M 12 1,.Z 13 12,.B 14 .add 11 13,.u 15 (.mk 3 [.z,.emp,.emp] (.t 14) (.t 14)),.M 5 15] [0,1,5] (.f (.o [.M 16 0,.Z 17 16,.N 18 0] [1,5,16,17,18] (.block 0 (.loop (.o [.B 19 .lss 18 17] [1,5,16,17,18,19] (.f (.cond (.t 19) .skip (.exit 0)) [1,5,16,17,18] (.f (.block 1 (.o [.M 20 18,.J 21 3 16 18,.L 22 3 21,.G 7 [.z,.emp,.emp],.M 6 20,.S 3 7 22] [1,5,6,7,16,17,18] (.o [.M 23 1,.Z 24 23,.N 25 0] [1,5,6,7,16,17,18,23,24,25] (.block 2 (.loop (.o [.B 26 .lss 25 24] [1,5,6,7,16,17,18,23,24,25,26] (.f (.cond (.t 26) .skip (.exit 2)) [1,5,6,7,16,17,18,23,24,25] (.f (.block 3 (.o [.M 27 25,.J 28 3 23 25,.L 29 3 28,.G 9 [.z,.emp,.emp],.M 8 27,.S 3 9 29] [1,5,6,7,8,9,16,17,18,23,24,25] (.y [.M 30 5,.M 31 6,.M 32 8,.B 33 .add 31 32,.M 34 5,.M 35 6,.M 36 8,.B 37 .add 35 36,.J 38 3 34 37,.L 39 3 38,.L 40 3 7,.L 41 3 9,.D 42 f0 40 41,.D 43 f1 39 42,.J 44 3 30 33,.S 3 44 43]))) [1,5,6,7,16,17,18,23,24,25] (.p [.I 45 .add 25 1,.M 25 45]))))))))) [1,5,16,17,18] (.p [.I 46 .add 18 1,.M 18 46]))))))) [5] (.seq (.p [.M 47 5,.u 48 (.callf f2 [(.t 47)]),.M 4 48]) .ret))))
def wh(f0 f1 f2:Nat):AC:=(.o [.m 6 (.c (.one .emp))] [0,1,2] (.o [.M 10 0,.Z 11 10,.M 12 1,.Z 13 12,.u 14 (.max [(.t 11),(.t 13)]),.u 15 (.mk 3 [.z,.emp,.emp] (.t 14) (.t 14)),.M 7 15] [0,1,2,7] (.o [.M 16 7,.M 17 0,.u 18 (.cpy 3 (.t 16) (.t 17))] [1,2,7] (.f (.o [.M 19 1,.Z 20 19,.N 21 0] [2,7,19,20,21] (.block 0 (.loop (.o [.B 22 .lss 21 20] [2,7,19,20,21,22] (.f (.cond (.t 22) .skip (.exit 0)) [2,7,19,20,21] (.f (.block 1 (.o [.M 23 21,.J 24 3 19 21,.L 25 3 24,.G 9 [.z,.emp,.emp],.M 8 23,.S 3 9 25] [2,7,8,9,19,20,21] (.f (.o [.M 26 2] [2,7,8,9,19,20,21,26] (.cond (.t 26) (.p [.L 27 3 9,.H 28 f0 27,.S 3 9 28]) .skip)) [2,7,8,9,19,20,21] (.y [.M 29 7,.M 30 8,.M 31 7,.M 32 8,.J 33 3 31 32,.L 34 3 33,.L 35 3 9,.D 36 f1 34 35,.J 37 3 29 30,.S 3 37 36])))) [2,7,19,20,21] (.p [.I 38 .add 21 1,.M 21 38]))))))) [7] (.seq (.p [.M 39 7,.u 40 (.callf f2 [(.t 39)]),.M 6 40]) .ret)))))
theorem wad(hΓ:Holds P Γ){f fm fa ft:Nat}(hm:Γ fm=.dat false Zj)(ha:Γ fa=.dat false kk)(htr:Γ ft=.fresh 3 jk)(hc:check P f=some (49,(ye fm fa ft).strip,[.tmp 4])):Sound P f (.dat false qz):=by
 refine Qa hc Qax hΓ (λargs K hcl hfi hG=>?_);match args,hG with
 | [a0,a1],hG=>
  obtain⟨p,rfl,q,rfl,hp,hq,lp,lq,hK⟩:=hG;refine⟨by simp,?_⟩
  obtain⟨N,hN⟩:∃N,p.length+q.length=N:=⟨_,rfl⟩;have hN' : (p.length:Int)+(q.length:Int)=(N:Int):=by omega
  have e:prodL p q=trimL (timO q p 0 (List.replicate N 0)):=by unfold prodL;rw [hN]
  rw [e]at hK;have r0:∀i,rz ((List.replicate N (0:Rat)).getD i 0)<=10:=λi=>by
   have:=rz_0;rw [List.getD_eq_getElem?_getD,List.getElem?_replicate];split <;> (show rz 0<=10;omega)
  have szO:∀k j,rz ((timO q (p.take k) 0 (List.replicate N 0)).getD j 0)<=900000000:=λk j=>by
   have h2:=kT hq (p:=p.take k) (k:=0) (λx hx=>hp x (List.mem_of_mem_take hx)) r0 j;have h3:(p.take k).length*(q.length*(2*10000+8))<=210*(210*(2*10000+8)):=Nat.mul_le_mul (by rw [List.length_take];omega) (Nat.mul_le_mul_right _ lq)
   omega
  simp only [go_sem,ye,hN'];repeat first | refine q_Wk ?_ | intro _
  refine ja (λk:Nat=>⟨mkV [(1,lqA q),(5,.one (.own 15 1 3 0 N)),(16,lqA p),(17,.one (.lit (.int .i64 p.length))),(18,.one (.lit (.int .i64 k)))],mkH [(15,⟨1,some ⟨((timO q (p.take k) 0 (List.replicate N 0)).map rcan).map rC,3,true⟩⟩)]⟩) (λk=>k<=p.length) (λk=>p.length-k) 0 ?_ ?_ ?_
  .have eN:((p.length:Int)+(q.length:Int)).toNat=N:=by omega
   exact za (by simp [bitvec_to_nat,lqA,eN]) ⟨J3 (by simp [timO,eN]),trivial⟩
  .exact Nat.zero_le _
  .intro k hk;obtain⟨O,hO⟩:∃O,timO q (p.take k) 0 (List.replicate N 0)=O:=⟨_,rfl⟩;have lO:O.length=N:=by rw [<-hO,UA,List.length_replicate]
   by_cases hlt:k<p.length
   .have hlt' : (k:Int)<(p.length:Int):=by omega
    obtain⟨u,hu⟩:∃u,p.getD k 0=u:=⟨_,rfl⟩;have hu1:rz u<=10000:=by rw [<-hu];exact jf hp k
    have hpk:p.take (k+1)=p.take k++[u]:=by
     rw [List.take_add_one];rw [List.getD_eq_getElem?_getD,List.getElem?_eq_getElem hlt]at hu;rw [List.getElem?_eq_getElem hlt];simp only [Option.getD_some]at hu;rw [hu];rfl
    have hnext:timO q (p.take (k+1)) 0 (List.replicate N 0)=timI u q k O:=by
     rw [hpk,zK,hO,Nat.zero_add,List.length_take,Nat.min_eq_left (by omega)]
    have hO2:∀i,rz (O.getD i 0)<=900000000:=λi=>by rw [<-hO];exact szO k i
    have szI:∀t j,rz ((timI u (q.take t) k O).getD j 0)<=1000000000:=λt j=>by
     have h2:=qT hu1 (q:=q.take t) (k:=k) (λx hx=>hq x (List.mem_of_mem_take hx)) hO2 j;have h3:(q.take t).length*(2*10000+8)<=210*(2*10000+8):=Nat.mul_le_mul_right _ (by rw [List.length_take];omega)
     omega
    simp only [go_sem,hlt,hlt',hu,Xf,hO];repeat first | refine q_Wk ?_ | intro _
    refine ja (λt:Nat=>⟨mkV [(1,lqA q),(5,.one (.own 15 1 3 0 N)),(6,.one (.lit (.int .i64 k))),(7,.one (.ptr 7 1 0 0)),(16,lqA p),(17,.one (.lit (.int .i64 p.length))),(18,.one (.lit (.int .i64 k))),(23,lqA q),(24,.one (.lit (.int .i64 q.length))),(25,.one (.lit (.int .i64 t)))],mkH [(7,⟨1,some ⟨[[cb (rcan u),cn (rcan u),cd (rcan u)]],3,true⟩⟩),(15,⟨1,some ⟨((timI u (q.take t) k O).map rcan).map rC,3,true⟩⟩)]⟩) (λt=>t<=q.length) (λt=>q.length-t) 0 ?_ ?_ ?_
    .exact za (by simp [bitvec_to_nat,lqA]) ⟨Yc,zf rfl,trivial⟩
    .exact Nat.zero_le _
    .intro t ht;obtain⟨I,hI⟩:∃I,timI u (q.take t) k O=I:=⟨_,rfl⟩;have lI:I.length=N:=by rw [<-hI,Yu,lO]
     by_cases htl:t<q.length
     .have htl' : (t:Int)<(q.length:Int):=by omega
      obtain⟨v,hv⟩:∃v,q.getD t 0=v:=⟨_,rfl⟩;have hv1:rz v<=10000:=by rw [<-hv];exact jf hq t
      have hqt:q.take (t+1)=q.take t++[v]:=by
       rw [List.take_add_one];rw [List.getD_eq_getElem?_getD,List.getElem?_eq_getElem htl]at hv;rw [List.getElem?_eq_getElem htl];simp only [Option.getD_some]at hv;rw [hv];rfl
      have hnx:timI u (q.take (t+1)) k O=I.set (k+t) (I.getD (k+t) 0+u*v):=by
       rw [hqt,xA,hI,List.length_take,Nat.min_eq_left (by omega)];rfl
      have h3:=ve u v;have h4:rz (I.getD (k+t) 0)<=1000000000:=by rw [<-hI];exact szI t _
      have e5:((k:Int)+(t:Int)).toNat=k+t:=by omega
      simp only [go_sem,htl,htl',hv,hm,ha,rQ,Xf,hI,lI,e5,Nat.zero_add,UI];repeat first | refine q_Wk ?_ | intro _
      refine⟨t+1,?_,by omega,by omega⟩
      rw [hnx];exact za (by simp [bitvec_to_nat,lqA]) ⟨Yc,zf rfl,trivial⟩
     .have et:q.take t=q:=List.take_of_length_le (by omega)
      have htl' : ¬(t:Int)<(q.length:Int):=by omega
      rw [et]at hI;simp only [go_sem,htl',et,hI];repeat first | refine q_Wk ?_ | intro _
      refine⟨k+1,?_,by omega,by omega⟩
      rw [hnext,hI];exact za (by simp [bitvec_to_nat,lqA]) ⟨zf rfl,trivial⟩
   .have ek:p.take k=p:=List.take_of_length_le (by omega)
    have hlt' : ¬(k:Int)<(p.length:Int):=by omega
    rw [ek]at hO;have ht:((O.map rcan).map rC).take N=(O.map rcan).map rC:=List.take_of_length_le (by rw [List.length_map,List.length_map,lO];exact Nat.le_refl _)
    have hr4:∀x∈O,rz x<=4000000000:=λx hx=>by
     obtain⟨i,hi⟩:=List.getElem?_of_mem hx;have:=szO p.length i;rw [List.take_length,hO,List.getD_eq_getElem?_getD,hi]at this;exact Nat.le_trans this (by decide)
    rw [hO]at hK;simp only [go_sem,hlt',htr,ek,hO,ht,lO,List.length_map];repeat first | refine q_Wk ?_ | intro _
    exact hK
theorem jac(hΓ:Holds P Γ){f fn fa ft:Nat}(hn:Γ fn=.dat false Zx)(ha:Γ fa=.dat false kk)(htr:Γ ft=.fresh 3 jk)(hc:check P f=some (41,(wh fn fa ft).strip,[.tmp 6])):Sound P f (.dat false Qz):=by
 refine Qa hc xav hΓ (λargs K hcl hfi hG=>?_);match args,hG with
 | [a0,a1,a2],hG=>
  obtain⟨p,rfl,q,rfl,hG2⟩:=hG;obtain⟨m,rfl,hp,hq,lp,lq,hK⟩:=xh hG2;clear hG2;refine⟨by simp,?_⟩
  obtain⟨N,hN⟩:∃N,max p.length q.length=N:=⟨_,rfl⟩;have hO:nrmR ((p.map rcan).map rC++List.drop p.length (List.replicate N [.lit (.bool false),.emp,.emp]))=((joinO p q).map rcan).map rC:=by
   unfold joinO;rw [kbe,xbp,List.drop_replicate,kaK,<-List.map_append,List.map_append (f:=rcan),List.map_replicate,hN]
  have lO:(joinO p q).length=N:=by rw [zJ,hN]
  obtain⟨O,hO2⟩:∃O,joinO p q=O:=⟨_,rfl⟩;obtain⟨c,hc1⟩:∃c:Rat,(if m then -1 else 1)=c:=⟨_,rfl⟩
  have hJ:=va7 p q c;have e:plusT p q c=trimL (timI c q 0 O):=by unfold plusT;rw [<-hJ,hO2]
  rw [hc1,e]at hK;rw [hO2]at lO hO;have lpN:p.length<=N:=by omega
  have rO:∀i,rz (O.getD i 0)<=100000000:=λi=>by
   rw [<-hO2,jL];exact jf hp i
  have hcz:rz c<=100000000:=by
   rw [<-hc1];have h1:=rz_1;have h2:=zC 1;split <;> omega
  have szI:∀t j,rz ((timI c (q.take t) 0 O).getD j 0)<=1000000000:=λt j=>by
   by_cases hle:(q.take t).length<=O.length
   .rw [QI c _ 0 O j (by omega),if_pos (Nat.zero_le _)]
    have h1:=rO j;have h2:=jf (L:=q.take t) (b:=100000000) (λx hx=>hq x (List.mem_of_mem_take hx)) (j-0);have h3:=qB (O.getD j 0) (c*(q.take t).getD (j-0) 0);have h4:=ve c ((q.take t).getD (j-0) 0);omega
   .rw [List.length_take]at hle;omega
  simp only [go_sem,wh,hN,hO];intro _ _;refine⟨by omega,⟨lpN,by rw [List.length_replicate];exact Nat.le_refl _⟩,λ_=>?_⟩
  refine ja (λt:Nat=>⟨mkV [(2,.one (.lit (.bool m))),(7,.one (.own 15 1 3 0 N)),(19,lqA q),(20,.one (.lit (.int .i64 q.length))),(21,.one (.lit (.int .i64 t)))],mkH [(15,⟨1,some ⟨((timI c (q.take t) 0 O).map rcan).map rC,3,true⟩⟩)]⟩) (λt=>t<=q.length) (λt=>q.length-t) 0 ?_ ?_ ?_
  .exact za (by simp [bitvec_to_nat,lqA]) ⟨zf rfl,trivial⟩
  .exact Nat.zero_le _
  .intro t ht;obtain⟨I,hI⟩:∃I,timI c (q.take t) 0 O=I:=⟨_,rfl⟩;have lI:I.length=N:=by rw [<-hI,Yu,lO]
   by_cases htl:t<q.length
   .have htl' : (t:Int)<(q.length:Int):=by omega
    have htN:t<N:=by omega
    obtain⟨v,hv⟩:∃v,q.getD t 0=v:=⟨_,rfl⟩;have hv1:rz v<=100000000:=by rw [<-hv];exact jf hq t
    have hqt:q.take (t+1)=q.take t++[v]:=by
     rw [List.take_add_one];rw [List.getD_eq_getElem?_getD,List.getElem?_eq_getElem htl]at hv;rw [List.getElem?_eq_getElem htl];simp only [Option.getD_some]at hv;rw [hv];rfl
    have hnx:timI c (q.take (t+1)) 0 O=I.set t (I.getD t 0+c*v):=by
     rw [hqt,xA,hI,List.length_take,Nat.min_eq_left (by omega),Nat.zero_add];rfl
    have h4:rz (I.getD t 0)<=1000000000:=by rw [<-hI];exact szI t _
    have h5:=zC v;cases m with
    | false=>
     have hcv:c*v=v:=by rw [<-hc1];simp
     rw [hcv]at hnx;simp only [go_sem,htl,htl',htN,hv,hn,ha,rQ,Xf,hI,lI,Nat.zero_add,UI];repeat first | refine q_Wk ?_ | intro _
     refine⟨t+1,?_,by omega,by omega⟩
     rw [hnx];exact za (by simp [bitvec_to_nat,lqA]) ⟨zf rfl,trivial⟩
    | true=>
     have hcv:c*v = -v:=by rw [<-hc1];simp;grind
     rw [hcv]at hnx;simp only [go_sem,htl,htl',htN,hv,hn,ha,rQ,Xf,hI,lI,Nat.zero_add,UI,qc];repeat first | refine q_Wk ?_ | intro _
     refine⟨t+1,?_,by omega,by omega⟩
     rw [hnx];exact za (by simp [bitvec_to_nat,lqA]) ⟨zf rfl,trivial⟩
   .have et:q.take t=q:=List.take_of_length_le (by omega)
    have htl' : ¬(t:Int)<(q.length:Int):=by omega
    rw [et]at hI;have ht2:((I.map rcan).map rC).take N=(I.map rcan).map rC:=List.take_of_length_le (by rw [List.length_map,List.length_map,lI];exact Nat.le_refl _)
    have hr4:∀x∈I,rz x<=4000000000:=λx hx=>by
     obtain⟨i,hi⟩:=List.getElem?_of_mem hx;have:=szI q.length i;rw [List.take_length,hI,List.getD_eq_getElem?_getD,hi]at this;exact Nat.le_trans this (by decide)
    rw [hI]at hK;simp only [go_sem,htl',htr,et,hI,ht2,lI,List.length_map];repeat first | refine q_Wk ?_ | intro _
    exact hK
end Go.Abs
end
section
namespace Go.Num
open Go.Abs
abbrev Pe:=Option (List Rat)
def vE(e:Pe):List Rat:=e.getD []
def vM(M:List (List Pe)):PM:=M.map λr=>r.map vE
theorem xbm(M:List (List Pe))(i j:Nat):pmG (vM M) i j=vE ((M.getD i []).getD j none):=by
 unfold pmG vM;rw [List.getD_eq_getElem?_getD,List.getD_eq_getElem?_getD,List.getElem?_map];rw [List.getD_eq_getElem?_getD,List.getD_eq_getElem?_getD];cases M[i]? with
 | none=>rfl
 | some r=>
  simp only [Option.map_some,Option.getD_some,List.getElem?_map];cases r[j]? <;> rfl
def mnE(M:List (List Pe))(k:Nat):List (List Pe):=M.tail.map λr=>r.eraseIdx k
theorem QX{α β:Type}(f:α->β):∀(l:List α) (k:Nat),(l.eraseIdx k).map f=(l.map f).eraseIdx k
 | [],k=>rfl
 | x::l,0=>rfl
 | x::l,k+1=>by simp only [List.eraseIdx_cons_succ,List.map_cons,QX f l k]
theorem Vbq(M:List (List Pe))(k:Nat):vM (mnE M k)=mnr (vM M) k:=by
 cases M with
 | nil=>rfl
 | cons r M=>
  show(M.map λr=>r.eraseIdx k).map (λr=>r.map vE)=(M.map λr=>r.map vE).map λr=>r.eraseIdx k;rw [List.map_map,List.map_map];exact List.map_congr_left λr _=>QX vE r k
def OkM(M:List (List Pe)):Prop:=(∀r∈M,r.length=M.length)/\∃D E,0<D/\D<=w22/\E<=w22/\∀i j,i<M.length->j<M.length->BdL D E (pmG (vM M) i j)/\(pmG (vM M) i j).length<=25
theorem OkM.mn{M:List (List Pe)}(h:OkM M){k:Nat}(hk:k<M.length):OkM (mnE M k):=by
 obtain⟨h1,D,E,d0,d1,d2,h2⟩:=h;have hl:(mnE M k).length=M.length-1:=by unfold mnE;rw [List.length_map,List.length_tail]
 refine⟨λr hr=>?_,D,E,d0,d1,d2,λi j hi hj=>?_⟩
 .rw [hl];unfold mnE at hr;obtain⟨r0,hr0,rfl⟩:=List.mem_map.1 hr;have h3:=h1 r0 (List.mem_of_mem_tail hr0);rw [List.length_eraseIdx,if_pos (by omega),h3]
 .rw [hl]at hi hj;rw [Vbq,qI];exact h2 (i+1) (sk k j) (by omega) (by have:=uaw (k:=k) (j:=j) (n:=M.length-1) hj;omega)
theorem kaB:∀n,n<=8->dpB 25 w22 n<w400/\w22 ^ n<w400:=by decide +kernel
theorem Uaa{L E E' : Nat}(h:E<=E'):∀n,dpB L E n<=dpB L E' n
 | 0=>Nat.le_refl _
 | n+1=>by
  simp only [dpB];exact Nat.mul_le_mul_left _ (Nat.mul_le_mul_left _ (Nat.mul_le_mul_left _ (Nat.mul_le_mul h (Uaa h n))))
theorem jbe{p q:List Rat}(hp:∀x∈p,rz x<=400)(lp:p.length<=25)(hq:∀x∈q,rz x<=400)(lq:q.length<=201):(∀x∈prodL p q,rz x<=100000000)/\(prodL p q).length<=500:=by
 refine⟨λx hx=>?_,?_⟩
 .unfold prodL at hx;obtain⟨i,hi⟩:=List.getElem?_of_mem hx;have h1:(trimL (timO q p 0 (List.replicate (p.length+q.length) 0))).getD i 0=x:=by rw [List.getD_eq_getElem?_getD,hi];rfl
  rw [XG]at h1;have h2:=kT hq (p:=p) (k:=0) (s:=10) (o:=List.replicate (p.length+q.length) 0) hp (λi=>by
   have:=rz_0;rw [List.getD_eq_getElem?_getD,List.getElem?_replicate];split <;> (show rz 0<=10;omega)) i
  rw [h1]at h2;have h3:p.length*(q.length*(2*400+8))<=25*(201*(2*400+8)):=Nat.mul_le_mul lp (Nat.mul_le_mul_right _ lq);omega
 .have:=JK p q;omega
theorem ua4{M:List (List Pe)}(h:OkM M)(h8:M.length<=8):(∀x∈detP M.length (vM M),rz x<=400)/\(detP M.length (vM M)).length<=201/\
  ∀m,M.length=m+1->∀k,k<=m+1->(∀x∈detK (λk=>detP m (mnr (vM M) k)) (vM M) k,rz x<=400)/\(detK (λk=>detP m (mnr (vM M) k)) (vM M) k).length<=300:=by
 obtain⟨h1,D,E,d0,d1,d2,h2⟩:=h;obtain⟨b1,b2⟩:=uad d0 (n:=M.length) (M:=vM M) (L:=25) (E:=E) h2;obtain⟨n1,n2⟩:=kaB _ h8;have c1:D ^ M.length<w400:=Nat.lt_of_le_of_lt (Nat.pow_le_pow_left d1 _) n2;have c2:dpB 25 E M.length<w400:=Nat.lt_of_le_of_lt (Uaa d2 _) n1;refine⟨λx hx=>rz_w (b1.mem hx) c1 c2,?_,λm hm k hk=>⟨λx hx=>?_,?_⟩⟩
 .have:=Qac (n:=M.length) (L:=25) (M:=vM M) λi j hi hj=>(h2 i j hi hj).2;omega
 .have h3:=b2 k (by omega)
  simp only [hm]at h3 c1 c2;exact rz_w (h3.mem hx) c1 c2
 .clear b2
  induction k with
  | zero=>simp [detK]
  | succ k ih=>
   have ih:=ih (by omega)
   simp only [detK,dstep];split
   .omega
   .have e1:=VH (detK (λk=>detP m (mnr (vM M) k)) (vM M) k) (prodL (pmG (vM M) 0 k) (detP m (mnr (vM M) k))) (sgn k);have e2:=JK (pmG (vM M) 0 k) (detP m (mnr (vM M) k));have e3:=(h2 0 k (by omega) (by omega)).2
    have e4:=Qac (n:=m) (L:=25) (M:=mnr (vM M) k) λi j hi hj=>by
     rw [qI];exact(h2 (i+1) (sk k j) (by omega) (by have:=uaw (k:=k) (j:=j) (n:=m) hj;omega)).2
    omega
end Go.Num
namespace Go.Abs
open Go.Num
variable {P:Program} {Γ:Nat->Spec}
def peC:Pe->C
 | none=>.emp
 | some l=>.slice ((l.map rcan).map rC)
def plE(e:Pe):List C:=[peC e]
def rowE(r:List Pe):List C:=[.slice (r.map plE)]
def pmA(M:List (List Pe)):AV:=.one (.slice (M.map rowE))
theorem Jbb:∀a b,peC a=peC b->a=b
 | none,none,_=>rfl
 | none,some _,h=>by simp [peC]at h
 | some _,none,h=>by simp [peC]at h
 | some l,some m,h=>by rw [VC l m (by unfold lqA;exact congrArg AV.one h)]
theorem ua6(a b:Pe)(h:plE a=plE b):a=b:=Jbb a b (by simpa [plE] using h)
theorem kaY(a b:List Pe)(h:rowE a=rowE b):a=b:=Qy ua6 (by simpa [rowE] using h)
theorem Uac(a b:List (List Pe))(h:pmA a=pmA b):a=b:=Qy kaY (by simpa [pmA] using h)
def onPm(k:List (List Pe)->Prop)(a:AV):Prop:=onE pmA k a
@[congr] theorem kbu{k:List (List Pe)->Prop}{a a'}(h:a=a'):onPm k a=onPm k a':=by subst h;rfl
theorem Va4(k:List (List Pe)->Prop)(M:List (List Pe)):onPm k (.one (.slice (M.map rowE)))=k M:=yf Uac k M
theorem Ya3(k:List (List Pe)->Prop):onPm k (.one (.slice []))=k []:=yf Uac k []
theorem Qbm{β:Type}{T:List (List Pe)->(β->Prop)->Prop}(h:∀l,GoodT (T l)){a:AV}:GoodT λK=>onPm (λl=>T l K) a:=
 xz (e:=pmA) (T:=T) Uac h
theorem Q6(K:List C->Prop)(M:List (List Pe))(i:Nat):getE K (M.map rowE) i=(i<M.length/\K (rowE (M.getD i []))):=by
 simp only [getE,List.length_map,List.getElem?_map];refine propext ⟨λh=>⟨h.1,h.2 _ (by simp [h.1,List.getD_eq_getElem?_getD])⟩,λh=>⟨h.1,λe he=>?_⟩⟩
 simp [h.1]at he;subst he;have:=h.2;simpa [List.getD_eq_getElem?_getD,h.1] using this
theorem waj(K:List C->Prop)(r:List Pe)(i:Nat):getE K (r.map plE) i=(i<r.length/\K (plE (r.getD i none))):=by
 simp only [getE,List.length_map,List.getElem?_map];refine propext ⟨λh=>⟨h.1,h.2 _ (by simp [h.1,List.getD_eq_getElem?_getD])⟩,λh=>⟨h.1,λe he=>?_⟩⟩
 simp [h.1]at he;subst he;have:=h.2;simpa [List.getD_eq_getElem?_getD,h.1] using this
theorem ul(r:List Pe):CleanR (r.map plE)=True:=eq_true λe he c hc=>by
 obtain⟨x,_,rfl⟩:=List.mem_map.1 he;rw [List.mem_singleton.1 hc];cases x with
 | none=>exact .emp
 | some l=>exact .slice _ (of_eq_true (xu _))
theorem uo(M:List (List Pe)):CleanR (M.map rowE)=True:=eq_true λe he c hc=>by
 obtain⟨x,_,rfl⟩:=List.mem_map.1 he;rw [List.mem_singleton.1 hc];exact .slice _ (of_eq_true (ul x))
theorem ZO(r:List Pe):Clean (.slice (r.map plE))=True:=eq_true (.slice _ (of_eq_true (ul r)))
theorem xas(M:List (List Pe)):Clean (.slice (M.map rowE))=True:=eq_true (.slice _ (of_eq_true (uo M)))
theorem WaM(r:List Pe):(∀e∈r.map plE,e.length=1)=True:=eq_true λe he=>by
 obtain⟨x,_,rfl⟩:=List.mem_map.1 he;rfl
theorem Yat(M:List (List Pe)):(∀e∈M.map rowE,e.length=1)=True:=eq_true λe he=>by
 obtain⟨x,_,rfl⟩:=List.mem_map.1 he;rfl
theorem Xae(r:List Pe):rowE r=[.slice (r.map plE)]:=eq_of_heq (HEq.refl _)
theorem UaI(e:Pe):plE e=[peC e]:=eq_of_heq (HEq.refl _)
theorem yaU(r:List Pe)(n:Nat):(r.map plE).take n=(r.take n).map plE:=by rw [List.map_take]
theorem vaX(r:List Pe)(n:Nat):(r.map plE).drop n=(r.drop n).map plE:=by rw [List.map_drop]
theorem ka6(r q:List Pe):r.map plE++q.map plE=(r++q).map plE:=by rw [List.map_append]
theorem ZaN(r:List (List Pe))(n:Nat):(r.map rowE).take n=(r.take n).map rowE:=by rw [List.map_take]
theorem kaJ(r:List (List Pe))(n:Nat):(r.map rowE).drop n=(r.drop n).map rowE:=by rw [List.map_drop]
theorem xy{h h' : Nat->HB}{z:Nat}{b:Bool}{es:List (List C)}{M:List (List Pe)}(e:es=M.map rowE):okB h h' (some ⟨es,z,b⟩) (some ⟨M.map rowE,z,b⟩):=by
 subst e;exact⟨⟨rfl,rfl⟩,.inl ⟨rfl,of_eq_true (uo M)⟩⟩
attribute [go_sem] Va4 Ya3 Q6 waj ul uo ZO xas WaM Yat yaU vaX ka6 ZaN kaJ
attribute [go_sem ↓] Va4 Ya3 Q6 waj ul uo ZO xas WaM Yat
def zo(N:Nat)(l:List AV)(K:AV->Prop):Prop:=
 match l with
 | [a]=>onPm (λM=>M.length<N/\N<=9/\OkM M/\K (lqA (detP M.length (vM M)))) a
 | _=>False
theorem uaA:type_of% @zo.eq_1:=q_E @zo.eq_1
@[congr] theorem Qbw N{K}{l l'}(h:l=l'):zo N l K=zo N l' K:=by subst h;rfl
attribute [go_sem,go_sem ↓] uaA
theorem X4(N:Nat):Good (zo N):=jr λas=>by
 unfold zo;split
 .exact(Qbm λ_=>(.and λ_=>(.and λ_=>(.and λ_=>(.ret _)))))
 .exact .of λK hk=>hk.elim
def Zd(f0 f1 f2 f3:Nat):AC:=(.o [.m 2 (.c (.one .emp))] [0] (.f (.o [.M 9 0,.Z 10 9,.I 11 .eql 10 0] [0,11] (.cond (.t 11) (.seq (.p [.u 12 (.call f0 [(.i 1)]),.u 13 (.row 3 [[.x 3 (.t 12)]]),.M 2 13]) .ret) .skip)) [0] (.o [.m 3 (.c (.one .emp))] [0,3] (.f (.o [.M 14 0,.u 15 (.idx 1 (.t 14) (.i 0)),.F 16 1 15,.Z 17 16,.N 18 0] [0,3,16,17,18] (.block 0 (.loop (.o [.B 19 .lss 18 17] [0,3,16,17,18,19] (.f (.cond (.t 19) .skip (.exit 0)) [0,3,16,17,18] (.f (.block 1 (.o [.M 20 18,.J 21 1 16 18,.F 22 1 21,.M 4 20,.M 5 22] [0,3,4,5,16,17,18] (.f (.o [.M 23 5,.Z 24 23,.I 25 .eql 24 0] [0,3,4,5,16,17,18,25] (.cond (.t 25) (.exit 1) .skip)) [0,3,4,5,16,17,18] (.o [.m 6 (.c (.one .emp))] [0,3,4,5,6,16,17,18] (.f (.o [.M 26 0,.u 27 (.sl 1 (.t 26) (some (.i 1)) none),.Z 28 27,.N 29 0] [0,3,4,5,6,16,17,18,27,28,29] (.block 2 (.loop (.o [.B 30 .lss 29 28] [0,3,4,5,6,16,17,18,27,28,29,30] (.f (.cond (.t 30) .skip (.exit 2)) [0,3,4,5,6,16,17,18,27,28,29] (.f (.block 3 (.o [.J 31 1 27 29,.F 32 1 31,.M 8 32] [0,3,4,5,6,8,16,17,18,27,28,29] (.y [.M 33 6,.m 34 (.c (.one .emp)),.M 35 8,.M 36 4,.u 37 (.sl 1 (.t 35) none (some (.t 36))),.u 38 (.app0 1 (.t 34) (.t 37)),.M 39 8,.M 40 4,.I 41 .add 40 1,.u 42 (.sl 1 (.t 39) (some (.t 41)) none),.u 43 (.app 1 (.t 38) (.t 42)),.u 44 (.rowf 1 (.t 43)),.u 45 (.app 1 (.t 33) (.t 44)),.M 6 45]))) [0,3,4,5,6,16,17,18,27,28,29] (.p [.I 46 .add 29 1,.M 29 46]))))))) [0,3,4,5,6,16,17,18] (.p [.M 47 3,.M 48 5,.M 49 6,.H 50 f1 49,.D 51 f2 48 50,.M 52 4,.I 53 .rem 52 2,.I 54 .eql 53 1,.E 55 f3 47 51 54,.M 3 55])))))) [0,3,16,17,18] (.p [.I 56 .add 18 1,.M 18 56]))))))) [3] (.seq (.p [.M 57 3,.M 2 57]) .ret)))))
theorem xaQ(hΓ:Holds P Γ){f fo fs fp fj N:Nat}(ho:Γ fo=.dat false vw)(hs:Γ fs=.dat false (zo N))(hp:Γ fp=.dat false qz)(hjo:Γ fj=.dat false Qz)(hc:check P f=some (58,(Zd fo fs fp fj).strip,[.tmp 2])):Sound P f (.dat false (zo (N+1))):=by
 refine Qa hc (X4 _) hΓ (λargs K hcl hfi hG=>?_);match args,hG with
 | [a0],hG=>
  obtain⟨M,rfl,hN,hN9,hM,hK⟩:=hG;refine⟨by simp,?_⟩
  obtain⟨s1,s2,s3⟩:=ua4 hM (by omega)
  rcases hM0:M with _ | ⟨r0,R⟩
  .subst hM0;simp only [go_sem,Zd,ho,pmA,List.map_nil,List.length_nil];refine⟨by decide,by decide,?_⟩
   rw [rone1];exact hK
  .obtain⟨m,hm⟩:∃m,R.length=m:=⟨_,rfl⟩;have hlen:M.length=m+1:=by rw [hM0,<-hm];rfl
   rw [<-hM0];have hn0:¬(M.length:Int)=0:=by omega
   have hr0:M.getD 0 []=r0:=by rw [hM0];rfl
   have hr0l:r0.length=m+1:=by rw [<-hlen];exact hM.1 r0 (by rw [hM0];simp)
   have s3:=s3 m hlen;have hdP:detP M.length (vM M)=detK (λk=>detP m (mnr (vM M) k)) (vM M) (m+1):=by rw [hlen];rfl
   rw [hdP]at hK s1 s2;obtain⟨V,hV⟩:∃V,vM M=V:=⟨_,rfl⟩;rw [hV]at hK s1 s2 s3;have hM1:(M.drop 1).length=m:=by rw [List.length_drop];omega
   have hMt:M.length-1=m:=by omega
   simp only [go_sem,Zd,pmA,hn0,hr0,Xae,hr0l];intro _;refine⟨by decide,by omega,λ_=>?_⟩
   refine ja (λk:Nat=>⟨mkV [(0,pmA M),(3,lqA (detK (λk=>detP m (mnr V k)) V k)),(16,.one (.slice (r0.map plE))),(17,.one (.lit (.int .i64 (m+1:Nat)))),(18,.one (.lit (.int .i64 k)))],mkH []⟩) (λk=>k<=m+1) (λk=>m+1-k) 0 ?_ ?_ ?_
   .exact za (by simp [bitvec_to_nat,pmA,lqA,detK]) trivial
   .exact Nat.zero_le _
   .intro k hk;by_cases hlt:k<m+1
    .obtain⟨e,he⟩:∃e,r0.getD k none=e:=⟨_,rfl⟩;have hg:pmG V 0 k=vE e:=by rw [<-hV,xbm,hr0,he]
     obtain⟨o1,o2⟩:=s3 k (by omega)
     obtain⟨o3,o4⟩:=s3 (k+1) (by omega)
     have hdk:detK (λk=>detP m (mnr V k)) V (k+1)=dstep (detK (λk=>detP m (mnr V k)) V k) (vE e) (detP m (mnr V k)) k:=by
      show dstep _ (pmG V 0 k) _ k=_;rw [hg]
     by_cases hz:vE e=[]
     .have hskip:detK (λk=>detP m (mnr V k)) V (k+1)=detK (λk=>detP m (mnr V k)) V k:=by rw [hdk];unfold dstep;rw [if_pos hz]
      obtain⟨O,hO⟩:∃O,detK (λk=>detP m (mnr V k)) V k=O:=⟨_,rfl⟩;rw [hO]at hskip;cases e with
      | none=>
       simp only [go_sem,hlt,hr0l,he,UaI,peC,hO];refine⟨by omega,k+1,?_,by omega,by omega⟩
       rw [hskip];exact za (by simp [bitvec_to_nat,pmA,lqA]) trivial
      | some l=>
       have hl0:l=[]:=hz;subst hl0;simp only [go_sem,hlt,hr0l,he,UaI,peC,hO,List.map_nil,List.length_nil];refine⟨by omega,k+1,?_,by omega,by omega⟩
       rw [hskip];exact za (by simp [bitvec_to_nat,pmA,lqA]) trivial
     .cases e with
      | none=>exact(hz rfl).elim
      | some l=>
       have hz' : l≠[]:=hz;have hl0:¬(l.length:Int)=0:=λe=>hz' (List.length_eq_zero_iff.1 (by omega))
       have hMn:=hM.mn (k:=k) (by omega)
       have hnl:(mnE M k).length=m:=by unfold mnE;rw [List.length_map,List.length_tail];omega
       have hvn:vM (mnE M k)=mnr V k:=by rw [Vbq,hV]
       obtain⟨q1,q2,_⟩:=ua4 hMn (by omega)
       rw [hnl,hvn]at q1 q2;have hent:(∀x∈l,rz x<=400)/\l.length<=25:=by
        obtain⟨_,D,E,d0,d1,d2,h2⟩:=hM;obtain⟨b1,b2⟩:=h2 0 k (by omega) (by omega)
        rw [hV,hg]at b1 b2;have hw:=kaB 1 (by decide)
        have hw2:w22<w400:=by have:=hw.2;rwa [Nat.pow_one]at this
        exact⟨λx hx=>rz_w (b1.mem hx) (Nat.lt_of_le_of_lt d1 hw2) (Nat.lt_of_le_of_lt d2 hw2),b2⟩
       have hdk2:detK (λk=>detP m (mnr V k)) V (k+1)=plusT (detK (λk=>detP m (mnr V k)) V k) (prodL l (detP m (mnr V k))) (sgn k):=by rw [hdk];unfold dstep;rw [if_neg hz];rfl
       obtain⟨O,hO⟩:∃O,detK (λk=>detP m (mnr V k)) V k=O:=⟨_,rfl⟩;rw [hO]at hdk2 o1 o2;simp only [go_sem,hlt,hr0l,he,UaI,peC,hO,hl0,List.length_map,pmA,hM1,hMt];intro _;refine⟨by omega,by omega,λ_=>?_⟩
       refine ja (λj:Nat=>if j=0 then ⟨mkV [(0,pmA M),(3,lqA O),(4,.one (.lit (.int .i64 k))),(5,lqA l),(6,.one .emp),(16,.one (.slice (r0.map plE))),(17,.one (.lit (.int .i64 (m+1:Nat)))),(18,.one (.lit (.int .i64 k))),(27,.one (.slice ((M.drop 1).map rowE))),(28,.one (.lit (.int .i64 m))),(29,.one (.lit (.int .i64 j)))],mkH []⟩
         else ⟨mkV [(0,pmA M),(3,lqA O),(4,.one (.lit (.int .i64 k))),(5,lqA l),(6,.one (.own 45 1 1 0 j)),(16,.one (.slice (r0.map plE))),(17,.one (.lit (.int .i64 (m+1:Nat)))),(18,.one (.lit (.int .i64 k))),(27,.one (.slice ((M.drop 1).map rowE))),(28,.one (.lit (.int .i64 m))),(29,.one (.lit (.int .i64 j)))],mkH [(45,⟨1,some ⟨((mnE M k).take j).map rowE,1,true⟩⟩)]⟩) (λj=>j<=m) (λj=>m-j) 0 ?_ ?_ ?_
       .have etk:List.take m (List.drop 1 M)=List.drop 1 M:=List.take_of_length_le (by omega)
        exact za (by simp [bitvec_to_nat,pmA,lqA,etk]) trivial
       .exact Nat.zero_le _
       .intro j hj;by_cases hjl:j<m
        .obtain⟨r,hr⟩:∃r,(M.drop 1).getD j []=r:=⟨_,rfl⟩;have hjM:j<(M.drop 1).length:=by omega
         have hrm:r∈M:=by
          rw [List.getD_eq_getElem?_getD,List.getElem?_eq_getElem hjM]at hr;rw [<-hr];exact List.mem_of_mem_drop (List.getElem_mem hjM)
         have hrl:r.length=m+1:=by rw [<-hlen];exact hM.1 r hrm
         have hmk:(mnE M k)[j]?=some (r.eraseIdx k):=by
          unfold mnE;rw [List.getElem?_map];have:M.tail=M.drop 1:=List.drop_one.symm;rw [this,List.getElem?_eq_getElem hjM];rw [List.getD_eq_getElem?_getD,List.getElem?_eq_getElem hjM]at hr;simp only [Option.getD_some]at hr;rw [hr];rfl
         have htk:(mnE M k).take (j+1)=(mnE M k).take j++[r.eraseIdx k]:=by rw [List.take_add_one,hmk];rfl
         have htl:((mnE M k).take j).length=j:=by rw [List.length_take];omega
         have hk1:(List.take k r).length=k:=by rw [List.length_take];omega
         have hdl:(List.drop (k+1) r).length=m-k:=by rw [List.length_drop];omega
         have hdt:List.take (m+1-(k+1)) (List.drop (k+1) r)=List.drop (k+1) r:=List.take_of_length_le (by omega)
         have hcat:List.take k r++List.drop (k+1) r=r.eraseIdx k:=(List.eraseIdx_eq_take_drop_succ r k).symm;have hcl:(r.eraseIdx k).length=m:=by rw [List.length_eraseIdx,if_pos (by omega),hrl];omega
         have hkm:k+(m-k)=m:=by omega
         have htm:List.take m (r.eraseIdx k)=r.eraseIdx k:=List.take_of_length_le (by omega)
         by_cases hj0:j=0
         .subst hj0;simp only [go_sem,hjl,hM1,hr,hrl,Xae,hk1,hdl,hdt,hcat,hcl,hkm,htm];refine⟨by omega,by omega,by omega,by omega,by omega,λe he=>by rw [List.mem_singleton.1 he];rfl,by decide,1,?_,by omega,by omega⟩
          rw [if_neg (by decide),htk]
          exact za (by simp [bitvec_to_nat,pmA,lqA]) ⟨xy rfl,trivial⟩
         .simp only [go_sem,hjl,hM1,hr,hrl,Xae,hk1,hdl,hdt,hcat,hcl,hj0,htl,hkm,htm];refine⟨by omega,by omega,by omega,by omega,by omega,λe he=>by rw [List.mem_singleton.1 he];rfl,by omega,by omega,j+1,?_,by omega,by omega⟩
          rw [if_neg (by omega),htk]
          exact za (by simp [bitvec_to_nat,pmA,lqA]) ⟨xy (by rw [List.map_append];rfl),trivial⟩
        .have ejm:j=m:=by omega
         subst ejm;have etm:(mnE M k).take j=mnE M k:=List.take_of_length_le (by omega)
         have hsg:(if (k:Int) % 2=1 then (-1:Rat) else 1)=sgn k:=by
          unfold sgn;by_cases h:k % 2=1
          .rw [if_pos h,if_pos (by omega)]
          .rw [if_neg h,if_neg (by omega)]
         have hnl2:(mnE M k).length<N:=by omega
         have q3:∀x∈detP j (mnr V k),rz x<=10000:=λx hx=>Nat.le_trans (q1 x hx) (by decide)
         have q4:∀x∈l,rz x<=10000:=λx hx=>Nat.le_trans (hent.1 x hx) (by decide)
         have q5:(∀x∈prodL l (detP j (mnr V k)),rz x<=100000000)/\(prodL l (detP j (mnr V k))).length<=500:=jbe hent.1 hent.2 q1 q2;have o5:∀x∈O,rz x<=100000000:=λx hx=>Nat.le_trans (o1 x hx) (by decide)
         have hO9:O.length<=500:=Nat.le_trans o2 (by decide)
         have hcl:=xe ((mnE M k).map rowE) (of_eq_true (uo _));by_cases hj0:j=0
         .have hme:mnE M k=[]:=List.length_eq_zero_iff.1 (by omega)
          rw [if_pos hj0];simp only [go_sem,hjl,hs,hp,hjo,hsg];have e1:detP 0 (vM [])=detP j (mnr V k):=by rw [hj0];rfl
          rw [e1];refine⟨by omega,by omega,by rw [<-hme];exact hMn,q4,q3,by omega,by omega,by decide,o5,q5.1,hO9,q5.2,by omega,k+1,?_,by omega,by omega⟩
          rw [hdk2];exact za (by simp [bitvec_to_nat,pmA,lqA]) trivial
         .rw [if_neg hj0];simp only [go_sem,hjl,etm,hs,hp,hjo,hsg,List.length_map,hnl,hcl,hvn];refine⟨by omega,by omega,hMn,q4,q3,by omega,by omega,by decide,o5,q5.1,hO9,q5.2,by omega,k+1,?_,by omega,by omega⟩
          rw [hdk2];exact za (by simp [bitvec_to_nat,pmA,lqA]) trivial
    .have ek:k=m+1:=by omega
     subst ek;refine(?_:∀R,wpA Γ (.seq (.ops false [⟨some 19,none,.bin .lss (.t 18) (.t 17)⟩]) (.fg [0,3,16,17,18,19] (.seq (.cond (.t 19) .skip (.exit 0)) (.fg [0,3,16,17,18] R)))) _ _) _;intro R;simp only [go_sem,Int.lt_irrefl,Nat.lt_irrefl];exact hK
variable {L:List (Nat×Spec)}
theorem waw(hΓ:Holds P (Gl L)){f fo fp fj:Nat}(n1:fo≠f)(n2:fp≠f)(n3:fj≠f)(ho:Gl L fo=.dat false vw)(hp:Gl L fp=.dat false qz)(hj:Gl L fj=.dat false Qz)(hc:check P f=some (58,(Zd fo f fp fj).strip,[.tmp 2])):Sound P f (.dat false (zo 9)):=by
 have key:∀N,Sound P f (.dat false (zo N)):=by
  intro N
  induction N with
  | zero=>
   refine Qa hc (X4 _) hΓ (λargs K hcl hfi hG=>?_);unfold zo at hG;split at hG
   .obtain⟨M,_,h,_⟩:=hG;omega
   .exact hG.elim
  | succ N ih=>
   have hh:Holds P (Gl ((f,.dat false (zo N))::L)):=Za hΓ ih;refine xaQ (Γ:=Gl ((f,.dat false (zo N))::L)) hh (fs:=f) ?_ ?_ ?_ ?_ hc
   .unfold Gl;rw [if_neg n1];exact ho
   .unfold Gl;rw [if_pos rfl]
   .unfold Gl;rw [if_neg n2];exact hp
   .unfold Gl;rw [if_neg n3];exact hj
 exact key 9
end Go.Abs
end
section
namespace Go.Num
open Go.Abs
theorem Vbm(L Y:Nat):mx ((L-1:Nat):Int) (Y:Int)=((max L (Y+1)-1:Nat):Int):=by
 unfold mx;split <;> omega
theorem Jah(j:Nat):rowY [] j=List.replicate 25 0:=by
 unfold rowY;refine List.ext_getElem (by rw [List.length_map,List.length_range,List.length_replicate]) λi h1 h2=>?_
 rw [List.getElem_map,List.getElem_replicate];rfl
theorem XW{p:BQ}{t:MQ}{j:Nat}(h:t.2.1≠(j:Int)):rowY (p++[t]) j=rowY p j:=by
 unfold rowY;refine List.map_congr_left λi _=>?_;rw [Ql];simp only [cf];rw [if_neg (λe=>h e.2),Rat.zero_add,Rat.add_zero]
theorem xaj{p:BQ}{t:MQ}{X j:Nat}(hs:StrM (p++[t]))(hi:InQ (p++[t]))(h1:t.1=(X:Int))(h2:t.2.1=(j:Int))(hX:X<25):(rowY p j).set X t.2.2=rowY (p++[t]) j:=by
 have hn:=va3 hs hi;rw [h1,h2]at hn;unfold rowY;refine List.ext_getElem (by simp) λi a b=>?_
 rw [List.getElem_set];simp only [List.length_set,List.length_map,List.length_range]at a;simp only [List.getElem_map,List.getElem_range];rw [Ql];simp only [cf];by_cases e:X=i
 .subst e;rw [if_pos rfl,if_pos ⟨h1,h2⟩,hn,Rat.zero_add,Rat.add_zero]
 .rw [if_neg e,if_neg (λh=>e (by have:=h.1;omega)),Rat.zero_add,Rat.add_zero]
def rwsT(p:BQ)(n:Nat):PL:=(List.range n).map λj=>trimL (rowY p j)
theorem UE(p:BQ)(n:Nat):(rwsT p n).length=n:=by unfold rwsT;rw [List.length_map,List.length_range]
theorem wbq(p:BQ)(n:Nat):rwsT p (n+1)=rwsT p n++[trimL (rowY p n)]:=by unfold rwsT;rw [List.range_succ,List.map_append];rfl
end Go.Num
namespace Go.Abs
open Go.Num
variable {P:Program} {Γ:Nat->Spec}
theorem UF{h h' : Nat->HB}{z:Nat}{b:Bool}{es:List (List C)}{L:PL}(e:es=L.map plC):okB h h' (some ⟨es,z,b⟩) (some ⟨L.map plC,z,b⟩):=by
 subst e;exact⟨⟨rfl,rfl⟩,.inl ⟨rfl,of_eq_true (QB L)⟩⟩
def JM:q_T:=q_c1 λa K=>onMs (λp=>chkB p=0/\p≠[]/\(∀t∈p,rl t.2.2<=4000000000)/\K (.one (.slice ((rowsP (p.map mv)).map plC)))) a
theorem ZaG:Good JM:=q_g1 λ_=>(Ve λ_=>(.and λ_=>(.and λ_=>(.and λ_=>(.ret _)))))
attribute [go_sem] JM
def ki(f0:Nat):AC:=(.o [.m 2 (.c (.one .emp))] [0] (.o [.N 3 0] [0,3] (.f (.o [.M 11 0,.Z 12 11,.N 13 0] [0,3,11,12,13] (.block 0 (.loop (.o [.B 14 .lss 13 12] [0,3,11,12,13,14] (.f (.cond (.t 14) .skip (.exit 0)) [0,3,11,12,13] (.f (.block 1 (.o [.J 15 5 11 13,.L 16 5 15,.G 5 [(.lit (.int .i64 0)),(.lit (.int .i64 0)),.z,.emp,.emp],.S 5 5 16] [0,3,5,11,12,13] (.p [.M 17 3,.A 18 1 5,.F 19 1 18,.u 20 (.max [(.t 17),(.t 19)]),.M 3 20]))) [0,3,11,12,13] (.p [.I 21 .add 13 1,.M 13 21]))))))) [0,3] (.o [.m 6 (.c (.one .emp))] [0,3,6] (.f (.o [.M 22 3,.I 23 .add 22 1,.N 24 0] [0,6,23,24] (.block 2 (.loop (.o [.B 25 .lss 24 23] [0,6,23,24,25] (.f (.cond (.t 25) .skip (.exit 2)) [0,6,23,24] (.f (.block 3 (.o [.M 26 24,.M 7 26] [0,6,7,23,24] (.o [.u 27 (.mk 3 [.z,.emp,.emp] (.i 25) (.i 25)),.M 8 27] [0,6,7,8,23,24] (.f (.o [.M 28 0,.Z 29 28,.N 30 0] [0,6,7,8,23,24,28,29,30] (.block 4 (.loop (.o [.B 31 .lss 30 29] [0,6,7,8,23,24,28,29,30,31] (.f (.cond (.t 31) .skip (.exit 4)) [0,6,7,8,23,24,28,29,30] (.f (.block 5 (.o [.J 32 5 28 30,.L 33 5 32,.G 10 [(.lit (.int .i64 0)),(.lit (.int .i64 0)),.z,.emp,.emp],.S 5 10 33] [0,6,7,8,10,23,24,28,29,30] (.o [.A 34 1 10,.F 35 1 34,.M 36 7,.B 37 .eql 35 36] [0,6,7,8,10,23,24,28,29,30,37] (.cond (.t 37) (.p [.M 38 8,.A 39 0 10,.F 40 1 39,.A 41 2 10,.L 42 3 41,.J 43 3 38 40,.S 3 43 42]) .skip)))) [0,6,7,8,23,24,28,29,30] (.p [.I 44 .add 30 1,.M 30 44]))))))) [0,6,8,23,24] (.p [.M 45 6,.M 46 8,.u 47 (.callf f0 [(.t 46)]),.u 48 (.row 1 [[.x 1 (.t 47)]]),.u 49 (.app 1 (.t 45) (.t 48)),.M 6 49]))))) [0,6,23,24] (.p [.I 50 .add 24 1,.M 24 50]))))))) [6] (.seq (.p [.M 51 6,.M 2 51]) .ret))))))
set_option maxHeartbeats 1000000 in
theorem uau(hΓ:Holds P Γ){f ft:Nat}(htr:Γ ft=.fresh 3 jk)(hc:check P f=some (52,(ki ft).strip,[.tmp 2])):Sound P f (.dat false JM):=by
 refine Qa hc ZaG hΓ (λargs K hcl hfi hG=>?_);match args,hG with
 | [a0],hG=>
  obtain⟨p,rfl,hwp,h0,hne,hr,hK⟩:=hG;refine⟨by simp,?_⟩
  obtain⟨hcan,hmc⟩:=We h0 hwp;obtain⟨i1,j1,l1⟩:=qk h0 hwp;have hpk:∀k t,p[k]?=some t->(p.take (k+1)).map mv=(p.take k).map mv++[mv t]:=λk t ht=>by rw [List.take_add_one,ht];simp
  have hin:∀k,InQ ((p.take k).map mv):=λk u hu=>by
   obtain⟨v,hv,rfl⟩:=List.mem_map.1 hu;exact i1 v (List.mem_of_mem_take hv)
  have hstr:∀k,StrM ((p.take k).map mv):=λk=>by
   rw [List.map_take];exact hcan.str.sublist (List.take_sublist _ _)
  obtain⟨N,hN⟩:∃N,topY (p.map mv)=N:=⟨_,rfl⟩;have hN25:N<=25:=by rw [<-hN];exact ZE j1
  have hN0:0<N:=by rw [<-hN];exact jv (λe=>hne (List.map_eq_nil_iff.1 e))
  have hrw:rowsP (p.map mv)=rwsT (p.map mv) N:=by unfold rowsP rwsT;rw [hN]
  rw [hrw]at hK;simp only [go_sem,ki];intro _;refine ja (λk:Nat=>⟨mkV [(0,msA p),(3,.one (.lit (.int .i64 (topY ((p.take k).map mv)-1:Nat)))),(11,msA p),(12,.one (.lit (.int .i64 p.length))),(13,.one (.lit (.int .i64 k)))],mkH []⟩) (λk=>k<=p.length) (λk=>p.length-k) 0 ?_ ?_ ?_
  .exact za (by simp [bitvec_to_nat,msA,ms,topY]) trivial
  .exact Nat.zero_le _
  .intro k hk;by_cases hlt:k<p.length
   .obtain⟨t,ht⟩:∃t,p.getD k mo0=t:=⟨_,rfl⟩;have ht0:=getDm hlt ht;have htm:=List.mem_of_getElem? ht0;obtain⟨t1,t2,t3⟩:=i1 t htm;obtain⟨Y,hY⟩:=Int.eq_ofNat_of_zero_le t2;have hnx:topY ((p.take (k+1)).map mv)=max (topY ((p.take k).map mv)) (Y+1):=by
     rw [hpk k t ht0,uaa];have:(mv t).2.1.toNat=Y:=by show t.2.1.toNat=Y;omega
     rw [this]
    have hm:=Vbm (topY ((p.take k).map mv)) Y;obtain⟨L,hL⟩:∃L,topY ((p.take k).map mv)=L:=⟨_,rfl⟩;rw [hL]at hm hnx;simp only [go_sem,hlt,ht,mC,hY,hL,hm];refine⟨by omega,k+1,?_,by omega,by omega⟩
    rw [hnx];exact za (by simp [bitvec_to_nat,msA,ms]) trivial
   .have ek:p.take k=p:=List.take_of_length_le (by omega)
    have hNN:((N-1:Nat):Int)+1=(N:Int):=by omega
    simp only [go_sem,hlt,ek,hN,hNN];refine⟨by omega,?_⟩
    refine ja (λj:Nat=>if j=0 then ⟨mkV [(0,msA p),(6,.one .emp),(23,.one (.lit (.int .i64 N))),(24,.one (.lit (.int .i64 j)))],mkH []⟩
      else ⟨mkV [(0,msA p),(6,.one (.own 49 1 1 0 j)),(23,.one (.lit (.int .i64 N))),(24,.one (.lit (.int .i64 j)))],mkH [(49,⟨1,some ⟨(rwsT (p.map mv) j).map plC,1,true⟩⟩)]⟩) (λj=>j<=N) (λj=>N-j) 0 ?_ ?_ ?_
    .exact za (by simp [bitvec_to_nat,msA,ms]) trivial
    .exact Nat.zero_le _
    .intro j hj;by_cases hjl:j<N
     .have hjs:=wbq (p.map mv) j;have hjn:=UE (p.map mv) j;by_cases hj0:j=0
      .subst hj0;simp only [go_sem,hjl,hjn];refine⟨by decide,λ_=>?_⟩
       refine ja (λk:Nat=>⟨mkV [(0,msA p),(6,.one .emp),(7,.one (.lit (.int .i64 0))),(8,.one (.own 27 1 3 0 25)),(23,.one (.lit (.int .i64 N))),(24,.one (.lit (.int .i64 0))),(28,msA p),(29,.one (.lit (.int .i64 p.length))),(30,.one (.lit (.int .i64 k)))],mkH [(27,⟨1,some ⟨((rowY ((p.take k).map mv) 0).map rcan).map rC,3,true⟩⟩)]⟩) (λk=>k<=p.length) (λk=>p.length-k) 0 ?_ ?_ ?_
       .exact za (by simp [bitvec_to_nat,msA,ms]) ⟨J3 (Jah 0),trivial⟩
       .exact Nat.zero_le _
       .intro k hk2;by_cases hlt2:k<p.length
        .obtain⟨t,ht⟩:∃t,p.getD k mo0=t:=⟨_,rfl⟩;have ht0:=getDm hlt2 ht;have htm:=List.mem_of_getElem? ht0;have htu:t∈mcs (p.map mv):=by rw [hmc];exact htm
         obtain⟨⟨ux,uy,v⟩,_,hut⟩:=List.mem_map.1 htu;obtain⟨t1,t2,t3⟩:=i1 t htm;have hpn:=hpk k t ht0;rw [<-hut]at t1 t2 t3 hpn ht;obtain⟨X,hX⟩:=Int.eq_ofNat_of_zero_le t1;obtain⟨Y,hY⟩:=Int.eq_ofNat_of_zero_le t2;have hX' : ux=(X:Int):=hX;have hY' : uy=(Y:Int):=hY;subst hX' hY';have hmt:mcan ((X:Int),(Y:Int),v)=((X:Int),(Y:Int),rcan v):=rfl;rw [hmt]at hpn ht;have hmv:mv ((X:Int),(Y:Int),rcan v)=((X:Int),(Y:Int),v):=by unfold mv;simp only [qc]
         rw [hmv]at hpn;have t3' : (X:Int)+(Y:Int)<=24:=t3;have hX25:X<25:=by omega
         have hYl:=zy ((p.take k).map mv) 0;by_cases hYj:Y=0
         .have hYi:((Y:Int)=(0:Int)):=by omega
          have hset:=xaj (p:=(p.take k).map mv) (t:=((X:Int),(Y:Int),v)) (X:=X) (j:=0) (by rw [<-hpn];exact hstr (k+1)) (by rw [<-hpn];exact hin (k+1)) rfl (by show(Y:Int)=0;exact hYi) hX25
          obtain⟨F,hF⟩:∃F,rowY ((p.take k).map mv) 0=F:=⟨_,rfl⟩;rw [hF]at hset hYl;simp only [go_sem,hlt2,ht,mC,hYj,hF,hYl,hX25,Xf,UI,Int.toNat_natCast,Nat.zero_add];repeat first | refine q_Wk ?_ | intro _
          refine⟨k+1,?_,by omega,by omega⟩
          rw [hpn,<-hset];exact za (by simp [bitvec_to_nat,msA,ms]) ⟨zf rfl,trivial⟩
         .have hYi:¬((Y:Int)=(0:Int)):=by omega
          have hsame:=XW (p:=(p.take k).map mv) (t:=((X:Int),(Y:Int),v)) (j:=0) hYi;simp only [go_sem,hlt2,ht,mC,hYi];repeat first | refine q_Wk ?_ | intro _
          refine⟨k+1,?_,by omega,by omega⟩
          rw [hpn,hsame];exact za (by simp [bitvec_to_nat,msA,ms]) ⟨zf rfl,trivial⟩
        .have ek2:p.take k=p:=List.take_of_length_le (by omega)
         have hYl:=zy (p.map mv) 0;have hr4:∀x∈rowY (p.map mv) 0,rz x<=4000000000:=λx hx=>by
          unfold rowY at hx;obtain⟨i,_,rfl⟩:=List.mem_map.1 hx;refine vaV _ _ hcan.str hcan.ins λu hu=>?_;obtain⟨v,hv,rfl⟩:=List.mem_map.1 hu;exact Nat.le_trans (qm (hwp v hv).2.2) (hr v hv)
         obtain⟨F,hF⟩:∃F,rowY (p.map mv) 0=F:=⟨_,rfl⟩;rw [hF]at hYl hr4 hjs;have ht2:((F.map rcan).map rC).take 25=(F.map rcan).map rC:=List.take_of_length_le (by rw [List.length_map,List.length_map,hYl];exact Nat.le_refl _)
         have htk:((rwsT (p.map mv) 0).map plC).take 0=(rwsT (p.map mv) 0).map plC:=List.take_of_length_le (by rw [List.length_map,UE];exact Nat.le_refl _)
         simp only [go_sem,hlt2,ek2,hF,hYl,ht2,htr,List.length_map];refine⟨hr4,λe he=>by rw [List.mem_singleton.1 he];rfl,by decide,1,?_,by omega,by omega⟩
         rw [if_neg (by omega),hjs]
         exact za (by simp [bitvec_to_nat,msA,ms]) ⟨UF (by rfl),trivial⟩
      .skip
       simp only [go_sem,hjl,hj0,hjn];refine⟨by decide,λ_=>?_⟩
       refine ja (λk:Nat=>⟨mkV [(0,msA p),(6,.one (.own 49 1 1 0 j)),(7,.one (.lit (.int .i64 j))),(8,.one (.own 27 1 3 0 25)),(23,.one (.lit (.int .i64 N))),(24,.one (.lit (.int .i64 j))),(28,msA p),(29,.one (.lit (.int .i64 p.length))),(30,.one (.lit (.int .i64 k)))],mkH [(27,⟨1,some ⟨((rowY ((p.take k).map mv) j).map rcan).map rC,3,true⟩⟩),(49,⟨1,some ⟨(rwsT (p.map mv) j).map plC,1,true⟩⟩)]⟩) (λk=>k<=p.length) (λk=>p.length-k) 0 ?_ ?_ ?_
       .exact za (by simp [bitvec_to_nat,msA,ms]) ⟨J3 (Jah j),UF rfl,trivial⟩
       .exact Nat.zero_le _
       .intro k hk2;by_cases hlt2:k<p.length
        .obtain⟨t,ht⟩:∃t,p.getD k mo0=t:=⟨_,rfl⟩;have ht0:=getDm hlt2 ht;have htm:=List.mem_of_getElem? ht0;have htu:t∈mcs (p.map mv):=by rw [hmc];exact htm
         obtain⟨⟨ux,uy,v⟩,_,hut⟩:=List.mem_map.1 htu;obtain⟨t1,t2,t3⟩:=i1 t htm;have hpn:=hpk k t ht0;rw [<-hut]at t1 t2 t3 hpn ht;obtain⟨X,hX⟩:=Int.eq_ofNat_of_zero_le t1;obtain⟨Y,hY⟩:=Int.eq_ofNat_of_zero_le t2;have hX' : ux=(X:Int):=hX;have hY' : uy=(Y:Int):=hY;subst hX' hY';have hmt:mcan ((X:Int),(Y:Int),v)=((X:Int),(Y:Int),rcan v):=rfl;rw [hmt]at hpn ht;have hmv:mv ((X:Int),(Y:Int),rcan v)=((X:Int),(Y:Int),v):=by unfold mv;simp only [qc]
         rw [hmv]at hpn;have t3' : (X:Int)+(Y:Int)<=24:=t3;have hX25:X<25:=by omega
         have hYl:=zy ((p.take k).map mv) j;by_cases hYj:Y=j
         .have hYi:((Y:Int)=(j:Int)):=by omega
          have hset:=xaj (p:=(p.take k).map mv) (t:=((X:Int),(Y:Int),v)) (X:=X) (j:=j) (by rw [<-hpn];exact hstr (k+1)) (by rw [<-hpn];exact hin (k+1)) rfl (by show(Y:Int)=j;exact hYi) hX25
          obtain⟨F,hF⟩:∃F,rowY ((p.take k).map mv) j=F:=⟨_,rfl⟩;rw [hF]at hset hYl;simp only [go_sem,hlt2,ht,mC,hYj,hF,hYl,hX25,Xf,UI,Int.toNat_natCast,Nat.zero_add];repeat first | refine q_Wk ?_ | intro _
          refine⟨k+1,?_,by omega,by omega⟩
          rw [hpn,<-hset];exact za (by simp [bitvec_to_nat,msA,ms]) ⟨zf rfl,UF rfl,trivial⟩
         .have hYi:¬((Y:Int)=(j:Int)):=by omega
          have hsame:=XW (p:=(p.take k).map mv) (t:=((X:Int),(Y:Int),v)) (j:=j) hYi;simp only [go_sem,hlt2,ht,mC,hYi];repeat first | refine q_Wk ?_ | intro _
          refine⟨k+1,?_,by omega,by omega⟩
          rw [hpn,hsame];exact za (by simp [bitvec_to_nat,msA,ms]) ⟨zf rfl,UF rfl,trivial⟩
        .have ek2:p.take k=p:=List.take_of_length_le (by omega)
         have hYl:=zy (p.map mv) j;have hr4:∀x∈rowY (p.map mv) j,rz x<=4000000000:=λx hx=>by
          unfold rowY at hx;obtain⟨i,_,rfl⟩:=List.mem_map.1 hx;refine vaV _ _ hcan.str hcan.ins λu hu=>?_;obtain⟨v,hv,rfl⟩:=List.mem_map.1 hu;exact Nat.le_trans (qm (hwp v hv).2.2) (hr v hv)
         obtain⟨F,hF⟩:∃F,rowY (p.map mv) j=F:=⟨_,rfl⟩;rw [hF]at hYl hr4 hjs;have ht2:((F.map rcan).map rC).take 25=(F.map rcan).map rC:=List.take_of_length_le (by rw [List.length_map,List.length_map,hYl];exact Nat.le_refl _)
         have htk:((rwsT (p.map mv) j).map plC).take j=(rwsT (p.map mv) j).map plC:=List.take_of_length_le (by rw [List.length_map,UE];exact Nat.le_refl _)
         simp only [go_sem,hlt2,ek2,hF,hYl,ht2,htr,List.length_map,hjn,htk];refine⟨hr4,λe he=>by rw [List.mem_singleton.1 he];rfl,by omega,by omega,j+1,?_,by omega,by omega⟩
         rw [if_neg (by omega),hjs]
         exact za (by simp [bitvec_to_nat,msA,ms]) ⟨UF (by rw [List.map_append];rfl),trivial⟩
     .have ej:j=N:=by omega
      subst ej;have hn0:¬j=0:=by omega
      have hjn:=UE (p.map mv) j;have htk:((rwsT (p.map mv) j).map plC).take j=(rwsT (p.map mv) j).map plC:=List.take_of_length_le (by rw [List.length_map,hjn];exact Nat.le_refl _)
      rw [if_neg hn0];refine(?_:∀R,wpA Γ (.seq (.ops false [⟨some 25,none,.bin .lss (.t 24) (.t 23)⟩]) (.fg [0,6,23,24,25] (.seq (.cond (.t 25) .skip (.exit 2)) (.fg [0,6,23,24] R)))) _ _) _;intro R;simp only [go_sem,hjl,htk,List.length_map,hjn];exact hK
end Go.Abs
end
section
namespace Go.Num
open Go.Abs
def fil(N c:Nat)(a:PL)(K:Nat):List Pe:=(List.range N).map λj=>if j<=c/\c-j<K then some (a.getD (c-j) []) else none
theorem yu(N c:Nat)(a:PL)(K:Nat):(fil N c a K).length=N:=by unfold fil;rw [List.length_map,List.length_range]
theorem jaU(N c:Nat)(a:PL):fil N c a 0=List.replicate N none:=by
 unfold fil;refine List.ext_getElem (by rw [List.length_map,List.length_range,List.length_replicate]) λi h1 h2=>?_
 rw [List.getElem_map,List.getElem_replicate,if_neg (by omega)]
theorem waT{N c:Nat}{a:PL}{K:Nat}(h:K<=c)(h2:c-K<N):(fil N c a K).set (c-K) (some (a.getD K []))=fil N c a (K+1):=by
 unfold fil;refine List.ext_getElem (by simp) λi h3 h4=>?_
 rw [List.getElem_set];simp only [List.length_map,List.length_range]at h4;simp only [List.getElem_map,List.getElem_range];by_cases e:c-K=i
 .rw [if_pos e,if_pos (by omega),show c-i=K by omega]
 .rw [if_neg e];by_cases h5:i<=c/\c-i<K
  .rw [if_pos h5,if_pos (by omega)]
  .rw [if_neg h5,if_neg (by omega)]
theorem Vbh{N c:Nat}{a:PL}{j:Nat}(hj:j<N):vE ((fil N c a a.length).getD j none)=if j<=c then a.getD (c-j) [] else []:=by
 unfold fil;rw [uf _ _ hj];by_cases h:j<=c
 .rw [if_pos h];by_cases h2:c-j<a.length
  .rw [if_pos ⟨h,h2⟩];rfl
  .rw [if_neg (λe=>h2 e.2),List.getD_eq_getElem?_getD,List.getElem?_eq_none (by omega)];rfl
 .rw [if_neg h,if_neg (λe=>h e.1)];rfl
def rwE(a b:PL)(i:Nat):List Pe:=if i<b.length-1 then fil (a.length-1+(b.length-1)) (i+(a.length-1)) a a.length else fil (a.length-1+(b.length-1)) i b b.length
def mxE(a b:PL)(n:Nat):List (List Pe):=(List.range n).map (rwE a b)
theorem Qaf(a b:PL)(n:Nat):(mxE a b n).length=n:=by unfold mxE;rw [List.length_map,List.length_range]
theorem qbv(a b:PL)(n:Nat):mxE a b (n+1)=mxE a b n++[rwE a b n]:=by unfold mxE;rw [List.range_succ,List.map_append];rfl
theorem Uab(a b:PL)(i:Nat):(rwE a b i).length=a.length-1+(b.length-1):=by
 unfold rwE;split <;> exact yu ..
theorem ubl(a b:PL):vM (mxE a b (a.length-1+(b.length-1)))=sylP a b:=by
 unfold vM mxE sylP;rw [List.map_map];refine List.map_congr_left λi hi=>?_;show(rwE a b i).map vE=_;refine List.ext_getElem (by rw [List.length_map,Uab,List.length_map,List.length_range]) λj h1 h2=>?_
 rw [List.length_map,Uab]at h1;rw [List.getElem_map,List.getElem_map,List.getElem_range];have e:∀(l:List Pe) (h:j<l.length),l[j]=l.getD j none:=λl h=>by rw [List.getD_eq_getElem?_getD,List.getElem?_eq_getElem h];rfl
 rw [e];unfold rwE sylE;split
 .exact Vbh h1
 .exact Vbh h1
theorem Wbf{a b:PL}{Q:List Rat->Prop}(h0:Q [])(ha:∀l∈a,Q l)(hb:∀l∈b,Q l)(i j:Nat):Q (sylE a b i j):=by
 have g:∀(c:PL),(∀l∈c,Q l)->∀k,Q (c.getD k []):=λc hc k=>by
  rw [List.getD_eq_getElem?_getD];cases e:c[k]? with
  | none=>exact h0
  | some l=>exact hc l (List.mem_of_getElem? e)
 unfold sylE;split
 .split
  .exact g a ha _
  .exact h0
 .split
  .exact g b hb _
  .exact h0
theorem Ubt{p q:BQ}(hp:Canon p)(hq:Canon q)(hs:SmE p q):OkM (mxE (rowsP p) (rowsP q) ((rowsP p).length-1+((rowsP q).length-1))):=by
 obtain⟨D,E,d0,d1,d2,b1,b2⟩:=hs;refine⟨λr hr=>?_,D,E,d0,d1,d2,λi j hi hj=>?_⟩
 .rw [Qaf];unfold mxE at hr;obtain⟨i,_,rfl⟩:=List.mem_map.1 hr;exact Uab _ _ _
 .rw [Qaf]at hi hj;rw [ubl,VT hi hj];exact Wbf (Q:=λl=>BdL D E l/\l.length<=25) ⟨BdL.nil d0,by simp⟩ (λl hl=>⟨zH d0 hp b1 hl,(Vx hl).2⟩) (λl hl=>⟨zH d0 hq b2 hl,(Vx hl).2⟩) i j
end Go.Num
namespace Go.Abs
open Go.Num
variable {P:Program} {Γ:Nat->Spec}
theorem wT(r:List Pe)(i:Nat)(l:List Rat):(r.map plE).set i [.slice ((l.map rcan).map rC)]=(r.set i (some l)).map plE:=by rw [List.map_set];rfl
theorem kE{h h' : Nat->HB}{z:Nat}{b:Bool}{es:List (List C)}{r:List Pe}(e:es=r.map plE):okB h h' (some ⟨es,z,b⟩) (some ⟨r.map plE,z,b⟩):=by
 subst e;exact⟨⟨rfl,rfl⟩,.inl ⟨rfl,of_eq_true (ul r)⟩⟩
theorem jT(e:Pe):(plE e).length=1:=rfl
theorem VB(e:Pe):List.drop 1 (plE e)=[]:=rfl
theorem kU(n:Nat):List.replicate n [C.emp]=(List.replicate n (none:Pe)).map plE:=by rw [List.map_replicate];rfl
def VD:q_T:=q_c2 λa b K=>onMs (λp=>onMs (λq=>(∀t∈p,rl t.2.2<=1000000)/\(∀t∈q,rl t.2.2<=1000000)/\(erC p q=0->SmE (p.map mv) (q.map mv))/\K (.tup [.one (.slice (((if erC p q=0 then elL (p.map mv) (q.map mv) else []).map rcan).map rC)),.one (.lit (.int .i64 (erC p q:Nat)))])) b) a
theorem Vau:Good VD:=q_g2 λ_ _=>(Ve λ_=>(Ve λ_=>(.and λ_=>(.and λ_=>(.and λ_=>(.ret _))))))
attribute [go_sem] VD
def Ya(f0 f1 f2 f3:Nat):AC:=(.o [.m 4 (.c (.one .emp)),.N 5 0] [0,1] (.f (.o [.M 18 0,.M 19 1,.u 20 (.row 1 [[.x 1 (.t 18)],[.x 1 (.t 19)]]),.H 21 f0 20,.M 6 21] [0,1,6] (.o [.M 22 6,.I 23 .neq 22 0] [0,1,6,23] (.cond (.t 23) (.seq (.p [.M 24 6,.m 4 (.c (.one .emp)),.M 5 24]) .ret) .skip))) [0,1] (.f (.o [.M 25 0,.Z 26 25,.I 27 .eql 26 0,.M 28 27,.V 29 28 false 1,.w 30 28 false (.len (.t 29)),.w 31 28 false (.bin .eql (.t 30) (.i 0)),.Q 32 28 31] [0,1,32] (.cond (.t 32) (.seq (.p [.m 4 (.c (.one .emp)),.N 5 8]) .ret) .skip)) [0,1] (.o [.M 33 0,.H 34 f1 33,.M 35 1,.H 36 f1 35,.M 7 34,.M 8 36] [0,1,7,8] (.o [.M 37 7,.Z 38 37,.I 39 .sub 38 1,.M 40 8,.Z 41 40,.I 42 .sub 41 1,.M 9 39,.M 10 42] [0,1,7,8,9,10] (.f (.o [.M 43 9,.M 44 10,.B 45 .add 43 44,.I 46 .gtr 45 8,.M 47 46,.V 48 47 false 0,.W 49 47 false f2 48,.V 50 47 false 1,.W 51 47 false f2 50,.w 52 47 false (.bin .mul (.t 49) (.t 51)),.w 53 47 false (.bin .gtr (.t 52) (.i 64)),.Q 54 47 53] [7,8,9,10,54] (.cond (.t 54) (.seq (.p [.m 4 (.c (.one .emp)),.N 5 4]) .ret) .skip)) [7,8,9,10] (.o [.m 11 (.c (.one .emp))] [7,8,9,10,11] (.f (.o [.M 55 9,.M 56 10,.B 57 .add 55 56,.N 58 0] [7,8,9,10,11,57,58] (.block 0 (.loop (.o [.B 59 .lss 58 57] [7,8,9,10,11,57,58,59] (.f (.cond (.t 59) .skip (.exit 0)) [7,8,9,10,11,57,58] (.f (.block 1 (.o [.M 60 58,.M 12 60] [7,8,9,10,11,12,57,58] (.o [.M 61 9,.M 62 10,.B 63 .add 61 62,.u 64 (.mk 1 [.emp] (.t 63) (.t 63)),.M 13 64] [7,8,9,10,11,12,13,57,58] (.f (.o [.M 65 12,.M 66 10,.B 67 .lss 65 66] [7,8,9,10,11,12,13,57,58,67] (.cond (.t 67) (.o [.M 68 7,.Z 69 68,.N 70 0] [7,8,9,10,11,12,13,57,58,68,69,70] (.block 2 (.loop (.o [.B 71 .lss 70 69] [7,8,9,10,11,12,13,57,58,68,69,70,71] (.f (.cond (.t 71) .skip (.exit 2)) [7,8,9,10,11,12,13,57,58,68,69,70] (.f (.block 3 (.o [.M 72 70,.J 73 1 68 70,.F 74 1 73,.M 14 72,.M 15 74] [7,8,9,10,11,12,13,14,15,57,58,68,69,70] (.p [.M 75 13,.M 76 12,.M 77 9,.B 78 .add 76 77,.M 79 14,.B 80 .sub 78 79,.M 81 15,.J 82 1 75 80,.S 1 82 81]))) [7,8,9,10,11,12,13,57,58,68,69,70] (.p [.I 83 .add 70 1,.M 70 83]))))))) (.o [.M 84 8,.Z 85 84,.N 86 0] [7,8,9,10,11,12,13,57,58,84,85,86] (.block 4 (.loop (.o [.B 87 .lss 86 85] [7,8,9,10,11,12,13,57,58,84,85,86,87] (.f (.cond (.t 87) .skip (.exit 4)) [7,8,9,10,11,12,13,57,58,84,85,86] (.f (.block 5 (.o [.M 88 86,.J 89 1 84 86,.F 90 1 89,.M 16 88,.M 17 90] [7,8,9,10,11,12,13,16,17,57,58,84,85,86] (.p [.M 91 13,.M 92 12,.M 93 16,.B 94 .sub 92 93,.M 95 17,.J 96 1 91 94,.S 1 96 95]))) [7,8,9,10,11,12,13,57,58,84,85,86] (.p [.I 97 .add 86 1,.M 86 97]))))))))) [7,8,9,10,11,13,57,58] (.p [.M 98 11,.M 99 13,.u 100 (.row 1 [[.x 1 (.t 99)]]),.u 101 (.app 1 (.t 98) (.t 100)),.M 11 101]))))) [7,8,9,10,11,57,58] (.p [.I 102 .add 58 1,.M 58 102]))))))) [11] (.seq (.p [.M 103 11,.H 104 f3 103,.M 4 104,.N 5 0]) .ret)))))))))
set_option maxHeartbeats 2000000 in
theorem wae(hΓ:Holds P Γ){f fk fy fd ft:Nat}(hk:Γ fk=.dat false zD)(hy:Γ fy=.dat false JM)(hd:Γ fd=.dat true Wv)(ht:Γ ft=.dat false (zo 9))(hc:check P f=some (105,(Ya fk fy fd ft).strip,[.tmp 4,.tmp 5])):Sound P f (.dat false VD):=by
 refine Qa hc Vau hΓ (λargs K hcl hfi hG=>?_);match args,hG with
 | [a0,a1],hG=>
  obtain⟨p,rfl,hwp,q,rfl,hwq,hrp,hrq,hside,hK⟩:=hG;refine⟨by simp,?_⟩
  have hrp4:∀t∈p,rl t.2.2<=4294967296:=λt ht=>Nat.le_trans (hrp t ht) (by decide)
  have hrq4:∀t∈q,rl t.2.2<=4294967296:=λt ht=>Nat.le_trans (hrq t ht) (by decide)
  by_cases h0:chk2 p q=0
  case neg=>
   have ec:erC p q=chk2 p q:=if_pos h0;rw [ec,if_neg h0]at hK;simp only [go_sem,Ya,hk,h0,ms];exact⟨⟨hwp,hwq⟩,hrp4,hrq4,hK⟩
  obtain⟨c1,c2⟩:=ZQ h0;have ec:erC p q=if p=[]∨q=[] then 8 else if 8<topY (p.map mv)+topY (q.map mv)-2∨64<degM p*degM q then 4 else 0:=if_neg (by simp [h0])
  by_cases hp0:p=[]
  .rw [if_pos (.inl hp0)]at ec;rw [ec,if_neg (by decide)]at hK
   have l0:p.length=0:=List.length_eq_zero_iff.2 hp0;simp only [go_sem,Ya,hk,h0,ms,l0];exact⟨⟨hwp,hwq⟩,hrp4,hrq4,hK⟩
  have lp0:p.length≠0:=λe=>hp0 (List.length_eq_zero_iff.1 e);have lp0' : ¬(p.length:Int)=0:=by omega
  by_cases hq0:q=[]
  .rw [if_pos (.inr hq0)]at ec;rw [ec,if_neg (by decide)]at hK
   have l0:q.length=0:=List.length_eq_zero_iff.2 hq0;simp only [go_sem,Ya,hk,h0,ms,l0,lp0'];refine⟨⟨hwp,hwq⟩,?_⟩;repeat first | refine q_Wk ?_ | intro _
   exact hK
  have lq0:q.length≠0:=λe=>hq0 (List.length_eq_zero_iff.1 e);have lq0' : ¬(q.length:Int)=0:=by omega
  rw [if_neg (λh=>h.elim hp0 hq0)]at ec;obtain⟨canp,mcp⟩:=We c1 hwp;obtain⟨canq,mcq⟩:=We c2 hwq;obtain⟨i1,_,l1⟩:=qk c1 hwp;obtain⟨i2,_,l2⟩:=qk c2 hwq;have hrp9:∀t∈p,rl t.2.2<=4000000000:=λt ht=>Nat.le_trans (hrp t ht) (by decide)
  have hrq9:∀t∈q,rl t.2.2<=4000000000:=λt ht=>Nat.le_trans (hrq t ht) (by decide)
  have t1:=ZE canp.ins;have t2:=ZE canq.ins;have t3:=jv (p:=p.map mv) (by simpa using hp0)
  have t4:=jv (p:=q.map mv) (by simpa using hq0)
  have la:=Vf (p.map mv);have lb:=Vf (q.map mv);have d1:=Ur canp;have d2:=Ur canq;have d3:=vv canp (by simpa using hp0)
  have d4:=vv canq (by simpa using hq0)
  rw [<-yd,mcp]at d1 d3;rw [<-yd,mcq]at d2 d4;obtain⟨dp,hdp⟩:=Int.eq_ofNat_of_zero_le d3;obtain⟨dq,hdq⟩:=Int.eq_ofNat_of_zero_le d4;have hdpq:degM p*degM q=((dp*dq:Nat):Int):=by rw [hdp,hdq,Int.natCast_mul]
  have hdpq' : (dp:Int)*(dq:Int)=((dp*dq:Nat):Int):=(Int.natCast_mul ..).symm;have hdpq24:dp*dq<=24*24:=Nat.mul_le_mul (by omega) (by omega)
  obtain⟨m,hm⟩:∃m,topY (p.map mv)=m+1:=⟨topY (p.map mv)-1,by omega⟩
  obtain⟨n,hn⟩:∃n,topY (q.map mv)=n+1:=⟨topY (q.map mv)-1,by omega⟩
  rw [hm]at t1 t3 la;rw [hn]at t2 t4 lb;rw [hm,hn,hdpq]at ec;have lem:((m+1:Nat):Int)-1=(m:Int):=by omega
  have len:((n+1:Nat):Int)-1=(n:Int):=by omega
  have lmn:(m:Int)+(n:Int)=((m+n:Nat):Int):=by omega
  by_cases h8:8<m+n
  .have h8' : (8:Int)<((m+n:Nat):Int):=by omega
   rw [if_pos (.inl (by omega))]at ec
   rw [ec,if_neg (by decide)]at hK
   simp only [go_sem,Ya,hk,hy,hd,h0,c1,c2,ms,lp0',lq0',lem,len,lmn,la,lb,List.length_map,h8',h8];exact⟨⟨hwp,hwq⟩,hrp4,hrq4,λ_ _=>⟨hwp,hp0,hrp9,hwq,hq0,hrq9,λ_=>⟨by omega,λ_=>⟨by omega,by omega,hK⟩⟩⟩⟩
  have h8' : ¬(8:Int)<((m+n:Nat):Int):=by omega
  by_cases h64:64<dp*dq
  .have h64' : (64:Int)<((dp*dq:Nat):Int):=by omega
   rw [if_pos (.inr h64')]at ec;rw [ec,if_neg (by decide)]at hK
   simp only [go_sem,Ya,hk,hy,hd,h0,c1,c2,ms,lp0',lq0',lem,len,lmn,la,lb,List.length_map,hdp,hdq,hdpq',h8',h64',h8,h64];exact⟨⟨hwp,hwq⟩,hrp4,hrq4,λ_ _=>⟨hwp,hp0,hrp9,hwq,hq0,hrq9,λ_=>⟨by omega,λ_=>⟨by omega,by omega,hwp,i1,by omega,hwq,i2,by omega,by omega,hK⟩⟩⟩⟩
  have h64' : ¬(64:Int)<((dp*dq:Nat):Int):=by omega
  rw [if_neg (by omega)]at ec
  have hsm:=hside ec;rw [ec,if_pos rfl]at hK;have hmx:=Ubt canp canq hsm;rw [la,lb]at hmx;simp only [Nat.add_sub_cancel]at hmx;have hel:elL (p.map mv) (q.map mv)=detP (m+n) (vM (mxE (rowsP (p.map mv)) (rowsP (q.map mv)) (m+n))):=by
   have h1:=ubl (rowsP (p.map mv)) (rowsP (q.map mv));unfold elL resP;rw [<-h1,la,lb];simp only [Nat.add_sub_cancel]
  obtain⟨A,hA⟩:∃A,rowsP (p.map mv)=A:=⟨_,rfl⟩;obtain⟨B,hB⟩:∃B,rowsP (q.map mv)=B:=⟨_,rfl⟩;rw [hA]at la hel hmx;rw [hB]at lb hel hmx;rw [hel]at hK;simp only [go_sem,Ya,hk,hy,hd,h0,c1,c2,ms,lp0',lq0',lem,len,lmn,hA,hB,la,lb,List.length_map,hdp,hdq,hdpq',h8',h64',h8,h64];refine⟨⟨hwp,hwq⟩,hrp4,hrq4,λ_ _=>⟨hwp,hp0,hrp9,hwq,hq0,hrq9,λ_=>⟨by omega,λ_=>⟨by omega,by omega,hwp,i1,by omega,hwq,i2,by omega,by omega,by omega,?_⟩⟩⟩⟩
  refine ja (λi:Nat=>if i=0 then ⟨mkV [(7,.one (.slice (A.map plC))),(8,.one (.slice (B.map plC))),(9,.one (.lit (.int .i64 m))),(10,.one (.lit (.int .i64 n))),(11,.one .emp),(57,.one (.lit (.int .i64 (m+n:Nat)))),(58,.one (.lit (.int .i64 i)))],mkH []⟩
    else ⟨mkV [(7,.one (.slice (A.map plC))),(8,.one (.slice (B.map plC))),(9,.one (.lit (.int .i64 m))),(10,.one (.lit (.int .i64 n))),(11,.one (.own 101 1 1 0 i)),(57,.one (.lit (.int .i64 (m+n:Nat)))),(58,.one (.lit (.int .i64 i)))],mkH [(101,⟨1,some ⟨(mxE A B i).map rowE,1,true⟩⟩)]⟩) (λi=>i<=m+n) (λi=>m+n-i) 0 ?_ ?_ ?_
  .exact za (by simp [bitvec_to_nat]) trivial
  .exact Nat.zero_le _
  .intro i hi;have hmxl:=Qaf A B i;by_cases hlt:i<m+n
   .have hms:=qbv A B i;by_cases hi0:i=0
    .by_cases hin:i<n
     .have hrow:rwE A B i=fil (m+n) (i+m) A (m+1):=by unfold rwE;rw [la,lb,if_pos (by omega)];rfl
      rw [hrow]at hms;rw [if_pos hi0];simp only [go_sem,hlt,lmn,hin,la,List.length_map,kU,hmxl];repeat first | refine q_Wk ?_ | intro _
      refine ja (λK9:Nat=>⟨mkV [(7,.one (.slice (A.map plC))),(8,.one (.slice (B.map plC))),(9,.one (.lit (.int .i64 m))),(10,.one (.lit (.int .i64 n))),(11,.one .emp),(12,.one (.lit (.int .i64 i))),(13,.one (.own 64 1 1 0 (m+n))),(57,.one (.lit (.int .i64 (m+n:Nat)))),(58,.one (.lit (.int .i64 i))),(68,.one (.slice (A.map plC))),(69,.one (.lit (.int .i64 (m+1:Nat)))),(70,.one (.lit (.int .i64 K9)))],mkH [(64,⟨1,some ⟨(fil (m+n) (i+m) A K9).map plE,1,true⟩⟩)]⟩) (λK9=>K9<=m+1) (λK9=>m+1-K9) 0 ?_ ?_ ?_
      .exact za (by simp [bitvec_to_nat]) ⟨kE (by rw [jaU]),trivial⟩
      .exact Nat.zero_le _
      .intro k9 hk9;by_cases hkl:k9<m+1
       .obtain⟨l,hl⟩:∃l,A.getD k9 []=l:=⟨_,rfl⟩;have hfs:=waT (N:=m+n) (c:=i+m) (a:=A) (K:=k9) (by omega) (by omega)
        rw [hl]at hfs;have hfl:=yu (m+n) (i+m) A k9;obtain⟨F,hF⟩:∃F,fil (m+n) (i+m) A k9=F:=⟨_,rfl⟩;rw [hF]at hfs hfl;have hix:i+m-k9<m+n:=by omega
        have hcast:(((i+m:Nat):Int))-(k9:Int)=((i+m-k9:Nat):Int):=by omega
        have hcast2:(i:Int)+(m:Int)=((i+m:Nat):Int):=by omega
        simp only [go_sem,hkl,la,hl,hF,QC,hcast,hcast2,hix,hfl,wT,jT,VB,Int.toNat_natCast,Nat.zero_add];repeat first | refine q_Wk ?_ | intro _
        refine⟨k9+1,?_,by omega,by omega⟩
        rw [<-hfs];exact za (by simp [bitvec_to_nat]) ⟨kE rfl,trivial⟩
       .have ek9:k9=m+1:=by omega
        subst ek9;have hGl:=yu (m+n) (i+m) A (m+1);obtain⟨G,hG⟩:∃G,fil (m+n) (i+m) A (m+1)=G:=⟨_,rfl⟩;rw [hG]at hms hGl;have hGt:List.take (m+n) G=G:=List.take_of_length_le (by omega)
        have hcl:=xe (G.map plE) (of_eq_true (ul _));simp only [go_sem,hkl,hG,hGl,hGt,hcl,hmxl,Nat.le_refl,if_true];refine⟨λe he=>by rw [List.mem_singleton.1 he];rfl,by omega,i+1,?_,by omega,by omega⟩
        rw [if_neg (by omega),hms]
        exact za (by simp [bitvec_to_nat,hi0]) ⟨xy (by rw [hi0];rfl),trivial⟩
     .have hrow:rwE A B i=fil (m+n) i B (n+1):=by unfold rwE;rw [la,lb,if_neg (by omega)];rfl
      rw [hrow]at hms;rw [if_pos hi0];simp only [go_sem,hlt,lmn,hin,lb,List.length_map,kU,hmxl];repeat first | refine q_Wk ?_ | intro _
      refine ja (λK9:Nat=>⟨mkV [(7,.one (.slice (A.map plC))),(8,.one (.slice (B.map plC))),(9,.one (.lit (.int .i64 m))),(10,.one (.lit (.int .i64 n))),(11,.one .emp),(12,.one (.lit (.int .i64 i))),(13,.one (.own 64 1 1 0 (m+n))),(57,.one (.lit (.int .i64 (m+n:Nat)))),(58,.one (.lit (.int .i64 i))),(84,.one (.slice (B.map plC))),(85,.one (.lit (.int .i64 (n+1:Nat)))),(86,.one (.lit (.int .i64 K9)))],mkH [(64,⟨1,some ⟨(fil (m+n) (i) B K9).map plE,1,true⟩⟩)]⟩) (λK9=>K9<=n+1) (λK9=>n+1-K9) 0 ?_ ?_ ?_
      .exact za (by simp [bitvec_to_nat]) ⟨kE (by rw [jaU]),trivial⟩
      .exact Nat.zero_le _
      .intro k9 hk9;by_cases hkl:k9<n+1
       .obtain⟨l,hl⟩:∃l,B.getD k9 []=l:=⟨_,rfl⟩;have hfs:=waT (N:=m+n) (c:=i) (a:=B) (K:=k9) (by omega) (by omega)
        rw [hl]at hfs;have hfl:=yu (m+n) (i) B k9;obtain⟨F,hF⟩:∃F,fil (m+n) (i) B k9=F:=⟨_,rfl⟩;rw [hF]at hfs hfl;have hix:i-k9<m+n:=by omega
        have hcast:(((i:Nat):Int))-(k9:Int)=((i-k9:Nat):Int):=by omega
        skip
        simp only [go_sem,hkl,lb,hl,hF,QC,hcast,hix,hfl,wT,jT,VB,Int.toNat_natCast,Nat.zero_add];repeat first | refine q_Wk ?_ | intro _
        refine⟨k9+1,?_,by omega,by omega⟩
        rw [<-hfs];exact za (by simp [bitvec_to_nat]) ⟨kE rfl,trivial⟩
       .have ek9:k9=n+1:=by omega
        subst ek9;have hGl:=yu (m+n) (i) B (n+1);obtain⟨G,hG⟩:∃G,fil (m+n) (i) B (n+1)=G:=⟨_,rfl⟩;rw [hG]at hms hGl;have hGt:List.take (m+n) G=G:=List.take_of_length_le (by omega)
        have hcl:=xe (G.map plE) (of_eq_true (ul _));simp only [go_sem,hkl,hG,hGl,hGt,hcl,hmxl,Nat.le_refl,if_true];refine⟨λe he=>by rw [List.mem_singleton.1 he];rfl,by omega,i+1,?_,by omega,by omega⟩
        rw [if_neg (by omega),hms]
        exact za (by simp [bitvec_to_nat,hi0]) ⟨xy (by rw [hi0];rfl),trivial⟩
    .by_cases hin:i<n
     .have hrow:rwE A B i=fil (m+n) (i+m) A (m+1):=by unfold rwE;rw [la,lb,if_pos (by omega)];rfl
      rw [hrow]at hms;rw [if_neg hi0];simp only [go_sem,hlt,lmn,hin,la,List.length_map,kU,hmxl];repeat first | refine q_Wk ?_ | intro _
      refine ja (λK9:Nat=>⟨mkV [(7,.one (.slice (A.map plC))),(8,.one (.slice (B.map plC))),(9,.one (.lit (.int .i64 m))),(10,.one (.lit (.int .i64 n))),(11,.one (.own 101 1 1 0 i)),(12,.one (.lit (.int .i64 i))),(13,.one (.own 64 1 1 0 (m+n))),(57,.one (.lit (.int .i64 (m+n:Nat)))),(58,.one (.lit (.int .i64 i))),(68,.one (.slice (A.map plC))),(69,.one (.lit (.int .i64 (m+1:Nat)))),(70,.one (.lit (.int .i64 K9)))],mkH [(64,⟨1,some ⟨(fil (m+n) (i+m) A K9).map plE,1,true⟩⟩),(101,⟨1,some ⟨(mxE A B i).map rowE,1,true⟩⟩)]⟩) (λK9=>K9<=m+1) (λK9=>m+1-K9) 0 ?_ ?_ ?_
      .exact za (by simp [bitvec_to_nat]) ⟨kE (by rw [jaU]),xy rfl,trivial⟩
      .exact Nat.zero_le _
      .intro k9 hk9;by_cases hkl:k9<m+1
       .obtain⟨l,hl⟩:∃l,A.getD k9 []=l:=⟨_,rfl⟩;have hfs:=waT (N:=m+n) (c:=i+m) (a:=A) (K:=k9) (by omega) (by omega)
        rw [hl]at hfs;have hfl:=yu (m+n) (i+m) A k9;obtain⟨F,hF⟩:∃F,fil (m+n) (i+m) A k9=F:=⟨_,rfl⟩;rw [hF]at hfs hfl;have hix:i+m-k9<m+n:=by omega
        have hcast:(((i+m:Nat):Int))-(k9:Int)=((i+m-k9:Nat):Int):=by omega
        have hcast2:(i:Int)+(m:Int)=((i+m:Nat):Int):=by omega
        simp only [go_sem,hkl,la,hl,hF,QC,hcast,hcast2,hix,hfl,wT,jT,VB,Int.toNat_natCast,Nat.zero_add];repeat first | refine q_Wk ?_ | intro _
        refine⟨k9+1,?_,by omega,by omega⟩
        rw [<-hfs];exact za (by simp [bitvec_to_nat]) ⟨kE rfl,xy rfl,trivial⟩
       .have ek9:k9=m+1:=by omega
        subst ek9;have hGl:=yu (m+n) (i+m) A (m+1);obtain⟨G,hG⟩:∃G,fil (m+n) (i+m) A (m+1)=G:=⟨_,rfl⟩;rw [hG]at hms hGl;have hGt:List.take (m+n) G=G:=List.take_of_length_le (by omega)
        have hcl:=xe (G.map plE) (of_eq_true (ul _));simp only [go_sem,hkl,hG,hGl,hGt,hcl,hmxl,Nat.le_refl,if_true];refine⟨λe he=>by rw [List.mem_singleton.1 he];rfl,by omega,by omega,i+1,?_,by omega,by omega⟩
        rw [if_neg (by omega),hms]
        exact za (by simp [bitvec_to_nat]) ⟨xy (by rw [List.map_append];rfl),trivial⟩
     .have hrow:rwE A B i=fil (m+n) i B (n+1):=by unfold rwE;rw [la,lb,if_neg (by omega)];rfl
      rw [hrow]at hms;rw [if_neg hi0];simp only [go_sem,hlt,lmn,hin,lb,List.length_map,kU,hmxl];repeat first | refine q_Wk ?_ | intro _
      refine ja (λK9:Nat=>⟨mkV [(7,.one (.slice (A.map plC))),(8,.one (.slice (B.map plC))),(9,.one (.lit (.int .i64 m))),(10,.one (.lit (.int .i64 n))),(11,.one (.own 101 1 1 0 i)),(12,.one (.lit (.int .i64 i))),(13,.one (.own 64 1 1 0 (m+n))),(57,.one (.lit (.int .i64 (m+n:Nat)))),(58,.one (.lit (.int .i64 i))),(84,.one (.slice (B.map plC))),(85,.one (.lit (.int .i64 (n+1:Nat)))),(86,.one (.lit (.int .i64 K9)))],mkH [(64,⟨1,some ⟨(fil (m+n) (i) B K9).map plE,1,true⟩⟩),(101,⟨1,some ⟨(mxE A B i).map rowE,1,true⟩⟩)]⟩) (λK9=>K9<=n+1) (λK9=>n+1-K9) 0 ?_ ?_ ?_
      .exact za (by simp [bitvec_to_nat]) ⟨kE (by rw [jaU]),xy rfl,trivial⟩
      .exact Nat.zero_le _
      .intro k9 hk9;by_cases hkl:k9<n+1
       .obtain⟨l,hl⟩:∃l,B.getD k9 []=l:=⟨_,rfl⟩;have hfs:=waT (N:=m+n) (c:=i) (a:=B) (K:=k9) (by omega) (by omega)
        rw [hl]at hfs;have hfl:=yu (m+n) (i) B k9;obtain⟨F,hF⟩:∃F,fil (m+n) (i) B k9=F:=⟨_,rfl⟩;rw [hF]at hfs hfl;have hix:i-k9<m+n:=by omega
        have hcast:(((i:Nat):Int))-(k9:Int)=((i-k9:Nat):Int):=by omega
        skip
        simp only [go_sem,hkl,lb,hl,hF,QC,hcast,hix,hfl,wT,jT,VB,Int.toNat_natCast,Nat.zero_add];repeat first | refine q_Wk ?_ | intro _
        refine⟨k9+1,?_,by omega,by omega⟩
        rw [<-hfs];exact za (by simp [bitvec_to_nat]) ⟨kE rfl,xy rfl,trivial⟩
       .have ek9:k9=n+1:=by omega
        subst ek9;have hGl:=yu (m+n) (i) B (n+1);obtain⟨G,hG⟩:∃G,fil (m+n) (i) B (n+1)=G:=⟨_,rfl⟩;rw [hG]at hms hGl;have hGt:List.take (m+n) G=G:=List.take_of_length_le (by omega)
        have hcl:=xe (G.map plE) (of_eq_true (ul _));simp only [go_sem,hkl,hG,hGl,hGt,hcl,hmxl,Nat.le_refl,if_true];refine⟨λe he=>by rw [List.mem_singleton.1 he];rfl,by omega,by omega,i+1,?_,by omega,by omega⟩
        rw [if_neg (by omega),hms]
        exact za (by simp [bitvec_to_nat]) ⟨xy (by rw [List.map_append];rfl),trivial⟩
   .have ei:i=m+n:=by omega
    have hcl:=xe ((mxE A B i).map rowE) (of_eq_true (uo _));have htk:(mxE A B i).take i=mxE A B i:=List.take_of_length_le (by omega)
    by_cases hi0:i=0
    .rw [if_pos hi0];refine(?_:∀R,wpA Γ (.seq (.ops false [⟨some 59,none,.bin .lss (.t 58) (.t 57)⟩]) (.fg [7,8,9,10,11,57,58,59] (.seq (.cond (.t 59) .skip (.exit 0)) (.fg [7,8,9,10,11,57,58] R)))) _ _) _;intro R;simp only [go_sem,hlt,ht];have h00:m+n=0:=by omega
     have hnil:mxE A B 0=[]:=rfl;rw [h00,hnil]at hmx hK;exact⟨hmx,hK⟩
    .rw [if_neg hi0];refine(?_:∀R,wpA Γ (.seq (.ops false [⟨some 59,none,.bin .lss (.t 58) (.t 57)⟩]) (.fg [7,8,9,10,11,57,58,59] (.seq (.cond (.t 59) .skip (.exit 0)) (.fg [7,8,9,10,11,57,58] R)))) _ _) _;intro R;simp only [go_sem,hlt,ht,hcl,htk,hmxl,List.length_map];subst ei;exact⟨by omega,hmx,hK⟩
end Go.Abs
end
section
namespace Go.Num
open Go.Abs
theorem wa7{b:Bool}{d:Nat}{l:BQ}(h:Deg d l):Deg d (dvL b l):=λt ht=>by
 unfold dvL at ht;obtain⟨u,hu,rfl⟩:=List.mem_map.1 ht;have:=h u (List.mem_filter.1 hu).1;cases b
 .rw [dT_f];show u.1-1+u.2.1<=d;omega
 .rw [dT_t];show u.1+(u.2.1-1)<=d;omega
theorem PB.dv{d s:Nat}{p:BQ}(b:Bool)(h:PB d s p):PB d (3*s) (dvB b p):=
 ⟨Zr (Uas h.canon.ins),Q0 (wa7 h.deg),by
  have h1:=Uax (dvL b p);have h2:=xZ (b:=b) h.canon.ins;have h3:=h.size;unfold dvB;omega⟩
end Go.Num
end
section
namespace Go.Abs
open Go.Num
variable {P:Program} {Γ:Nat->Spec}
end Go.Abs
end
section
namespace Go.Num
open Go.Abs
end Go.Num
namespace Go.Abs
open Go.Num
variable {P:Program} {Γ:Nat->Spec}
end Go.Abs
end
section
namespace Go.Abs
open Go.Num
variable {P:Program} {Γ:Nat->Spec}
end Go.Abs
end
section
namespace Go.Num
open Go.Abs
theorem qan{p:List Mo}(h:shortM p=true)(hw:∀t∈p,WLM t):p.length<=400/\(∀t∈p,rl t.2.2<=1)/\sz (p.map mv)<=1200:=by
 unfold shortM at h;simp only [Bool.and_eq_true,Bool.not_eq_true',List.all_eq_true]at h;obtain⟨h1,h4⟩:=h;unfold longM at h1;simp only [Bool.or_eq_false_iff,Bool.and_eq_false_iff,decide_eq_false_iff_not]at h1;have hl:p.length<=400:=by omega
 refine⟨hl,λt ht=>UR (h4 t ht),?_⟩;have:=Ubj (b:=1) (l:=p.map mv) λt ht=>by
  obtain⟨u,hu,rfl⟩:=List.mem_map.1 ht;exact Nat.le_trans (qm (hw u hu).2.2) (UR (h4 u hu))
 rw [List.length_map]at this;omega
theorem qbb{c:Nat}{X:BQ}{n:Nat}(h:c=0->InQ X/\sz X<=n):(∀t∈bres c X,WLM t)/\(∀t∈bres c X,rl t.2.2<=n)/\(bres c X).length<=n:=by
 by_cases hc:c=0
 .obtain⟨h1,h2⟩:=h hc;rw [hc,qaa];refine⟨xag h1,λt ht=>?_,?_⟩
  .obtain⟨u,hu,rfl⟩:=List.mem_map.1 ht;have:rz u.2.2<=sz X:=wV hu;show rz u.2.2<=n;omega
  .have:=jbn X;unfold mcs;rw [List.length_map];omega
 .rw [yW hc];exact⟨λt ht=>by simp at ht,λt ht=>by simp at ht,Nat.zero_le _⟩
end Go.Num
namespace Go.Abs
open Go.Num
variable {P:Program} {Γ:Nat->Spec}
end Go.Abs
end
