/-
  Parts of the proof, merged: PolyF, PolyG, PolyH, PolyI, CoupP, PoseB, PoseC, ChartE, ChartF.
-/
import Derived.Test.YthoibmokhnoccaaGreatDoorM6
set_option linter.unusedVariables false
set_option linter.unusedSimpArgs false
set_option maxRecDepth 100000
section
namespace Go.Num
open Go.Abs
def lastO(l:List Mo):Nat->Option Mo
 | 0=>none
 | k+1=>some (l.getD k mo0)
theorem W2{l:List Mo}{k:Nat}{x:Mo}(o:Option Mo)(hx:l[k]?=some x):chkG o (l.drop k)=if chkT o x≠0 then chkT o x else chkG (some x) (l.drop (k+1)):=by
 rw [ZF hx];rfl
theorem qk{l:List Mo}(h:chkB l=0)(hw:∀t∈l,WLM t):(∀t∈l,inM t)/\InQ (l.map mv)/\l.length<=325:=by
 obtain⟨h1,h2⟩:=We h hw;refine⟨λt ht=>?_,h1.ins,(YaZ h).1⟩;exact h1.ins (mv t) (List.mem_map.2 ⟨t,ht,rfl⟩)
def degM(l:List Mo):Int:=match l.getLast? with
 | none=>-1
 | some t=>t.1+t.2.1
theorem yd(p:BQ):degM (mcs p)=degB p:=by
 unfold degM degB mcs;rw [List.getLast?_map];cases p.getLast? <;> rfl
def bres(c:Nat)(p:BQ):List Mo:=if c=0 then mcs p else []
theorem qaa(p:BQ):bres 0 p=mcs p:=rfl
theorem yW{c:Nat}(h:c≠0)(p:BQ):bres c p=[]:=if_neg h
def chk2(p q:List Mo):Nat:=if chkB p≠0 then chkB p else chkB q
theorem ZQ{p q:List Mo}(h:chk2 p q=0):chkB p=0/\chkB q=0:=by
 unfold chk2 at h;split at h
 .rename_i h1;exact absurd h h1
 .rename_i h1;exact⟨by simpa using h1,h⟩
end Go.Num
namespace Go.Abs
open Go.Num
variable {P:Program} {Γ:Nat->Spec}
def ko(tE:Nat):q_T:=q_c1 λa K=>onMs (λl=>(∀t∈l,rl t.2.2<=4294967296)/\K (errV tE (chkB l))) a
theorem kac(tE:Nat):Good (ko tE):=q_g1 λ_=>(Ve λ_=>(.and λ_=>(.ret _)))
def Wp(tE:Nat):q_T:=q_c1 λa K=>onM2 (λp q=>(∀t∈p,rl t.2.2<=4294967296)/\(∀t∈q,rl t.2.2<=4294967296)/\K (errV tE (chk2 p q))) a
theorem YW(tE:Nat):Good (Wp tE):=q_g1 λ_=>Qal λ_ _=>.and λ_=>.and λ_=>.ret _
def Wv:q_T:=q_c1 λa K=>onMs (λl=>(∀t∈l,inM t)/\l.length<=1000000/\K (.one (.lit (.int .i64 (degM l))))) a
theorem Q3:Good Wv:=q_g1 λ_=>(Ve λ_=>(.and λ_=>(.and λ_=>(.ret _))))
attribute [go_sem] ko Wp Wv
def Ul(f0 f1 f2 f3 tE:Nat):AC:=(.o [.m 2 (.c (.one (.lit .nilIface)))] [0] (.f (.o [.M 5 0,.Z 6 5,.I 7 .gtr 6 325] [0,7] (.cond (.t 7) (.seq (.p [.u 8 (.iface tE (.i 4)),.M 2 8]) .ret) .skip)) [0] (.f (.o [.M 9 0,.Z 10 9,.N 11 0] [0,9,10,11] (.block 0 (.loop (.o [.B 12 .lss 11 10] [0,9,10,11,12] (.f (.cond (.t 12) .skip (.exit 0)) [0,9,10,11] (.f (.block 1 (.o [.M 13 11,.J 14 5 9 11,.L 15 5 14,.G 4 [(.lit (.int .i64 0)),(.lit (.int .i64 0)),.z,.emp,.emp],.M 3 13,.S 5 4 15] [0,3,4,9,10,11] (.block 2 (.o [.L 17 5 4,.H 18 f0 17,.u 19 (.un .not (.t 18)),.M 16 19] [0,3,4,9,10,11,16] (.cond (.t 16) (.seq (.p [.u 20 (.iface tE (.i 3)),.M 2 20]) .ret) (.o [.A 22 2 4,.L 23 3 22,.H 24 f1 23,.u 25 (.un .not (.t 24)),.M 21 25] [0,3,4,9,10,11,21] (.cond (.t 21) (.seq (.p [.u 26 (.iface tE (.i 2)),.M 2 26]) .ret) (.o [.A 28 2 4,.L 29 3 28,.H 30 f2 29,.I 31 .eql 30 0,.M 27 31] [0,3,4,9,10,11,27] (.cond (.t 27) (.seq (.p [.u 32 (.iface tE (.i 8)),.M 2 32]) .ret) (.f (.y [.M 34 3,.I 35 .gtr 34 0,.M 36 35,.V 37 36 true 0,.V 38 36 true 3,.w 39 36 true (.bin .sub (.t 38) (.i 1)),.w 40 36 true (.idx 5 (.t 37) (.t 39)),.U 41 36 true 5 true 40,.U 42 36 true 5 true 4,.Y 43 36 true f3 41 42,.w 44 36 true (.bin .geq (.t 43) (.i 0)),.P 45 36 44,.M 33 45]) [0,9,10,11,33] (.cond (.t 33) (.seq (.p [.u 46 (.iface tE (.i 12)),.M 2 46]) .ret) .skip))))))))))) [0,9,10,11] (.p [.I 47 .add 11 1,.M 11 47]))))))) [] (.seq (.p [.m 2 (.c (.one (.lit .nilIface)))]) .ret))))
def Vn(f0:Nat):AC:=(.o [.m 2 (.c (.one (.lit .nilIface)))] [0] (.f (.o [.M 6 0,.Z 7 6,.N 8 0] [6,7,8] (.block 0 (.loop (.o [.B 9 .lss 8 7] [6,7,8,9] (.f (.cond (.t 9) .skip (.exit 0)) [6,7,8] (.f (.block 1 (.o [.J 10 1 6 8,.F 11 1 10,.M 4 11] [4,6,7,8] (.o [.M 12 4,.H 13 f0 12,.M 5 13] [5,6,7,8] (.o [.M 14 5,.R 15 14] [5,6,7,8,15] (.cond (.t 15) (.seq (.p [.M 16 5,.M 2 16]) .ret) .skip))))) [6,7,8] (.p [.I 17 .add 8 1,.M 8 17]))))))) [] (.seq (.p [.m 2 (.c (.one (.lit .nilIface)))]) .ret)))
def yj:AC:=(.o [.N 2 0] [0] (.f (.o [.M 3 0,.Z 4 3,.I 5 .eql 4 0] [0,5] (.cond (.t 5) (.seq (.p [.N 2 (-1)]) .ret) .skip)) [0] (.seq (.y [.M 6 0,.M 7 0,.Z 8 7,.I 9 .sub 8 1,.J 10 5 6 9,.A 11 0 10,.F 12 1 11,.M 13 0,.M 14 0,.Z 15 14,.I 16 .sub 15 1,.J 17 5 13 16,.A 18 1 17,.F 19 1 18,.B 20 .add 12 19,.M 2 20]) .ret)))
theorem Yc{h h' : Nat->HB}{x:R}{z:Nat}{b:Bool}:okB h h' (some ⟨[[cb x,cn x,cd x]],z,b⟩) (some ⟨[[cb x,cn x,cd x]],z,b⟩):=
 ⟨⟨rfl,rfl⟩,.inl ⟨rfl,λe he c hc=>by
  rw [List.mem_singleton]at he;subst he;simp only [List.mem_cons,List.not_mem_nil,or_false]at hc;rcases hc with rfl | rfl | rfl
  .exact of_eq_true (Vj _)
  .exact of_eq_true (Yj _)
  .exact of_eq_true (Wj _)⟩⟩
theorem qab(hΓ:Holds P Γ){f fi fv fs fo tE:Nat}(hi:Γ fi=.dat true qt)(hv:Γ fv=.dat true Xg)(hs:Γ fs=.dat true Zk)(ho:Γ fo=.dat true Yy)(hc:check P f=some (48,(Ul fi fv fs fo tE).strip,[.tmp 2])):Sound P f (.dat false (ko tE)):=by
 refine Qa hc (kac tE) hΓ (λargs K hcl hfi hG=>?_);match args,hG with
 | [a],hG=>
  obtain⟨l,rfl,hw,hrl,hK⟩:=hG;refine⟨by simp,?_⟩
  by_cases h325:325<l.length
  .have e:chkB l=4:=if_pos h325;rw [e,ue tE (by decide)]at hK
   have h325' : (325:Int)<(l.length:Int):=by omega
   simp only [go_sem,Ul,h325'];exact λ_=>hK
  .have h325' : ¬(325:Int)<(l.length:Int):=by omega
   have e:chkB l=chkG none l:=if_neg h325;rw [e]at hK;simp only [go_sem,Ul,h325'];intro _ _;refine ja (λk:Nat=>⟨mkV [(0,msA l),(9,msA l),(10,.one (.lit (.int .i64 l.length))),(11,.one (.lit (.int .i64 k)))],mkH []⟩) (λk=>k<=l.length/\chkG none l=chkG (lastO l k) (l.drop k)/\∀t∈l.take k,inM t) (λk=>l.length-k) 0 ?_ ?_ ?_
   .exact za (by simp [bitvec_to_nat,msA,ms]) trivial
   .exact⟨Nat.zero_le _,rfl,by simp⟩
   .rintro k ⟨hk,hch,hin⟩;by_cases hlt:k<l.length
    .obtain⟨x,hx⟩:∃x,l.getD k mo0=x:=⟨_,rfl⟩;have hx0:=getDm hlt hx;have hxm:=List.mem_of_getElem? hx0;have hwx:=hw x hxm;have hrx:=hrl x hxm;rw [W2 _ hx0]at hch;by_cases a1:inM x
     .cases a2:vldR x.2.2 with
      | false=>
       have ec:chkT (lastO l k) x=2:=by unfold chkT;rw [if_neg (by simp [a1]),if_pos a2]
       rw [ec,if_pos (by decide)]at hch
       rw [hch,ue tE (by decide)]at hK
       simp only [go_sem,hlt,hx,hi,hv,mC,a2];exact⟨hwx,λ_=>⟨hwx.2.2,hrx,hK⟩,λh=>absurd a1 h⟩
      | true=>
       by_cases a3:rv x.2.2=0
       .have ec:chkT (lastO l k) x=8:=by unfold chkT;rw [if_neg (by simp [a1]),if_neg (by simp [a2]),if_pos a3]
        rw [ec,if_pos (by decide)]at hch
        rw [hch,ue tE (by decide)]at hK
        have a3' : ordQ (rv x.2.2) 0=0:=Jj.2 a3;simp only [go_sem,hlt,hx,hi,hv,hs,mC,a2,a3'];exact⟨hwx,λ_=>⟨hwx.2.2,hrx,hwx.2.2,hrx,hK⟩,λh=>absurd a1 h⟩
       .have hin' : ∀t∈l.take (k+1),inM t:=λt ht=>by
         rw [List.take_add_one,hx0]at ht;rcases List.mem_append.1 ht with ht | ht
         .exact hin t ht
         .simp at ht;rw [ht];exact a1
        have a3' : ¬ordQ (rv x.2.2) 0=0:=λh=>a3 (Jj.1 h);cases k with
        | zero=>
         simp only [go_sem,hlt,hx,hi,hv,hs,mC,a2,a3',Int.lt_irrefl];have ec:chkT (lastO l 0) x=0:=by unfold chkT;rw [if_neg (by simp [a1]),if_neg (by simp [a2]),if_neg a3,if_neg (by simp [lastO,badO])]
         rw [ec,if_neg (by decide)]at hch
         have hl1:lastO l 1=some x:=congrArg some hx;refine⟨hwx,λ_=>⟨hwx.2.2,hrx,hwx.2.2,hrx,by omega,1,za (by simp [bitvec_to_nat,msA,ms]) trivial,⟨by omega,by rw [hl1];exact hch,hin'⟩,by omega⟩,λh=>absurd a1 h⟩
        | succ j=>
         have hn1:((j+1:Nat):Int)-1=(j:Int):=by omega
         have hn2:(0:Int)<((j+1:Nat):Int):=by omega
         simp only [go_sem,hlt,hx,hi,hv,hs,ho,mC,a2,a3',hn1,hn2];have hym:l.getD j mo0∈l:=by
          rw [List.getD_eq_getElem?_getD,List.getElem?_eq_getElem (by omega)];exact List.getElem_mem _
         have hyt:l.getD j mo0∈l.take (j+1):=by
          rw [List.getD_eq_getElem?_getD,List.getElem?_eq_getElem (by omega),Option.getD_some]
          exact List.mem_iff_getElem.2 ⟨j,by rw [List.length_take];omega,by simp⟩
         have hiy:=hin _ hyt;have hwy:=hw _ hym;have hlj:lastO l (j+1)=some (l.getD j mo0):=rfl;have hl1:lastO l (j+1+1)=some x:=congrArg some hx;refine⟨hwx,λ_=>⟨hwx.2.2,hrx,hwx.2.2,hrx,by omega,by omega,hwy,hwx,hiy,a1,λh=>?_,λh=>?_⟩,λh=>absurd a1 h⟩
         .have h:0<=ordK (kM (l.getD j mo0)) (kM x):=h;rw [ZaB]at h;have ec:chkT (lastO l (j+1)) x=12:=by unfold chkT;rw [if_neg (by simp [a1]),if_neg (by simp [a2]),if_neg a3,if_pos (by rw [hlj];simpa [badO] using h)]
          rw [ec,if_pos (by decide)]at hch
          rw [hch,ue tE (by decide)]at hK
          exact hK
         .have h:¬0<=ordK (kM (l.getD j mo0)) (kM x):=h;rw [ZaB]at h;have ec:chkT (lastO l (j+1)) x=0:=by unfold chkT;rw [if_neg (by simp [a1]),if_neg (by simp [a2]),if_neg a3,if_neg (by rw [hlj];simpa [badO] using h)]
          rw [ec,if_neg (by decide)]at hch
          exact⟨by omega,j+1+1,za (by simp [bitvec_to_nat,msA,ms]) trivial,⟨by omega,by rw [hl1];exact hch,hin'⟩,by omega⟩
     .have ec:chkT (lastO l k) x=3:=by unfold chkT;rw [if_pos a1]
      rw [ec,if_pos (by decide)]at hch
      rw [hch,ue tE (by decide)]at hK
      simp only [go_sem,hlt,hx,hi,mC,decide_eq_false a1];exact⟨hwx,hK⟩
    .rw [List.drop_of_length_le (by omega)]at hch
     have e0:chkG (lastO l k) []=0:=rfl;rw [hch,e0,Xd]at hK;simp only [go_sem,hlt];exact hK
theorem VU(hΓ:Holds P Γ){f fk tE:Nat}(hk:Γ fk=.dat false (ko tE))(hc:check P f=some (18,(Vn fk).strip,[.tmp 2])):Sound P f (.dat false (Wp tE)):=by
 refine Qa hc (YW tE) hΓ (λargs K hcl hfi hG=>?_);match args,hG with
 | [a],hG=>
  obtain⟨p,q,rfl,⟨hwp,hwq⟩,hp,hq,hK⟩:=hG;refine⟨by simp,?_⟩
  simp only [go_sem,Vn,ms];refine ja (λk:Nat=>⟨mkV [(6,.one (.slice [[ms p],[ms q]])),(7,.one (.lit (.int .i64 2))),(8,.one (.lit (.int .i64 k)))],mkH []⟩) (λk=>k<=2/\(0<k->chkB p=0)/\(1<k->chkB q=0)) (λk=>2-k) 0 ?_ ?_ ?_
  .exact za (by simp [bitvec_to_nat,ms]) trivial
  .exact⟨by decide,by omega,by omega⟩
  .rintro k ⟨hk2,h1,h2⟩;have hk3:k=0∨k=1∨k=2:=by omega
   unfold chk2 at hK;rcases hk3 with rfl | rfl | rfl
   .by_cases hx:chkB p=0
    .have e0:=Xd tE;rw [<-hx]at e0;simp only [go_sem,c02,hk,ms,e0];refine⟨hwp,hp,by decide,1,za (by simp [bitvec_to_nat,ms]) trivial,⟨by omega,by simp [hx],by omega⟩,by omega⟩
    .rw [if_pos hx]at hK;have e0:=ue tE hx;rw [e0]at hK;simp only [go_sem,c02,hk,ms,e0];exact⟨hwp,hp,hK⟩
   .have hx:=h1 (by omega)
    rw [if_neg (by simp [hx])]at hK
    by_cases hy:chkB q=0
    .have e0:=Xd tE;rw [<-hy]at e0;simp only [go_sem,c12,zM,hk,ms,e0];refine⟨hwq,hq,by decide,2,za (by simp [bitvec_to_nat,ms]) trivial,⟨by omega,by simp [hx],by simp [hy]⟩,by omega⟩
    .have e0:=ue tE hy;rw [e0]at hK;simp only [go_sem,c12,zM,hk,ms,e0];exact⟨hwq,hq,hK⟩
   .have hx:=h1 (by omega)
    have hy:=h2 (by omega)
    rw [if_neg (by simp [hx]),hy,Xd]at hK
    simp only [go_sem,c22];exact hK
theorem xaz(hΓ:Holds P Γ){f:Nat}(hc:check P f=some (21,yj.strip,[.tmp 2])):Sound P f (.dat true Wv):=by
 refine Qa hc Q3 hΓ (λargs K hcl hfi hG=>?_);match args,hG with
 | [a],hG=>
  obtain⟨l,rfl,hw,hin,hl,hK⟩:=hG;refine⟨by simp,?_⟩
  rcases hl0:l with _ | ⟨t,l0⟩
  .subst hl0;simp only [go_sem,yj];simpa [degM] using hK
  .have hlen:l.length=l0.length+1:=by rw [hl0];rfl
   rw [<-hl0];obtain⟨y,hy⟩:∃y,l.getD l0.length mo0=y:=⟨_,rfl⟩;have hy0:=getDm (by omega) hy
   have hym:=List.mem_of_getElem? hy0;have hd:degM l=y.1+y.2.1:=by
    unfold degM;rw [List.getLast?_eq_getElem?,hlen,Nat.add_sub_cancel,hy0]
   rw [hd]at hK;obtain⟨i1,i2,i3⟩:=hin y hym;have hn1:((l0.length+1:Nat):Int)-1=(l0.length:Int):=by omega
   have hn0:¬((l0.length+1:Nat):Int)=0:=by omega
   simp only [go_sem,yj,hlen,hn1,hn0,hy,mC];exact λ_=>⟨by omega,by omega,by omega,by omega,by omega,by omega,⟨by omega,by omega⟩,hK⟩
end Go.Abs
end
section
namespace Go.Num
open Go.Abs
end Go.Num
namespace Go.Abs
open Go.Num
variable {P:Program} {Γ:Nat->Spec}
def onM2f(k:List Mo->List Mo->Prop)(a:AV):Prop:=∃p q,a=.one (.full [[ms p],[ms q]])/\((∀x∈p,WLM x)/\(∀x∈q,WLM x))/\k p q
@[congr] theorem Jbr{k:List Mo->List Mo->Prop}{a a'}(h:a=a'):onM2f k a=onM2f k a':=by subst h;rfl
theorem YaM(k:List Mo->List Mo->Prop)(p q:List Mo):onM2f k (.one (.full [[.slice (p.map mC)],[.slice (q.map mC)]]))=(((∀x∈p,WLM x)/\(∀x∈q,WLM x))/\k p q):=by
 refine propext ⟨λ⟨x,y,h,h1,h2⟩=>?_,λh=>⟨p,q,rfl,h⟩⟩;simp only [ms,AV.one.injEq,C.full.injEq,List.cons.injEq,C.slice.injEq,and_true]at h;obtain⟨e1,e2⟩:=h;have:=jm e1;have:=jm e2
 subst_vars;exact⟨h1,h2⟩
attribute [go_sem,go_sem ↓] YaM
end Go.Abs
end
section
namespace Go.Num
open Go.Abs
def prodT(a b:Mo):Mo:=(a.1+b.1,a.2.1+b.2.1,rcan (rv a.2.2*rv b.2.2))
def prodM(p q:List Mo):List Mo:=p.flatMap λa=>q.map λb=>prodT a b
theorem jF(p q:List Mo):(prodM p q).map mv=mulL (p.map mv) (q.map mv):=by
 induction p with
 | nil=>rfl
 | cons a p ih=>
  have e:prodM (a::p) q=(q.map λb=>prodT a b)++prodM p q:=by unfold prodM;rw [List.flatMap_cons]
  rw [e,List.map_append,ih,List.map_cons,vH,List.map_map,List.map_map];congr 1;refine List.map_congr_left λb _=>?_;simp only [Function.comp,mv,prodT,mulT,qc]
theorem UZ(p q:List Mo):(prodM p q).length=p.length*q.length:=by
 have:=congrArg List.length (jF p q);rw [List.length_map,waW,List.length_map,List.length_map]at this;exact this
theorem Jay{p q:List Mo}{k:Nat}{a:Mo}(ha:p[k]?=some a):prodM (p.take (k+1)) q=prodM (p.take k) q++q.map λb=>prodT a b:=by
 unfold prodM;rw [List.take_add_one,ha,List.flatMap_append];simp
theorem qaT{p q:List Mo}(hwp:∀t∈p,WLM t)(hwq:∀t∈q,WLM t)(hp:∀t∈p,rl t.2.2<=1000000000)(hq:∀t∈q,rl t.2.2<=1000000000)(hi:InQ (mulL (p.map mv) (q.map mv))):∀t∈prodM p q,WLM t/\inM t/\rl t.2.2<=4294967296:=by
 intro t ht;have h1:inM t:=hi (mv t) (by rw [<-jF];exact List.mem_map.2 ⟨t,ht,rfl⟩)
 obtain⟨a,ha,hb⟩:=List.mem_flatMap.1 ht;obtain⟨b,hb',rfl⟩:=List.mem_map.1 hb;obtain⟨x1,x2,x3⟩:=h1;refine⟨⟨?_,?_,xj _⟩,⟨x1,x2,x3⟩,?_⟩
 .unfold i64r;omega
 .unfold i64r;omega
 .have h2:=ve (rv a.2.2) (rv b.2.2);have h3:=qm (hwp a ha).2.2;have h4:=qm (hwq b hb').2.2;have h5:=hp a ha;have h6:=hq b hb';have h7:rl (prodT a b).2.2=rz (rv a.2.2*rv b.2.2):=rfl;omega
theorem vaE{p:BQ}(hp:Canon p):∀t∈p,t.1+t.2.1<=degB p:=by
 intro t ht;unfold degB;cases hl:p.getLast? with
 | none=>rw [List.getLast?_eq_none_iff]at hl;subst hl;simp at ht
 | some u=>
  simp only;obtain⟨ys,hys⟩:=List.getLast?_eq_some_iff.1 hl;rw [hys]at ht hp;obtain⟨_,_,h3⟩:=List.pairwise_append.1 hp.str;rcases List.mem_append.1 ht with ht | ht
  .have:=h3 t ht u (by simp)
   rw [vbt (hp.ins t (by simp [ht])) (hp.ins u (by simp))]at this
   omega
  .rw [List.mem_singleton.1 ht];exact Int.le_refl _
theorem Ur{p:BQ}(hp:Canon p):-1<=degB p/\degB p<=24:=by
 unfold degB;cases hl:p.getLast? with
 | none=>simp
 | some u=>
  simp only;obtain⟨a,b,c⟩:=hp.ins u (List.mem_of_getLast? hl);omega
theorem vv{p:BQ}(hp:Canon p)(h:p≠[]):0<=degB p:=by
 unfold degB;cases hl:p.getLast? with
 | none=>rw [List.getLast?_eq_none_iff]at hl;exact absurd hl h
 | some u=>
  simp only;obtain⟨a,b,c⟩:=hp.ins u (List.mem_of_getLast? hl);omega
theorem JC{p:BQ}(hp:Canon p):Deg (degB p).toNat p:=λt ht=>by
 have h1:=vaE hp t ht;have h2:=vv hp (λh=>by subst h;simp at ht)
 omega
theorem vbc:∀a<25,∀b<25,a+b<=24->tri (a+1)*tri (b+1)<=8281:=by decide
def mulC(p q:List Mo):Nat:=if chk2 p q≠0 then chk2 p q else if p≠[]/\q≠[]/\24<degM p+degM q then 4 else 0
theorem Jbs{p q:List Mo}(hwp:∀t∈p,WLM t)(hwq:∀t∈q,WLM t)(h0:chk2 p q=0)(h1:¬(p≠[]/\q≠[]/\24<degM p+degM q)) :
  InQ (mulL (p.map mv) (q.map mv))/\p.length*q.length<=8281:=by
 obtain⟨c1,c2⟩:=ZQ h0;obtain⟨k1,e1⟩:=We c1 hwp;obtain⟨k2,e2⟩:=We c2 hwq;by_cases hp:p=[]
 .subst hp;exact⟨λt ht=>by simp [Xai]at ht,by simp⟩
 by_cases hq:q=[]
 .subst hq;refine⟨?_,by simp⟩
  have:mulL (p.map mv) ([].map mv)=[]:=by unfold mulL;simp
  rw [this];exact λt ht=>by simp at ht
 have d1:degM p=degB (p.map mv):=by rw [<-yd,e1]
 have d2:degM q=degB (q.map mv):=by rw [<-yd,e2]
 have n1:=vv k1 (by simpa using hp)
 have n2:=vv k2 (by simpa using hq)
 have hd:degB (p.map mv)+degB (q.map mv)<=24:=by
  rw [<-d1,<-d2];exact Int.not_lt.1 λh=>h1 ⟨hp,hq,h⟩
 have D1:=JC k1;have D2:=JC k2;refine⟨WaB k1.ins k2.ins D1 D2 (by omega),?_⟩
 have l1:=Uz k1 D1;have l2:=Uz k2 D2;rw [List.length_map]at l1 l2;exact Nat.le_trans (Nat.mul_le_mul l1 l2) (vbc _ (by omega) _ (by omega) (by omega))
end Go.Num
namespace Go.Abs
open Go.Num
variable {P:Program} {Γ:Nat->Spec}
def JP(tE:Nat):q_T:=q_c2 λa b K=>onMs (λp=>onMs (λq=>(∀t∈p,rl t.2.2<=1000000000)/\(∀t∈q,rl t.2.2<=1000000000)/\sz (p.map mv)+sz (q.map mv)<=3000000/\K (.tup [.one (.slice ((bres (mulC p q) (mulB (p.map mv) (q.map mv))).map mC)),errV tE (mulC p q)])) b) a
theorem vaI(tE:Nat):Good (JP tE):=q_g2 λ_ _=>(Ve λ_=>(Ve λ_=>(.and λ_=>(.and λ_=>(.and λ_=>(.ret _))))))
attribute [go_sem] JP
def Zl(f0 f1 f2 f3 tE:Nat):AC:=(.o [.m 4 (.c (.one .emp)),.m 5 (.c (.one (.lit .nilIface)))] [0,1] (.f (.o [.M 12 0,.M 13 1,.u 14 (.row 1 [[.x 1 (.t 12)],[.x 1 (.t 13)]]),.H 15 f0 14,.M 6 15] [0,1,6] (.o [.M 16 6,.R 17 16] [0,1,6,17] (.cond (.t 17) (.seq (.p [.M 18 6,.m 4 (.c (.one .emp)),.M 5 18]) .ret) .skip))) [0,1] (.f (.o [.M 19 0,.Z 20 19,.I 21 .gtr 20 0,.M 22 21,.V 23 22 true 1,.w 24 22 true (.len (.t 23)),.w 25 22 true (.bin .gtr (.t 24) (.i 0)),.P 26 22 25,.M 27 26,.V 28 27 true 0,.W 29 27 true f1 28,.V 30 27 true 1,.W 31 27 true f1 30,.w 32 27 true (.bin .add (.t 29) (.t 31)),.w 33 27 true (.bin .gtr (.t 32) (.i 24)),.P 34 27 33] [0,1,34] (.cond (.t 34) (.seq (.p [.u 35 (.iface tE (.i 4)),.m 4 (.c (.one .emp)),.M 5 35]) .ret) .skip)) [0,1] (.o [.m 7 (.c (.one .emp))] [0,1,7] (.f (.o [.M 36 0,.Z 37 36,.N 38 0] [1,7,36,37,38] (.block 0 (.loop (.o [.B 39 .lss 38 37] [1,7,36,37,38,39] (.f (.cond (.t 39) .skip (.exit 0)) [1,7,36,37,38] (.f (.block 1 (.o [.J 40 5 36 38,.L 41 5 40,.G 9 [(.lit (.int .i64 0)),(.lit (.int .i64 0)),.z,.emp,.emp],.S 5 9 41] [1,7,9,36,37,38] (.o [.M 42 1,.Z 43 42,.N 44 0] [1,7,9,36,37,38,42,43,44] (.block 2 (.loop (.o [.B 45 .lss 44 43] [1,7,9,36,37,38,42,43,44,45] (.f (.cond (.t 45) .skip (.exit 2)) [1,7,9,36,37,38,42,43,44] (.f (.block 3 (.o [.J 46 5 42 44,.L 47 5 46,.G 11 [(.lit (.int .i64 0)),(.lit (.int .i64 0)),.z,.emp,.emp],.S 5 11 47] [1,7,9,11,36,37,38,42,43,44] (.y [.M 48 7,.A 49 0 9,.F 50 1 49,.A 51 0 11,.F 52 1 51,.B 53 .add 50 52,.A 54 1 9,.F 55 1 54,.A 56 1 11,.F 57 1 56,.B 58 .add 55 57,.A 59 2 9,.L 60 3 59,.A 61 2 11,.L 62 3 61,.D 63 f2 60 62,.u 64 (.build [.x 1 (.t 53),.x 1 (.t 58),.x 3 (.t 63)]),.u 65 (.row 5 [[.x 5 (.t 64)]]),.u 66 (.app 5 (.t 48) (.t 65)),.M 7 66]))) [1,7,9,36,37,38,42,43,44] (.p [.I 67 .add 44 1,.M 44 67]))))))))) [1,7,36,37,38] (.p [.I 68 .add 38 1,.M 38 68]))))))) [7] (.seq (.p [.M 69 7,.H 70 f3 69,.M 4 70,.m 5 (.c (.one (.lit .nilIface)))]) .ret))))))
theorem vaz(hΓ:Holds P Γ){f fk fd fm fs tE m:Nat}(hm:10000<=m)(hk:Γ fk=.dat false (Wp tE))(hd:Γ fd=.dat true Wv)(hmu:Γ fm=.dat false Zj)(hs:Γ fs=.dat false (Uv m))(hc:check P f=some (71,(Zl fk fd fm fs tE).strip,[.tmp 4,.tmp 5])):Sound P f (.dat false (JP tE)):=by
 refine Qa hc (vaI tE) hΓ (λargs K hcl hfi hG=>?_);match args,hG with
 | [a,b],hG=>
  obtain⟨p,rfl,hwp,q,rfl,hwq,hp,hq,hsz,hK⟩:=hG;refine⟨by simp,?_⟩
  have hp' : ∀t∈p,rl t.2.2<=4294967296:=λt ht=>Nat.le_trans (hp t ht) (by decide)
  have hq' : ∀t∈q,rl t.2.2<=4294967296:=λt ht=>Nat.le_trans (hq t ht) (by decide)
  by_cases h0:chk2 p q=0
  rotate_left
  .have e0:=ue tE h0;have e1:mulC p q=chk2 p q:=if_pos h0;rw [e1,yW h0,e0]at hK;simp only [go_sem,Zl,hk,hs,e0];exact⟨⟨hwp,hwq⟩,hp',hq',hK⟩
  have e0:=Xd tE;rw [<-h0]at e0;obtain⟨c1,c2⟩:=ZQ h0;obtain⟨i1,j1,l1⟩:=qk c1 hwp;obtain⟨i2,j2,l2⟩:=qk c2 hwq;by_cases h1:p≠[]/\q≠[]/\24<degM p+degM q
  .have e1:mulC p q=4:=by unfold mulC;rw [if_neg (by simp [h0]),if_pos h1]
   rw [e1,yW (by decide),ue tE (by decide)]at hK
   obtain⟨g1,g2,g3⟩:=h1;have n1:(0:Int)<(p.length:Int):=by have:=List.length_pos_iff.2 g1;omega
   have n2:(0:Int)<(q.length:Int):=by have:=List.length_pos_iff.2 g2;omega
   obtain⟨k1,e1⟩:=We c1 hwp;obtain⟨k2,e2⟩:=We c2 hwq;have d1:degM p=degB (p.map mv):=by rw [<-yd,e1]
   have d2:degM q=degB (q.map mv):=by rw [<-yd,e2]
   have b1:=Ur k1;have b2:=Ur k2;simp only [go_sem,Zl,hk,hd,hs,e0,n1,n2,g3];exact⟨⟨hwp,hwq⟩,hp',hq',λ_ _=>⟨hwp,i1,by omega,hwq,i2,by omega,⟨by omega,by omega⟩,hK⟩⟩
  .have e1:mulC p q=0:=by unfold mulC;rw [if_neg (by simp [h0]),if_neg h1]
   rw [e1,qaa,Xd]at hK;obtain⟨hin,hl⟩:=Jbs hwp hwq h0 h1;obtain⟨k1,q1⟩:=We c1 hwp;obtain⟨k2,q2⟩:=We c2 hwq;have d1:degM p=degB (p.map mv):=by rw [<-yd,q1]
   have d2:degM q=degB (q.map mv):=by rw [<-yd,q2]
   have b1:=Ur k1;have b2:=Ur k2;simp only [go_sem,Zl,hk,hd,hs,e0];refine⟨⟨hwp,hwq⟩,hp',hq',λ_=>⟨λn1 _=>⟨λn2=>⟨hwp,i1,by omega,hwq,i2,by omega,⟨by omega,by omega⟩,λh=>?_,λ_ _=>?_⟩,λ_ _=>?_⟩,λ_ _=>?_⟩⟩
   .exact absurd ⟨List.length_pos_iff.1 (by omega),List.length_pos_iff.1 (by omega),h⟩ h1
   all_goals
    have hmb:mulB (p.map mv) (q.map mv)=nf ((prodM p q).map mv):=by unfold mulB;rw [jF]
    have hpo:=qaT hwp hwq hp hq hin;have hpl:(prodM p q).length<=m:=by rw [UZ];omega
    have hps:sz ((prodM p q).map mv)<=1000000000:=by
     rw [jF];have h1:=WaE (p.map mv) (q.map mv);rw [List.length_map,List.length_map]at h1;have h2:=Nat.mul_le_mul l2 (Nat.le_refl (sz (p.map mv)));have h3:=Nat.mul_le_mul l1 (Nat.le_refl (sz (q.map mv)));omega
    rw [hmb]at hK;refine ja (λk:Nat=>if prodM (p.take k) q=[] then ⟨mkV [(1,msA q),(7,.one .emp),(36,msA p),(37,.one (.lit (.int .i64 p.length))),(38,.one (.lit (.int .i64 k)))],mkH []⟩
      else ⟨mkV [(1,msA q),(7,.one (.own 66 1 5 0 (prodM (p.take k) q).length)),(36,msA p),(37,.one (.lit (.int .i64 p.length))),(38,.one (.lit (.int .i64 k)))],mkH [(66,⟨1,some ⟨(prodM (p.take k) q).map mC,5,true⟩⟩)]⟩) (λk=>k<=p.length) (λk=>p.length-k) 0 ?_ ?_ ?_
    .have e00:prodM (p.take 0) q=[]:=rfl;rw [if_pos e00];exact za (by simp [bitvec_to_nat,msA,ms]) trivial
    .exact Nat.zero_le _
    .intro k hk2;by_cases hlt:k<p.length
     .obtain⟨x,hx⟩:∃x,p.getD k mo0=x:=⟨_,rfl⟩;have hx0:=getDm hlt hx;have hxm:=List.mem_of_getElem? hx0;have hpt:=Jay (q:=q) hx0;obtain⟨x1,x2,x3⟩:=i1 x hxm;have hwx:=(hwp x hxm).2.2;have hrx:=hp x hxm;obtain⟨A,hA⟩:∃A,prodM (p.take k) q=A:=⟨_,rfl⟩;rw [hA]at hpt;have hAl:A.length<=400000:=by
       rw [<-hA,UZ,List.length_take];have:=Nat.mul_le_mul (show min k p.length<=325 by omega) l2
       omega
      by_cases hA0:A=[]
      .have hA':=hA;rw [hA0]at hA';simp only [go_sem,hlt,hx,hA',mC];intro _;refine ja (λj:Nat=>if A++(q.take j).map (λb=>prodT x b)=[] then ⟨mkV [(1,msA q),(7,.one .emp),(9,.one (.ptr 9 1 0 0)),(36,msA p),(37,.one (.lit (.int .i64 p.length))),(38,.one (.lit (.int .i64 k))),(42,msA q),(43,.one (.lit (.int .i64 q.length))),(44,.one (.lit (.int .i64 j)))],mkH [(9,⟨1,some ⟨[mC x],5,true⟩⟩)]⟩
         else ⟨mkV [(1,msA q),(7,.one (.own 66 1 5 0 (A++(q.take j).map (λb=>prodT x b)).length)),(9,.one (.ptr 9 1 0 0)),(36,msA p),(37,.one (.lit (.int .i64 p.length))),(38,.one (.lit (.int .i64 k))),(42,msA q),(43,.one (.lit (.int .i64 q.length))),(44,.one (.lit (.int .i64 j)))],mkH [(9,⟨1,some ⟨[mC x],5,true⟩⟩),(66,⟨1,some ⟨(A++(q.take j).map (λb=>prodT x b)).map mC,5,true⟩⟩)]⟩) (λj=>j<=q.length) (λj=>q.length-j) 0 ?_ ?_ ?_
       .have e0:A++(q.take 0).map (λb=>prodT x b)=A:=by simp
        rw [e0]
        first
         | (rw [if_pos hA0];exact za (by simp [bitvec_to_nat,msA,ms]) ⟨xc (l':=[x]) rfl,trivial⟩)
         | (rw [if_neg hA0];exact za (by simp [bitvec_to_nat,msA,ms]) ⟨xc (l':=[x]) rfl,xc rfl,trivial⟩)
       .exact Nat.zero_le _
       .intro j hj2;by_cases hlj:j<q.length
        .obtain⟨y,hy⟩:∃y,q.getD j mo0=y:=⟨_,rfl⟩;have hy0:=getDm hlj hy;have hym:=List.mem_of_getElem? hy0;obtain⟨y1,y2,y3⟩:=i2 y hym;have hwy:=(hwq y hym).2.2;have hry:=hq y hym;have hqt:A++(q.take (j+1)).map (λb=>prodT x b)=A++(q.take j).map (λb=>prodT x b)++[prodT x y]:=by rw [List.take_add_one,hy0];simp
         obtain⟨B,hB⟩:∃B,A++(q.take j).map (λb=>prodT x b)=B:=⟨_,rfl⟩;rw [hB]at hqt;have hBl:B.length<=500000:=by
          rw [<-hB,List.length_append,List.length_map,List.length_take];omega
         by_cases hB0:B=[]
         .rw [hB0]at hB;simp only [go_sem,hlj,hy,hB,hmu,mC];refine⟨⟨by omega,by omega⟩,⟨by omega,by omega⟩,hwx,hwy,by omega,by omega,λe he=>by rw [List.mem_singleton.1 he];rfl,?_⟩
          repeat first | refine q_Wk ?_ | intro _
          refine⟨j+1,?_,by omega,by omega⟩
          rw [hqt,if_neg (by simp)]
          exact za (by simp [bitvec_to_nat,msA,ms,hB0]) ⟨xc (l':=[x]) rfl,xc (by rw [hB0];simp [mC,prodT]),trivial⟩
         .simp only [go_sem,hlj,hy,hB,hB0,hmu,mC];refine⟨⟨by omega,by omega⟩,⟨by omega,by omega⟩,hwx,hwy,by omega,by omega,λe he=>by rw [List.mem_singleton.1 he];rfl,?_⟩
          repeat first | refine q_Wk ?_ | intro _
          refine⟨j+1,?_,by omega,by omega⟩
          rw [hqt,if_neg (by simp)]
          exact za (by simp [bitvec_to_nat,msA,ms]) ⟨xc (l':=[x]) rfl,xc (by simp [mC,prodT]),trivial⟩
        .have ej:A++(q.take j).map (λb=>prodT x b)=prodM (p.take (k+1)) q:=by rw [hpt,List.take_of_length_le (by omega)]
         obtain⟨B,hB⟩:∃B,prodM (p.take (k+1)) q=B:=⟨_,rfl⟩;rw [hB]at ej;by_cases hB0:B=[]
         .rw [hB0]at ej;simp only [go_sem,hlj,ej,mC];repeat first | refine q_Wk ?_ | intro _
          refine⟨k+1,?_,by omega,by omega⟩
          rw [hB,if_pos hB0];exact za (by simp [bitvec_to_nat,msA,ms]) trivial
         .simp only [go_sem,hlj,ej,hB0,mC];repeat first | refine q_Wk ?_ | intro _
          refine⟨k+1,?_,by omega,by omega⟩
          rw [hB,if_neg hB0];exact za (by simp [bitvec_to_nat,msA,ms]) ⟨xc rfl,trivial⟩
      .simp only [go_sem,hlt,hx,hA,hA0,mC];intro _;refine ja (λj:Nat=>if A++(q.take j).map (λb=>prodT x b)=[] then ⟨mkV [(1,msA q),(7,.one .emp),(9,.one (.ptr 9 1 0 0)),(36,msA p),(37,.one (.lit (.int .i64 p.length))),(38,.one (.lit (.int .i64 k))),(42,msA q),(43,.one (.lit (.int .i64 q.length))),(44,.one (.lit (.int .i64 j)))],mkH [(9,⟨1,some ⟨[mC x],5,true⟩⟩)]⟩
         else ⟨mkV [(1,msA q),(7,.one (.own 66 1 5 0 (A++(q.take j).map (λb=>prodT x b)).length)),(9,.one (.ptr 9 1 0 0)),(36,msA p),(37,.one (.lit (.int .i64 p.length))),(38,.one (.lit (.int .i64 k))),(42,msA q),(43,.one (.lit (.int .i64 q.length))),(44,.one (.lit (.int .i64 j)))],mkH [(9,⟨1,some ⟨[mC x],5,true⟩⟩),(66,⟨1,some ⟨(A++(q.take j).map (λb=>prodT x b)).map mC,5,true⟩⟩)]⟩) (λj=>j<=q.length) (λj=>q.length-j) 0 ?_ ?_ ?_
       .have e0:A++(q.take 0).map (λb=>prodT x b)=A:=by simp
        rw [e0]
        first
         | (rw [if_pos hA0];exact za (by simp [bitvec_to_nat,msA,ms]) ⟨xc (l':=[x]) rfl,trivial⟩)
         | (rw [if_neg hA0];exact za (by simp [bitvec_to_nat,msA,ms]) ⟨xc (l':=[x]) rfl,xc rfl,trivial⟩)
       .exact Nat.zero_le _
       .intro j hj2;by_cases hlj:j<q.length
        .obtain⟨y,hy⟩:∃y,q.getD j mo0=y:=⟨_,rfl⟩;have hy0:=getDm hlj hy;have hym:=List.mem_of_getElem? hy0;obtain⟨y1,y2,y3⟩:=i2 y hym;have hwy:=(hwq y hym).2.2;have hry:=hq y hym;have hqt:A++(q.take (j+1)).map (λb=>prodT x b)=A++(q.take j).map (λb=>prodT x b)++[prodT x y]:=by rw [List.take_add_one,hy0];simp
         obtain⟨B,hB⟩:∃B,A++(q.take j).map (λb=>prodT x b)=B:=⟨_,rfl⟩;rw [hB]at hqt;have hBl:B.length<=500000:=by
          rw [<-hB,List.length_append,List.length_map,List.length_take];omega
         by_cases hB0:B=[]
         .rw [hB0]at hB;simp only [go_sem,hlj,hy,hB,hmu,mC];refine⟨⟨by omega,by omega⟩,⟨by omega,by omega⟩,hwx,hwy,by omega,by omega,λe he=>by rw [List.mem_singleton.1 he];rfl,?_⟩
          repeat first | refine q_Wk ?_ | intro _
          refine⟨j+1,?_,by omega,by omega⟩
          rw [hqt,if_neg (by simp)]
          exact za (by simp [bitvec_to_nat,msA,ms,hB0]) ⟨xc (l':=[x]) rfl,xc (by rw [hB0];simp [mC,prodT]),trivial⟩
         .simp only [go_sem,hlj,hy,hB,hB0,hmu,mC];refine⟨⟨by omega,by omega⟩,⟨by omega,by omega⟩,hwx,hwy,by omega,by omega,λe he=>by rw [List.mem_singleton.1 he];rfl,?_⟩
          repeat first | refine q_Wk ?_ | intro _
          refine⟨j+1,?_,by omega,by omega⟩
          rw [hqt,if_neg (by simp)]
          exact za (by simp [bitvec_to_nat,msA,ms]) ⟨xc (l':=[x]) rfl,xc (by simp [mC,prodT]),trivial⟩
        .have ej:A++(q.take j).map (λb=>prodT x b)=prodM (p.take (k+1)) q:=by rw [hpt,List.take_of_length_le (by omega)]
         obtain⟨B,hB⟩:∃B,prodM (p.take (k+1)) q=B:=⟨_,rfl⟩;rw [hB]at ej;by_cases hB0:B=[]
         .rw [hB0]at ej;simp only [go_sem,hlj,ej,mC];repeat first | refine q_Wk ?_ | intro _
          refine⟨k+1,?_,by omega,by omega⟩
          rw [hB,if_pos hB0];exact za (by simp [bitvec_to_nat,msA,ms]) trivial
         .simp only [go_sem,hlj,ej,hB0,mC];repeat first | refine q_Wk ?_ | intro _
          refine⟨k+1,?_,by omega,by omega⟩
          rw [hB,if_neg hB0];exact za (by simp [bitvec_to_nat,msA,ms]) ⟨xc rfl,trivial⟩
     .have ek:p.take k=p:=List.take_of_length_le (by omega)
      by_cases hA0:prodM p q=[]
      .rw [hA0]at hK;simp only [go_sem,hlt,ek,hA0,hs];exact⟨by simp,by omega,by simp [sz],hK⟩
      .simp only [go_sem,hlt,ek,hA0,hs];exact⟨λt ht=>(hpo t ht).1,λt ht=>(hpo t ht).2,hpl,hps,hK⟩
end Go.Abs
end
section
namespace Go.Num
open Go.Abs
theorem zaX{l:BQ}(h:InQ l)(x y:Rat):rz (ev l x y)<=sz l+l.length*(24*(rz x+2)+24*(rz y+2)+8):=by
 induction l with
 | nil=>have:=rz_0;simp only [ev,sz];omega
 | cons t l ih=>
  obtain⟨⟨a,b,c⟩,h2⟩:=Qe.1 h;have ih:=ih h2;have h3:=wC x t.1.toNat;have h4:=wC y t.2.1.toNat;have h5:=ve (pw x t.1.toNat) (pw y t.2.1.toNat);have h6:=ve t.2.2 (pw x t.1.toNat*pw y t.2.1.toNat);have h7:=qB (mev t x y) (ev l x y);have h8:t.1.toNat*(rz x+2)<=24*(rz x+2):=Nat.mul_le_mul_right _ (by omega)
  have h9:t.2.1.toNat*(rz y+2)<=24*(rz y+2):=Nat.mul_le_mul_right _ (by omega)
  have h10:mev t x y=t.2.2*(pw x t.1.toNat*pw y t.2.1.toNat):=rfl;rw [h10]at h7;simp only [ev,mev,sz,List.length_cons,Nat.add_mul,Nat.one_mul]at *
  omega
theorem ZaE{l:List Mo}{k:Nat}{t:Mo}(ht:l[k]?=some t)(x y:Rat):ev ((l.take (k+1)).map mv) x y=ev ((l.take k).map mv) x y+rv t.2.2*(pw x t.1.toNat*pw y t.2.1.toNat):=by
 rw [jD ht,vaK];simp only [ev,mev,mv,Rat.add_zero]
theorem rone1:((1:Int):Rat)=1:=by simp
end Go.Num
namespace Go.Abs
open Go.Num
variable {P:Program} {Γ:Nat->Spec}
theorem Ybv(N:Nat):mx (N:Int) (-(N:Int))=N:=by
 unfold mx;split <;> omega
theorem rQ_0:rQ 0=.agg [.lit (.bool false),.slice [],.slice []]:=by unfold rQ;rw [Ye];rfl
theorem yn{h h' : Nat->HB}{z:Nat}{b:Bool}:okB h h' (some ⟨[[.lit (.bool false),.emp,.emp]],z,b⟩) (some ⟨[[.lit (.bool false),.emp,.emp]],z,b⟩):=
 ⟨⟨rfl,rfl⟩,.inl ⟨rfl,λe he c hc=>by
  rw [List.mem_singleton]at he;subst he;simp only [List.mem_cons,List.not_mem_nil,or_false]at hc;rcases hc with rfl | rfl | rfl
  .exact .lit _
  .exact .emp
  .exact .emp⟩⟩
def WI(tE:Nat):q_T:=q_c2 λa n K=>onR (λx=>asInt (λk n=>k=.i64/\0<=n/\n<=64/\rl x<=10000000/\K (.tup [rQ (pw (rv x) n.toNat),errV tE 0])) n) a
theorem kaM(tE:Nat):Good (WI tE):=q_g2 λ_ _=>(xk λ_=>(Jc (λ_ _=>(.and λ_=>(.and λ_=>(.and λ_=>(.and λ_=>(.ret _)))))) _))
def XD(tE:Nat):q_T:=q_c3 λa b c K=>onMs (λp=>onR (λx=>onR (λy=>(∀t∈p,rl t.2.2<=1000000000)/\rl x<=10000/\rl y<=10000/\sz (p.map mv)<=100000000/\K (.tup [rQ (if chkB p=0 then ev (p.map mv) (rv x) (rv y) else 0),errV tE (chkB p)])) c) b) a
theorem jay(tE:Nat):Good (XD tE):=q_g3 λ_ _ _=>(Ve λ_=>(xk λ_=>(xk λ_=>(.and λ_=>(.and λ_=>(.and λ_=>(.and λ_=>(.ret _))))))))
attribute [go_sem] WI XD
def vm(f0 f1 f2 tE:Nat):AC:=(.o [.K 2 3 0,.G 4 [.z,.emp,.emp],.m 5 (.c (.one (.lit .nilIface)))] [1,2,4] (.f (.o [.M 7 1,.I 8 .lss 7 (-64),.M 9 8,.V 10 9 false 1,.w 11 9 false (.bin .gtr (.t 10) (.i 64)),.Q 12 9 11] [1,2,4,12] (.cond (.t 12) (.seq (.p [.u 13 (.build [.z [.z,.emp,.emp]]),.u 14 (.iface tE (.i 3)),.S 3 4 13,.M 5 14]) .ret) .skip)) [1,2,4] (.o [.u 15 (.call f0 [(.i 1)]),.G 6 [.z,.emp,.emp],.S 3 6 15] [1,2,4,6] (.f (.o [.M 16 1,.M 17 1,.u 18 (.un .neg (.t 17)),.u 19 (.max [(.t 16),(.t 18)]),.N 20 0] [1,2,4,6,19,20] (.block 0 (.loop (.o [.B 21 .lss 20 19] [1,2,4,6,19,20,21] (.f (.cond (.t 21) .skip (.exit 0)) [1,2,4,6,19,20] (.f (.block 1 (.p [.L 22 3 6,.L 23 3 2,.D 24 f1 22 23,.S 3 6 24])) [1,2,4,6,19,20] (.p [.I 25 .add 20 1,.M 20 25]))))))) [1,4,6] (.f (.o [.M 26 1,.I 27 .lss 26 0] [4,6,27] (.cond (.t 27) (.seq (.y [.u 28 (.call f0 [(.i 1)]),.L 29 3 6,.D 30 f2 28 29,.X 31 0 30,.X 32 1 30,.S 3 4 31,.M 5 32]) .ret) .skip)) [4,6] (.seq (.p [.L 33 3 6,.S 3 4 33,.m 5 (.c (.one (.lit .nilIface)))]) .ret))))))
def zn(f0 f1 f2 f3:Nat):AC:=(.o [.K 4 3 1,.K 5 3 2,.G 6 [.z,.emp,.emp],.m 7 (.c (.one (.lit .nilIface)))] [0,4,5,6] (.f (.o [.M 15 0,.H 16 f0 15,.M 8 16] [0,4,5,6,8] (.o [.M 17 8,.R 18 17] [0,4,5,6,8,18] (.cond (.t 18) (.seq (.p [.u 19 (.build [.z [.z,.emp,.emp]]),.M 20 8,.S 3 6 19,.M 7 20]) .ret) .skip))) [0,4,5,6] (.o [.G 9 [.z,.emp,.emp]] [0,4,5,6,9] (.f (.o [.M 21 0,.Z 22 21,.N 23 0] [4,5,6,9,21,22,23] (.block 0 (.loop (.o [.B 24 .lss 23 22] [4,5,6,9,21,22,23,24] (.f (.cond (.t 24) .skip (.exit 0)) [4,5,6,9,21,22,23] (.f (.block 1 (.o [.J 25 5 21 23,.L 26 5 25,.G 11 [(.lit (.int .i64 0)),(.lit (.int .i64 0)),.z,.emp,.emp],.S 5 11 26] [4,5,6,9,11,21,22,23] (.o [.L 28 3 4,.A 29 0 11,.F 30 1 29,.D 31 f1 28 30,.M 27 31,.X 32 0 27,.X 33 1 27,.G 12 [.z,.emp,.emp],.S 3 12 32,.M 13 33] [4,5,6,9,11,12,13,21,22,23] (.f (.o [.M 34 13,.R 35 34] [4,5,6,9,11,12,13,21,22,23,35] (.cond (.t 35) (.seq (.p [.u 36 (.build [.z [.z,.emp,.emp]]),.M 37 13,.S 3 6 36,.M 7 37]) .ret) .skip)) [4,5,6,9,11,12,21,22,23] (.o [.L 39 3 5,.A 40 1 11,.F 41 1 40,.D 42 f1 39 41,.M 38 42,.X 43 0 38,.X 44 1 38,.G 14 [.z,.emp,.emp],.S 3 14 43,.M 13 44] [4,5,6,9,11,12,13,14,21,22,23] (.f (.o [.M 45 13,.R 46 45] [4,5,6,9,11,12,13,14,21,22,23,46] (.cond (.t 46) (.seq (.p [.u 47 (.build [.z [.z,.emp,.emp]]),.M 48 13,.S 3 6 47,.M 7 48]) .ret) .skip)) [4,5,6,9,11,12,14,21,22,23] (.y [.L 49 3 9,.A 50 2 11,.L 51 3 50,.L 52 3 12,.L 53 3 14,.D 54 f2 52 53,.D 55 f2 51 54,.D 56 f3 49 55,.S 3 9 56]))))))) [4,5,6,9,21,22,23] (.p [.I 57 .add 23 1,.M 23 57]))))))) [6,9] (.seq (.p [.L 58 3 9,.S 3 6 58,.m 7 (.c (.one (.lit .nilIface)))]) .ret)))))
theorem kaz(hΓ:Holds P Γ){f fo fm fd tE:Nat}(ho:Γ fo=.dat false vw)(hm:Γ fm=.dat false Zj)(hc:check P f=some (34,(vm fo fm fd tE).strip,[.cell 4 3 true,.tmp 5])):Sound P f (.dat false (WI tE)):=by
 refine Qa hc (kaM tE) hΓ (λargs K hcl hfi hG=>?_);match args,hG with
 | [a,b],hG=>
  obtain⟨x,rfl,hwx,hG⟩:=hG;obtain⟨k,n,rfl,rfl,h0,h1,hrx,hK⟩:=Xa hG;refine⟨by simp,?_⟩
  obtain⟨N,rfl⟩:∃N:Nat,n=N:=⟨n.toNat,by omega⟩
  rw [Int.toNat_natCast,Xd]at hK;have n1:¬(N:Int) < -64:=by omega
  have n2:¬(64:Int)<(N:Int):=by omega
  have n3:¬(N:Int)<0:=by omega
  simp only [go_sem,vm,ho,rA,n1,n2,Ybv,rone1];refine⟨by decide,by decide,⟨by omega,by omega⟩,?_⟩
  refine ja (λk:Nat=>⟨mkV [(1,.one (.lit (.int .i64 N))),(2,.one (.ptr 2 1 0 0)),(4,.one (.ptr 4 1 0 0)),(6,.one (.ptr 6 1 0 0)),(19,.one (.lit (.int .i64 N))),(20,.one (.lit (.int .i64 k)))],mkH [(2,⟨1,some ⟨[[cb x,cn x,cd x]],3,true⟩⟩),(4,⟨1,some ⟨[[.lit (.bool false),.emp,.emp]],3,true⟩⟩),(6,⟨1,some ⟨[[cb (rcan (pw (rv x) k)),cn (rcan (pw (rv x) k)),cd (rcan (pw (rv x) k))]],3,true⟩⟩)]⟩) (λk=>k<=N) (λk=>N-k) 0 ?_ ?_ ?_
  .exact za (by simp [bitvec_to_nat]) ⟨Yc,yn,Yc,trivial⟩
  .exact Nat.zero_le _
  .intro k hk;have hz:=wC (rv x) k;have hz2:=qm hwx;have hz3:k*(rz (rv x)+2)<=64*(rz (rv x)+2):=Nat.mul_le_mul_right _ (by omega)
   by_cases hlt:k<N
   .simp only [go_sem,hlt,hm,qc];exact⟨hwx,by omega,by omega,by omega,k+1,za (by simp [bitvec_to_nat]) ⟨Yc,yn,Yc,trivial⟩,by omega,by omega⟩
   .have ek:k=N:=by omega
    subst ek;simp only [go_sem,hlt,n3,Int.lt_irrefl,Nat.lt_irrefl];exact hK
theorem waf(hΓ:Holds P Γ){f fk fp fm fa tE:Nat}(hk:Γ fk=.dat false (ko tE))(hp:Γ fp=.dat false (WI tE))(hm:Γ fm=.dat false Zj)(ha:Γ fa=.dat false kk)(hc:check P f=some (59,(zn fk fp fm fa).strip,[.cell 6 3 true,.tmp 7])):Sound P f (.dat false (XD tE)):=by
 refine Qa hc (jay tE) hΓ (λargs K hcl hfi hG=>?_);match args,hG with
 | [a,b,c],hG=>
  obtain⟨p,rfl,hwp,x,rfl,hwx,y,rfl,hwy,hrp,hrx,hry,hsz,hK⟩:=hG;refine⟨by simp,?_⟩
  have hrp' : ∀t∈p,rl t.2.2<=4294967296:=λt ht=>Nat.le_trans (hrp t ht) (by decide)
  by_cases h0:chkB p=0
  .have e0:=Xd tE;rw [if_pos h0,h0,Xd]at hK;rw [<-h0]at e0;obtain⟨i1,j1,l1⟩:=qk h0 hwp;simp only [go_sem,zn,hk,rA,e0];refine⟨hwp,hrp',λ_=>?_⟩;refine ja (λk:Nat=>⟨mkV [(4,.one (.ptr 4 1 0 0)),(5,.one (.ptr 5 1 0 0)),(6,.one (.ptr 6 1 0 0)),(9,.one (.ptr 9 1 0 0)),(21,msA p),(22,.one (.lit (.int .i64 p.length))),(23,.one (.lit (.int .i64 k)))],mkH [(4,⟨1,some ⟨[[cb x,cn x,cd x]],3,true⟩⟩),(5,⟨1,some ⟨[[cb y,cn y,cd y]],3,true⟩⟩),(6,⟨1,some ⟨[[.lit (.bool false),.emp,.emp]],3,true⟩⟩),(9,⟨1,some ⟨[if k=0 then [.lit (.bool false),.emp,.emp] else [cb (rcan (ev ((p.take k).map mv) (rv x) (rv y))),cn (rcan (ev ((p.take k).map mv) (rv x) (rv y))),cd (rcan (ev ((p.take k).map mv) (rv x) (rv y)))]],3,true⟩⟩)]⟩) (λk=>k<=p.length) (λk=>p.length-k) 0 ?_ ?_ ?_
   .rw [if_pos rfl];exact za (by simp [bitvec_to_nat,msA,ms]) ⟨Yc,Yc,yn,yn,trivial⟩
   .exact Nat.zero_le _
   .intro k hk2;by_cases hlt:k<p.length
    .obtain⟨t,ht⟩:∃t,p.getD k mo0=t:=⟨_,rfl⟩;have ht0:=getDm hlt ht;have htm:=List.mem_of_getElem? ht0;obtain⟨t1,t2,t3⟩:=i1 t htm;have hwt:=(hwp t htm).2.2;have hrt:=hrp t htm;have het:=ZaE ht0 (rv x) (rv y);have z0:=rz_0;have z1:=qm hwx;have z2:=qm hwy;have z3:=qm hwt;have z4:=wC (rv x) t.1.toNat;have z5:=wC (rv y) t.2.1.toNat;have z6:t.1.toNat*(rz (rv x)+2)<=24*(rz (rv x)+2):=Nat.mul_le_mul_right _ (by omega)
     have z7:t.2.1.toNat*(rz (rv y)+2)<=24*(rz (rv y)+2):=Nat.mul_le_mul_right _ (by omega)
     have z8:=ve (pw (rv x) t.1.toNat) (pw (rv y) t.2.1.toNat);have z9:=ve (rv t.2.2) (pw (rv x) t.1.toNat*pw (rv y) t.2.1.toNat);have z10:rz (ev ((p.take k).map mv) (rv x) (rv y))<=1000000000:=by
      have w1:=zaX (l:=(p.take k).map mv) (λu hu=>by
       obtain⟨v,hv,rfl⟩:=List.mem_map.1 hu;exact i1 v (List.mem_of_mem_take hv)) (rv x) (rv y)
      have w2:=Uo (p.map mv) k;rw [<-List.map_take]at w2;rw [List.length_map,List.length_take]at w1;have w3:=Nat.mul_le_mul (show min k p.length<=325 by omega) (show 24*(rz (rv x)+2)+24*(rz (rv y)+2)+8<=24*10002+24*10002+8 by omega)
      omega
     have e1:=Xd tE;by_cases hk0:k=0
     .subst hk0;simp only [go_sem,hlt,ht,hp,hm,ha,mC,e1,qc,rQ];repeat first | refine q_Wk ?_ | intro _
      refine⟨1,?_,by omega,by omega⟩
      rw [if_neg (by decide)]
      have het0:ev ((p.take 1).map mv) (rv x) (rv y)=0+rv t.2.2*(pw (rv x) t.1.toNat*pw (rv y) t.2.1.toNat):=het;rw [het0];exact za (by simp [bitvec_to_nat,msA,ms]) ⟨Yc,Yc,yn,Yc,trivial⟩
     .simp only [go_sem,hlt,ht,hp,hm,ha,mC,e1,qc,rQ,hk0];repeat first | refine q_Wk ?_ | intro _
      refine⟨k+1,?_,by omega,by omega⟩
      rw [if_neg (by omega),het]
      exact za (by simp [bitvec_to_nat,msA,ms]) ⟨Yc,Yc,yn,Yc,trivial⟩
    .have ek:p.take k=p:=List.take_of_length_le (by omega)
     by_cases hk0:k=0
     .subst hk0;simp only [go_sem,hlt,rQ];have hp0:p=[]:=List.length_eq_zero_iff.1 (by omega)
      subst hp0;have e00:ev (([]:List Mo).map mv) (rv x) (rv y)=0:=rfl;rw [e00,rQ_0]at hK;exact hK
     .simp only [go_sem,hlt,rQ,hk0,ek];exact hK
  .have e0:=ue tE h0;rw [if_neg h0,e0]at hK;simp only [go_sem,zn,hk,rA,e0];rw [rQ_0]at hK;exact⟨hwp,hrp',hK⟩
end Go.Abs
end
section
namespace Go.Num
abbrev CpR:=V2×V2×Rat×Rat×Rat×Rat×Rat
structure CB (c:CpR):Prop where
 o1:rz c.1.1<=4000
 o2:rz c.1.2<=4000
 q1:rz c.2.1.1<=4000
 q2:rz c.2.1.2<=4000
 a2:rz c.2.2.1<=4000
 b2:rz c.2.2.2.1<=4000
 c2:rz c.2.2.2.2.1<=4000
 u:rz c.2.2.2.2.2.1<=4000
 v:rz c.2.2.2.2.2.2<=4000
def nrmB(v:BQ×BQ):BQ:=addB (mulB v.1 v.1) (mulB v.2 v.2)
def cRe(c:CpR):Rat:=1-c.2.2.2.2.2.1
def cSe(c:CpR):Rat:=c.2.2.2.2.1-sqQ (cRe c,c.2.2.2.2.2.2)*c.2.2.2.1
theorem PB.nrm{v:BQ×BQ}{d s:Nat}(h1:PB d s v.1)(h2:PB d s v.2)(hd:d+d<=24):PB (d+d) (4*(tri (d+1)*s)) (nrmB v):=
 ((h1.mul h1 hd).add (h2.mul h2 hd)).mono (Nat.le_refl _) (by omega)
def wF(c:CpR)(p:V2):Rat:=cSe c-sqQ (subQ p c.2.1)
end Go.Num
end
section
namespace Go.Abs
open Go.Num
variable {P:Program} {Γ:Nat->Spec}
def pQ(x:V2):AV:=.agg [cb (rcan x.1),cn (rcan x.1),cd (rcan x.1),cb (rcan x.2),cn (rcan x.2),cd (rcan x.2)]
theorem wbh(x:V2):pQ x=.agg [cb (rcan x.1),cn (rcan x.1),cd (rcan x.1),cb (rcan x.2),cn (rcan x.2),cd (rcan x.2)]:=eq_of_heq (HEq.refl _)
def tQ(t:TnQ):AV:=.agg [cb (rcan t.1),cn (rcan t.1),cd (rcan t.1),.lit (.bool t.2)]
theorem zbi(t:TnQ):tQ t=.agg [cb (rcan t.1),cn (rcan t.1),cd (rcan t.1),.lit (.bool t.2)]:=eq_of_heq (HEq.refl _)
theorem va2(a b:Rat):WLA (rcan a,rcan b)=True:=eq_true ⟨xj _,xj _⟩
attribute [go_sem,go_sem ↓] wbh zbi va2
end Go.Abs
end
section
namespace Go.Num
open Go.Abs
end Go.Num
namespace Go.Abs
open Go.Num
variable {P:Program} {Γ:Nat->Spec}
def psQ(p:PsQ):AV:=.agg [cb (rcan p.1.1),cn (rcan p.1.1),cd (rcan p.1.1),.lit (.bool p.1.2),cb (rcan p.2.1),cn (rcan p.2.1),cd (rcan p.2.1),cb (rcan p.2.2),cn (rcan p.2.2),cd (rcan p.2.2)]
theorem Ja2(p:PsQ):psQ p=.agg [cb (rcan p.1.1),cn (rcan p.1.1),cd (rcan p.1.1),.lit (.bool p.1.2),cb (rcan p.2.1),cn (rcan p.2.1),cd (rcan p.2.1),cb (rcan p.2.2),cn (rcan p.2.2),cd (rcan p.2.2)]:=eq_of_heq (HEq.refl _)
attribute [go_sem,go_sem ↓] Ja2
end Go.Abs
end
section
namespace Go.Num
def inA(y:Rat)(x:Arc):Bool:=decide (rv x.1<=y) && decide (y<rv x.2)
def idxOf(y:Rat)(l:List Arc):Int:=match l.findIdx? (inA y) with | some i=>i | none=>-1
end Go.Num
namespace Go.Abs
open Go.Num
variable {P:Program} {Γ:Nat->Spec}
def pA(y:R):AV:=.one (.ref [cb y,cn y,cd y])
def kA(f:Nat)(y:R):AV:=.one (.clo f [.ref [cb y,cn y,cd y]])
theorem ybq(x y:R)(h:pA x=pA y):x=y:=Yq x y (by simpa [pA,rA] using h)
theorem ubh(f:Nat)(x y:R)(h:kA f x=kA f y):x=y:=Yq x y (by simpa [kA,rA] using h)
def onP(k:R->Prop)(a:AV):Prop:=onE pA (λx=>WLR x/\k x) a
@[congr] theorem Ybw{k:R->Prop}{a a'}(h:a=a'):onP k a=onP k a':=by subst h;rfl
theorem xbk(k:R->Prop)(x:R):onP k (.one (.ref [cb x,cn x,cd x]))=(WLR x/\k x):=yf ybq (λx=>WLR x/\k x) x
def onKl(f:Nat)(k:R->Prop)(a:AV):Prop:=onE (kA f) (λx=>WLR x/\k x) a
@[congr] theorem wbs{f}{k:R->Prop}{a a'}(h:a=a'):onKl f k a=onKl f k a':=by subst h;rfl
theorem uaZ(f:Nat)(k:R->Prop)(x:R):onKl f k (.one (.clo f [.ref [cb x,cn x,cd x]]))=(WLR x/\k x):=yf (ubh f) (λx=>WLR x/\k x) x
attribute [go_sem,go_sem ↓] xbk uaZ
theorem zaz(y:R):CleanL [cb y,cn y,cd y]:=by
 intro c hc;simp only [List.mem_cons,List.not_mem_nil,or_false]at hc;rcases hc with rfl | rfl | rfl
 .exact of_eq_true (Vj _)
 .exact of_eq_true (Yj _)
 .exact of_eq_true (Wj _)
end Go.Abs
end
section
namespace Go.Num
end Go.Num
namespace Go.Abs
open Go.Num
variable {P:Program} {Γ:Nat->Spec}
end Go.Abs
end
