/-
  Parts of the proof, merged: ArgH, BurS, BurT, GridP, GridQ, GridR, BurV, CoupH, CoupJ, CoupL, GridA, GridB, GridC.
-/
import Derived.Test.YtneiiodebbmcaaaGreatDoorM13
set_option linter.unusedVariables false
set_option linter.unusedSimpArgs false
set_option maxRecDepth 100000
section
namespace Go.Abs
open Go.Num
variable {H:Type} {enc:TypeId×Value->H} {bulk:DataW H->Nat} {P:Program} {w:World}
structure GdT (P:Program) (t:TypeId):Prop where
 ex:∃f0 f1 f2 f3:Field,P.underlying t=some (.struct #[f0,f1,f2,f3])/\(f0.offset=0/\f1.offset=6/\f2.offset=9/\f3.offset=10)/\P.cellsOf t=11/\
  (P.cellsOf f0.type=6/\P.cellsOf f1.type=3/\P.cellsOf f2.type=1/\P.cellsOf f3.type=1)/\ArcT P f0.type/\RatT P f1.type/\P.underlying f2.type=some (.int .i64)/\P.underlying f3.type=some (.int .i64)
structure U2T (P:Program) (t:TypeId):Prop where
 ex:∃u,P.underlying t=some (.array 2 u)/\P.cellsOf u=1/\P.cellsOf t=2/\P.underlying u=some (.int .u8)
end Go.Abs
end
section
namespace Go.Num
open Go.Abs
theorem vbv(p:PsQ)(m:V2):sqQ (appQ p m)=m.1*m.1+m.2*m.2+2*(cosQ p.1*p.2.1+sinQ p.1*p.2.2)*m.1+2*(cosQ p.1*p.2.2-sinQ p.1*p.2.1)*m.2+(p.2.1*p.2.1+p.2.2*p.2.2):=by
 have h:=JbT p.1;unfold appQ rotQ addQ sqQ;simp only;generalize cosQ p.1=c at h ⊢;generalize sinQ p.1=s at h ⊢;grind
theorem Wbk{p q:PsQ}(h:PsK p)(k:PsK q):Deg 1 (lsR (rwB q) (rwB p)).1:=by
 have e:(lsR (rwB q) (rwB p)).1=ln3 (2*(cosQ q.1*q.2.1+sinQ q.1*q.2.2)-2*(cosQ p.1*p.2.1+sinQ p.1*p.2.2)) (2*(cosQ q.1*q.2.2-sinQ q.1*q.2.1)-2*(cosQ p.1*p.2.2-sinQ p.1*p.2.1)) ((q.2.1*q.2.1+q.2.2*q.2.2)-(p.2.1*p.2.1+p.2.2*p.2.2)):=by
  refine vO (rb_d h k).1.canon (PB.ln3 _ _ _).canon λx y=>?_;have e1:=(Zbm h k (x,y)).1;simp only at e1;rw [e1,kaU,vbv,vbv];simp only;grind
 rw [e];exact(PB.ln3 _ _ _).deg
theorem zbF{s n:Nat}{a b c:Rw}(h:RB s n a)(k:RB s n b)(l:RB s n c)(h1:Deg 1 a.1)(k1:Deg 1 b.1)(l1:Deg 1 c.1):PB 3 (3*(6*s+6*(12*n))) (ci3 a b c):=by
 have t2:tri (2+1)=6:=rfl;have t1:tri (1+1)=3:=rfl;have go:∀{x y z:Rw},RB s n x->RB s n y->RB s n z->Deg 1 x.1->PB 3 (6*s+6*(12*n)) (mulB x.1 (mnR y z)):=λ{x y z} hx hy hz hd=>by
  have p1:PB 1 s x.1:=⟨hx.1.canon,hd,hx.1.size⟩;have:=p1.mul (QN hy hz) (by decide)
  rw [t2,t1]at this;exact this.mono (Nat.le_refl _) (by omega)
 have a1:=go h k l h1;have a2:=go k h l k1;have a3:=go l h k l1;unfold ci3;exact((a1.sub a2).add a3).mono (Nat.le_refl _) (by omega)
theorem wbd{l:List Ps}(hl:okPs 1000 l)(h:Vd l=0):PB 3 10000000 (bcL l):=by
 obtain⟨hlen,_⟩:=kG h;obtain⟨p,q,r,s,rfl⟩:=Y7 hlen;have k1:=Yg (hl p (by simp)).1 (hl p (by simp)).2
 have k2:=Yg (hl q (by simp)).1 (hl q (by simp)).2
 have k3:=Yg (hl r (by simp)).1 (hl r (by simp)).2
 have k4:=Yg (hl s (by simp)).1 (hl s (by simp)).2
 exact(zbF (rb_d k1 k2) (rb_d k1 k3) (rb_d k1 k4) (Wbk k1 k2) (Wbk k1 k3) (Wbk k1 k4)).mono (Nat.le_refl _) (by decide)
def kxM(b:Bool)(t:MQ):Int:=if b=true then t.1 else t.2.1
def nxM(b:Bool)(t:MQ):Int:=if b=true then t.2.1 else t.1
def fxT(b:Bool)(c:Rat)(k:Nat)(t:MQ):Rat:=if kxM b t=k then t.2.2*pw c (nxM b t).toNat else 0
def fxB(b:Bool)(c:Rat)(k:Nat):BQ->Rat
 | []=>0
 | t::l=>fxT b c k t+fxB b c k l
theorem ubn(b:Bool)(c:Rat)(k:Nat)(l:BQ)(t:MQ):fxB b c k (l++[t])=fxB b c k l+fxT b c k t:=by
 induction l with
 | nil=>simp only [List.nil_append,fxB];rw [Rat.zero_add,Rat.add_zero]
 | cons u l ih=>simp only [List.cons_append,fxB,ih];rw [Rat.add_assoc]
theorem Xbq{b:Bool}{c:Rat}{k:Nat}{l:BQ}(h:∀t∈l,kxM b t≠k):fxB b c k l=0:=by
 induction l with
 | nil=>rfl
 | cons u l ih=>
  simp only [fxB];rw [ih λt ht=>h t (List.mem_cons_of_mem _ ht)];unfold fxT;rw [if_neg (h u (by simp)),Rat.add_zero]
def fixL(b:Bool)(c:Rat)(p:BQ):List Rat:=(List.range 25).map λk=>fxB b c k p
def trimL:List Rat->List Rat
 | []=>[]
 | x::l=>if trimL l=[] then (if x=0 then [] else [x]) else x::trimL l
theorem jbt:∀{l:List Rat},(∀x∈l,x=0)->trimL l=[]
 | [],_=>rfl
 | x::l,h=>by
  simp only [trimL];rw [if_pos (jbt λy hy=>h y (List.mem_cons_of_mem _ hy)),if_pos (h x (by simp))]
theorem uE:∀{l:List Rat} {n:Nat},n<=l.length->(∀i,n<=i->l.getD i 0=0)->(n=0∨l.getD (n-1) 0≠0)->trimL l=l.take n
 | l,0,_,h,_=>by
  rw [List.take_zero];refine jbt λx hx=>?_;obtain⟨i,hi⟩:=List.getElem?_of_mem hx;have:=h i (Nat.zero_le _);rw [List.getD_eq_getElem?_getD,hi]at this;exact this
 | [],n+1,hn,_,_=>by simp at hn
 | x::l,n+1,hn,h,h2=>by
  simp only [List.length_cons]at hn;have h' : ∀i,n<=i->l.getD i 0=0:=λi hi=>by
   have:=h (i+1) (by omega)
   simpa using this
  rw [List.take_succ_cons];cases n with
  | zero=>
   have h0:=uE (l:=l) (Nat.zero_le _) h' (.inl rfl);rw [List.take_zero]at h0;have hx:x≠0:=by
    rcases h2 with h2 | h2
    .contradiction
    .simpa using h2
   simp only [trimL,h0,List.take_zero];rw [if_pos trivial,if_neg hx]
  | succ n=>
   have h2' : n+1=0∨l.getD (n+1-1) 0≠0:=by
    rcases h2 with h2 | h2
    .omega
    .refine .inr ?_;have:n+1+1-1=n+1:=rfl;rw [this]at h2;simpa using h2
   have h0:=uE (l:=l) (by omega) h' h2'
   have hne:l.take (n+1)≠[]:=by
    intro e;have:=congrArg List.length e;rw [List.length_take]at this;simp only [List.length_nil]at this;omega
   simp only [trimL,h0];rw [if_neg hne]
theorem wbB(l:List Rat):∃n,n<=l.length/\trimL l=l.take n/\∀i,n<=i->l.getD i 0=0:=by
 induction l with
 | nil=>exact⟨0,Nat.le_refl _,rfl,λi _=>by simp⟩
 | cons x l ih=>
  obtain⟨n,h1,h2,h3⟩:=ih;simp only [trimL];by_cases h:trimL l=[]
  .rw [if_pos h];have hz:∀i,l.getD i 0=0:=λi=>by
    rcases Nat.lt_or_ge i n with hi | hi
    .have:(l.take n).length=0:=by rw [<-h2,h];rfl
     rw [List.length_take]at this;omega
    .exact h3 i hi
   by_cases hx:x=0
   .rw [if_pos hx];refine⟨0,Nat.zero_le _,by simp,λi _=>?_⟩
    cases i with
    | zero=>simpa using hx
    | succ i=>simpa using hz i
   .rw [if_neg hx];refine⟨1,by simp,by simp,λi hi=>?_⟩
    cases i with
    | zero=>omega
    | succ i=>simpa using hz i
  .rw [if_neg h];refine⟨n+1,by simp;omega,by rw [h2,List.take_succ_cons],λi hi=>?_⟩
   cases i with
   | zero=>omega
   | succ i=>simpa using h3 i (by omega)
def aloL(l:List Ps)(x:Rat):List Rat:=[fxB false x 0 (bcL l),fxB false x 1 (bcL l),fxB false x 2 (bcL l),fxB false x 3 (bcL l)]
theorem ybR{l:List Ps}(hl:okPs 1000 l)(h:Vd l=0)(x:Rat){k:Nat}(hk:4<=k):fxB false x k (bcL l)=0:=by
 have pb:=wbd hl h;refine Xbq λt ht e=>?_;have h1:=pb.deg t ht;obtain⟨i0,i1,i2⟩:=pb.canon.ins t ht;have e' : t.2.1=k:=e;omega
theorem VbL(b:Bool)(c:Rat)(k:Nat):∀{p:BQ},InQ p->rz (fxB b c k p)<=sz p+p.length*(24*(rz c+2)+8)+2
 | [],_=>by have:=rz_0;simp only [fxB];omega
 | t::p,hi=>by
  have hi':=Yf.1 hi;have ih:=VbL b c k hi'.2;have h1:=km (fxT b c k t) (fxB b c k p);have h2:rz (fxT b c k t)<=rz t.2.2+24*(rz c+2)+4:=by
   unfold fxT;split
   .have a1:=Zc t.2.2 (pw c (nxM b t).toNat);have a2:=Wam c (nxM b t).toNat;have a3:(nxM b t).toNat<=24:=by
     obtain⟨i0,i1,i2⟩:=hi'.1;unfold nxM;split <;> omega
    have a4:=Nat.mul_le_mul_right (rz c+2) a3;omega
   .have:=rz_0;omega
  simp only [fxB,sz,List.length_cons];rw [Nat.add_mul];omega
end Go.Num
end
section
namespace Go.Num
open Go.Abs
def aloC(l:List Ps)(x:R):Nat:=if Vd l≠0 then Vd l else if vldR x=false then 2 else 0
theorem Xan(b:Bool)(c:Rat)(p:BQ):(fixL b c p).length=25:=by unfold fixL;rw [List.length_map,List.length_range]
theorem zaT(b:Bool)(c:Rat)(p:BQ){j:Nat}(h:j<25):((fixL b c p).map rcan).getD j (rcan 0)=rcan (fxB b c j p):=by
 unfold fixL;rw [List.getD_eq_getElem?_getD,List.getElem?_map,List.getElem?_map,List.getElem?_range h];rfl
theorem yaF(b:Bool)(c:Rat)(p:BQ)(t:MQ){j:Nat}(h:kxM b t=j):(fixL b c p).set j (fxB b c j p+t.2.2*pw c (nxM b t).toNat)=fixL b c (p++[t]):=by
 apply List.ext_getElem?;intro i;rw [List.getElem?_set];unfold fixL;simp only [List.length_map,List.length_range,List.getElem?_map];by_cases hi:i<25
 .rw [List.getElem?_range hi];simp only [Option.map_some,ubn];unfold fxT;by_cases e:j=i
  .subst e;rw [if_pos rfl,if_pos hi,if_pos h]
  .rw [if_neg e,if_neg (by rw [h];omega),Rat.add_zero]
 .rw [List.getElem?_eq_none (by rw [List.length_range];omega),Option.map_none,Option.map_none]
  by_cases e:j=i
  .rw [if_pos e,if_neg (by omega)]
  .rw [if_neg e]
theorem qcb(b:Bool)(c:Rat):(fixL b c []).map rcan=List.replicate 25 (rcan 0):=by
 unfold fixL fxB;rw [List.map_map];rfl
theorem Jbb:∀{l:List Rat} {m:Nat},(∀i,m<=i->l.getD i 0=0)->(trimL l).length<=m
 | [],_,_=>Nat.zero_le _
 | x::l,0,h=>by
  rw [uE (n:=0) (Nat.zero_le _) h (.inl rfl)];exact Nat.zero_le _
 | x::l,m+1,h=>by
  have ih:=Jbb (l:=l) (m:=m) λi hi=>by have:=h (i+1) (by omega);simpa using this
  simp only [trimL];split
  .split
   .exact Nat.zero_le _
   .simp
  .simp only [List.length_cons];omega
theorem ubm{A:List Rat}(hl:A.length=25){n:Nat}(hn:n<=4)(hz:∀i,n<=i->A.getD i 0=0) :
  (A.take n).map rcan++List.replicate (4-n) (rcan 0)=[rcan (A.getD 0 0),rcan (A.getD 1 0),rcan (A.getD 2 0),rcan (A.getD 3 0)]:=by
 match A,hl with
 | a0::a1::a2::a3::A,_=>
  match n,hn with
  | 0,_=>have h0:=hz 0 (by omega);have h1:=hz 1 (by omega);have h2:=hz 2 (by omega);have h3:=hz 3 (by omega);simp at h0 h1 h2 h3;subst h0 h1 h2 h3;rfl
  | 1,_=>have h1:=hz 1 (by omega);have h2:=hz 2 (by omega);have h3:=hz 3 (by omega);simp at h1 h2 h3;subst h1 h2 h3;rfl
  | 2,_=>have h2:=hz 2 (by omega);have h3:=hz 3 (by omega);simp at h2 h3;subst h2 h3;rfl
  | 3,_=>have h3:=hz 3 (by omega);simp at h3;subst h3;rfl
  | 4,_=>rfl
end Go.Num
namespace Go.Abs
open Go.Num
variable {P:Program} {Γ:Nat->Spec}
theorem jaU{h h' : Nat->HB}:∀n:Nat,okE h h' (List.replicate n [.lit (.bool false),.emp,.emp]) ((List.replicate n (rcan 0)).map rC)
 | 0=>trivial
 | n+1=>by
  rw [List.replicate_succ,List.replicate_succ,List.map_cons,ub];refine⟨?_,by rw [<-ub];exact jaU n⟩
  simp [rC,cb,cn,cd,okL,okC,ws]
theorem wbt(L:List R)(i:Nat)(x:R):(L.map rC).set i [cb x,cn x,cd x]=(L.set i x).map rC:=by rw [List.map_set];rfl
theorem Zb1(L:List R):nrmR (L.map rC)=L.map rC:=by
 unfold nrmR;rw [List.map_map];exact List.map_congr_left λx _=>rfl
theorem UbF(a b:List (List C)):nrmR (a++b)=nrmR a++nrmR b:=by unfold nrmR;rw [List.map_append]
theorem Ubb:∀n:Nat,nrmR (List.replicate n [.lit (.bool false),.emp,.emp])=(List.replicate n (rcan 0)).map rC
 | 0=>rfl
 | n+1=>by
  rw [List.replicate_succ,List.replicate_succ,List.map_cons,jbk,Ubb n,ub];rfl
def JE(l:List AV)(K:List (List C)->Prop):Prop:=
 match l with
 | [a]=>onRs (λl=>okRs 4000000000 l/\l.length<=1000/\K (((trimL (l.map rv)).map rcan).map rC)) a
 | _=>False
theorem zay a K:JE [a] K=(onRs (λl=>okRs 4000000000 l/\l.length<=1000/\K (((trimL (l.map rv)).map rcan).map rC)) a):=propext Iff.rfl
@[congr] theorem wb4{K}{l l'}(h:l=l'):JE l K=JE l' K:=by subst h;rfl
attribute [go_sem,go_sem ↓] zay
theorem uaN:Good JE:=Wa λas=>by
 unfold JE;split
 .exact(Ybj λ_=>(.and λ_=>(.and λ_=>(.ret _))))
 .exact .of λK hk=>hk.elim
def VM(tE:Nat)(l:List AV)(K:AV->Prop):Prop:=
 match l with
 | [p,b,c]=>onMs (λp=>asBool (λb=>onR (λc=>(∀t∈p,rl t.2.2<=1000000000)/\rl c<=10000/\sz (p.map mv)<=100000000/\K (.tup [.one (.slice ((if chkB p=0 then (trimL (fixL b (rv c) (p.map mv))).map rcan else []).map rC)),errV tE (chkB p)])) c) b) p
 | _=>False
theorem Wa7 tE p b c K:VM tE [p,b,c] K=(onMs (λp=>asBool (λb=>onR (λc=>(∀t∈p,rl t.2.2<=1000000000)/\rl c<=10000/\sz (p.map mv)<=100000000/\K (.tup [.one (.slice ((if chkB p=0 then (trimL (fixL b (rv c) (p.map mv))).map rcan else []).map rC)),errV tE (chkB p)])) c) b) p):=propext Iff.rfl
@[congr] theorem vb7 tE{K}{l l'}(h:l=l'):VM tE l K=VM tE l' K:=by subst h;rfl
attribute [go_sem,go_sem ↓] Wa7
theorem ua9(tE:Nat):Good (VM tE):=Wa λas=>by
 unfold VM;split
 .exact(xt λ_=>(yJ (λ_=>(Jj λ_=>(.and λ_=>(.and λ_=>(.and λ_=>(.ret _)))))) _))
 .exact .of λK hk=>hk.elim
def kN(tE:Nat)(l:List AV)(K:AV->Prop):Prop:=
 match l with
 | [a,b]=>onPs (λl=>onR (λx=>okPs 1000 l/\rl x<=10000/\K (.tup [.one (.slice ((if aloC l x=0 then (aloL l (rv x)).map rcan else []).map rC)),errV tE (aloC l x)])) b) a
 | _=>False
theorem qa8 tE a b K:kN tE [a,b] K=(onPs (λl=>onR (λx=>okPs 1000 l/\rl x<=10000/\K (.tup [.one (.slice ((if aloC l x=0 then (aloL l (rv x)).map rcan else []).map rC)),errV tE (aloC l x)])) b) a):=propext Iff.rfl
@[congr] theorem ucb tE{K}{l l'}(h:l=l'):kN tE l K=kN tE l' K:=by subst h;rfl
attribute [go_sem,go_sem ↓] qa8
theorem xaU(tE:Nat):Good (kN tE):=Wa λas=>by
 unfold kN;split
 .exact(Qs λ_=>(Jj λ_=>(.and λ_=>(.and λ_=>(.ret _)))))
 .exact .of λK hk=>hk.elim
def kD(f0 f1:Nat):AC:=(.o [.m 2 (.c (.one .emp))] [0] (.o [.m 3 (.c (.one .emp))] [0,3] (.f (.o [.M 6 0,.Z 7 6,.N 8 0] [3,6,7,8] (.block 0 (.loop (.o [.B 9 .lss 8 7] [3,6,7,8,9] (.f (.cond (.t 9) .skip (.exit 0)) [3,6,7,8] (.f (.block 1 (.o [.J 10 3 6 8,.L 11 3 10,.G 5 [.z,.emp,.emp],.S 3 5 11] [3,5,6,7,8] (.p [.M 12 3,.L 13 3 5,.u 14 (.build [.z [.z,.emp,.emp]]),.D 15 f0 13 14,.u 16 (.row 3 [[.x 3 (.t 15)]]),.u 17 (.app 3 (.t 12) (.t 16)),.M 3 17]))) [3,6,7,8] (.p [.I 18 .add 8 1,.M 8 18]))))))) [3] (.f (.block 2 (.loop (.f (.o [.M 19 3,.Z 20 19,.I 21 .gtr 20 0,.M 22 21,.V 23 22 true 3,.V 24 22 true 3,.w 25 22 true (.len (.t 24)),.w 26 22 true (.bin .sub (.t 25) (.i 1)),.w 27 22 true (.idx 3 (.t 23) (.t 26)),.U 28 22 true 3 true 27,.W 29 22 true f1 28,.w 30 22 true (.bin .eql (.t 29) (.i 0)),.P 31 22 30] [3,31] (.cond (.t 31) .skip (.exit 2))) [3] (.block 3 (.p [.M 32 3,.M 33 3,.Z 34 33,.I 35 .sub 34 1,.u 36 (.sl 3 (.t 32) none (some (.t 35))),.M 3 36]))))) [3] (.seq (.p [.M 37 3,.M 2 37]) .ret)))))
def vu(f0 f1 f2 f3 f4:Nat):AC:=(.o [.K 5 3 2,.m 6 (.c (.one .emp)),.m 7 (.c (.one (.lit .nilIface)))] [0,1,5] (.f (.o [.M 16 0,.H 17 f0 16,.M 8 17] [0,1,5,8] (.o [.M 18 8,.R 19 18] [0,1,5,8,19] (.cond (.t 19) (.seq (.p [.M 20 8,.m 6 (.c (.one .emp)),.M 7 20]) .ret) .skip))) [0,1,5] (.o [.u 21 (.mk 3 [.z,.emp,.emp] (.i 25) (.i 25)),.M 9 21] [0,1,5,9] (.f (.o [.M 22 0,.Z 23 22,.N 24 0] [1,5,9,22,23,24] (.block 0 (.loop (.o [.B 25 .lss 24 23] [1,5,9,22,23,24,25] (.f (.cond (.t 25) .skip (.exit 0)) [1,5,9,22,23,24] (.f (.block 1 (.o [.J 26 5 22 24,.L 27 5 26,.G 11 [(.lit (.int .i64 0)),(.lit (.int .i64 0)),.z,.emp,.emp],.S 5 11 27] [1,5,9,11,22,23,24] (.f (.y [.A 28 1 11,.F 29 1 28,.A 30 0 11,.F 31 1 30,.M 12 29,.M 13 31]) [1,5,9,11,12,13,22,23,24] (.f (.o [.M 32 1] [1,5,9,11,12,13,22,23,24,32] (.cond (.t 32) (.y [.A 33 0 11,.F 34 1 33,.A 35 1 11,.F 36 1 35,.M 12 34,.M 13 36]) .skip)) [1,5,9,11,12,13,22,23,24] (.o [.L 38 3 5,.M 39 13,.D 40 f1 38 39,.M 37 40,.X 41 0 37,.X 42 1 37,.G 14 [.z,.emp,.emp],.S 3 14 41,.M 15 42] [1,5,9,11,12,14,15,22,23,24] (.f (.o [.M 43 15,.R 44 43] [1,5,9,11,12,14,15,22,23,24,44] (.cond (.t 44) (.seq (.p [.M 45 15,.m 6 (.c (.one .emp)),.M 7 45]) .ret) .skip)) [1,5,9,11,12,14,22,23,24] (.y [.M 46 9,.M 47 12,.M 48 9,.M 49 12,.J 50 3 48 49,.L 51 3 50,.A 52 2 11,.L 53 3 52,.L 54 3 14,.D 55 f2 53 54,.D 56 f3 51 55,.J 57 3 46 47,.S 3 57 56]))))))) [1,5,9,22,23,24] (.p [.I 58 .add 24 1,.M 24 58]))))))) [9] (.seq (.p [.M 59 9,.u 60 (.callf f4 [(.t 59)]),.M 6 60,.m 7 (.c (.one (.lit .nilIface)))]) .ret)))))
def xf(f0 f1 f2 f3 tE:Nat):AC:=(.o [.K 3 3 1,.m 4 (.c (.one .emp)),.m 5 (.c (.one (.lit .nilIface)))] [0,3] (.f (.o [.M 11 0,.H 12 f0 11,.M 6 12] [0,3,6] (.o [.M 13 6,.R 14 13] [0,3,6,14] (.cond (.t 14) (.seq (.p [.M 15 6,.m 4 (.c (.one .emp)),.M 5 15]) .ret) .skip))) [0,3] (.f (.o [.L 16 3 3,.H 17 f1 16,.u 18 (.un .not (.t 17))] [0,3,18] (.cond (.t 18) (.seq (.p [.u 19 (.iface tE (.i 2)),.m 4 (.c (.one .emp)),.M 5 19]) .ret) .skip)) [0,3] (.o [.M 21 0,.H 22 f2 21,.M 20 22,.X 23 0 20,.X 24 1 20,.M 7 23,.M 8 24] [3,7,8] (.f (.o [.M 25 8,.R 26 25] [3,7,8,26] (.cond (.t 26) (.seq (.p [.M 27 8,.m 4 (.c (.one .emp)),.M 5 27]) .ret) .skip)) [3,7] (.o [.M 29 7,.L 30 3 3,.u 31 (.call f3 [(.t 29),.fa,(.t 30)]),.M 28 31,.X 32 0 28,.X 33 1 28,.M 9 32,.M 8 33] [8,9] (.f (.o [.M 34 8,.R 35 34] [8,9,35] (.cond (.t 35) (.seq (.p [.M 36 8,.m 4 (.c (.one .emp)),.M 5 36]) .ret) .skip)) [9] (.o [.u 37 (.mk 3 [.z,.emp,.emp] (.i 4) (.i 4)),.M 10 37] [9,10] (.o [.M 38 10,.M 39 9,.u 40 (.cpy 3 (.t 38) (.t 39))] [10] (.seq (.p [.M 41 10,.M 4 41,.m 5 (.c (.one (.lit .nilIface)))]) .ret))))))))))
theorem xap(hΓ:Xa P Γ){f fa fs:Nat}(ha:Γ fa=.dat false wl)(hs:Γ fs=.dat true yn)(hc:check P f=some (38,(kD fa fs).strip,[.tmp 2])):ua P f (.fresh 3 JE):=by
 refine xq hc uaN hΓ (λargs K hcl hfi hG=>?_);match args,hG with
 | [a],hG=>
  obtain⟨l,rfl,hwl,hok,hlen,hK⟩:=hG;refine⟨by simp,?_⟩
  obtain⟨M,hM⟩:∃M,(l.map rv).map rcan=M:=⟨_,rfl⟩;have lM:M.length=l.length:=by rw [<-hM,List.length_map,List.length_map]
  simp only [go_sem,kD];intro _;refine Ya (λk:Nat=>if k=0 then ⟨mkV [(3,.one .emp),(6,rsA l),(7,.one (.lit (.int .i64 l.length))),(8,.one (.lit (.int .i64 k)))],mkH []⟩ else ⟨mkV [(3,.one (.own 17 1 3 0 k)),(6,rsA l),(7,.one (.lit (.int .i64 l.length))),(8,.one (.lit (.int .i64 k)))],mkH [(17,⟨1,some ⟨(M.take k).map rC,3,true⟩⟩)]⟩) (λk=>k<=l.length) (λk=>l.length-k) 0 ?_ ?_ ?_
  .exact Qa (by simp [okS,okV,okC,okL,okH,okB,okE,ja,Ja,qa,Va,wsA,ws,rsA]) trivial
  .exact Nat.zero_le _
  .intro k hk;by_cases hlt:k<l.length
   .obtain⟨x,hx⟩:∃x,l.getD k (rcan 0)=x:=⟨_,rfl⟩;have hx0:=JB hlt hx;obtain⟨hx1,hx2⟩:=hok x (List.mem_of_getElem? hx0);have rx:=Vg hx1;have rz0:=rz_0;have hMk:M[k]?=some (rcan (rv x)):=by rw [<-hM,List.getElem?_map,List.getElem?_map,hx0];rfl
    have hMt:M.take (k+1)=M.take k++[rcan (rv x)]:=by rw [List.take_add_one,hMk];rfl
    have hMl:(M.take k).length=k:=by rw [List.length_take,lM];omega
    have f3:∀e:List C,e∈[[cb (rcan (rv x)),cn (rcan (rv x)),cd (rcan (rv x))]]->e.length=3:=λe he=>by rw [List.mem_singleton.1 he];rfl
    have ht:((M.take k).map rC).take k=(M.take k).map rC:=List.take_of_length_le (by rw [List.length_map,hMl];exact Nat.le_refl _)
    by_cases hk0:k=0
    .subst hk0;simp only [go_sem,hlt,hx,ha,XU,Vb,Rat.add_zero];repeat first | refine Wk ?_ | intro _
     refine⟨1,?_,by omega,by omega⟩
     rw [if_neg (by decide)]
     exact Qa (by simp [okS,okV,okC,okL,okH,okB,okE,ja,Ja,qa,Va,wsA,ws,rsA]) ⟨YV (by rw [hMt];rfl),trivial⟩
    .simp only [go_sem,hlt,hx,ha,XU,Vb,Rat.add_zero,hk0,List.length_map,hMl,ht];repeat first | refine Wk ?_ | intro _
     refine⟨k+1,?_,by omega,by omega⟩
     rw [if_neg (by omega)]
     exact Qa (by simp [okS,okV,okC,okL,okH,okB,okE,ja,Ja,qa,Va,wsA,ws,rsA]) ⟨YV (by rw [hMt,List.map_append];rfl),trivial⟩
   .have ek:k=l.length:=by omega
    subst ek;have hMM:M.take l.length=M:=List.take_of_length_le (by omega)
    by_cases hl0:l.length=0
    .have hl1:l=[]:=List.length_eq_zero_iff.1 hl0;subst hl1;simp only [go_sem,hlt,List.length_nil];refine Wbs 0 ⟨mkV [(3,.one .emp)],mkH []⟩ ?_ ?_
     .exact Qa (by simp [okS,okV,okC,okL,okH,okB,okE,ja,Ja,qa,Va,wsA,ws]) trivial
     .simp only [go_sem,Int.lt_irrefl,decide_false];exact hK
    .simp only [go_sem,hlt,hl0,hMM];refine Ya (λn:Nat=>⟨mkV [(3,.one (.own 17 1 3 0 n))],mkH [(17,⟨1,some ⟨M.map rC,3,true⟩⟩)]⟩) (λn=>n<=M.length/\∀i,n<=i->(l.map rv).getD i 0=0) (λn=>n) l.length ?_ ?_ ?_
     .exact Qa (by simp [okS,okV,okC,okL,okH,okB,okE,ja,Ja,qa,Va,wsA,ws]) ⟨YV rfl,trivial⟩
     .exact⟨by omega,λi hi=>by rw [List.getD_eq_getElem?_getD,List.getElem?_eq_none (by rw [List.length_map];exact hi)];rfl⟩
     .rintro n ⟨hn,hz⟩;have hlv:(l.map rv).length=M.length:=by rw [lM,List.length_map]
      match n,hn,hz with
      | 0,hn,hz=>
       rw [uE (n:=0) (Nat.zero_le _) hz (.inl rfl)]at hK;simp only [go_sem,Int.lt_irrefl,decide_false];repeat first | refine Wk ?_ | intro _
       exact hK
      | m+1,hn,hz=>
       obtain⟨q,hq⟩:∃q,(l.map rv).getD m 0=q:=⟨_,rfl⟩;have hml:m<l.length:=by omega
       have hMq:M.getD m (rcan 0)=rcan q:=by
        rw [<-hM,<-hq,List.getD_eq_getElem?_getD,List.getD_eq_getElem?_getD,List.getElem?_map];rw [List.getElem?_map,List.getElem?_eq_getElem hml];rfl
       have rq:rz q<=4294967296:=by
        have h1:l[m]?=some l[m]:=List.getElem?_eq_getElem hml;have h2:=hok l[m] (List.mem_of_getElem? h1);have h3:=Vg h2.1;have h4:rv l[m]=q:=by rw [<-hq,List.getD_eq_getElem?_getD,List.getElem?_map,h1];rfl
        rw [h4]at h3;have:=h2.2;omega
       have em:((m+1:Nat):Int)-1=(m:Int):=by omega
       have e0:(0:Int)<((m+1:Nat):Int):=by omega
       have n64:((m+1:Nat):Int)<=9223372036854775807:=by omega
       have mM:m<M.length:=by omega
       have rz0:=rz_0;by_cases hq0:q=0
       .simp only [go_sem,em,e0,decide_true,hs,hMq,XU,Vb,uu,Wy,hq0,Int.toNat_natCast,Nat.zero_add];repeat first | refine Wk ?_ | intro _
        exact⟨m,Qa (by simp [okS,okV,okC,okL,okH,okB,okE,ja,Ja,qa,Va,wsA,ws]) ⟨YV rfl,trivial⟩,⟨by omega,λi hi=>by
         by_cases e:i=m
         .subst e;rw [hq];exact hq0
         .exact hz i (by omega)⟩,by omega⟩
       .rw [uE (n:=m+1) (by omega) hz (.inr (by rw [Nat.add_sub_cancel,hq];exact hq0))]at hK
        simp only [go_sem,em,e0,decide_true,hs,hMq,XU,Vb,uu,Wy,hq0,decide_false,Int.toNat_natCast,Nat.zero_add];rw [List.map_take,hM]at hK;repeat first | refine Wk ?_ | intro _
        exact hK
set_option maxHeartbeats 1000000 in
theorem UaM(hΓ:Xa P Γ){f fk fp fm fa ft tE:Nat}(hk:Γ fk=.dat false (yr tE))(hp:Γ fp=.dat false (ZI tE))(hm:Γ fm=.dat false jl)(ha:Γ fa=.dat false wl)(htr:Γ ft=.fresh 3 JE)(hc:check P f=some (61,(vu fk fp fm fa ft).strip,[.tmp 6,.tmp 7])):ua P f (.dat false (VM tE)):=by
 refine ka hc (ua9 tE) hΓ (λargs K hcl hfi hG=>?_);match args,hG with
 | [a0,a1,a2],hG=>
  obtain⟨p,rfl,hwp,hG1⟩:=hG;obtain⟨b,rfl,hG2⟩:=Uz hG1;obtain⟨c,rfl,hwc,hrp,hrc,hsz,hK⟩:=hG2;refine⟨by simp,?_⟩
  have hrp' : ∀t∈p,rl t.2.2<=4294967296:=λt ht=>Nat.le_trans (hrp t ht) (by decide)
  by_cases h0:chkB p=0
  case neg=>
   have e1:=Zd tE h0;rw [if_neg h0,e1]at hK;simp only [go_sem,vu,hk,rA,e1];repeat first | refine Wk ?_ | intro _
   exact hK
  have e0:=Qc tE;rw [if_pos h0,h0,e0]at hK;obtain⟨i1,j1,l1⟩:=ZE h0 hwp;simp only [go_sem,vu,hk,rA,h0,e0];repeat first | refine Wk ?_ | intro _
  refine Ya (λk:Nat=>⟨mkV [(1,.one (.lit (.bool b))),(5,.one (.ptr 5 1 0 0)),(9,.one (.own 21 1 3 0 25)),(22,msA p),(23,.one (.lit (.int .i64 p.length))),(24,.one (.lit (.int .i64 k)))],mkH [(5,⟨1,some ⟨[[cb c,cn c,cd c]],3,true⟩⟩),(21,⟨1,some ⟨((fixL b (rv c) ((p.take k).map mv)).map rcan).map rC,3,true⟩⟩)]⟩) (λk=>k<=p.length) (λk=>p.length-k) 0 ?_ ?_ ?_
  .exact Qa (by simp [okS,okV,okC,okL,okH,okB,okE,ja,Ja,qa,Va,wsA,ws,msA,ms]) ⟨uC,⟨⟨rfl,rfl⟩,.inr (by rw [List.take_zero,List.map_nil,qcb];exact jaU 25)⟩,trivial⟩
  .exact Nat.zero_le _
  .intro k hk2;have hsP:sz ((p.take k).map mv)<=100000000:=by
    have w2:=UJ (p.map mv) k;rw [<-List.map_take]at w2;omega
   have inP:InQ ((p.take k).map mv):=λu hu=>by
    obtain⟨v,hv,rfl⟩:=List.mem_map.1 hu;exact i1 v (List.mem_of_mem_take hv)
   have lP:((p.take k).map mv).length<=325:=by rw [List.length_map,List.length_take];omega
   have z1:=Vg hwc;have bF:∀j,rz (fxB b (rv c) j ((p.take k).map mv))<=1000000000:=λj=>by
    have w1:=VbL b (rv c) j inP;have w3:=Nat.mul_le_mul lP (show 24*(rz (rv c)+2)+8<=24*10002+8 by omega)
    omega
   have lF:((fixL b (rv c) ((p.take k).map mv)).map rcan).length=25:=by rw [List.length_map,Xan]
   by_cases hlt:k<p.length
   .obtain⟨t,ht⟩:∃t,p.getD k mo0=t:=⟨_,rfl⟩;have ht0:=getDm hlt ht;have htm:=List.mem_of_getElem? ht0;obtain⟨t1,t2,t3⟩:=i1 t htm;have hwt:=(hwp t htm).2.2;have hrt:=hrp t htm;have z3:=Vg hwt;obtain⟨X,hX⟩:=Int.eq_ofNat_of_zero_le t1;obtain⟨Y,hY⟩:=Int.eq_ofNat_of_zero_le t2;have hsnoc:(p.take (k+1)).map mv=(p.take k).map mv++[mv t]:=by rw [List.take_add_one,ht0];simp
    have e1:=Qc tE;cases b with
    | false=>
     have hg:=zaT false (rv c) ((p.take k).map mv) (j:=Y) (by omega)
     have hst:=yaF false (rv c) ((p.take k).map mv) (mv t) (j:=Y) hY;have en:(nxM false (mv t)).toNat=X:=by show t.1.toNat=X;omega
     rw [en,<-hsnoc]at hst;have ev2:(mv t).2.2=rv t.2.2:=rfl;rw [ev2]at hst;have z4:=Wam (rv c) X;have z5:X*(rz (rv c)+2)<=24*(rz (rv c)+2):=Nat.mul_le_mul_right _ (by omega)
     have z6:=Zc (rv t.2.2) (pw (rv c) X);have bY:=bF Y;obtain⟨v,hv⟩:∃v,fxB false (rv c) Y ((p.take k).map mv)=v:=⟨_,rfl⟩;rw [hv]at hg hst bY;obtain⟨F,hF⟩:∃F,(fixL false (rv c) ((p.take k).map mv)).map rcan=F:=⟨_,rfl⟩;rw [hF]at hg lF;simp only [go_sem,hlt,ht,hp,hm,ha,mC,hX,hY,e1,Vb,rQ,hF,hg,XU,lF,Int.toNat_natCast,Nat.zero_add];repeat first | refine Wk ?_ | intro _
     refine⟨k+1,?_,by omega,by omega⟩
     rw [<-hst,List.map_set,hF];exact Qa (by simp [okS,okV,okC,okL,okH,okB,okE,ja,Ja,qa,Va,wsA,ws,msA,ms]) ⟨uC,YV (by rw [wbt]),trivial⟩
    | true=>
     have hg:=zaT true (rv c) ((p.take k).map mv) (j:=X) (by omega)
     have hst:=yaF true (rv c) ((p.take k).map mv) (mv t) (j:=X) hX;have en:(nxM true (mv t)).toNat=Y:=by show t.2.1.toNat=Y;omega
     rw [en,<-hsnoc]at hst;have ev2:(mv t).2.2=rv t.2.2:=rfl;rw [ev2]at hst;have z4:=Wam (rv c) Y;have z5:Y*(rz (rv c)+2)<=24*(rz (rv c)+2):=Nat.mul_le_mul_right _ (by omega)
     have z6:=Zc (rv t.2.2) (pw (rv c) Y);have bY:=bF X;obtain⟨v,hv⟩:∃v,fxB true (rv c) X ((p.take k).map mv)=v:=⟨_,rfl⟩;rw [hv]at hg hst bY;obtain⟨F,hF⟩:∃F,(fixL true (rv c) ((p.take k).map mv)).map rcan=F:=⟨_,rfl⟩;rw [hF]at hg lF;simp only [go_sem,hlt,ht,hp,hm,ha,mC,hX,hY,e1,Vb,rQ,hF,hg,XU,lF,Int.toNat_natCast,Nat.zero_add];repeat first | refine Wk ?_ | intro _
     refine⟨k+1,?_,by omega,by omega⟩
     rw [<-hst,List.map_set,hF];exact Qa (by simp [okS,okV,okC,okL,okH,okB,okE,ja,Ja,qa,Va,wsA,ws,msA,ms]) ⟨uC,YV (by rw [wbt]),trivial⟩
   .have ek:p.take k=p:=List.take_of_length_le (by omega)
    rw [ek]at bF lF ⊢;have hFv:((fixL b (rv c) (p.map mv)).map rcan).map rv=fixL b (rv c) (p.map mv):=by
     rw [List.map_map];have:rv ∘ rcan=id:=funext λx=>Vb x;rw [this,List.map_id]
    have oF:okRs 4000000000 ((fixL b (rv c) (p.map mv)).map rcan):=λx hx=>by
     obtain⟨y,hy,rfl⟩:=List.mem_map.1 hx;unfold fixL at hy;obtain⟨j,hj,rfl⟩:=List.mem_map.1 hy;exact⟨Zp _,Nat.le_trans (bF j) (by decide)⟩
    have wF:∀x∈(fixL b (rv c) (p.map mv)).map rcan,WLR x:=λx hx=>(oF x hx).1;obtain⟨F,hF⟩:∃F,(fixL b (rv c) (p.map mv)).map rcan=F:=⟨_,rfl⟩;rw [hF]at hFv oF wF lF;have ht:(F.map rC).take 25=F.map rC:=List.take_of_length_le (by rw [List.length_map,lF];exact Nat.le_refl _)
    simp only [go_sem,hlt,htr,hF,List.length_map,lF,ht,hFv];exact⟨wF,oF,hK⟩
set_option maxHeartbeats 1000000 in
theorem waR(hΓ:Xa P Γ){f fk fv fb fx tE:Nat}(hk:Γ fk=.dat false (zD tE))(hv:Γ fv=.dat true qf)(hb:Γ fb=.dat false VE)(hx:Γ fx=.dat false (VM tE))(hc:check P f=some (42,(xf fk fv fb fx tE).strip,[.tmp 4,.tmp 5])):ua P f (.dat false (kN tE)):=by
 refine ka hc (xaU tE) hΓ (λargs K hcl hfi hG=>?_);match args,hG with
 | [a,b],hG=>
  obtain⟨l,rfl,hw,x,rfl,wx,hl,lx,hK⟩:=hG;refine⟨by simp,?_⟩
  have hl2:=Uh hl (by decide:1000<=100000000)
  have lx2:rl x<=4294967296:=Nat.le_trans lx (by decide)
  have e0:=Qc tE;by_cases f0:Vd l=0
  case neg=>
   have ec:aloC l x=Vd l:=if_pos f0;have e1:=Zd tE f0;rw [ec,if_neg f0,e1]at hK;simp only [go_sem,xf,hk,rA,e1];repeat first | refine Wk ?_ | intro _
   exact hK
  cases hvx:vldR x with
  | false=>
   have ec:aloC l x=2:=by unfold aloC;rw [if_neg (by omega),if_pos hvx]
   rw [ec,if_neg (by decide),Zd tE (by decide)]at hK
   simp only [go_sem,xf,hk,hv,rA,f0,e0,hvx];repeat first | refine Wk ?_ | intro _
   exact hK
  | true=>
   have ec:aloC l x=0:=by unfold aloC;rw [if_neg (by omega),if_neg (by simp [hvx])]
   rw [ec,if_pos rfl,e0]at hK;obtain⟨pc,hev⟩:=VI hl f0;have cc:=WH pc.canon;have i0:=uy pc.canon.ins;have i1:=vG (p:=bcL l) (N:=1000000000) (Nat.le_trans pc.size (by decide))
   have i2:=Nat.le_trans pc.size (by decide:_<=100000000)
   have hz:∀i,4<=i->(fixL false (rv x) (bcL l)).getD i 0=0:=λi hi=>by
    by_cases h25:i<25
    .have hf:=ybR hl f0 (rv x) hi;unfold fixL;rw [List.getD_eq_getElem?_getD,List.getElem?_map,List.getElem?_range h25];exact hf
    .rw [List.getD_eq_getElem?_getD,List.getElem?_eq_none (by rw [Xan];omega)];rfl
   have hle:=Jbb hz;obtain⟨n,n1,n2,n3⟩:=wbB (fixL false (rv x) (bcL l));have hn4:n<=4:=by
    rw [n2,List.length_take]at hle;omega
   have hrow:=ubm (Xan false (rv x) (bcL l)) hn4 n3;have hA:[rcan ((fixL false (rv x) (bcL l)).getD 0 0),rcan ((fixL false (rv x) (bcL l)).getD 1 0),rcan ((fixL false (rv x) (bcL l)).getD 2 0),rcan ((fixL false (rv x) (bcL l)).getD 3 0)]=(aloL l (rv x)).map rcan:=rfl;rw [hA]at hrow;rw [<-hrow]at hK;obtain⟨T,hT⟩:∃T,((fixL false (rv x) (bcL l)).take n).map rcan=T:=⟨_,rfl⟩;have lT:T.length=n:=by rw [<-hT,List.length_map,List.length_take];omega
   rw [hT]at hK;simp only [go_sem,xf,hk,hv,hb,hx,rA,f0,e0,hvx,qH,cc,n2,hT,List.length_map,lT];repeat first | refine Wk ?_ | intro _
   have hN:nrmR (T.map rC++List.drop n (List.replicate 4 [.lit (.bool false),.emp,.emp]))=(T++List.replicate (4-n) (rcan 0)).map rC:=by
    rw [UbF,Zb1,List.drop_replicate,Ubb,<-List.map_append]
   have h4:(T++List.replicate (4-n) (rcan 0)).length=4:=by rw [List.length_append,lT,List.length_replicate];omega
   have ht:((T++List.replicate (4-n) (rcan 0)).map rC).take 4=(T++List.replicate (4-n) (rcan 0)).map rC:=List.take_of_length_le (by rw [List.length_map,h4];exact Nat.le_refl _)
   refine⟨⟨hn4,by rw [List.length_replicate];exact Nat.le_refl _⟩,?_⟩
   rw [hN,ht,if_pos (by rw [List.length_map,h4];exact Nat.le_refl _),uo _ (of_eq_true (wJ _))]
   exact hK
end Go.Abs
end
section
namespace Go.Num
def sumN(f:Nat->Rat):Nat->Rat
 | 0=>0
 | n+1=>sumN f n+f n
theorem Zi{f g:Nat->Rat}:∀{n:Nat},(∀k,k<n->f k=g k)->sumN f n=sumN g n
 | 0,_=>rfl
 | n+1,h=>by simp only [sumN];rw [Zi (λk hk=>h k (by omega)),h n (by omega)]
theorem kF(f g:Nat->Rat):∀n:Nat,sumN (λk=>f k+g k) n=sumN f n+sumN g n
 | 0=>by simp only [sumN];grind
 | n+1=>by simp only [sumN];rw [kF f g n];grind
theorem kab(c:Rat)(f:Nat->Rat):∀n:Nat,sumN (λk=>c*f k) n=c*sumN f n
 | 0=>by simp only [sumN];grind
 | n+1=>by simp only [sumN];rw [kab c f n];grind
theorem QD:∀n:Nat,sumN (λ_=>0) n=0
 | 0=>rfl
 | n+1=>by simp only [sumN];rw [QD n];grind
theorem qab(c:Rat)(m:Nat):∀n:Nat,sumN (λk=>if k=m then c else 0) n=if m<n then c else 0
 | 0=>by simp [sumN]
 | n+1=>by
  simp only [sumN];rw [qab c m n];by_cases h1:m<n
  .rw [if_pos h1,if_neg (by omega),if_pos (by omega)];grind
  .by_cases h2:n=m
   .rw [if_neg h1,if_pos h2,if_pos (by omega)];grind
   .rw [if_neg h1,if_neg h2,if_neg (by omega)];grind
theorem V5{f:Nat->Rat}{m:Nat}:∀{n:Nat},m<=n->(∀k,m<=k->k<n->f k=0)->sumN f m=sumN f n
 | 0,h,_=>by rw [Nat.le_zero.1 h]
 | n+1,h,h0=>by
  by_cases h1:m=n+1
  .rw [h1]
  .simp only [sumN];rw [h0 n (by omega) (by omega),<-V5 (f:=f) (m:=m) (n:=n) (by omega) (λk a b=>h0 k a (by omega))];grind
abbrev Gr:=List Rat
def gat(g:Gr)(i j:Nat):Rat:=g.getD (i*7+j) 0
def mon(x y:Rat)(i j:Nat):Rat:=pw x i*pw y j
def evG(g:Gr)(x y:Rat):Rat:=sumN (λi=>sumN (λj=>gat g i j*mon x y i j) 7) 7
def gz:Gr->Nat
 | []=>0
 | q::r=>rz q+gz r
theorem Ubw:∀{g:Gr} {q:Rat},q∈g->rz q<=gz g
 | [],_,h=>by simp at h
 | p::r,q,h=>by
  simp only [gz];rcases List.mem_cons.1 h with rfl | h
  .omega
  .have:=Ubw h;omega
theorem qaW(g:Gr)(m:Nat):rz (g.getD m 0)<=gz g:=by
 rw [List.getD_eq_getElem?_getD];cases h:g[m]? with
 | none=>rw [Option.getD_none,rz_0];omega
 | some q=>exact Ubw (List.mem_of_getElem? h)
theorem QP(g:Gr)(i j:Nat):rz (gat g i j)<=gz g:=qaW g _
theorem Jaj:∀(g:Gr) (m:Nat) (v:Rat),gz (g.set m v)+rz (g.getD m 0)<=gz g+rz v
 | [],m,v=>by simp only [List.set_nil,List.getD_nil,gz];rw [rz_0];omega
 | q::r,0,v=>by simp only [List.set_cons_zero,List.getD_cons_zero,gz];omega
 | q::r,m+1,v=>by
  have:=Jaj r m v;simp only [List.set_cons_succ,List.getD_cons_succ,gz];omega
theorem zK{g:Gr}(hg:g.length=49){i j i' j' : Nat}(hi:i<7)(hj:j<7)(hi' : i' < 7)(hj' : j' < 7)(v:Rat):gat (g.set (i*7+j) v) i' j' = if i' = i/\j' = j then v else gat g i' j':=by
 unfold gat;rw [List.getD_eq_getElem?_getD,List.getElem?_set];by_cases h:i' = i/\j' = j
 .obtain⟨rfl,rfl⟩:=h;rw [if_pos rfl,if_pos (by omega),if_pos ⟨rfl,rfl⟩];rfl
 .rw [if_neg h,if_neg (by omega),List.getD_eq_getElem?_getD]
theorem jac{g:Gr}(hg:g.length=49){i j:Nat}(hi:i<7)(hj:j<7)(v x y:Rat):evG (g.set (i*7+j) v) x y=evG g x y+(v-gat g i j)*mon x y i j:=by
 have h1:evG (g.set (i*7+j) v) x y=sumN (λi'=>sumN (λj'=>gat g i' j' * mon x y i' j') 7+(if i' = i then (v-gat g i j)*mon x y i j else 0)) 7:=by
  unfold evG;refine Zi λi' hi'=>?_;have e:sumN (λj'=>gat (g.set (i*7+j) v) i' j' * mon x y i' j') 7=sumN (λj'=>gat g i' j' * mon x y i' j' + (if j' = j then (if i' = i then (v-gat g i j)*mon x y i j else 0) else 0)) 7:=by
   refine Zi λj' hj'=>?_;rw [zK hg hi hj hi' hj'];by_cases h2:i' = i
   .by_cases h3:j' = j
    .rw [if_pos ⟨h2,h3⟩,if_pos h3,if_pos h2,h2,h3];grind
    .rw [if_neg (λh=>h3 h.2),if_neg h3];grind
   .rw [if_neg (λh=>h2 h.1),if_neg h2];split <;> grind
  rw [e,kF,qab,if_pos hj]
 rw [h1,kF,qab,if_pos hi];rfl
def zG:Gr:=List.replicate 49 0
theorem xa3(i j:Nat):gat zG i j=0:=by
 unfold gat zG;rw [List.getD_eq_getElem?_getD,List.getElem?_replicate];split <;> rfl
theorem XbB(x y:Rat):evG zG x y=0:=by
 unfold evG;have:∀i,sumN (λj=>gat zG i j*mon x y i j) 7=0:=λi=>by
  rw [<-QD 7];exact Zi λj _=>by rw [xa3];grind
 rw [<-QD 7];exact Zi λi _=>this i
theorem Qy:zG.length=49:=List.length_replicate
theorem gz_z:gz zG=0:=by
 unfold zG;generalize 49=n
 induction n with
 | zero=>rfl
 | succ n ih=>rw [List.replicate_succ];simp only [gz];rw [ih,rz_0]
def conG(x:Rat):Gr:=zG.set 0 x
def linG(a b c:Rat):Gr:=((zG.set 0 a).set 7 b).set 1 c
theorem UaC(a b c:Rat):(linG a b c).length=49:=by unfold linG;rw [List.length_set,List.length_set,List.length_set,Qy]
theorem ubP(x y:Rat):mon x y 0 0=1:=by simp only [mon,pw];grind
theorem YbZ(x y:Rat):mon x y 1 0=x:=by simp only [mon,pw];grind
theorem qbY(x y:Rat):mon x y 0 1=y:=by simp only [mon,pw];grind
theorem Jbj(a b c x y:Rat):evG (linG a b c) x y=a+b*x+c*y:=by
 have l0:(zG.set 0 a).length=49:=by rw [List.length_set,Qy]
 have l1:((zG.set 0 a).set 7 b).length=49:=by rw [List.length_set,l0]
 have h0:=jac Qy (i:=0) (j:=0) (by decide) (by decide) a x y
 have h1:=jac l0 (i:=1) (j:=0) (by decide) (by decide) b x y
 have h2:=jac l1 (i:=0) (j:=1) (by decide) (by decide) c x y
 have g1:=zK Qy (i:=0) (j:=0) (i':=1) (j':=0) (by decide) (by decide) (by decide) (by decide) a
 have g2:=zK l0 (i:=1) (j:=0) (i':=0) (j':=1) (by decide) (by decide) (by decide) (by decide) b
 have g3:=zK Qy (i:=0) (j:=0) (i':=0) (j':=1) (by decide) (by decide) (by decide) (by decide) a
 rw [if_neg (by decide),xa3]at g1
 rw [if_neg (by decide)]at g2
 rw [if_neg (by decide),xa3]at g3
 simp only [Nat.zero_mul,Nat.one_mul,Nat.zero_add,Nat.add_zero]at h0 h1 h2 g1 g2 g3;unfold linG;rw [h2,g2,g3,h1,g1,h0,xa3,XbB,ubP,YbZ,qbY];grind
def plusG(a:Gr)(k:Rat)(b:Gr):Gr:=List.zipWith (λp q=>p+k*q) a b
theorem YI{a b:Gr}(ha:a.length=49)(hb:b.length=49)(k:Rat):(plusG a k b).length=49:=by unfold plusG;rw [List.length_zipWith,ha,hb];rfl
theorem Vak{a b:Gr}(ha:a.length=49)(hb:b.length=49)(k:Rat){i j:Nat}(hi:i<7)(hj:j<7):gat (plusG a k b) i j=gat a i j+k*gat b i j:=by
 unfold gat plusG;have h1:i*7+j<a.length:=by omega
 have h2:i*7+j<b.length:=by omega
 simp only [List.getD_eq_getElem?_getD,List.getElem?_zipWith,List.getElem?_eq_getElem h1,List.getElem?_eq_getElem h2,Option.getD_some]
theorem U6{a b:Gr}(ha:a.length=49)(hb:b.length=49)(k x y:Rat):evG (plusG a k b) x y=evG a x y+k*evG b x y:=by
 unfold evG;rw [<-kab,<-kF];refine Zi λi hi=>?_;rw [<-kab,<-kF];refine Zi λj hj=>?_;rw [Vak ha hb k hi hj];grind
theorem Wab:∀(a b:Gr) (k:Rat),gz (plusG a k b)<=gz a+gz b+b.length*(rz k+4)
 | [],b,k=>by simp [plusG,gz]
 | p::a,[],k=>by simp [plusG,gz]
 | p::a,q::b,k=>by
  have h:=Wab a b k;have h1:=Zc k q;have h2:=km p (k*q);show rz (p+k*q)+gz (plusG a k b)<=rz p+gz a+(rz q+gz b)+(b.length+1)*(rz k+4);rw [Nat.add_mul];omega
end Go.Num
end
section
namespace Go.Num
def addG(o:Gr)(i j:Nat)(v:Rat):Gr:=o.set (i*7+j) (gat o i j+v)
def plG(a b:Gr)(i j k:Nat)(o:Gr):Nat->Gr
 | 0=>o
 | n+1=>addG (plG a b i j k o n) (i+k) (j+n) (gat a i j*gat b k n)
def pkG(a b:Gr)(i j:Nat)(o:Gr):Nat->Gr
 | 0=>o
 | n+1=>plG a b i j n (pkG a b i j o n) (7-j)
def pjG(a b:Gr)(i:Nat)(o:Gr):Nat->Gr
 | 0=>o
 | n+1=>if gat a i n=0 then pjG a b i o n else pkG a b i n (pjG a b i o n) (7-i)
def piG(a b:Gr):Nat->Gr
 | 0=>zG
 | n+1=>pjG a b n (piG a b n) 7
def Qg(a b:Gr):Gr:=piG a b 7
theorem jbo{o:Gr}(h:o.length=49)(i j:Nat)(v:Rat):(addG o i j v).length=49:=by unfold addG;rw [List.length_set,h]
theorem XR{a b:Gr}{i j k:Nat}{o:Gr}(h:o.length=49):∀n,(plG a b i j k o n).length=49
 | 0=>h
 | n+1=>jbo (XR h n) _ _ _
theorem WT{a b:Gr}{i j:Nat}{o:Gr}(h:o.length=49):∀n,(pkG a b i j o n).length=49
 | 0=>h
 | n+1=>XR (WT h n) _
theorem vK{a b:Gr}{i:Nat}{o:Gr}(h:o.length=49):∀n,(pjG a b i o n).length=49
 | 0=>h
 | n+1=>by
  simp only [pjG];split
  .exact vK h n
  .exact WT (vK h n) _
theorem vU{a b:Gr}:∀n,(piG a b n).length=49
 | 0=>Qy
 | n+1=>vK (vU n) _
theorem Ub(a b:Gr):(Qg a b).length=49:=vU 7
theorem vbY(o:Gr)(i j:Nat)(v:Rat):gz (addG o i j v)<=gz o+rz v+2:=by
 have h:=Jaj o (i*7+j) (gat o i j+v);have h2:=km (gat o i j) v;have e:rz (o.getD (i*7+j) 0)=rz (gat o i j):=rfl;unfold addG;omega
def rzN(f:Nat->Rat):Nat->Nat
 | 0=>0
 | n+1=>rzN f n+rz (f n)
theorem Q5(f:Nat->Rat){m:Nat}:∀{n:Nat},m<=n->rzN f m<=rzN f n
 | 0,h=>by rw [Nat.le_zero.1 h];exact Nat.le_refl _
 | n+1,h=>by
  by_cases h1:m=n+1
  .rw [h1];exact Nat.le_refl _
  .have:=Q5 f (m:=m) (n:=n) (by omega)
   simp only [rzN];omega
theorem QbH(a b:Gr)(i j k:Nat)(o:Gr):∀n,gz (plG a b i j k o n)<=gz o+n*(rz (gat a i j)+4)+rzN (λl=>gat b k l) n
 | 0=>by simp only [plG,rzN];omega
 | n+1=>by
  have h:=QbH a b i j k o n;have h1:=vbY (plG a b i j k o n) (i+k) (j+n) (gat a i j*gat b k n);have h2:=Zc (gat a i j) (gat b k n);simp only [plG,rzN];rw [Nat.add_mul];omega
def rrN(b:Gr)(m:Nat):Nat->Nat
 | 0=>0
 | n+1=>rrN b m n+rzN (λl=>gat b n l) m
theorem XbL(a b:Gr)(i j:Nat)(o:Gr):∀n,gz (pkG a b i j o n)<=gz o+n*(7*(rz (gat a i j)+4))+rrN b 7 n
 | 0=>by simp only [pkG,rrN];omega
 | n+1=>by
  have h:=XbL a b i j o n;have h1:=QbH a b i j n (pkG a b i j o n) (7-j);have h2:(7-j)*(rz (gat a i j)+4)<=7*(rz (gat a i j)+4):=Nat.mul_le_mul_right _ (by omega)
  have h3:=Q5 (λl=>gat b n l) (m:=7-j) (n:=7) (by omega)
  simp only [pkG,rrN];rw [Nat.add_mul];omega
theorem jJ(b:Gr)(m:Nat){k:Nat}:∀{n:Nat},k<=n->rrN b m k<=rrN b m n
 | 0,h=>by rw [Nat.le_zero.1 h];exact Nat.le_refl _
 | n+1,h=>by
  by_cases h1:k=n+1
  .rw [h1];exact Nat.le_refl _
  .have:=jJ b m (k:=k) (n:=n) (by omega)
   simp only [rrN];omega
theorem vbD(a b:Gr)(i:Nat)(o:Gr):∀n,gz (pjG a b i o n)<=gz o+49*rzN (λj=>gat a i j) n+n*(196+rrN b 7 7)
 | 0=>by simp only [pjG,rzN];omega
 | n+1=>by
  have h:=vbD a b i o n;have h1:=XbL a b i n (pjG a b i o n) (7-i);have h2:(7-i)*(7*(rz (gat a i n)+4))<=7*(7*(rz (gat a i n)+4)):=Nat.mul_le_mul_right _ (by omega)
  have h3:=jJ b 7 (k:=7-i) (n:=7) (by omega)
  simp only [pjG,rzN];rw [Nat.add_mul];split <;> omega
theorem kbF(a b:Gr):∀n,gz (piG a b n)<=49*rrN a 7 n+n*(7*(196+rrN b 7 7))
 | 0=>by simp only [piG,rrN];rw [gz_z];omega
 | n+1=>by
  have h:=kbF a b n;have h1:=vbD a b n (piG a b n) 7;show gz (pjG a b n (piG a b n) 7)<=49*(rrN a 7 n+rzN (λl=>gat a n l) 7)+(n+1)*(7*(196+rrN b 7 7));rw [Nat.add_mul];omega
theorem Xbk(f:Nat->Rat)(m:Nat):∀n,rzN f (m+n)=rzN f m+rzN (λl=>f (m+l)) n
 | 0=>by simp only [rzN,Nat.add_zero]
 | n+1=>by
  have ih:=Xbk f m n;show rzN f (m+n)+rz (f (m+n))=rzN f m+(rzN (λl=>f (m+l)) n+rz (f (m+n)));omega
theorem Uad(f:Nat->Rat):∀n,rzN f (n+1)=rz (f 0)+rzN (λm=>f (m+1)) n
 | 0=>by show 0+rz (f 0)=rz (f 0)+0;omega
 | n+1=>by
  have ih:=Uad f n;show rzN f (n+1)+rz (f (n+1))=rz (f 0)+(rzN (λm=>f (m+1)) n+rz (f (n+1)));omega
theorem Ybs:∀g:Gr,rzN (λm=>g.getD m 0) g.length=gz g
 | []=>rfl
 | q::r=>by
  have ih:=Ybs r;rw [List.length_cons,Uad];simp only [List.getD_cons_zero,List.getD_cons_succ,gz];omega
theorem QbS(g:Gr):∀n,rrN g 7 n=rzN (λm=>g.getD m 0) (n*7)
 | 0=>rfl
 | n+1=>by
  have ih:=QbS g n;have e:(n+1)*7=n*7+7:=by omega
  rw [e,Xbk,<-ih];rfl
theorem QW{g:Gr}(hg:g.length=49):rrN g 7 7=gz g:=by
 rw [QbS,<-Ybs,hg]
theorem vm{a b:Gr}(ha:a.length=49)(hb:b.length=49):gz (Qg a b)<=49*gz a+49*gz b+9604:=by
 have h:=kbF a b 7;rw [QW ha,QW hb]at h;unfold Qg;omega
theorem ZbB(x y:Rat)(i j k l:Nat):mon x y (i+k) (j+l)=mon x y i j*mon x y k l:=by unfold mon;rw [Ybb,Ybb];grind
theorem YbB{o:Gr}(h:o.length=49){i j:Nat}(hi:i<7)(hj:j<7)(v x y:Rat):evG (addG o i j v) x y=evG o x y+v*mon x y i j:=by
 unfold addG;rw [jac h hi hj];grind
theorem vbX{a b:Gr}{i j k:Nat}{o:Gr}(h:o.length=49)(hik:i+k<7)(x y:Rat):∀n,j+n<=7->evG (plG a b i j k o n) x y=evG o x y+gat a i j*mon x y i j*sumN (λl=>gat b k l*mon x y k l) n
 | 0,_=>by simp only [plG,sumN];grind
 | n+1,hn=>by
  simp only [plG,sumN];rw [YbB (XR h n) hik (by omega),vbX h hik x y n (by omega),ZbB];grind
theorem XbV{a b:Gr}{i j:Nat}{o:Gr}(h:o.length=49)(hj:j<7)(x y:Rat):∀n,i+n<=7->evG (pkG a b i j o n) x y=evG o x y+gat a i j*mon x y i j*sumN (λk=>sumN (λl=>gat b k l*mon x y k l) (7-j)) n
 | 0,_=>by simp only [pkG,sumN];grind
 | n+1,hn=>by
  simp only [pkG,sumN];rw [vbX (WT h n) (by omega) x y (7-j) (by omega),XbV h hj x y n (by omega)];grind
def DG(d:Nat)(g:Gr):Prop:=∀i j,i<7->j<7->d<i+j->gat g i j=0
theorem ub9{b:Gr}{e i j:Nat}(hb:DG e b)(h:i+j+e<=6)(x y:Rat):sumN (λk=>sumN (λl=>gat b k l*mon x y k l) (7-j)) (7-i)=evG b x y:=by
 have h1:∀k,k<7->sumN (λl=>gat b k l*mon x y k l) (7-j)=sumN (λl=>gat b k l*mon x y k l) 7:=λk hk=>
  V5 (by omega) λl hl hl7=>by rw [hb k l hk hl7 (by omega)];grind
 have h2:sumN (λk=>sumN (λl=>gat b k l*mon x y k l) (7-j)) (7-i)=sumN (λk=>sumN (λl=>gat b k l*mon x y k l) 7) (7-i):=Zi λk hk=>h1 k (by omega)
 rw [h2];unfold evG;refine V5 (by omega) λk hk hk7=>?_
 have h3:sumN (λl=>gat b k l*mon x y k l) 7=sumN (λ_=>0) 7:=Zi λl hl=>by rw [hb k l hk7 hl (by omega)];grind
 rw [h3,QD]
theorem VbX{a b:Gr}{d e i:Nat}(ha:DG d a)(hb:DG e b)(hde:d+e<=6)(hi:i<7){o:Gr}(h:o.length=49)(x y:Rat):∀n,n<=7->evG (pjG a b i o n) x y=evG o x y+sumN (λj=>gat a i j*mon x y i j) n*evG b x y
 | 0,_=>by simp only [pjG,sumN];grind
 | n+1,hn=>by
  have ih:=VbX ha hb hde hi h x y n (by omega)
  simp only [pjG,sumN];by_cases h0:gat a i n=0
  .rw [if_pos h0,ih,h0];grind
  .have hin:i+n<=d:=Nat.le_of_not_lt λhlt=>h0 (ha i n hi (by omega) hlt)
   rw [if_neg h0,XbV (vK h n) (by omega) x y (7-i) (by omega),ih,ub9 hb (by omega)];grind
theorem WbY{a b:Gr}{d e:Nat}(ha:DG d a)(hb:DG e b)(hde:d+e<=6)(x y:Rat):∀n,n<=7->evG (piG a b n) x y=sumN (λi=>sumN (λj=>gat a i j*mon x y i j) 7) n*evG b x y
 | 0,_=>by
  show evG zG x y=0*evG b x y;rw [XbB];grind
 | n+1,hn=>by
  show evG (pjG a b n (piG a b n) 7) x y=(sumN (λi=>sumN (λj=>gat a i j*mon x y i j) 7) n+sumN (λj=>gat a n j*mon x y n j) 7)*evG b x y;rw [VbX ha hb hde (by omega) (vU n) x y 7 (Nat.le_refl _),WbY ha hb hde x y n (by omega),Rat.add_mul]
theorem uI{a b:Gr}{d e:Nat}(ha:DG d a)(hb:DG e b)(hde:d+e<=6)(x y:Rat):evG (Qg a b) x y=evG a x y*evG b x y:=WbY ha hb hde x y 7 (Nat.le_refl _)
theorem DG_z(d:Nat):DG d zG:=λi j _ _ _=>xa3 i j
theorem zaD{d:Nat}{g:Gr}(hg:g.length=49)(h:DG d g){i j:Nat}(hi:i<7)(hj:j<7)(hd:i+j<=d)(v:Rat):DG d (g.set (i*7+j) v):=λi' j' hi' hj' h'=>by
 rw [zK hg hi hj hi' hj',if_neg (by omega)];exact h i' j' hi' hj' h'
theorem ZM(a b c:Rat):DG 1 (linG a b c):=by
 have l0:(zG.set 0 a).length=49:=by rw [List.length_set,Qy]
 have l1:((zG.set 0 a).set 7 b).length=49:=by rw [List.length_set,l0]
 have h0:=zaD Qy (DG_z 1) (i:=0) (j:=0) (by decide) (by decide) (by decide) a
 have h1:=zaD l0 h0 (i:=1) (j:=0) (by decide) (by decide) (by decide) b
 exact zaD l1 h1 (i:=0) (j:=1) (by decide) (by decide) (by decide) c
theorem ZU{d:Nat}{a b:Gr}(ha:a.length=49)(hb:b.length=49)(h:DG d a)(h' : DG d b)(k:Rat):DG d (plusG a k b):=λi j hi hj hd=>by
 rw [Vak ha hb k hi hj,h i j hi hj hd,h' i j hi hj hd];grind
theorem xbA{d:Nat}{o:Gr}(hg:o.length=49)(h:DG d o){i j:Nat}(hi:i<7)(hj:j<7){v:Rat}(hd:i+j<=d∨v=0):DG d (addG o i j v):=by
 rcases hd with hd | rfl
 .exact zaD hg h hi hj hd _
 .intro i' j' hi' hj' h';unfold addG;rw [zK hg hi hj hi' hj'];split
  .rename_i e;rw [<-e.1,<-e.2,h i' j' hi' hj' h'];grind
  .exact h i' j' hi' hj' h'
theorem ubR{a b:Gr}{d e i j k:Nat}(hb:DG e b)(hij:i+j<=d){o:Gr}(h:o.length=49)(ho:DG (d+e) o)(hik:i+k<7):∀n,j+n<=7->DG (d+e) (plG a b i j k o n)
 | 0,_=>ho
 | n+1,hn=>by
  simp only [plG];refine xbA (XR h n) (ubR hb hij h ho hik n (by omega)) hik (by omega) ?_
  by_cases hk:k+n<=e
  .exact .inl (by omega)
  .refine .inr ?_;rw [hb k n (by omega) (by omega) (by omega)];grind
theorem YbO{a b:Gr}{d e i j:Nat}(hb:DG e b)(hij:i+j<=d){o:Gr}(h:o.length=49)(ho:DG (d+e) o)(hj:j<7):∀n,i+n<=7->DG (d+e) (pkG a b i j o n)
 | 0,_=>ho
 | n+1,hn=>ubR hb hij (WT h n) (YbO hb hij h ho hj n (by omega)) (by omega) (7-j) (by omega)
theorem qbS{a b:Gr}{d e i:Nat}(ha:DG d a)(hb:DG e b)(hi:i<7){o:Gr}(h:o.length=49)(ho:DG (d+e) o):∀n,n<=7->DG (d+e) (pjG a b i o n)
 | 0,_=>ho
 | n+1,hn=>by
  have ih:=qbS ha hb hi h ho n (by omega)
  simp only [pjG];split
  .exact ih
  .rename_i h0;have hin:i+n<=d:=Nat.le_of_not_lt λhlt=>h0 (ha i n hi (by omega) hlt)
   exact YbO hb hin (vK h n) ih (by omega) (7-i) (by omega)
theorem zbT{a b:Gr}{d e:Nat}(ha:DG d a)(hb:DG e b):∀n,n<=7->DG (d+e) (piG a b n)
 | 0,_=>DG_z _
 | n+1,hn=>qbS ha hb (by omega) (vU n) (zbT ha hb n (by omega)) 7 (Nat.le_refl _)
theorem Xab{a b:Gr}{d e:Nat}(ha:DG d a)(hb:DG e b):DG (d+e) (Qg a b):=zbT ha hb 7 (Nat.le_refl _)
end Go.Num
end
section
namespace Go.Num
def lsT(g:Gr)(s i:Nat):MQ:=((i:Int),(s:Int)-(i:Int),gat g i (s-i))
def lsI(g:Gr)(s:Nat)(o:BQ):Nat->BQ
 | 0=>o
 | n+1=>if s<n∨6<s-n∨gat g n (s-n)=0 then lsI g s o n else lsI g s o n++[lsT g s n]
def lsS(g:Gr):Nat->BQ
 | 0=>[]
 | n+1=>lsI g n (lsS g n) 7
def lsG(g:Gr):BQ:=lsS g 13
structure Lw (b:Nat) (o:BQ):Prop where
 can:Canon o
 low:∀t∈o,kq t<b
theorem qbz{g:Gr}{s i:Nat}(h:i<=s):kq (lsT g s i)=tri s+i:=by
 unfold kq lsT;have e:((i:Int)+((s:Int)-(i:Int))).toNat=s:=by omega
 simp only [e];omega
theorem Lw.snoc{b:Nat}{o:BQ}(h:Lw b o){t:MQ}(ht:inQ t)(hz:t.2.2≠0)(hb:b<=kq t):Lw (kq t+1) (o++[t]):=by
 refine⟨⟨?_,?_,?_⟩,?_⟩
 .unfold StrM;refine List.pairwise_append.2 ⟨h.can.str,List.pairwise_singleton _ _,λx hx y hy=>?_⟩;rw [List.mem_singleton.1 hy];have:=h.low x hx;omega
 .intro x hx;rcases List.mem_append.1 hx with hx | hx
  .exact h.can.ins x hx
  .rw [List.mem_singleton.1 hx];exact ht
 .intro x hx;rcases List.mem_append.1 hx with hx | hx
  .exact h.can.nz x hx
  .rw [List.mem_singleton.1 hx];exact hz
 .intro x hx;rcases List.mem_append.1 hx with hx | hx
  .have:=h.low x hx;omega
  .rw [List.mem_singleton.1 hx];omega
theorem Lw.mono{b c:Nat}{o:BQ}(h:Lw b o)(hb:b<=c):Lw c o:=⟨h.can,λt ht=>by have:=h.low t ht;omega⟩
theorem lw_I{g:Gr}{s:Nat}(hs:s<=12){o:BQ}(h:Lw (tri s) o):∀n,Lw (tri s+n) (lsI g s o n)
 | 0=>h
 | n+1=>by
  have ih:=lw_I hs h (g:=g) n;simp only [lsI];split
  .exact ih.mono (by omega)
  .rename_i hc;simp only [not_or]at hc;have hk:=qbz (g:=g) (s:=s) (i:=n) (by omega)
   have:=ih.snoc (t:=lsT g s n) ⟨by show(0:Int)<=(n:Int);omega,by show(0:Int)<=(s:Int)-(n:Int);omega,by show(n:Int)+((s:Int)-(n:Int))<=24;omega⟩ hc.2.2 (by omega)
   rw [hk]at this;exact this
theorem YbF{g:Gr}{s:Nat}{o:BQ}(h:∀t∈o,kq t<tri s):∀n,∀t∈lsI g s o n,kq t<tri (s+1)
 | 0,t,ht=>by have:=h t ht;show kq t<tri s+(s+1);omega
 | n+1,t,ht=>by
  simp only [lsI]at ht;split at ht
  .exact YbF h n t ht
  .rename_i hc;simp only [not_or]at hc;rcases List.mem_append.1 ht with ht | ht
   .exact YbF h n t ht
   .rw [List.mem_singleton.1 ht,qbz (by omega)]
    show tri s+n<tri s+(s+1);omega
theorem lw_S(g:Gr):∀n,n<=13->Lw (tri n) (lsS g n)
 | 0,_=>⟨⟨List.Pairwise.nil,λ_ h=>by simp [lsS]at h,λ_ h=>by simp [lsS]at h⟩,λ_ h=>by simp [lsS]at h⟩
 | n+1,hn=>by
  have ih:=lw_S g n (by omega)
  exact⟨(lw_I (by omega) ih 7).can,YbF ih.low 7⟩
theorem QaW(g:Gr):Canon (lsG g):=(lw_S g 13 (Nat.le_refl _)).can
def tmG(g:Gr)(x y:Rat)(s i:Nat):Rat:=if s<i∨6<s-i then 0 else gat g i (s-i)*mon x y i (s-i)
theorem qbU(g:Gr){s i:Nat}(h:i<=s)(x y:Rat):ev [lsT g s i] x y=gat g i (s-i)*mon x y i (s-i):=by
 have e:((s:Int)-(i:Int)).toNat=s-i:=by omega
 simp only [ev,mev,lsT,mon,e,Int.toNat_natCast];grind
theorem ev_I(g:Gr)(s:Nat)(o:BQ)(x y:Rat):∀n,ev (lsI g s o n) x y=ev o x y+sumN (tmG g x y s) n
 | 0=>by simp only [lsI,sumN];grind
 | n+1=>by
  have ih:=ev_I g s o x y n;simp only [lsI,sumN];unfold tmG at ih ⊢;by_cases h1:s<n∨6<s-n
  .rw [if_pos (by omega),if_pos h1,ih];grind
  .rw [if_neg h1];by_cases h2:gat g n (s-n)=0
   .rw [if_pos (.inr (.inr h2)),ih,h2];grind
   .rw [if_neg (λh=>by rcases h with h | h | h <;> first | exact h2 h | omega),Ur,ih,qbU g (by omega)];grind
theorem ev_S(g:Gr)(x y:Rat):∀n,ev (lsS g n) x y=sumN (λs=>sumN (tmG g x y s) 7) n
 | 0=>rfl
 | n+1=>by
  show ev (lsI g n (lsS g n) 7) x y=sumN (λs=>sumN (tmG g x y s) 7) n+sumN (tmG g x y n) 7;rw [ev_I,ev_S g x y n]
theorem kaj(F:Nat->Nat->Rat)(m:Nat):∀n,sumN (λs=>sumN (λi=>F s i) m) n=sumN (λi=>sumN (λs=>F s i) n) m
 | 0=>by simp only [sumN];rw [QD]
 | n+1=>by
  show sumN (λs=>sumN (λi=>F s i) m) n+sumN (λi=>F n i) m=sumN (λi=>sumN (λs=>F s i) n+F n i) m;rw [kaj F m n,kF]
theorem diag(g:Gr)(x y:Rat){i:Nat}(hi:i<7):sumN (λs=>tmG g x y s i) 13=sumN (λj=>gat g i j*mon x y i j) 7:=by
 match i,hi with
 | 0,_=>simp [sumN,tmG];grind
 | 1,_=>simp [sumN,tmG];grind
 | 2,_=>simp [sumN,tmG];grind
 | 3,_=>simp [sumN,tmG];grind
 | 4,_=>simp [sumN,tmG];grind
 | 5,_=>simp [sumN,tmG];grind
 | 6,_=>simp [sumN,tmG];grind
theorem zbu(g:Gr)(x y:Rat):ev (lsG g) x y=evG g x y:=by
 unfold lsG evG;rw [ev_S,kaj (λs i=>tmG g x y s i)];exact Zi λi hi=>diag g x y hi
theorem JbY{g:Gr}{p:BQ}(hp:Canon p)(h:∀x y,ev p x y=evG g x y):lsG g=p:=
 vO (QaW g) hp λx y=>by rw [zbu,h]
end Go.Num
end
section
namespace Go.Num
open Go.Abs
def gX(p:PsQ):Gr:=linG p.2.1 (cosQ p.1) (-sinQ p.1)
def gY(p:PsQ):Gr:=linG p.2.2 (sinQ p.1) (cosQ p.1)
def gS(p:PsQ):Gr:=plusG (Qg (gX p) (gX p)) 1 (Qg (gY p) (gY p))
def mnG(a b:Gr):Gr:=plusG a (-1) b
abbrev Gw:=Gr×Gr×Gr
def rwG(p:PsQ):Gw:=(gS p,gX p,gY p)
def dfG(q p:Gw):Gw:=(mnG q.1 p.1,mnG q.2.1 p.2.1,mnG q.2.2 p.2.2)
def miG(a b:Gw):Gr:=mnG (Qg a.2.1 b.2.2) (Qg a.2.2 b.2.1)
def stG(s m k:Gr):Gr:=plusG s 1 (Qg m k)
def d3G(a b c:Gw):Gr:=stG (stG (stG zG a.1 (miG b c)) b.1 (miG c a)) c.1 (miG a b)
def detG:List Ps->Gr
 | [p,q,r,s]=>d3G (dfG (rwG (pv q)) (rwG (pv p))) (dfG (rwG (pv r)) (rwG (pv p))) (dfG (rwG (pv s)) (rwG (pv p)))
 | _=>zG
structure GB (s n:Nat) (a:Gw):Prop where
 l1:a.1.length=49
 l2:a.2.1.length=49
 l3:a.2.2.length=49
 d1:DG 2 a.1
 d2:DG 1 a.2.1
 d3:DG 1 a.2.2
 z1:gz a.1<=s
 z2:gz a.2.1<=n
 z3:gz a.2.2<=n
theorem zam{a b:Gr}(ha:a.length=49)(hb:b.length=49):(mnG a b).length=49:=YI ha hb _
theorem VbS : rz (-1:Rat)<=2:=by
 have h:rz (-1:Rat)=rz 1:=qA 1;rw [h];exact Nat.le_trans (Nat.le_of_eq rfl) (by have:=rz_1;omega)
theorem ubu{A B C D R:Nat}(h:A<=B+C+D*(R+4))(hd:D=49)(hr:R<=2):A<=B+C+300:=by subst hd;omega
theorem ybp{a b:Gr}(hb:b.length=49):gz (mnG a b)<=gz a+gz b+300:=ubu (Wab a b (-1)) hb VbS
theorem ubl{a b:Gr}(ha:a.length=49)(hb:b.length=49)(x y:Rat):evG (mnG a b) x y=evG a x y-evG b x y:=by
 unfold mnG;rw [U6 ha hb];grind
theorem Ybw(a b c:Rat):gz (linG a b c)<=rz a+rz b+rz c:=by
 have h1:=Jaj ((zG.set 0 a).set 7 b) 1 c;have h2:=Jaj (zG.set 0 a) 7 b;have h3:=Jaj zG 0 a;have h4:=gz_z;unfold linG;omega
theorem gX_z{p:PsQ}(h:PsK p):gz (gX p)<=9100:=by
 have h0:=Ybw p.2.1 (cosQ p.1) (-sinQ p.1);have h1:=xM p.1;have h2:=XH p.1;have h3:=h.1;have h4:rz p.2.1<=1000:=Nat.le_trans (Nat.le_max_left _ _) h.2;have h5:=qA (sinQ p.1);unfold gX;omega
theorem gY_z{p:PsQ}(h:PsK p):gz (gY p)<=9100:=by
 have h0:=Ybw p.2.2 (sinQ p.1) (cosQ p.1);have h1:=xM p.1;have h2:=XH p.1;have h3:=h.1;have h4:rz p.2.2<=1000:=Nat.le_trans (Nat.le_max_right _ _) h.2;unfold gY;omega
theorem zbK{A B C D E:Nat}(h:A<=B+C+300)(h1:B<=49*D+49*D+9604)(h2:C<=49*E+49*E+9604)(h3:D<=9100)(h4:E<=9100):A<=1900000:=by omega
theorem QA{p:PsQ}(h:PsK p):GB 1900000 9100 (rwG p):=by
 have lX:(gX p).length=49:=UaC _ _ _;have lY:(gY p).length=49:=UaC _ _ _;have zX:=gX_z h;have zY:=gY_z h;have z1:=vm lX lX;have z2:=vm lY lY;have z3:gz (gS p)<=gz (Qg (gX p) (gX p))+gz (Qg (gY p) (gY p))+300:=ubu (Wab _ _ 1) (Ub _ _) (by have:=rz_1;omega)
 exact⟨YI (Ub _ _) (Ub _ _) _,lX,lY,ZU (Ub _ _) (Ub _ _) (Xab (ZM _ _ _) (ZM _ _ _)) (Xab (ZM _ _ _) (ZM _ _ _)) _,ZM _ _ _,ZM _ _ _,
  zbK z3 z1 z2 zX zY,zX,zY⟩
theorem Qab{s n:Nat}{a b:Gw}(h:GB s n a)(k:GB s n b):GB (s+s+300) (n+n+300) (dfG a b):=by
 have a1:=ybp (a:=a.1) k.l1;have a2:=ybp (a:=a.2.1) k.l2;have a3:=ybp (a:=a.2.2) k.l3;have:=h.z1;have:=h.z2;have:=h.z3;have:=k.z1;have:=k.z2;have:=k.z3;exact⟨zam h.l1 k.l1,zam h.l2 k.l2,zam h.l3 k.l3,ZU h.l1 k.l1 h.d1 k.d1 _,ZU h.l2 k.l2 h.d2 k.d2 _,ZU h.l3 k.l3 h.d3 k.d3 _,by show gz (mnG _ _)<=_;omega,by show gz (mnG _ _)<=_;omega,by show gz (mnG _ _)<=_;omega⟩
theorem W7{s n:Nat}{a b:Gw}(h:GB s n a)(k:GB s n b):(miG a b).length=49/\DG 2 (miG a b)/\gz (miG a b)<=196*n+19508/\∀x y,evG (miG a b) x y=evG a.2.1 x y*evG b.2.2 x y-evG a.2.2 x y*evG b.2.1 x y:=by
 have p1:=vm h.l2 k.l3;have p2:=vm h.l3 k.l2;have p3:=ybp (a:=Qg a.2.1 b.2.2) (Ub a.2.2 b.2.1);have:=h.z2;have:=h.z3;have:=k.z2;have:=k.z3;refine⟨zam (Ub _ _) (Ub _ _),ZU (Ub _ _) (Ub _ _) (Xab h.d2 k.d3) (Xab h.d3 k.d2) _,by unfold miG;omega,λx y=>?_⟩
 unfold miG;rw [ubl (Ub _ _) (Ub _ _),uI h.d2 k.d3 (by decide),uI h.d3 k.d2 (by decide)]
theorem JJ{s:Gr}(hs:s.length=49)(m k:Gr):(stG s m k).length=49:=YI hs (Ub _ _) _
theorem Qb1{A B C D R:Nat}(h:A<=B+C+D*(R+4))(hd:D=49)(hr:R<=2){E:Nat}(h1:C<=E):A<=B+E+300:=by subst hd;omega
theorem jbf{s m k:Gr}(hm:m.length=49)(hk:k.length=49):gz (stG s m k)<=gz s+(49*gz m+49*gz k+9604)+300:=
 Qb1 (Wab s (Qg m k) 1) (Ub _ _) (by have:=rz_1;omega) (vm hm hk)
theorem XbI{s m k:Gr}(hs:s.length=49)(hm:DG 2 m)(hk:DG 2 k)(x y:Rat):evG (stG s m k) x y=evG s x y+evG m x y*evG k x y:=by
 unfold stG;rw [U6 hs (Ub _ _),uI hm hk (by decide)];grind
theorem YbD(p:PsQ)(m:V2):evG (gX p) m.1 m.2=(appQ p m).1:=by
 unfold gX;rw [Jbj];unfold appQ rotQ addQ;simp only;grind
theorem VbC(p:PsQ)(m:V2):evG (gY p) m.1 m.2=(appQ p m).2:=by
 unfold gY;rw [Jbj];unfold appQ rotQ addQ;simp only;grind
theorem WbR(p:PsQ)(m:V2):evG (gS p) m.1 m.2=sqQ (appQ p m):=by
 have dX:DG 1 (gX p):=ZM _ _ _;have dY:DG 1 (gY p):=ZM _ _ _;unfold gS;rw [U6 (Ub _ _) (Ub _ _),uI dX dX (by decide),uI dY dY (by decide),YbD,VbC]
 unfold sqQ;grind
theorem Ja0{l:List Ps}(hl:okPs 1000 l)(h:Vd l=0):lsG (detG l)=bcL l:=by
 obtain⟨hp,hev⟩:=VI hl h;obtain⟨hlen,_⟩:=kG h;obtain⟨p,q,r,s,rfl⟩:=Y7 hlen;have k1:=QA (Yg (hl p (by simp)).1 (hl p (by simp)).2)
 have k2:=QA (Yg (hl q (by simp)).1 (hl q (by simp)).2)
 have k3:=QA (Yg (hl r (by simp)).1 (hl r (by simp)).2)
 have k4:=QA (Yg (hl s (by simp)).1 (hl s (by simp)).2)
 refine JbY hp.canon λx y=>?_;have e:=hev (x,y);simp only at e;rw [e];have a:=Qab k2 k1;have b:=Qab k3 k1;have c:=Qab k4 k1;obtain⟨bc1,bc2,_,bc4⟩:=W7 b c;obtain⟨ca1,ca2,_,ca4⟩:=W7 c a;obtain⟨ab1,ab2,_,ab4⟩:=W7 a b;show detQ _ _ _ _=evG (d3G _ _ _) x y;unfold d3G;rw [XbI (JJ (JJ Qy _ _) _ _) c.d1 ab2,XbI (JJ Qy _ _) b.d1 ca2,XbI Qy a.d1 bc2,XbB,bc4,ca4,ab4,WbC];have sx:∀{u v:Ps},GB 1900000 9100 (rwG (pv u))->GB 1900000 9100 (rwG (pv v))->evG (dfG (rwG (pv u)) (rwG (pv v))).1 x y=sqQ (appQ (pv u) (x,y))-sqQ (appQ (pv v) (x,y))/\evG (dfG (rwG (pv u)) (rwG (pv v))).2.1 x y=(subQ (appQ (pv u) (x,y)) (appQ (pv v) (x,y))).1/\evG (dfG (rwG (pv u)) (rwG (pv v))).2.2 x y=(subQ (appQ (pv u) (x,y)) (appQ (pv v) (x,y))).2:=λ{u v} hu hv=>by
  refine⟨?_,?_,?_⟩
  .show evG (mnG _ _) x y=_;rw [ubl hu.l1 hv.l1];have e1:=WbR (pv u) (x,y);have e2:=WbR (pv v) (x,y);show evG (gS (pv u)) x y-evG (gS (pv v)) x y=_;rw [e1,e2]
  .show evG (mnG _ _) x y=_;rw [ubl hu.l2 hv.l2];have e1:=YbD (pv u) (x,y);have e2:=YbD (pv v) (x,y);show evG (gX (pv u)) x y-evG (gX (pv v)) x y=_;rw [e1,e2];rfl
  .show evG (mnG _ _) x y=_;rw [ubl hu.l3 hv.l3];have e1:=VbC (pv u) (x,y);have e2:=VbC (pv v) (x,y);show evG (gY (pv u)) x y-evG (gY (pv v)) x y=_;rw [e1,e2];rfl
 obtain⟨x1,x2,x3⟩:=sx k2 k1;obtain⟨y1,y2,y3⟩:=sx k3 k1;obtain⟨z1,z2,z3⟩:=sx k4 k1;rw [x1,x2,x3,y1,y2,y3,z1,z2,z3,Rat.zero_add]
def glJ(g:Gr)(i:Nat):Nat->BQ
 | 0=>[]
 | n+1=>glJ g i n++[((i:Int),(n:Int),gat g i n)]
def glI(g:Gr):Nat->BQ
 | 0=>[]
 | n+1=>glI g n++glJ g n 7
theorem Qbx(g:Gr){i:Nat}(hi:i<7):∀{n:Nat},n<=7->InQ (glJ g i n)
 | 0,_=>λt ht=>by simp [glJ]at ht
 | n+1,hn=>yf.2 ⟨Qbx g hi (by omega),λt ht=>by rw [List.mem_singleton.1 ht];unfold inQ;simp only;omega⟩
theorem Xbs(g:Gr):∀{n:Nat},n<=7->InQ (glI g n)
 | 0,_=>λt ht=>by simp [glI]at ht
 | n+1,hn=>yf.2 ⟨Xbs g (by omega),Qbx g (by omega) (Nat.le_refl _)⟩
theorem Xbw(g:Gr)(i:Nat)(x y:Rat):∀n,ev (glJ g i n) x y=sumN (λj=>gat g i j*mon x y i j) n
 | 0=>rfl
 | n+1=>by
  simp only [glJ,sumN];rw [Ur,Xbw g i x y n];have e:ev [((i:Int),(n:Int),gat g i n)] x y=gat g i n*mon x y i n:=by
   simp only [ev,mev,mon,Int.toNat_natCast];grind
  rw [e]
theorem xbx(g:Gr)(x y:Rat):∀n,ev (glI g n) x y=sumN (λi=>sumN (λj=>gat g i j*mon x y i j) 7) n
 | 0=>rfl
 | n+1=>by
  have e:glI g (n+1)=glI g n++glJ g n 7:=rfl;rw [e,Ur,xbx g x y n,Xbw];rfl
theorem ubx(g:Gr)(i a b:Nat):∀n,cf (glJ g i n) a b=if a=i/\b<n then gat g i b else 0
 | 0=>by simp [glJ,cf]
 | n+1=>by
  simp only [glJ];rw [Ys,ubx g i a b n];simp only [cf];by_cases h1:a=i
  .by_cases h2:b=n
   .subst h1 h2;simp;grind
   .by_cases h3:b<n
    .have e1:¬((n:Int)=(b:Int)):=by omega
     rw [if_pos ⟨h1,h3⟩,if_neg (λh=>e1 h.2),if_pos ⟨h1,by omega⟩];grind
    .have e1:¬((n:Int)=(b:Int)):=by omega
     rw [if_neg (λh=>h3 h.2),if_neg (λh=>e1 h.2),if_neg (λh=>by omega)];grind
  .have e1:¬((i:Int)=(a:Int)):=by omega
   rw [if_neg (λh=>h1 h.1),if_neg (λh=>e1 h.1),if_neg (λh=>h1 h.1)];grind
theorem vbA(g:Gr)(a b:Nat)(hb:b<7):∀n,cf (glI g n) a b=if a<n then gat g a b else 0
 | 0=>by simp [glI,cf]
 | n+1=>by
  simp only [glI];rw [Ys,vbA g a b hb n,ubx];by_cases h1:a=n
  .subst h1;simp [hb];grind
  .by_cases h2:a<n
   .rw [if_pos h2,if_neg (λh=>h1 h.1),if_pos (by omega)];grind
   .rw [if_neg h2,if_neg (λh=>h1 h.1),if_neg (by omega)];grind
theorem yaC{l:List Ps}(hl:okPs 1000 l)(h:Vd l=0){i j:Nat}(hi:i<7)(hj:j<7):gat (detG l) i j=cf (bcL l) i j:=by
 have hd:=Ja0 hl h;have hp:=(VI hl h).1;have e:∀x y,ev (glI (detG l) 7) x y=ev (bcL l) x y:=λx y=>by
  rw [<-hd,zbu,xbx];rfl
 have:=UaI (Xbs (detG l) (Nat.le_refl 7)) hp.canon.ins e i j;rw [<-this,vbA _ _ _ hj,if_pos hi]
theorem qch{p:BQ}(hi:InQ p)(hd:Deg 3 p)(x:Rat)(j:Nat):fxB false x j p=cf p (0:Nat) j+cf p (1:Nat) j*x+cf p (2:Nat) j*(x*x)+cf p (3:Nat) j*(x*x*x):=by
 induction p with
 | nil=>simp only [fxB,cf];grind
 | cons t p ih=>
  have hi':=Yf.1 hi;have ih:=ih hi'.2 λu hu=>hd u (List.mem_cons_of_mem _ hu);have h1:=hd t (by simp)
  obtain⟨i0,i1,i2⟩:=hi'.1;simp only [fxB,cf,ih];have hj:t.1=0∨t.1=1∨t.1=2∨t.1=3:=by omega
  unfold fxT kxM nxM;simp only [Bool.false_eq_true,if_false];by_cases hk:t.2.1=(j:Int)
  .rcases hj with h | h | h | h <;> rw [h] <;> simp [pw,hk] <;> grind
  .simp [hk];grind
theorem Qbr{l:List Ps}(hl:okPs 1000 l)(h:Vd l=0)(x:Rat){j:Nat}(hj:j<7):fxB false x j (bcL l)=gat (detG l) 0 j+x*gat (detG l) 1 j+x*x*gat (detG l) 2 j+x*x*x*gat (detG l) 3 j:=by
 have pb:=wbd hl h;rw [qch pb.canon.ins pb.deg,yaC hl h (by decide) hj,yaC hl h (by decide) hj,yaC hl h (by decide) hj,yaC hl h (by decide) hj]
 grind
end Go.Num
end
section
namespace Go.Num
open Go.Abs
end Go.Num
namespace Go.Abs
open Go.Num
variable {P:Program} {Γ:Nat->Spec}
def vS(l:List AV)(K:AV->Prop):Prop:=
 match l with
 | [c,p]=>onCp (λc=>onA (λp=>cl c<=1048576/\al p<=1048576/\K (.one (.lit (.bool true)))) p) c
 | _=>False
theorem J1 c p K:vS [c,p] K=(onCp (λc=>onA (λp=>cl c<=1048576/\al p<=1048576/\K (.one (.lit (.bool true)))) p) c):=propext Iff.rfl
@[congr] theorem jbM{K}{l l'}(h:l=l'):vS l K=vS l' K:=by subst h;rfl
attribute [go_sem,go_sem ↓] J1
end Go.Abs
end
section
namespace Go.Num
open Go.Abs
def clsC(c:Cp)(a b:Arc):Cp:=(c.1,c.2.1,rcan (sqQ (subQ (av a) (av c.1))),rcan (sqQ (subQ (av b) (av a))),rcan (sqQ (subQ (av b) (av c.2.1))),c.2.2.2.2.2.1,c.2.2.2.2.2.2)
end Go.Num
namespace Go.Abs
open Go.Num
variable {P:Program} {Γ:Nat->Spec}
def Vbi(l:List AV)(K:AV->Prop):Prop:=
 match l with
 | [c]=>onCp (λc=>cl c<=100000000/\K (.one (.lit (.int .i64 (cchk c:Nat))))) c
 | _=>False
theorem zbc c K:Vbi [c] K=(onCp (λc=>cl c<=100000000/\K (.one (.lit (.int .i64 (cchk c:Nat))))) c):=propext Iff.rfl
@[congr] theorem Jcc{K}{l l'}(h:l=l'):Vbi l K=Vbi l' K:=by subst h;rfl
attribute [go_sem,go_sem ↓] zbc
def zaX(l:List AV)(K:AV->Prop):Prop:=
 match l with
 | [c,a,b]=>onCp (λc=>onA (λa=>onA (λb=>cl c<=10000/\al a<=10000/\al b<=10000/\K (.tup [cpA (clsC c a b),.one (.lit (.bool (decide (cchk (clsC c a b)=0))))])) b) a) c
 | _=>False
theorem Ya9 c a b K:zaX [c,a,b] K=(onCp (λc=>onA (λa=>onA (λb=>cl c<=10000/\al a<=10000/\al b<=10000/\K (.tup [cpA (clsC c a b),.one (.lit (.bool (decide (cchk (clsC c a b)=0))))])) b) a) c):=propext Iff.rfl
@[congr] theorem xb9{K}{l l'}(h:l=l'):zaX l K=zaX l' K:=by subst h;rfl
attribute [go_sem,go_sem ↓] Ya9
end Go.Abs
end
section
namespace Go.Num
open Go.Abs
def riC(c:Cp)(p:Arc):Nat:=if wV (cpv c) (av p)≠0 then 21 else if wM (cpv c) (av p)=0 then 15 else 0
def reQ(c:CpR):V2:=subQ (1,0) (cW c)
end Go.Num
namespace Go.Abs
open Go.Num
variable {P:Program} {Γ:Nat->Spec}
def ZbI(l:List AV)(K:AV->Prop):Prop:=
 match l with
 | [c]=>onCp (λc=>K (aA (c.2.2.2.2.2.1,c.2.2.2.2.2.2))) c
 | _=>False
theorem jby c K:ZbI [c] K=(onCp (λc=>K (aA (c.2.2.2.2.2.1,c.2.2.2.2.2.2))) c):=propext Iff.rfl
@[congr] theorem Zci{K}{l l'}(h:l=l'):ZbI l K=ZbI l' K:=by subst h;rfl
attribute [go_sem,go_sem ↓] jby
def XaY(l:List AV)(K:AV->Prop):Prop:=
 match l with
 | [c]=>onCp (λc=>cl c<=100000000/\K (pQ (reQ (cpv c)))) c
 | _=>False
theorem ubf c K:XaY [c] K=(onCp (λc=>cl c<=100000000/\K (pQ (reQ (cpv c)))) c):=propext Iff.rfl
@[congr] theorem xb7{K}{l l'}(h:l=l'):XaY l K=XaY l' K:=by subst h;rfl
attribute [go_sem,go_sem ↓] ubf
def vbk(l:List AV)(K:AV->Prop):Prop:=
 match l with
 | [c,p]=>onCp (λc=>onA (λp=>cl c<=1000/\al p<=1000/\cchk c=0/\K (.tup [pQ (wN (cpv c) (av p)),rQ (wM (cpv c) (av p))])) p) c
 | _=>False
theorem YaU c p K:vbk [c,p] K=(onCp (λc=>onA (λp=>cl c<=1000/\al p<=1000/\cchk c=0/\K (.tup [pQ (wN (cpv c) (av p)),rQ (wM (cpv c) (av p))])) p) c):=propext Iff.rfl
@[congr] theorem Xcc{K}{l l'}(h:l=l'):vbk l K=vbk l' K:=by subst h;rfl
attribute [go_sem,go_sem ↓] YaU
def qa4(l:List AV)(K:AV->Prop):Prop:=
 match l with
 | [c,p]=>onCp (λc=>onA (λp=>cl c<=1000/\al p<=1000/\cchk c=0/\K (rQ (wV (cpv c) (av p)))) p) c
 | _=>False
theorem Ybe c p K:qa4 [c,p] K=(onCp (λc=>onA (λp=>cl c<=1000/\al p<=1000/\cchk c=0/\K (rQ (wV (cpv c) (av p)))) p) c):=propext Iff.rfl
@[congr] theorem Ycc{K}{l l'}(h:l=l'):qa4 l K=qa4 l' K:=by subst h;rfl
attribute [go_sem,go_sem ↓] Ybe
def WaU(l:List AV)(K:AV->Prop):Prop:=
 match l with
 | [c,p]=>onCp (λc=>onA (λp=>cl c<=1000/\al p<=1000/\cchk c=0/\K (.tup [pQ (if riC c p=0 then endA (cpv c) (av p) (zL (cpv c) (av p)) else (0,0)),pQ (if riC c p=0 then endB (cpv c) (av p) (zL (cpv c) (av p)) else (0,0)),.one (.lit (.int .i64 (riC c p:Nat)))])) p) c
 | _=>False
theorem vbe c p K:WaU [c,p] K=(onCp (λc=>onA (λp=>cl c<=1000/\al p<=1000/\cchk c=0/\K (.tup [pQ (if riC c p=0 then endA (cpv c) (av p) (zL (cpv c) (av p)) else (0,0)),pQ (if riC c p=0 then endB (cpv c) (av p) (zL (cpv c) (av p)) else (0,0)),.one (.lit (.int .i64 (riC c p:Nat)))])) p) c):=propext Iff.rfl
@[congr] theorem wb7{K}{l l'}(h:l=l'):WaU l K=WaU l' K:=by subst h;rfl
attribute [go_sem,go_sem ↓] vbe
def qa0(l:List AV)(K:AV->Prop):Prop:=
 match l with
 | [c,a,b]=>onCp (λc=>onA (λa=>onA (λb=>cl c<=10000/\al a<=10000/\al b<=10000/\K (pQ (ptQ (cpv c) (av a) (av b)))) b) a) c
 | _=>False
theorem Ja7 c a b K:qa0 [c,a,b] K=(onCp (λc=>onA (λa=>onA (λb=>cl c<=10000/\al a<=10000/\al b<=10000/\K (pQ (ptQ (cpv c) (av a) (av b)))) b) a) c):=propext Iff.rfl
@[congr] theorem Zcb{K}{l l'}(h:l=l'):qa0 l K=qa0 l' K:=by subst h;rfl
attribute [go_sem,go_sem ↓] Ja7
def uaX(l:List AV)(K:AV->Prop):Prop:=
 match l with
 | [c,a,b]=>onCp (λc=>onA (λa=>onA (λb=>cl c<=10000/\al a<=10000/\al b<=10000/\K (.one (.lit (.bool (decide (hldQ (cpv c) (av a) (av b))))))) b) a) c
 | _=>False
theorem WaT c a b K:uaX [c,a,b] K=(onCp (λc=>onA (λa=>onA (λb=>cl c<=10000/\al a<=10000/\al b<=10000/\K (.one (.lit (.bool (decide (hldQ (cpv c) (av a) (av b))))))) b) a) c):=propext Iff.rfl
@[congr] theorem jce{K}{l l'}(h:l=l'):uaX l K=uaX l' K:=by subst h;rfl
attribute [go_sem,go_sem ↓] WaT
def ui(f0 f1:Nat):AC:=(.o [.K 2 6 0,.K 3 6 1,.G 4 [.z,.emp,.emp]] [2,3,4] (.seq (.y [.A 5 0 2,.L 6 3 5,.A 7 3 3,.L 8 3 7,.D 9 f0 6 8,.A 10 3 2,.L 11 3 10,.A 12 0 3,.L 13 3 12,.D 14 f0 11 13,.D 15 f1 9 14,.S 3 4 15]) .ret))
theorem Zag(hΓ:Xa P Γ){f fm fs:Nat}(hm:Γ fm=.dat false jl)(hs:Γ fs=.dat false yw)(hc:check P f=some (16,(ui fm fs).strip,[.cell 4 3 true])):ua P f (.dat false Vu):=by
 refine ka hc Zau hΓ (λargs K hcl hfi hG=>?_);match args,hG with
 | [a,b],hG=>
  obtain⟨p,rfl,wp,q,rfl,wq,hl,hl2,hK⟩:=hG;refine⟨by simp,?_⟩
  have w1:=wp.1;have w2:=wp.2;have w3:=wq.1;have w4:=wq.2;have l1:=(Nat.max_le.1 hl).1;have l2:=(Nat.max_le.1 hl).2;have l3:=(Nat.max_le.1 hl2).1;have l4:=(Nat.max_le.1 hl2).2;have r1:=Vg w1;have r2:=Vg w2;have r3:=Vg w3;have r4:=Vg w4;have m1:=Nat.le_trans (Zc (rv p.1) (rv q.2)) (by omega:_<=1000000000)
  have m2:=Nat.le_trans (Zc (rv p.2) (rv q.1)) (by omega:_<=1000000000)
  simp only [go_sem,ui,hm,hs,ze,Vb];repeat refine Wr ?_
  exact hK
end Go.Abs
end
section
namespace Go.Abs
open Go.Num
variable {P:Program} {Γ:Nat->Spec}
def zrs:Nat->List C
 | 0=>[]
 | n+1=>.lit (.bool false)::.emp::.emp::zrs n
def fl(G:List (List C)):List C:=G.flatten
def all3(G:List (List C)):Prop:=∀t∈G,t.length=3
def gC(g:Gr):List C:=fl (g.map λq=>rC (rcan q))
def gA(g:Gr):AV:=.agg (gC g)
theorem Xbz:∀{G:List (List C)},all3 G->(fl G).length=3*G.length
 | [],_=>rfl
 | t::G,h=>by
  have ih:=Xbz (G:=G) λx hx=>h x (List.mem_cons_of_mem _ hx);unfold fl at ih ⊢;rw [List.flatten_cons,List.length_append,ih,h t (List.mem_cons_self ..),List.length_cons];omega
theorem Jap:∀{G:List (List C)} (k:Nat),all3 G->(fl G).drop (3*k)=fl (G.drop k)
 | G,0,_=>by simp
 | [],k+1,_=>by simp [fl]
 | t::G,k+1,h=>by
  have ih:=Jap (G:=G) k λx hx=>h x (List.mem_cons_of_mem _ hx);have ht:=h t (List.mem_cons_self ..);unfold fl at ih ⊢;rw [List.flatten_cons,List.drop_succ_cons,<-ih,show 3*(k+1)=t.length+3*k by omega,<-List.drop_drop,List.drop_left]
theorem ubh:∀{G:List (List C)} (k:Nat),all3 G->(fl G).take (3*k)=fl (G.take k)
 | G,0,_=>by simp [fl]
 | [],k+1,_=>by simp [fl]
 | t::G,k+1,h=>by
  have ih:=ubh (G:=G) k λx hx=>h x (List.mem_cons_of_mem _ hx);have ht:=h t (List.mem_cons_self ..);unfold fl at ih ⊢;rw [List.flatten_cons,List.take_succ_cons,List.flatten_cons,<-ih,show 3*(k+1)=t.length+3*k by omega,List.take_append,List.take_of_length_le (by omega),Nat.add_sub_cancel_left]
theorem VbQ{G:List (List C)}{k:Nat}(h:all3 G)(hk:k<G.length):((fl G).drop (3*k)).take 3=G[k]:=by
 rw [Jap k h];have e:G.drop k=G[k]::G.drop (k+1):=(List.getElem_cons_drop hk).symm;rw [e];unfold fl;rw [List.flatten_cons,List.take_left' (h _ (List.getElem_mem hk))]
theorem xbO{G:List (List C)}{k:Nat}(h:all3 G)(hk:k<G.length)(xs:List C)(hx:xs.length=3):splice (fl G) (3*k) 3 xs=fl (G.set k xs):=by
 unfold splice;rw [ubh k h,show 3*k+3=3*(k+1) by omega,Jap (k+1) h]
 unfold fl;rw [List.set_eq_take_append_cons_drop,if_pos hk,List.flatten_append,List.flatten_cons]
theorem waT(g:Gr):all3 (g.map λq=>rC (rcan q)):=λt ht=>by
 obtain⟨q,_,rfl⟩:=List.mem_map.1 ht;rfl
theorem Vl(g:Gr):(gC g).length=3*g.length:=by unfold gC;rw [Xbz (waT g),List.length_map]
theorem WN{g:Gr}{k:Nat}(hk:k<g.length):((gC g).drop (3*k)).take 3=rC (rcan (g.getD k 0)):=by
 unfold gC;rw [VbQ (waT g) (by rw [List.length_map];exact hk),List.getElem_map,List.getD_eq_getElem?_getD,List.getElem?_eq_getElem hk];rfl
theorem xbw{g:Gr}{k:Nat}(hk:k<g.length)(q:Rat):splice (gC g) (3*k) 3 (rC (rcan q))=gC (g.set k q):=by
 unfold gC;rw [xbO (waT g) (by rw [List.length_map];exact hk) _ rfl,List.map_set]
theorem qbu:∀{a b:Gr},gC a=gC b->a=b
 | [],[],_=>rfl
 | [],q::b,h=>by have:=congrArg List.length h;rw [Vl,Vl]at this;simp at this
 | p::a,[],h=>by have:=congrArg List.length h;rw [Vl,Vl]at this;simp at this
 | p::a,q::b,h=>by
  have h2:rC (rcan p)++gC a=rC (rcan q)++gC b:=h;have h3:=List.append_inj h2 rfl;have h4:=zbA h3.1;have h5:p=q:=by have:=congrArg rv h4;rw [Vb,Vb]at this;exact this
  rw [h5,qbu h3.2]
theorem Vbz(a b:Gr)(h:gA a=gA b):a=b:=qbu (by simpa [gA] using h)
def onG(k:Gr->Prop)(a:AV):Prop:=onE gA (λg=>g.length=49/\k g) a
@[congr] theorem Jci{k:Gr->Prop}{a a'}(h:a=a'):onG k a=onG k a':=by subst h;rfl
theorem VbR(k:Gr->Prop)(g:Gr):onG k (.agg (gC g))=(g.length=49/\k g):=Zq Vbz (λg=>g.length=49/\k g) g
theorem yaq{β:Type}{T:Gr->(β->Prop)->Prop}(h:∀x,GoodT (T x)){a:AV}:GoodT λK=>onG (λx=>T x K) a:=
 ZJ (e:=gA) (T:=λg K=>g.length=49/\T g K) Vbz λg=>GoodT.and (c:=g.length=49) (T:=T g) λ_=>h g
theorem JO(g:Gr):Jd (gC g):=λc hc=>by
 unfold gC fl at hc;obtain⟨t,ht,hc⟩:=List.mem_flatten.1 hc;obtain⟨q,_,rfl⟩:=List.mem_map.1 ht;simp only [rC,List.mem_cons,List.not_mem_nil,or_false]at hc;rcases hc with rfl | rfl | rfl
 .exact of_eq_true (qn _)
 .exact of_eq_true (Um _)
 .exact of_eq_true (vn _)
theorem uP:∀n,Jd (zrs n)
 | 0=>λc hc=>by simp [zrs]at hc
 | n+1=>λc hc=>by
  simp only [zrs,List.mem_cons]at hc;rcases hc with rfl | rfl | rfl | hc
  .exact .lit _
  .exact .emp
  .exact .emp
  .exact uP n c hc
theorem kK:∀n,(zrs n).length=3*n
 | 0=>rfl
 | n+1=>by simp only [zrs,List.length_cons];rw [kK n];omega
theorem Uai(h:Nat->HB)(g:Gr):(gC g).map (datC h)=gC g:=by
 unfold gC fl;rw [List.map_flatten,List.map_map];rfl
theorem Jbz(g:Gr):(gC g).flatMap ownC=[]:=by
 rw [List.flatMap_eq_nil_iff];intro c hc;unfold gC fl at hc;obtain⟨t,ht,hc⟩:=List.mem_flatten.1 hc;obtain⟨q,_,rfl⟩:=List.mem_map.1 ht;simp only [rC,List.mem_cons,List.not_mem_nil,or_false]at hc;rcases hc with rfl | rfl | rfl <;> rfl
theorem jy{g:Gr}(h:g.length=49):(gC g).take 147=gC g:=List.take_of_length_le (by rw [Vl,h];decide)
theorem jay(g:Gr):(gC g).drop 0=gC g:=rfl
theorem Q7:(zrs 49).length=147:=kK 49
theorem Zb(g:Gr):jc [gC g]:=λe he=>by rw [List.mem_singleton.1 he];exact JO g
theorem Zl(n:Nat):jc [zrs n]:=λe he=>by rw [List.mem_singleton.1 he];exact uP n
theorem VbO(g:Gr):gA g=.agg (gC g):=eq_of_heq (HEq.refl _)
attribute [go_sem,go_sem ↓] VbR Uai Jbz VbO jay Q7
def plusP(a:Gr)(k:Rat)(b:Gr):Nat->Gr
 | 0=>a
 | n+1=>(plusP a k b n).set n (a.getD n 0+k*b.getD n 0)
theorem yE(a:Gr)(k:Rat)(b:Gr):∀n,(plusP a k b n).length=a.length
 | 0=>rfl
 | n+1=>by simp only [plusP];rw [List.length_set,yE a k b n]
theorem UT(a:Gr)(k:Rat)(b:Gr)(m:Nat):∀n,n<=a.length->(plusP a k b n).getD m 0=if m<n then a.getD m 0+k*b.getD m 0 else a.getD m 0
 | 0,_=>by simp [plusP]
 | n+1,hn=>by
  have ih:=UT a k b m n (by omega)
  simp only [plusP];have hl:n<(plusP a k b n).length:=by rw [yE];omega
  by_cases h:m=n
  .subst h;rw [List.getD_eq_getElem?_getD,List.getElem?_set_self hl,if_pos (by omega)];rfl
  .rw [List.getD_eq_getElem?_getD,List.getElem?_set_ne (by omega),<-List.getD_eq_getElem?_getD,ih]
   by_cases h2:m<n
   .rw [if_pos h2,if_pos (by omega)]
   .rw [if_neg h2,if_neg (by omega)]
theorem uaY{a b:Gr}{n:Nat}(ha:a.length=n)(hb:b.length=n)(k:Rat):plusP a k b n=plusG a k b:=by
 have hl:(plusG a k b).length=n:=by unfold plusG;rw [List.length_zipWith,ha,hb,Nat.min_self]
 refine List.ext_getElem (by rw [yE,hl,ha]) λm h1 h2=>?_
 have h:=UT a k b m n (by omega)
 have h1':=h1;rw [yE,ha]at h1';rw [if_pos h1',List.getD_eq_getElem?_getD,List.getElem?_eq_getElem h1,Option.getD_some]at h;rw [h];have e:(plusG a k b)[m]'h2=a[m]'(by omega)+k*b[m]'(by omega):=List.getElem_zipWith
 rw [e,List.getD_eq_getElem?_getD,List.getElem?_eq_getElem (by omega),List.getD_eq_getElem?_getD,List.getElem?_eq_getElem (by omega)]
 rfl
theorem uaa:∀(n k:Nat),(zrs (n+k)).drop (3*k)=zrs n
 | n,0=>rfl
 | n,k+1=>by
  have:=uaa n k;rw [show 3*(k+1)=3*k+3 by omega]
  exact this
theorem VaB:∀(n k:Nat),(zrs (n+k)).take (3*k)=zrs k
 | n,0=>by simp [zrs]
 | n,k+1=>by
  have ih:=VaB n k;rw [show 3*(k+1)=3*k+3 by omega]
  show .lit (.bool false)::.emp::.emp::(zrs (n+k)).take (3*k)=_;rw [ih];rfl
theorem uG(q:Rat)(g:Gr):gC (q::g)=cb (rcan q)::cn (rcan q)::cd (rcan q)::gC g:=rfl
theorem Jbv:∀(a b:Gr),gC (a++b)=gC a++gC b
 | [],_=>rfl
 | p::a,b=>by rw [List.cons_append,uG,Jbv a b,uG];rfl
theorem W8(h:Nat->HB):∀n,(zrs n).map (datC h)=gC (List.replicate n 0)
 | 0=>rfl
 | n+1=>by
  rw [List.replicate_succ,uG,<-W8 h n,ub];rfl
def ky(l:List AV)(K:AV->Prop):Prop:=
 match l with
 | [a,k,b]=>onG (λa=>onR (λk=>onG (λb=>gz a+gz b<=2000000000/\rl k<=1000000/\K (gA (plusG a (rv k) b))) b) k) a
 | _=>False
theorem QaK a k b K:ky [a,k,b] K=(onG (λa=>onR (λk=>onG (λb=>gz a+gz b<=2000000000/\rl k<=1000000/\K (gA (plusG a (rv k) b))) b) k) a):=propext Iff.rfl
@[congr] theorem zb4{K}{l l'}(h:l=l'):ky l K=ky l' K:=by subst h;rfl
attribute [go_sem,go_sem ↓] QaK
theorem zaQ:Good ky:=Wa λas=>by
 unfold ky;split
 .exact(yaq λ_=>(Jj λ_=>(yaq λ_=>(.and λ_=>(.and λ_=>(.ret _))))))
 .exact .of λK hk=>hk.elim
def QaV(l:List AV)(K:AV->Prop):Prop:=
 match l with
 | [x]=>onR (λx=>vldR x=true/\K (gA (conG (rv x)))) x
 | _=>False
theorem ZaU x K:QaV [x] K=(onR (λx=>vldR x=true/\K (gA (conG (rv x)))) x):=propext Iff.rfl
@[congr] theorem ycc{K}{l l'}(h:l=l'):QaV l K=QaV l' K:=by subst h;rfl
attribute [go_sem,go_sem ↓] ZaU
def ZL(l:List AV)(K:AV->Prop):Prop:=
 match l with
 | [a,b,c]=>onR (λa=>onR (λb=>onR (λc=>vldR a=true/\vldR b=true/\vldR c=true/\K (gA (linG (rv a) (rv b) (rv c)))) c) b) a
 | _=>False
theorem kbe a b c K:ZL [a,b,c] K=(onR (λa=>onR (λb=>onR (λc=>vldR a=true/\vldR b=true/\vldR c=true/\K (gA (linG (rv a) (rv b) (rv c)))) c) b) a):=propext Iff.rfl
@[congr] theorem Zcf{K}{l l'}(h:l=l'):ZL l K=ZL l' K:=by subst h;rfl
attribute [go_sem,go_sem ↓] kbe
theorem Vbg:Good ZL:=Wa λas=>by
 unfold ZL;split
 .exact(Jj λ_=>(Jj λ_=>(Jj λ_=>(.and λ_=>(.and λ_=>(.and λ_=>(.ret _)))))))
 .exact .of λK hk=>hk.elim
def Yj(f0 f1:Nat):AC:=(.o [.K 3 147 0,.K 4 3 1,.K 5 147 2,.u 6 (.alloc (zrs 49))] [3,4,5,6] (.f (.o [.N 9 0] [3,4,5,6,9] (.block 0 (.loop (.o [.I 10 .lss 9 7] [3,4,5,6,9,10] (.f (.cond (.t 10) .skip (.exit 0)) [3,4,5,6,9] (.f (.block 1 (.o [.M 11 9,.M 7 11] [3,4,5,6,7,9] (.o [.N 12 0] [3,4,5,6,7,9,12] (.block 2 (.loop (.o [.I 13 .lss 12 7] [3,4,5,6,7,9,12,13] (.f (.cond (.t 13) .skip (.exit 2)) [3,4,5,6,7,9,12] (.f (.block 3 (.o [.M 14 12,.M 8 14] [3,4,5,6,7,8,9,12] (.y [.M 15 7,.M 16 8,.M 17 7,.M 18 8,.u 19 (.ai 21 7 (.t 3) (.t 17)),.u 20 (.ai 3 7 (.t 19) (.t 18)),.L 21 3 20,.L 22 3 4,.M 23 7,.M 24 8,.u 25 (.ai 21 7 (.t 5) (.t 23)),.u 26 (.ai 3 7 (.t 25) (.t 24)),.L 27 3 26,.D 28 f0 22 27,.D 29 f1 21 28,.u 30 (.ai 21 7 (.t 3) (.t 15)),.u 31 (.ai 3 7 (.t 30) (.t 16)),.S 3 31 29]))) [3,4,5,6,7,9,12] (.p [.I 32 .add 12 1,.M 12 32]))))))))) [3,4,5,6,9] (.p [.I 33 .add 9 1,.M 9 33]))))))) [3,6] (.seq (.p [.L 34 147 3,.S 147 6 34]) .ret)))
def kh:AC:=(.o [.K 3 3 0,.K 4 3 1,.K 5 3 2,.u 6 (.alloc (zrs 49))] [3,4,5,6] (.o [.u 7 (.alloc (zrs 49))] [3,4,5,6,7] (.f (.y [.u 8 (.ld (some 3) 3 true (.t 3)),.u 9 (.ld (some 4) 3 true (.t 4)),.u 10 (.ld (some 5) 3 true (.t 5)),.u 11 (.ai 21 7 (.t 7) (.i 0)),.u 12 (.ai 3 7 (.t 11) (.i 0)),.n (.st (some 7) 3 (.t 12) (.t 8)),.u 13 (.ai 21 7 (.t 7) (.i 1)),.u 14 (.ai 3 7 (.t 13) (.i 0)),.n (.st (some 7) 3 (.t 14) (.t 9)),.u 15 (.ai 21 7 (.t 7) (.i 0)),.u 16 (.ai 3 7 (.t 15) (.i 1)),.n (.st (some 7) 3 (.t 16) (.t 10))]) [6,7] (.seq (.p [.L 17 147 7,.S 147 6 17]) .ret))))
theorem kaq(hΓ:Xa P Γ){f fm fa:Nat}(hm:Γ fm=.dat false jl)(ha' : Γ fa=.dat false wl)(hc:check P f=some (35,(Yj fm fa).strip,[.cell 6 147 true])):ua P f (.dat false ky):=by
 refine ka hc zaQ hΓ (λargs K hcl hfi hG=>?_);match args,hG with
 | [u,v,w],hG=>
  obtain⟨a,rfl,ha,k,rfl,wk,b,rfl,hb,hz,hk,hK⟩:=hG;refine⟨by simp,?_⟩
  have la:(gC a).length=147:=by rw [Vl,ha]
  have lb:(gC b).length=147:=by rw [Vl,hb]
  simp only [go_sem,Yj,la,lb];have stp:∀i j,i<7->j<7->(plusP a (rv k) b (i*7+j)).set (i*7+j) (a.getD (i*7+j) 0+rv k*b.getD (i*7+j) 0)=plusP a (rv k) b (i*7+(j+1)):=λi j _ _=>rfl;refine Ya (λi:Nat=>⟨mkV [(3,.one (.ptr 3 1 0 0)),(4,.one (.ptr 4 1 0 0)),(5,.one (.ptr 5 1 0 0)),(6,.one (.ptr 6 1 0 0)),(9,.one (.lit (.int .i64 i)))],mkH [(3,⟨1,some ⟨[gC (plusP a (rv k) b (i*7))],147,true⟩⟩),(4,⟨1,some ⟨[[cb k,cn k,cd k]],3,true⟩⟩),(5,⟨1,some ⟨[gC b],147,true⟩⟩),(6,⟨1,some ⟨[zrs 49],147,true⟩⟩)]⟩) (λi=>i<=7) (λi=>7-i) 0 ?_ ?_ ?_
  .exact Qa (by simp [okS,okV,okC,okL,okH,okB,okE,ja,Ja,qa,Va,wsA,ws]) ⟨Xc (Zb _),Xc (λe he=>by rw [List.mem_singleton.1 he];exact uN k),Xc (Zb _),Xc (Zl _),trivial⟩
  .exact Nat.zero_le _
  .intro i hi;by_cases hlt:i<7
   .have hlt' : ((i:Nat):Int)<7:=by omega
    simp only [go_sem,hlt'];refine Ya (λj:Nat=>⟨mkV [(3,.one (.ptr 3 1 0 0)),(4,.one (.ptr 4 1 0 0)),(5,.one (.ptr 5 1 0 0)),(6,.one (.ptr 6 1 0 0)),(7,.one (.lit (.int .i64 i))),(9,.one (.lit (.int .i64 i))),(12,.one (.lit (.int .i64 j)))],mkH [(3,⟨1,some ⟨[gC (plusP a (rv k) b (i*7+j))],147,true⟩⟩),(4,⟨1,some ⟨[[cb k,cn k,cd k]],3,true⟩⟩),(5,⟨1,some ⟨[gC b],147,true⟩⟩),(6,⟨1,some ⟨[zrs 49],147,true⟩⟩)]⟩) (λj=>j<=7) (λj=>7-j) 0 ?_ ?_ ?_
    .exact Qa (by simp [okS,okV,okC,okL,okH,okB,okE,ja,Ja,qa,Va,wsA,ws]) ⟨Xc (Zb _),Xc (λe he=>by rw [List.mem_singleton.1 he];exact uN k),Xc (Zb _),Xc (Zl _),trivial⟩
    .exact Nat.zero_le _
    .intro j hj;by_cases hlt2:j<7
     .have hlt2' : ((j:Nat):Int)<7:=by omega
      have ho:i*21+j*3=3*(i*7+j):=by omega
      have lP:=yE a (rv k) b (i*7+j);obtain⟨A,hA⟩:∃A,plusP a (rv k) b (i*7+j)=A:=⟨_,rfl⟩;obtain⟨p,hp⟩:∃p,a.getD (i*7+j) 0=p:=⟨_,rfl⟩;obtain⟨q,hq⟩:∃q,b.getD (i*7+j) 0=q:=⟨_,rfl⟩;have hAp:A.getD (i*7+j) 0=p:=by rw [<-hA,UT _ _ _ _ _ (by omega),if_neg (by omega),hp]
      rw [hA,ha]at lP;have g1:List.take 3 (List.drop (i*21+j*3) (gC A))=[cb (rcan p),cn (rcan p),cd (rcan p)]:=by rw [ho,WN (by omega),hAp];rfl
      have g2:List.take 3 (List.drop (i*21+j*3) (gC b))=[cb (rcan q),cn (rcan q),cd (rcan q)]:=by rw [ho,WN (by omega),hq];rfl
      have l1:(3<=(List.drop (i*21+j*3) (gC A)).length)=True:=eq_true (by rw [List.length_drop,Vl,lP];omega)
      have l2:(3<=(List.drop (i*21+j*3) (gC b)).length)=True:=eq_true (by rw [List.length_drop,Vl,hb];omega)
      have l3:(i*21+j*3+3<=(gC A).length)=True:=eq_true (by rw [Vl,lP];omega)
      have s1:List.take (i*21+j*3) (gC A)++([cb (rcan (p+rv k*q)),cn (rcan (p+rv k*q)),cd (rcan (p+rv k*q))]++List.drop (i*21+j*3+3) (gC A))=gC (plusP a (rv k) b (i*7+(j+1))):=by
       have e:=xbw (g:=A) (k:=i*7+j) (by omega) (p+rv k*q)
       rw [XN,<-ho]at e;have e2:=stp i j hlt hlt2;rw [hA,hp,hq]at e2;rw [<-e2,<-e];rfl
      have z1:rz p<=gz a:=by rw [<-hp];exact qaW a _
      have z2:rz q<=gz b:=by rw [<-hq];exact qaW b _
      have z3:=Vg wk;have z4:=Zc (rv k) q;have y1:rl k<=4294967296:=by omega
      have y2:rz q<=4294967296:=by omega
      have y3:rz p<=4294967296:=by omega
      have y4:rz (rv k*q)<=4294967296:=by omega
      have hii:(i<7)=True:=eq_true hlt;have hjj:(j<7)=True:=eq_true hlt2;simp only [go_sem,hlt',hlt2',hm,ha',hA,g1,g2,l1,l2,l3,s1,Vb,hii,hjj];repeat refine Wr ?_
      refine⟨by omega,j+1,Qa (by simp [okS,okV,okC,okL,okH,okB,okE,ja,Ja,qa,Va,wsA,ws]) ⟨?_,Xc (λe he=>by rw [List.mem_singleton.1 he];exact uN k),Xc (Zb _),Xc (Zl _),trivial⟩,by omega,by omega⟩
      rw [<-s1];exact Xc (λe he=>by rw [List.mem_singleton.1 he];exact s1▸JO _)
     .have hj7:j=7:=by omega
      subst hj7;have e77:(((7:Nat):Int)<7)=False:=eq_false (by decide)
      simp only [go_sem,e77];have hi1:i*7+7=(i+1)*7:=by omega
      refine⟨by omega,i+1,?_,by omega,by omega⟩
      rw [hi1];exact Qa (by simp [okS,okV,okC,okL,okH,okB,okE,ja,Ja,qa,Va,wsA,ws]) ⟨Xc (Zb _),Xc (λe he=>by rw [List.mem_singleton.1 he];exact uN k),Xc (Zb _),Xc (Zl _),trivial⟩
   .have hi7:i=7:=by omega
    subst hi7;have e77:(((7:Nat):Int)<7)=False:=eq_false (by decide)
    have hpl:plusP a (rv k) b 49=plusG a (rv k) b:=uaY ha hb _;have hlen:(plusG a (rv k) b).length=49:=YI ha hb _;have hgl:(gC (plusG a (rv k) b)).length=147:=by rw [Vl,hlen]
    have htk:=jy hlen;simp only [go_sem,e77,hpl,hgl,htk];exact hK
theorem qaQ(hΓ:Xa P Γ){f:Nat}(hc:check P f=some (18,kh.strip,[.cell 6 147 true])):ua P f (.dat false ZL):=by
 refine ka hc Vbg hΓ (λargs K hcl hfi hG=>?_);match args,hG with
 | [u,v,w],hG=>
  obtain⟨a,rfl,wa,b,rfl,wb,c,rfl,wcc,va,vb,vc,hK⟩:=hG;refine⟨by simp,?_⟩
  have d1:(zrs 49).drop 3=zrs 48:=uaa 48 1;have t1:(zrs 48).take 18=zrs 6:=VaB 42 6;have d2:(zrs 48).drop 21=zrs 41:=uaa 41 7;have l1:(zrs 48).length=144:=kK 48;have d3:(zrs 6++cb b::cn b::cd b::zrs 41).drop 3=zrs 5++cb b::cn b::cd b::zrs 41:=rfl;have l2:(zrs 6++cb b::cn b::cd b::zrs 41).length=144:=by simp only [List.length_append,List.length_cons,kK]
  have l3:(zrs 5++cb b::cn b::cd b::zrs 41).length=141:=by simp only [List.length_append,List.length_cons,kK]
  have t2:(zrs 5++cb b::cn b::cd b::zrs 41).take 141=zrs 5++cb b::cn b::cd b::zrs 41:=List.take_of_length_le (Nat.le_of_eq l3);have ha:=Vw wa va;have hb:=Vw wb vb;have hcc:=Vw wcc vc;have m1:∀h:Nat->HB,(zrs 5++cb b::cn b::cd b::zrs 41).map (datC h)=gC (List.replicate 5 0)++cb b::cn b::cd b::gC (List.replicate 41 0):=λh=>by
   rw [List.map_append,List.map_cons,List.map_cons,List.map_cons,W8,W8];rfl
  have e:gC (linG (rv a) (rv b) (rv c))=cb a::cn a::cd a::cb c::cn c::cd c::(gC (List.replicate 5 0)++cb b::cn b::cd b::gC (List.replicate 41 0)):=by
   have e1:linG (rv a) (rv b) (rv c)=rv a::rv c::(List.replicate 5 0++rv b::List.replicate 41 0):=rfl;rw [e1,uG,uG,Jbv,uG,ha,hb,hcc]
  unfold gA at hK;rw [e]at hK;simp only [go_sem,kh,rA,d1,t1,d2,l1,d3,l2,l3,t2,m1];exact⟨by decide,by decide,by decide,by decide,by decide,by decide,hK⟩
end Go.Abs
end
section
namespace Go.Num
theorem xbv{g:Gr}(hg:g.length=49){i:Nat}(hi:i<7){j:Nat}(hj:j<=7):rzN (λl=>gat g i l) j<=gz g:=by
 have h1:=Q5 (λl=>gat g i l) hj;have h2:rrN g 7 (i+1)<=rrN g 7 7:=jJ g 7 (by omega)
 have h3:rrN g 7 (i+1)=rrN g 7 i+rzN (λl=>gat g i l) 7:=rfl;rw [QW hg]at h2;omega
theorem ybB{a b:Gr}(ha:a.length=49)(hb:b.length=49){i j k l:Nat}(hi:i<7)(hj:j<7)(hk:k<=7)(hk' : k<7∨l=0)(hl:l<=7):gz (plG a b i j k (pkG a b i j (pjG a b i (piG a b i) j) k) l)<=200*(gz a+gz b)+20000:=by
 have h1:=kbF a b i;have h2:=vbD a b i (piG a b i) j;have h3:=XbL a b i j (pjG a b i (piG a b i) j) k;have h4:=QbH a b i j k (pkG a b i j (pjG a b i (piG a b i) j) k) l;have r1:rrN a 7 i<=gz a:=by rw [<-QW ha];exact jJ a 7 (by omega)
 have r2:rrN b 7 k<=gz b:=by rw [<-QW hb];exact jJ b 7 hk
 rw [QW hb]at h1 h2;have r3:=xbv ha hi (by omega:j<=7)
 have r4:rzN (λm=>gat b k m) l<=gz b:=by
  rcases hk' with h | h
  .exact xbv hb h hl
  .subst h;show 0<=_;omega
 have q:=QP a i j;have m1:i*(7*(196+gz b))<=7*(7*(196+gz b)):=Nat.mul_le_mul_right _ (by omega)
 have m2:j*(196+gz b)<=7*(196+gz b):=Nat.mul_le_mul_right _ (by omega)
 have m3:k*(7*(rz (gat a i j)+4))<=7*(7*(rz (gat a i j)+4)):=Nat.mul_le_mul_right _ hk;have m4:l*(rz (gat a i j)+4)<=7*(rz (gat a i j)+4):=Nat.mul_le_mul_right _ hl;omega
end Go.Num
namespace Go.Abs
open Go.Num
variable {P:Program} {Γ:Nat->Spec}
theorem wbV(h h' : Nat->HB):∀n,okL h h' (zrs n) (gC (List.replicate n 0))
 | 0=>trivial
 | n+1=>by
  rw [List.replicate_succ,uG,ub];exact⟨rfl,rfl,rfl,wbV h h' n⟩
theorem zbD{h h' : Nat->HB}{z:Nat}{b:Bool}:okB h h' (some ⟨[zrs 49],z,b⟩) (some ⟨[gC zG],z,b⟩):=
 ⟨⟨rfl,rfl⟩,.inr ⟨wbV h h' 49,trivial⟩⟩
def uB(l:List AV)(K:AV->Prop):Prop:=
 match l with
 | [a,b]=>onG (λa=>onG (λb=>gz a+gz b<=20000000/\K (gA (Qg a b))) b) a
 | _=>False
theorem waz a b K:uB [a,b] K=(onG (λa=>onG (λb=>gz a+gz b<=20000000/\K (gA (Qg a b))) b) a):=propext Iff.rfl
@[congr] theorem zb6{K}{l l'}(h:l=l'):uB l K=uB l' K:=by subst h;rfl
attribute [go_sem,go_sem ↓] waz
theorem uaR:Good uB:=Wa λas=>by
 unfold uB;split
 .exact(yaq λ_=>(yaq λ_=>(.and λ_=>(.ret _))))
 .exact .of λK hk=>hk.elim
def ug(f0 f1 f2:Nat):AC:=(.o [.K 2 147 0,.K 3 147 1,.u 4 (.alloc (zrs 49))] [2,3,4] (.o [.u 5 (.alloc (zrs 49))] [2,3,4,5] (.f (.o [.N 10 0] [2,3,4,5,10] (.block 0 (.loop (.o [.I 11 .lss 10 7] [2,3,4,5,10,11] (.f (.cond (.t 11) .skip (.exit 0)) [2,3,4,5,10] (.f (.block 1 (.o [.M 12 10,.M 6 12] [2,3,4,5,6,10] (.o [.N 13 0] [2,3,4,5,6,10,13] (.block 2 (.loop (.o [.I 14 .lss 13 7] [2,3,4,5,6,10,13,14] (.f (.cond (.t 14) .skip (.exit 2)) [2,3,4,5,6,10,13] (.f (.block 3 (.o [.M 15 13,.M 7 15] [2,3,4,5,6,7,10,13] (.f (.o [.M 16 6,.M 17 7,.u 18 (.ai 21 7 (.t 2) (.t 16)),.u 19 (.ai 3 7 (.t 18) (.t 17)),.L 20 3 19,.H 21 f0 20] [2,3,4,5,6,7,10,13,21] (.cond (.t 21) (.exit 3) .skip)) [2,3,4,5,6,7,10,13] (.o [.M 22 6,.u 23 (.bin .sub (.i 7) (.t 22)),.N 24 0] [2,3,4,5,6,7,10,13,23,24] (.block 4 (.loop (.o [.B 25 .lss 24 23] [2,3,4,5,6,7,10,13,23,24,25] (.f (.cond (.t 25) .skip (.exit 4)) [2,3,4,5,6,7,10,13,23,24] (.f (.block 5 (.o [.M 26 24,.M 8 26] [2,3,4,5,6,7,8,10,13,23,24] (.o [.M 27 7,.u 28 (.bin .sub (.i 7) (.t 27)),.N 29 0] [2,3,4,5,6,7,8,10,13,23,24,28,29] (.block 6 (.loop (.o [.B 30 .lss 29 28] [2,3,4,5,6,7,8,10,13,23,24,28,29,30] (.f (.cond (.t 30) .skip (.exit 6)) [2,3,4,5,6,7,8,10,13,23,24,28,29] (.f (.block 7 (.o [.M 31 29,.M 9 31] [2,3,4,5,6,7,8,9,10,13,23,24,28,29] (.y [.M 32 6,.M 33 8,.B 34 .add 32 33,.M 35 7,.M 36 9,.B 37 .add 35 36,.M 38 6,.M 39 8,.B 40 .add 38 39,.M 41 7,.M 42 9,.B 43 .add 41 42,.u 44 (.ai 21 7 (.t 5) (.t 40)),.u 45 (.ai 3 7 (.t 44) (.t 43)),.L 46 3 45,.M 47 6,.M 48 7,.u 49 (.ai 21 7 (.t 2) (.t 47)),.u 50 (.ai 3 7 (.t 49) (.t 48)),.L 51 3 50,.M 52 8,.M 53 9,.u 54 (.ai 21 7 (.t 3) (.t 52)),.u 55 (.ai 3 7 (.t 54) (.t 53)),.L 56 3 55,.D 57 f1 51 56,.D 58 f2 46 57,.u 59 (.ai 21 7 (.t 5) (.t 34)),.u 60 (.ai 3 7 (.t 59) (.t 37)),.S 3 60 58]))) [2,3,4,5,6,7,8,10,13,23,24,28,29] (.p [.I 61 .add 29 1,.M 29 61]))))))))) [2,3,4,5,6,7,10,13,23,24] (.p [.I 62 .add 24 1,.M 24 62])))))))))) [2,3,4,5,6,10,13] (.p [.I 63 .add 13 1,.M 13 63]))))))))) [2,3,4,5,10] (.p [.I 64 .add 10 1,.M 10 64]))))))) [4,5] (.seq (.p [.L 65 147 5,.S 147 4 65]) .ret))))
set_option maxHeartbeats 1000000 in
theorem Jas(hΓ:Xa P Γ){f fz fm fa:Nat}(hz' : Γ fz=.dat true jz)(hm:Γ fm=.dat false jl)(ha' : Γ fa=.dat false wl)(hc:check P f=some (66,(ug fz fm fa).strip,[.cell 4 147 true])):ua P f (.dat false uB):=by
 refine ka hc uaR hΓ (λargs K hcl hfi hG=>?_);match args,hG with
 | [u,w],hG=>
  obtain⟨a,rfl,ha,b,rfl,hb,hz,hK⟩:=hG;refine⟨by simp,?_⟩
  have la:(gC a).length=147:=by rw [Vl,ha]
  have lb:(gC b).length=147:=by rw [Vl,hb]
  simp only [go_sem,ug,la,lb];refine Ya (λi:Nat=>⟨mkV [(2,.one (.ptr 2 1 0 0)),(3,.one (.ptr 3 1 0 0)),(4,.one (.ptr 4 1 0 0)),(5,.one (.ptr 5 1 0 0)),(10,.one (.lit (.int .i64 i)))],mkH [(2,⟨1,some ⟨[gC a],147,true⟩⟩),(3,⟨1,some ⟨[gC b],147,true⟩⟩),(4,⟨1,some ⟨[zrs 49],147,true⟩⟩),(5,⟨1,some ⟨[gC (piG a b i)],147,true⟩⟩)]⟩) (λi=>i<=7) (λi=>7-i) 0 ?_ ?_ ?_
  .exact Qa (by simp [okS,okV,okC,okL,okH,okB,okE,ja,Ja,qa,Va,wsA,ws]) ⟨Xc (Zb _),Xc (Zb _),Xc (Zl _),zbD,trivial⟩
  .exact Nat.zero_le _
  .intro i hi;by_cases hlt:i<7
   .have hlt' : ((i:Nat):Int)<7:=by omega
    simp only [go_sem,hlt'];refine Ya (λj:Nat=>⟨mkV [(2,.one (.ptr 2 1 0 0)),(3,.one (.ptr 3 1 0 0)),(4,.one (.ptr 4 1 0 0)),(5,.one (.ptr 5 1 0 0)),(6,.one (.lit (.int .i64 i))),(10,.one (.lit (.int .i64 i))),(13,.one (.lit (.int .i64 j)))],mkH [(2,⟨1,some ⟨[gC a],147,true⟩⟩),(3,⟨1,some ⟨[gC b],147,true⟩⟩),(4,⟨1,some ⟨[zrs 49],147,true⟩⟩),(5,⟨1,some ⟨[gC (pjG a b i (piG a b i) j)],147,true⟩⟩)]⟩) (λj=>j<=7) (λj=>7-j) 0 ?_ ?_ ?_
    .exact Qa (by simp [okS,okV,okC,okL,okH,okB,okE,ja,Ja,qa,Va,wsA,ws]) ⟨Xc (Zb _),Xc (Zb _),Xc (Zl _),Xc (Zb _),trivial⟩
    .exact Nat.zero_le _
    .intro j hj;by_cases hlt2:j<7
     .have hlt2' : ((j:Nat):Int)<7:=by omega
      have hii:(i<7)=True:=eq_true hlt;have hjj:(j<7)=True:=eq_true hlt2;have ho:i*21+j*3=3*(i*7+j):=by omega
      obtain⟨q,hq⟩:∃q,gat a i j=q:=⟨_,rfl⟩;have g2:List.take 3 (List.drop (i*21+j*3) (gC a))=[cb (rcan q),cn (rcan q),cd (rcan q)]:=by rw [ho,WN (by omega)];unfold gat at hq;rw [hq];rfl
      have l2:(3<=(List.drop (i*21+j*3) (gC a)).length)=True:=eq_true (by rw [List.length_drop,Vl,ha];omega)
      have zq' : rz q<=20000000:=by rw [<-hq];have:=QP a i j;omega
      by_cases h0:q=0
      .have e0:decide (q=0)=true:=decide_eq_true h0;have ep:pjG a b i (piG a b i) (j+1)=pjG a b i (piG a b i) j:=by show(if gat a i j=0 then _ else _)=_;rw [hq,if_pos h0]
       simp only [go_sem,hlt',hlt2',hz',g2,l2,hii,hjj,Vb,e0];repeat refine Wr ?_
       refine⟨by omega,j+1,Qa (by simp [okS,okV,okC,okL,okH,okB,okE,ja,Ja,qa,Va,wsA,ws]) ⟨Xc (Zb _),Xc (Zb _),Xc (Zl _),?_,trivial⟩,by omega,by omega⟩
       rw [ep];exact Xc (Zb _)
      .have e0:decide (q=0)=false:=decide_eq_false h0;simp only [go_sem,hlt',hlt2',hz',g2,l2,hii,hjj,Vb,e0];repeat refine Wr ?_
       refine⟨⟨by omega,by omega⟩,?_⟩
       obtain⟨o,ho1⟩:∃o,pjG a b i (piG a b i) j=o:=⟨_,rfl⟩;have hol:o.length=49:=by rw [<-ho1];exact vK (vU i) j
       have ep:pjG a b i (piG a b i) (j+1)=pkG a b i j o (7-i):=by show(if gat a i j=0 then _ else _)=_;rw [hq,if_neg h0,ho1]
       refine Ya (λk:Nat=>⟨mkV [(2,.one (.ptr 2 1 0 0)),(3,.one (.ptr 3 1 0 0)),(4,.one (.ptr 4 1 0 0)),(5,.one (.ptr 5 1 0 0)),(6,.one (.lit (.int .i64 i))),(7,.one (.lit (.int .i64 j))),(10,.one (.lit (.int .i64 i))),(13,.one (.lit (.int .i64 j))),(23,.one (.lit (.int .i64 (7-(i:Int))))),(24,.one (.lit (.int .i64 k)))],mkH [(2,⟨1,some ⟨[gC a],147,true⟩⟩),(3,⟨1,some ⟨[gC b],147,true⟩⟩),(4,⟨1,some ⟨[zrs 49],147,true⟩⟩),(5,⟨1,some ⟨[gC (pkG a b i j o k)],147,true⟩⟩)]⟩) (λk=>k<=7-i) (λk=>7-i-k) 0 ?_ ?_ ?_
       .refine Qa (by simp [okS,okV,okC,okL,okH,okB,okE,ja,Ja,qa,Va,wsA,ws]) ⟨Xc (Zb _),Xc (Zb _),Xc (Zl _),?_,trivial⟩
        rw [ho1];exact Xc (Zb _)
       .exact Nat.zero_le _
       .intro k hk;by_cases hlt3:k<7-i
        .have hlt3' : ((k:Nat):Int)<7-(i:Int):=by omega
         simp only [go_sem,hlt3'];refine⟨⟨by omega,by omega⟩,?_⟩
         refine Ya (λl:Nat=>⟨mkV [(2,.one (.ptr 2 1 0 0)),(3,.one (.ptr 3 1 0 0)),(4,.one (.ptr 4 1 0 0)),(5,.one (.ptr 5 1 0 0)),(6,.one (.lit (.int .i64 i))),(7,.one (.lit (.int .i64 j))),(8,.one (.lit (.int .i64 k))),(10,.one (.lit (.int .i64 i))),(13,.one (.lit (.int .i64 j))),(23,.one (.lit (.int .i64 (7-(i:Int))))),(24,.one (.lit (.int .i64 k))),(28,.one (.lit (.int .i64 (7-(j:Int))))),(29,.one (.lit (.int .i64 l)))],mkH [(2,⟨1,some ⟨[gC a],147,true⟩⟩),(3,⟨1,some ⟨[gC b],147,true⟩⟩),(4,⟨1,some ⟨[zrs 49],147,true⟩⟩),(5,⟨1,some ⟨[gC (plG a b i j k (pkG a b i j o k) l)],147,true⟩⟩)]⟩) (λl=>l<=7-j) (λl=>7-j-l) 0 ?_ ?_ ?_
         .exact Qa (by simp [okS,okV,okC,okL,okH,okB,okE,ja,Ja,qa,Va,wsA,ws]) ⟨Xc (Zb _),Xc (Zb _),Xc (Zl _),Xc (Zb _),trivial⟩
         .exact Nat.zero_le _
         .intro l hl;by_cases hlt4:l<7-j
          .have hlt4' : ((l:Nat):Int)<7-(j:Int):=by omega
           have o1:((i:Int)+(k:Int)).toNat=i+k:=by omega
           have o2:((j:Int)+(l:Int)).toNat=j+l:=by omega
           have ho2:(i+k)*21+(j+l)*3=3*((i+k)*7+(j+l)):=by omega
           have ho3:k*21+l*3=3*(k*7+l):=by omega
           have hsz:=ybB ha hb (i:=i) (j:=j) (k:=k) (l:=l) hlt hlt2 (by omega) (.inl (by omega)) (by omega)
           rw [ho1]at hsz;obtain⟨A,hA⟩:∃A,plG a b i j k (pkG a b i j o k) l=A:=⟨_,rfl⟩;have hAl:A.length=49:=by rw [<-hA];exact XR (WT hol k) l
           obtain⟨p,hp⟩:∃p,gat A (i+k) (j+l)=p:=⟨_,rfl⟩;obtain⟨r,hr⟩:∃r,gat b k l=r:=⟨_,rfl⟩;rw [hA]at hsz;have g3:List.take 3 (List.drop ((i+k)*21+(j+l)*3) (gC A))=[cb (rcan p),cn (rcan p),cd (rcan p)]:=by rw [ho2,WN (by omega)];unfold gat at hp;rw [hp];rfl
           have g4:List.take 3 (List.drop (k*21+l*3) (gC b))=[cb (rcan r),cn (rcan r),cd (rcan r)]:=by rw [ho3,WN (by omega)];unfold gat at hr;rw [hr];rfl
           have l3:(3<=(List.drop ((i+k)*21+(j+l)*3) (gC A)).length)=True:=eq_true (by rw [List.length_drop,Vl,hAl];omega)
           have l4:(3<=(List.drop (k*21+l*3) (gC b)).length)=True:=eq_true (by rw [List.length_drop,Vl,hb];omega)
           have l5:((i+k)*21+(j+l)*3+3<=(gC A).length)=True:=eq_true (by rw [Vl,hAl];omega)
           have s1:List.take ((i+k)*21+(j+l)*3) (gC A)++([cb (rcan (p+q*r)),cn (rcan (p+q*r)),cd (rcan (p+q*r))]++List.drop ((i+k)*21+(j+l)*3+3) (gC A))=gC (plG a b i j k (pkG a b i j o k) (l+1)):=by
            have e:=xbw (g:=A) (k:=(i+k)*7+(j+l)) (by omega) (p+q*r)
            rw [XN,<-ho2]at e;have e2:plG a b i j k (pkG a b i j o k) (l+1)=addG A (i+k) (j+l) (q*r):=by
             show addG (plG a b i j k (pkG a b i j o k) l) (i+k) (j+l) (gat a i j*gat b k l)=_;rw [hA,hq,hr]
            rw [e2];unfold addG;rw [hp,<-e];rfl
           have z1:rz p<=gz A:=by rw [<-hp];exact QP A _ _
           have z2:rz r<=gz b:=by rw [<-hr];exact QP b _ _
           have z4:=Zc q r;have y1:rz q<=4294967296:=by omega
           have y2:rz r<=4294967296:=by omega
           have y3:rz p<=4294967296:=by omega
           have y4:rz (q*r)<=4294967296:=by omega
           have hkk:(k<7)=True:=eq_true (by omega)
           have hll:(l<7)=True:=eq_true (by omega)
           simp only [go_sem,hlt4',hm,ha',hA,g2,g3,g4,l2,l3,l4,l5,o1,o2,Vb,hii,hjj,hkk,hll];refine⟨by omega,by omega,by omega,by omega,by omega,by omega,y1,y2,y3,y4,by omega,by omega,by omega,l+1,Qa (by simp [okS,okV,okC,okL,okH,okB,okE,ja,Ja,qa,Va,wsA,ws]) ⟨Xc (Zb _),Xc (Zb _),Xc (Zl _),?_,trivial⟩,by omega,by omega⟩
           rw [<-s1];exact Xc (λe he=>by rw [List.mem_singleton.1 he];exact s1▸JO _)
          .have hl7:l=7-j:=by omega
           subst hl7;have e77:(((7-j:Nat):Int)<7-(j:Int))=False:=eq_false (by omega)
           simp only [go_sem,e77];exact⟨by omega,k+1,Qa (by simp [okS,okV,okC,okL,okH,okB,okE,ja,Ja,qa,Va,wsA,ws]) ⟨Xc (Zb _),Xc (Zb _),Xc (Zl _),Xc (Zb _),trivial⟩,by omega,by omega⟩
        .have hk7:k=7-i:=by omega
         subst hk7;have e77:(((7-i:Nat):Int)<7-(i:Int))=False:=eq_false (by omega)
         simp only [go_sem,e77];refine⟨by omega,j+1,Qa (by simp [okS,okV,okC,okL,okH,okB,okE,ja,Ja,qa,Va,wsA,ws]) ⟨Xc (Zb _),Xc (Zb _),Xc (Zl _),?_,trivial⟩,by omega,by omega⟩
         rw [ep];exact Xc (Zb _)
     .have hj7:j=7:=by omega
      subst hj7;have e77:(((7:Nat):Int)<7)=False:=eq_false (by decide)
      simp only [go_sem,e77];exact⟨by omega,i+1,Qa (by simp [okS,okV,okC,okL,okH,okB,okE,ja,Ja,qa,Va,wsA,ws]) ⟨Xc (Zb _),Xc (Zb _),Xc (Zl _),Xc (Zb _),trivial⟩,by omega,by omega⟩
   .have hi7:i=7:=by omega
    subst hi7;have e77:(((7:Nat):Int)<7)=False:=eq_false (by decide)
    have hpl:piG a b 7=Qg a b:=rfl;have hlen:(Qg a b).length=49:=Ub a b;have hgl:(gC (Qg a b)).length=147:=by rw [Vl,hlen]
    have htk:=jy hlen;simp only [go_sem,e77,hpl,hgl,htk];exact hK
end Go.Abs
end
section
namespace Go.Num
open Go.Abs
theorem X9(g:Gr)(s:Nat)(o:BQ):∀n,(lsI g s o n).length<=o.length+n
 | 0=>Nat.le_refl _
 | n+1=>by
  have:=X9 g s o n;simp only [lsI];split
  .omega
  .rw [List.length_append];simp only [List.length_cons,List.length_nil];omega
theorem Yab(g:Gr):∀n,(lsS g n).length<=7*n
 | 0=>Nat.le_refl _
 | n+1=>by
  have h1:=Yab g n;have h2:=X9 g n (lsS g n) 7;show(lsI g n (lsS g n) 7).length<=_;omega
theorem qaV(a b:BQ):mcs (a++b)=mcs a++mcs b:=List.map_append
end Go.Num
namespace Go.Abs
open Go.Num
variable {P:Program} {Γ:Nat->Spec}
def ZD(l:List AV)(K:AV->Prop):Prop:=
 match l with
 | [a]=>onG (λa=>gz a<=4294967296/\K (.one (.slice ((mcs (lsG a)).map mC)))) a
 | _=>False
theorem VaF a K:ZD [a] K=(onG (λa=>gz a<=4294967296/\K (.one (.slice ((mcs (lsG a)).map mC)))) a):=propext Iff.rfl
@[congr] theorem Yb3{K}{l l'}(h:l=l'):ZD l K=ZD l' K:=by subst h;rfl
attribute [go_sem,go_sem ↓] VaF
theorem kaQ:Good ZD:=Wa λas=>by
 unfold ZD;split
 .exact(yaq λ_=>(.and λ_=>(.ret _)))
 .exact .of λK hk=>hk.elim
def Jk(f0:Nat):AC:=(.o [.K 1 147 0,.m 2 (.c (.one .emp))] [1] (.o [.m 3 (.c (.one .emp))] [1,3] (.f (.o [.N 7 0] [1,3,7] (.block 0 (.loop (.o [.I 8 .lss 7 13] [1,3,7,8] (.f (.cond (.t 8) .skip (.exit 0)) [1,3,7] (.f (.block 1 (.o [.M 9 7,.M 4 9] [1,3,4,7] (.o [.N 10 0] [1,3,4,7,10] (.block 2 (.loop (.o [.I 11 .lss 10 7] [1,3,4,7,10,11] (.f (.cond (.t 11) .skip (.exit 2)) [1,3,4,7,10] (.f (.block 3 (.o [.M 12 10,.M 5 12] [1,3,4,5,7,10] (.o [.M 13 4,.M 14 5,.B 15 .sub 13 14,.M 6 15] [1,3,4,5,6,7,10] (.f (.o [.M 16 6,.I 17 .lss 16 0,.M 18 17,.V 19 18 false 6,.w 20 18 false (.bin .gtr (.t 19) (.i 6)),.Q 21 18 20,.M 22 21,.V 23 22 false 5,.V 24 22 false 6,.w 25 22 false (.ai 21 7 (.t 1) (.t 23)),.w 26 22 false (.ai 3 7 (.t 25) (.t 24)),.U 27 22 false 3 true 26,.W 28 22 false f0 27,.Q 29 22 28] [1,3,4,5,6,7,10,29] (.cond (.t 29) (.exit 3) .skip)) [1,3,4,5,6,7,10] (.p [.M 30 3,.M 31 5,.M 32 6,.M 33 5,.M 34 6,.u 35 (.ai 21 7 (.t 1) (.t 33)),.u 36 (.ai 3 7 (.t 35) (.t 34)),.L 37 3 36,.u 38 (.build [.x 1 (.t 31),.x 1 (.t 32),.x 3 (.t 37)]),.u 39 (.row 5 [[.x 5 (.t 38)]]),.u 40 (.app 5 (.t 30) (.t 39)),.M 3 40]))))) [1,3,4,7,10] (.p [.I 41 .add 10 1,.M 10 41]))))))))) [1,3,7] (.p [.I 42 .add 7 1,.M 7 42]))))))) [3] (.seq (.p [.M 43 3,.M 2 43]) .ret))))
set_option maxHeartbeats 1000000 in
theorem vaq(hΓ:Xa P Γ){f fz:Nat}(hz' : Γ fz=.dat true jz)(hc:check P f=some (44,(Jk fz).strip,[.tmp 2])):ua P f (.dat false ZD):=by
 refine ka hc kaQ hΓ (λargs K hcl hfi hG=>?_);match args,hG with
 | [u],hG=>
  obtain⟨a,rfl,ha,hz,hK⟩:=hG;refine⟨by simp,?_⟩
  have la:(gC a).length=147:=by rw [Vl,ha]
  simp only [go_sem,Jk,la];refine Ya (λs:Nat=>if lsS a s=[] then ⟨mkV [(1,.one (.ptr 1 1 0 0)),(3,.one .emp),(7,.one (.lit (.int .i64 s)))],mkH [(1,⟨1,some ⟨[gC a],147,true⟩⟩)]⟩
   else ⟨mkV [(1,.one (.ptr 1 1 0 0)),(3,.one (.own 40 1 5 0 (lsS a s).length)),(7,.one (.lit (.int .i64 s)))],mkH [(1,⟨1,some ⟨[gC a],147,true⟩⟩),(40,⟨1,some ⟨(mcs (lsS a s)).map mC,5,true⟩⟩)]⟩) (λs=>s<=13) (λs=>13-s) 0 ?_ ?_ ?_
  .rw [if_pos (show lsS a 0=[] from rfl)];exact Qa (by simp [okS,okV,okC,okL,okH,okB,okE,ja,Ja,qa,Va,wsA,ws]) ⟨Xc (Zb _),trivial⟩
  .exact Nat.zero_le _
  .intro s hs;by_cases hlt:s<13
   .have hlt' : ((s:Nat):Int)<13:=by omega
    by_cases hS:lsS a s=[]
    .rw [if_pos hS];simp only [go_sem,hlt'];refine Ya (λi:Nat=>if lsI a s (lsS a s) i=[] then ⟨mkV [(1,.one (.ptr 1 1 0 0)),(3,.one .emp),(4,.one (.lit (.int .i64 s))),(7,.one (.lit (.int .i64 s))),(10,.one (.lit (.int .i64 i)))],mkH [(1,⟨1,some ⟨[gC a],147,true⟩⟩)]⟩
      else ⟨mkV [(1,.one (.ptr 1 1 0 0)),(3,.one (.own 40 1 5 0 (lsI a s (lsS a s) i).length)),(4,.one (.lit (.int .i64 s))),(7,.one (.lit (.int .i64 s))),(10,.one (.lit (.int .i64 i)))],mkH [(1,⟨1,some ⟨[gC a],147,true⟩⟩),(40,⟨1,some ⟨(mcs (lsI a s (lsS a s) i)).map mC,5,true⟩⟩)]⟩) (λi=>i<=7) (λi=>7-i) 0 ?_ ?_ ?_
     .rw [if_pos (show lsI a s (lsS a s) 0=[] from hS)];exact Qa (by simp [okS,okV,okC,okL,okH,okB,okE,ja,Ja,qa,Va,wsA,ws]) ⟨Xc (Zb _),trivial⟩
     .exact Nat.zero_le _
     .skip
      intro i hi;by_cases hlt2:i<7
      .have hlt2' : ((i:Nat):Int)<7:=by omega
       have hii:(i<7)=True:=eq_true hlt2;have hol:=X9 a s (lsS a s) i;have hsl:=Yab a s;by_cases hc1:s<i
       .have est:lsI a s (lsS a s) (i+1)=lsI a s (lsS a s) i:=if_pos (.inl hc1);have j0:((s:Int)-(i:Int)<0)=True:=eq_true (by omega)
        by_cases hO:lsI a s (lsS a s) i=[]
        .rw [if_pos hO];simp only [go_sem,hlt',hlt2',hii,j0];repeat first | refine Wk ?_ | intro _
         refine⟨i+1,?_,by omega,by omega⟩
         rw [if_pos (by rw [est];exact hO)]
         exact Qa (by simp [okS,okV,okC,okL,okH,okB,okE,ja,Ja,qa,Va,wsA,ws]) ⟨Xc (Zb _),trivial⟩
        .rw [if_neg hO];simp only [go_sem,hlt',hlt2',hii,j0];repeat first | refine Wk ?_ | intro _
         refine⟨i+1,?_,by omega,by omega⟩
         rw [if_neg (by rw [est];exact hO)]
         exact Qa (by simp [okS,okV,okC,okL,okH,okB,okE,ja,Ja,qa,Va,wsA,ws,est]) ⟨Xc (Zb _),vg (by rw [est]),trivial⟩
       .have j0:((s:Int)-(i:Int)<0)=False:=eq_false (by omega)
        by_cases hc2:6<s-i
        .have est:lsI a s (lsS a s) (i+1)=lsI a s (lsS a s) i:=if_pos (.inr (.inl hc2));have j6:(6<(s:Int)-(i:Int))=True:=eq_true (by omega)
         by_cases hO:lsI a s (lsS a s) i=[]
         .rw [if_pos hO];simp only [go_sem,hlt',hlt2',hii,j0,j6];repeat first | refine Wk ?_ | intro _
          refine⟨i+1,?_,by omega,by omega⟩
          rw [if_pos (by rw [est];exact hO)]
          exact Qa (by simp [okS,okV,okC,okL,okH,okB,okE,ja,Ja,qa,Va,wsA,ws]) ⟨Xc (Zb _),trivial⟩
         .rw [if_neg hO];simp only [go_sem,hlt',hlt2',hii,j0,j6];repeat first | refine Wk ?_ | intro _
          refine⟨i+1,?_,by omega,by omega⟩
          rw [if_neg (by rw [est];exact hO)]
          exact Qa (by simp [okS,okV,okC,okL,okH,okB,okE,ja,Ja,qa,Va,wsA,ws,est]) ⟨Xc (Zb _),vg (by rw [est]),trivial⟩
        .have j6:(6<(s:Int)-(i:Int))=False:=eq_false (by omega)
         have o2:((s:Int)-(i:Int)).toNat=s-i:=by omega
         have ho:i*21+(s-i)*3=3*(i*7+(s-i)):=by omega
         have hsi:(s-i<7)=True:=eq_true (by omega)
         have hsi2:((s:Int)-(i:Int)<7)=True:=eq_true (by omega)
         have hsi3:(0<=(s:Int)-(i:Int))=True:=eq_true (by omega)
         obtain⟨p,hp⟩:∃p,gat a i (s-i)=p:=⟨_,rfl⟩;have g1:List.take 3 (List.drop (i*21+(s-i)*3) (gC a))=[cb (rcan p),cn (rcan p),cd (rcan p)]:=by rw [ho,WN (by omega)];unfold gat at hp;rw [hp];rfl
         have l1:(3<=(List.drop (i*21+(s-i)*3) (gC a)).length)=True:=eq_true (by rw [List.length_drop,Vl,ha];omega)
         have zp:rz p<=4294967296:=by rw [<-hp];exact Nat.le_trans (QP a _ _) hz
         by_cases h0:p=0
         .have est:lsI a s (lsS a s) (i+1)=lsI a s (lsS a s) i:=if_pos (.inr (.inr (by rw [hp];exact h0)))
          have e0:decide (p=0)=true:=decide_eq_true h0;by_cases hO:lsI a s (lsS a s) i=[]
          .rw [if_pos hO];simp only [go_sem,hlt',hlt2',hii,j0,j6,o2,hsi,hsi2,hsi3,g1,l1,hz',Vb,e0];repeat first | refine Wk ?_ | intro _
           refine⟨i+1,?_,by omega,by omega⟩
           rw [if_pos (by rw [est];exact hO)]
           exact Qa (by simp [okS,okV,okC,okL,okH,okB,okE,ja,Ja,qa,Va,wsA,ws]) ⟨Xc (Zb _),trivial⟩
          .rw [if_neg hO];simp only [go_sem,hlt',hlt2',hii,j0,j6,o2,hsi,hsi2,hsi3,g1,l1,hz',Vb,e0];repeat first | refine Wk ?_ | intro _
           refine⟨i+1,?_,by omega,by omega⟩
           rw [if_neg (by rw [est];exact hO)]
           exact Qa (by simp [okS,okV,okC,okL,okH,okB,okE,ja,Ja,qa,Va,wsA,ws,est]) ⟨Xc (Zb _),vg (by rw [est]),trivial⟩
         .have e0:decide (p=0)=false:=decide_eq_false h0;have est:lsI a s (lsS a s) (i+1)=lsI a s (lsS a s) i++[lsT a s i]:=if_neg (by rw [hp];simp [hc1,hc2,h0])
          have hmt:mC (mcan (lsT a s i))=[.lit (.int .i64 (i:Int)),.lit (.int .i64 ((s:Int)-(i:Int))),cb (rcan p),cn (rcan p),cd (rcan p)]:=by unfold mcan lsT;rw [hp];rfl
          have hne:¬lsI a s (lsS a s) (i+1)=[]:=by rw [est];simp
          by_cases hO:lsI a s (lsS a s) i=[]
          .rw [if_pos hO];simp only [go_sem,hlt',hlt2',hii,j0,j6,o2,hsi,hsi2,hsi3,g1,l1,hz',Vb,e0];repeat first | refine Wk ?_ | intro _
           refine⟨λe he=>by rw [List.mem_singleton.1 he];rfl,by omega,i+1,?_,by omega,by omega⟩
           rw [if_neg hne];exact Qa (by simp [okS,okV,okC,okL,okH,okB,okE,ja,Ja,qa,Va,wsA,ws,est,hO]) ⟨Xc (Zb _),vg (by rw [est,hO];show _=[mC (mcan (lsT a s i))];rw [hmt]),trivial⟩
          .rw [if_neg hO];have hml:(mcs (lsI a s (lsS a s) i)).length=(lsI a s (lsS a s) i).length:=List.length_map _;simp only [go_sem,hlt',hlt2',hii,j0,j6,o2,hsi,hsi2,hsi3,g1,l1,hz',Vb,e0,hml];repeat first | refine Wk ?_ | intro _
           refine⟨λe he=>by rw [List.mem_singleton.1 he];rfl,by omega,by omega,i+1,?_,by omega,by omega⟩
           rw [if_neg hne];exact Qa (by simp [okS,okV,okC,okL,okH,okB,okE,ja,Ja,qa,Va,wsA,ws,est]) ⟨Xc (Zb _),vg (by rw [est,qaV,List.map_append];show _=_++[mC (mcan (lsT a s i))];rw [hmt]),trivial⟩
      .have hi7:i=7:=by omega
       subst hi7;have e77:(((7:Nat):Int)<7)=False:=eq_false (by decide)
       have hfin:lsI a s (lsS a s) 7=lsS a (s+1):=rfl;by_cases hO:lsI a s (lsS a s) 7=[]
       .rw [if_pos hO];simp only [go_sem,e77];refine⟨by omega,s+1,?_,by omega,by omega⟩
        rw [if_pos (show lsS a (s+1)=[] from hO)];exact Qa (by simp [okS,okV,okC,okL,okH,okB,okE,ja,Ja,qa,Va,wsA,ws]) ⟨Xc (Zb _),trivial⟩
       .rw [if_neg hO];simp only [go_sem,e77];refine⟨by omega,s+1,?_,by omega,by omega⟩
        rw [if_neg (show ¬lsS a (s+1)=[] from hO)];exact Qa (by simp [okS,okV,okC,okL,okH,okB,okE,ja,Ja,qa,Va,wsA,ws,hfin]) ⟨Xc (Zb _),vg rfl,trivial⟩
    .rw [if_neg hS];simp only [go_sem,hlt'];refine Ya (λi:Nat=>if lsI a s (lsS a s) i=[] then ⟨mkV [(1,.one (.ptr 1 1 0 0)),(3,.one .emp),(4,.one (.lit (.int .i64 s))),(7,.one (.lit (.int .i64 s))),(10,.one (.lit (.int .i64 i)))],mkH [(1,⟨1,some ⟨[gC a],147,true⟩⟩)]⟩
      else ⟨mkV [(1,.one (.ptr 1 1 0 0)),(3,.one (.own 40 1 5 0 (lsI a s (lsS a s) i).length)),(4,.one (.lit (.int .i64 s))),(7,.one (.lit (.int .i64 s))),(10,.one (.lit (.int .i64 i)))],mkH [(1,⟨1,some ⟨[gC a],147,true⟩⟩),(40,⟨1,some ⟨(mcs (lsI a s (lsS a s) i)).map mC,5,true⟩⟩)]⟩) (λi=>i<=7) (λi=>7-i) 0 ?_ ?_ ?_
     .rw [if_neg (show ¬lsI a s (lsS a s) 0=[] from hS)];exact Qa (by simp [okS,okV,okC,okL,okH,okB,okE,ja,Ja,qa,Va,wsA,ws,lsI]) ⟨Xc (Zb _),vg rfl,trivial⟩
     .exact Nat.zero_le _
     .skip
      intro i hi;by_cases hlt2:i<7
      .have hlt2' : ((i:Nat):Int)<7:=by omega
       have hii:(i<7)=True:=eq_true hlt2;have hol:=X9 a s (lsS a s) i;have hsl:=Yab a s;by_cases hc1:s<i
       .have est:lsI a s (lsS a s) (i+1)=lsI a s (lsS a s) i:=if_pos (.inl hc1);have j0:((s:Int)-(i:Int)<0)=True:=eq_true (by omega)
        by_cases hO:lsI a s (lsS a s) i=[]
        .rw [if_pos hO];simp only [go_sem,hlt',hlt2',hii,j0];repeat first | refine Wk ?_ | intro _
         refine⟨i+1,?_,by omega,by omega⟩
         rw [if_pos (by rw [est];exact hO)]
         exact Qa (by simp [okS,okV,okC,okL,okH,okB,okE,ja,Ja,qa,Va,wsA,ws]) ⟨Xc (Zb _),trivial⟩
        .rw [if_neg hO];simp only [go_sem,hlt',hlt2',hii,j0];repeat first | refine Wk ?_ | intro _
         refine⟨i+1,?_,by omega,by omega⟩
         rw [if_neg (by rw [est];exact hO)]
         exact Qa (by simp [okS,okV,okC,okL,okH,okB,okE,ja,Ja,qa,Va,wsA,ws,est]) ⟨Xc (Zb _),vg (by rw [est]),trivial⟩
       .have j0:((s:Int)-(i:Int)<0)=False:=eq_false (by omega)
        by_cases hc2:6<s-i
        .have est:lsI a s (lsS a s) (i+1)=lsI a s (lsS a s) i:=if_pos (.inr (.inl hc2));have j6:(6<(s:Int)-(i:Int))=True:=eq_true (by omega)
         by_cases hO:lsI a s (lsS a s) i=[]
         .rw [if_pos hO];simp only [go_sem,hlt',hlt2',hii,j0,j6];repeat first | refine Wk ?_ | intro _
          refine⟨i+1,?_,by omega,by omega⟩
          rw [if_pos (by rw [est];exact hO)]
          exact Qa (by simp [okS,okV,okC,okL,okH,okB,okE,ja,Ja,qa,Va,wsA,ws]) ⟨Xc (Zb _),trivial⟩
         .rw [if_neg hO];simp only [go_sem,hlt',hlt2',hii,j0,j6];repeat first | refine Wk ?_ | intro _
          refine⟨i+1,?_,by omega,by omega⟩
          rw [if_neg (by rw [est];exact hO)]
          exact Qa (by simp [okS,okV,okC,okL,okH,okB,okE,ja,Ja,qa,Va,wsA,ws,est]) ⟨Xc (Zb _),vg (by rw [est]),trivial⟩
        .have j6:(6<(s:Int)-(i:Int))=False:=eq_false (by omega)
         have o2:((s:Int)-(i:Int)).toNat=s-i:=by omega
         have ho:i*21+(s-i)*3=3*(i*7+(s-i)):=by omega
         have hsi:(s-i<7)=True:=eq_true (by omega)
         have hsi2:((s:Int)-(i:Int)<7)=True:=eq_true (by omega)
         have hsi3:(0<=(s:Int)-(i:Int))=True:=eq_true (by omega)
         obtain⟨p,hp⟩:∃p,gat a i (s-i)=p:=⟨_,rfl⟩;have g1:List.take 3 (List.drop (i*21+(s-i)*3) (gC a))=[cb (rcan p),cn (rcan p),cd (rcan p)]:=by rw [ho,WN (by omega)];unfold gat at hp;rw [hp];rfl
         have l1:(3<=(List.drop (i*21+(s-i)*3) (gC a)).length)=True:=eq_true (by rw [List.length_drop,Vl,ha];omega)
         have zp:rz p<=4294967296:=by rw [<-hp];exact Nat.le_trans (QP a _ _) hz
         by_cases h0:p=0
         .have est:lsI a s (lsS a s) (i+1)=lsI a s (lsS a s) i:=if_pos (.inr (.inr (by rw [hp];exact h0)))
          have e0:decide (p=0)=true:=decide_eq_true h0;by_cases hO:lsI a s (lsS a s) i=[]
          .rw [if_pos hO];simp only [go_sem,hlt',hlt2',hii,j0,j6,o2,hsi,hsi2,hsi3,g1,l1,hz',Vb,e0];repeat first | refine Wk ?_ | intro _
           refine⟨i+1,?_,by omega,by omega⟩
           rw [if_pos (by rw [est];exact hO)]
           exact Qa (by simp [okS,okV,okC,okL,okH,okB,okE,ja,Ja,qa,Va,wsA,ws]) ⟨Xc (Zb _),trivial⟩
          .rw [if_neg hO];simp only [go_sem,hlt',hlt2',hii,j0,j6,o2,hsi,hsi2,hsi3,g1,l1,hz',Vb,e0];repeat first | refine Wk ?_ | intro _
           refine⟨i+1,?_,by omega,by omega⟩
           rw [if_neg (by rw [est];exact hO)]
           exact Qa (by simp [okS,okV,okC,okL,okH,okB,okE,ja,Ja,qa,Va,wsA,ws,est]) ⟨Xc (Zb _),vg (by rw [est]),trivial⟩
         .have e0:decide (p=0)=false:=decide_eq_false h0;have est:lsI a s (lsS a s) (i+1)=lsI a s (lsS a s) i++[lsT a s i]:=if_neg (by rw [hp];simp [hc1,hc2,h0])
          have hmt:mC (mcan (lsT a s i))=[.lit (.int .i64 (i:Int)),.lit (.int .i64 ((s:Int)-(i:Int))),cb (rcan p),cn (rcan p),cd (rcan p)]:=by unfold mcan lsT;rw [hp];rfl
          have hne:¬lsI a s (lsS a s) (i+1)=[]:=by rw [est];simp
          by_cases hO:lsI a s (lsS a s) i=[]
          .rw [if_pos hO];simp only [go_sem,hlt',hlt2',hii,j0,j6,o2,hsi,hsi2,hsi3,g1,l1,hz',Vb,e0];repeat first | refine Wk ?_ | intro _
           refine⟨λe he=>by rw [List.mem_singleton.1 he];rfl,by omega,i+1,?_,by omega,by omega⟩
           rw [if_neg hne];exact Qa (by simp [okS,okV,okC,okL,okH,okB,okE,ja,Ja,qa,Va,wsA,ws,est,hO]) ⟨Xc (Zb _),vg (by rw [est,hO];show _=[mC (mcan (lsT a s i))];rw [hmt]),trivial⟩
          .rw [if_neg hO];have hml:(mcs (lsI a s (lsS a s) i)).length=(lsI a s (lsS a s) i).length:=List.length_map _;simp only [go_sem,hlt',hlt2',hii,j0,j6,o2,hsi,hsi2,hsi3,g1,l1,hz',Vb,e0,hml];repeat first | refine Wk ?_ | intro _
           refine⟨λe he=>by rw [List.mem_singleton.1 he];rfl,by omega,by omega,i+1,?_,by omega,by omega⟩
           rw [if_neg hne];exact Qa (by simp [okS,okV,okC,okL,okH,okB,okE,ja,Ja,qa,Va,wsA,ws,est]) ⟨Xc (Zb _),vg (by rw [est,qaV,List.map_append];show _=_++[mC (mcan (lsT a s i))];rw [hmt]),trivial⟩
      .have hi7:i=7:=by omega
       subst hi7;have e77:(((7:Nat):Int)<7)=False:=eq_false (by decide)
       have hfin:lsI a s (lsS a s) 7=lsS a (s+1):=rfl;by_cases hO:lsI a s (lsS a s) 7=[]
       .rw [if_pos hO];simp only [go_sem,e77];refine⟨by omega,s+1,?_,by omega,by omega⟩
        rw [if_pos (show lsS a (s+1)=[] from hO)];exact Qa (by simp [okS,okV,okC,okL,okH,okB,okE,ja,Ja,qa,Va,wsA,ws]) ⟨Xc (Zb _),trivial⟩
       .rw [if_neg hO];simp only [go_sem,e77];refine⟨by omega,s+1,?_,by omega,by omega⟩
        rw [if_neg (show ¬lsS a (s+1)=[] from hO)];exact Qa (by simp [okS,okV,okC,okL,okH,okB,okE,ja,Ja,qa,Va,wsA,ws,hfin]) ⟨Xc (Zb _),vg rfl,trivial⟩
   .have hs13:s=13:=by omega
    subst hs13;have e13:(((13:Nat):Int)<13)=False:=eq_false (by decide)
    have hl:=Yab a 13;have hg:lsS a 13=lsG a:=rfl;by_cases hS:lsS a 13=[]
    .rw [if_pos hS];simp only [go_sem,e13];rw [<-hg,hS]at hK;exact hK
    .rw [if_neg hS];have hml:(mcs (lsS a 13)).length=(lsS a 13).length:=List.length_map _;have htk:(mcs (lsS a 13)).take (lsS a 13).length=mcs (lsS a 13):=List.take_of_length_le (by omega)
     simp only [go_sem,e13,hml,htk];exact hK
end Go.Abs
end
