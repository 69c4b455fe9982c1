/-
  Parts of the proof, merged: ArgH, BurS, BurT, BurM, BurN, BurR, BurU, CoupH, CoupJ, CoupL, IntC, IntD, IntE.
-/
import Derived.Test.YtneiiodebbmcaaaGreatDoorM13
set_option linter.unusedVariables false
set_option linter.unusedSimpArgs false
set_option maxRecDepth 100000
section
namespace Go.Abs
open Go.Num
variable {H:Type} {enc:TypeId×Value->H} {bulk:DataW H->Nat} {P:Program} {w:World}
def okGd(n:Nat)(g:Gd):Prop:=WLG g/\gl g<=n
structure GdT (P:Program) (t:TypeId):Prop where
 ex:∃f0 f1 f2 f3:Field,P.underlying t=some (.struct #[f0,f1,f2,f3])/\(f0.offset=0/\f1.offset=6/\f2.offset=9/\f3.offset=10)/\P.cellsOf t=11/\
  (P.cellsOf f0.type=6/\P.cellsOf f1.type=3/\P.cellsOf f2.type=1/\P.cellsOf f3.type=1)/\ArcT P f0.type/\RatT P f1.type/\P.underlying f2.type=some (.int .i64)/\P.underlying f3.type=some (.int .i64)
theorem ybg{t:TypeId}(B:Bk bulk)(h:GdT P t):Opens enc bulk P w t gdC okGd:=by
 obtain⟨f0,f1,f2,f3,ht,⟨o0,o1,o2,o3⟩,hs,⟨c0,c1,c2,c3⟩,r0,r1,r2,r3⟩:=h.ex;intro fuel cs x hx;obtain⟨xs,n,_,rfl,hl,hlen,hf⟩:=DataW.trod_struct ht hx;match xs,hlen with
 | [y0,y1,y2,y3],_=>
  have q0:=hf 0 f0 rfl;have q1:=hf 1 f1 rfl;have q2:=hf 2 f2 rfl;have q3:=hf 3 f3 rfl;rw [o0,c0]at q0;rw [o1,c1]at q1;rw [o2,c2]at q2;rw [o3,c3]at q3;obtain⟨a0,k0,s0⟩:=jad (enc:=enc) (w:=w) B r0 n _ y0 q0;obtain⟨a1,k1,s1⟩:=YF (enc:=enc) (w:=w) B r1 n _ y1 q1;obtain⟨a2,k2,s2⟩:=Xac (enc:=enc) (bulk:=bulk) (w:=w) r2 n _ y2 q2;obtain⟨a3,k3,s3⟩:=Xac (enc:=enc) (bulk:=bulk) (w:=w) r3 n _ y3 q3;have b:∀y∈[y0,y1,y2,y3],bulk y.1<=bulk (.agg ([y0,y1,y2,y3].map (·.1))):=λy hy=>B.ag _ _ (List.mem_map.2 ⟨y,hy,rfl⟩);have k0:=uO _ _ _ (b y0 (by simp)) k0
  have k1:=zJ _ _ _ (b y1 (by simp)) k1
  refine⟨(a0,a1,a2,a3),⟨⟨k0.1,k1.2,k2,k3⟩,Nat.max_le.2 ⟨k0.2,k1.1⟩⟩,?_⟩;have rr:=(((s0.append s1).append s2).append s3);have t1:cs.take 6++(cs.drop 6).take 3=cs.take 9:=(List.take_add (i:=6) (j:=3)).symm;have t2:cs.take 9++(cs.drop 9).take 1=cs.take 10:=(List.take_add (i:=9) (j:=1)).symm;have t3:cs.take 10++(cs.drop 10).take 1=cs.take 11:=(List.take_add (i:=10) (j:=1)).symm;rw [List.drop_zero,t1,t2,t3,List.take_of_length_le (by omega)]at rr
  exact rr
abbrev U2:=Nat×Nat
def u2C(x:U2):List C:=[.lit (.int .u8 x.1),.lit (.int .u8 x.2)]
def okU2(x:U2):Prop:=x.1<256/\x.2<256
theorem Wax{t:TypeId}(ht:P.underlying t=some (.int .u8)):Opens enc bulk P w t (λn:Nat=>[.lit (.int .u8 n)]) (λ_ n=>n<256):=by
 intro fuel cs x h;obtain⟨n,rfl,_,hw⟩:=DataW.trod_int ht h;have hx:0<=n/\n<=255:=by simpa [Lit.wf,IntKind.min,IntKind.max,IntKind.signed,IntKind.bits] using hw
 refine⟨n.toNat,by omega,?_⟩
 have e:((n.toNat:Nat):Int)=n:=by omega
 show RL M0 (Old w) w.heap [C.lit (.int .u8 ((n.toNat:Nat):Int))] [.int .u8 n];rw [e];exact .one (.lit _ rfl)
structure U2T (P:Program) (t:TypeId):Prop where
 ex:∃u,P.underlying t=some (.array 2 u)/\P.cellsOf u=1/\P.cellsOf t=2/\P.underlying u=some (.int .u8)
theorem wbg{t:TypeId}(B:Bk bulk)(h:U2T P t):Opens enc bulk P w t u2C (λ_ x=>okU2 x):=by
 obtain⟨u,ht,hs,hz,hu⟩:=h.ex;intro fuel cs x hx;obtain⟨xs,m,rfl,rfl,hlen,hxl,hget⟩:=DataW.trod_array ht hx;rw [hs]at hget;match xs,hxl with
 | [x0,x1],_=>
  obtain⟨a0,k0,r0⟩:=Wax (enc:=enc) (bulk:=bulk) (w:=w) hu m _ x0 (hget 0 (by omega))
  obtain⟨a1,k1,r1⟩:=Wax (enc:=enc) (bulk:=bulk) (w:=w) hu m _ x1 (hget 1 (by omega))
  rw [Nat.zero_mul,List.drop_zero]at r0;rw [Nat.one_mul]at r1;have e0:cs=cs.take 1++(cs.drop 1).take 1:=by
   have h1:(cs.drop 1).take 1=cs.drop 1:=List.take_of_length_le (by rw [List.length_drop,hlen,hz];omega)
   rw [h1,List.take_append_drop]
  refine⟨(a0,a1),⟨k0,k1⟩,?_⟩;rw [e0];exact r0.append r1
theorem zbg(x:U2):CleanL (u2C x):=vam (.lit _) (vam (.lit _) ybI)
end Go.Abs
end
section
namespace Go.Num
open Go.Abs
theorem Wbo(p:PsQ)(m:V2):sqQ (appQ p m)=m.1*m.1+m.2*m.2+2*(cosQ p.1*p.2.1+sinQ p.1*p.2.2)*m.1+2*(cosQ p.1*p.2.2-sinQ p.1*p.2.1)*m.2+(p.2.1*p.2.1+p.2.2*p.2.2):=by
 have h:=vbA p.1;unfold appQ rotQ addQ sqQ;simp only;generalize cosQ p.1=c at h ⊢;generalize sinQ p.1=s at h ⊢;grind
theorem qaM{p q:PsQ}(h:PsK p)(k:PsK q):Deg 1 (lsR (rwB q) (rwB p)).1:=by
 have e:(lsR (rwB q) (rwB p)).1=ln3 (2*(cosQ q.1*q.2.1+sinQ q.1*q.2.2)-2*(cosQ p.1*p.2.1+sinQ p.1*p.2.2)) (2*(cosQ q.1*q.2.2-sinQ q.1*q.2.1)-2*(cosQ p.1*p.2.2-sinQ p.1*p.2.1)) ((q.2.1*q.2.1+q.2.2*q.2.2)-(p.2.1*p.2.1+p.2.2*p.2.2)):=by
  refine kZ (rb_d h k).1.canon (PB.ln3 _ _ _).canon λx y=>?_;have e1:=(Qbe h k (x,y)).1;simp only at e1;rw [e1,zaT,Wbo,Wbo];simp only;grind
 rw [e];exact(PB.ln3 _ _ _).deg
theorem ybu{s n:Nat}{a b c:Rw}(h:RB s n a)(k:RB s n b)(l:RB s n c)(h1:Deg 1 a.1)(k1:Deg 1 b.1)(l1:Deg 1 c.1):PB 3 (3*(6*s+6*(12*n))) (ci3 a b c):=by
 have t2:tri (2+1)=6:=rfl;have t1:tri (1+1)=3:=rfl;have go:∀{x y z:Rw},RB s n x->RB s n y->RB s n z->Deg 1 x.1->PB 3 (6*s+6*(12*n)) (mulB x.1 (mnR y z)):=λ{x y z} hx hy hz hd=>by
  have p1:PB 1 s x.1:=⟨hx.1.canon,hd,hx.1.size⟩;have:=p1.mul (xH hy hz) (by decide)
  rw [t2,t1]at this;exact this.mono (Nat.le_refl _) (by omega)
 have a1:=go h k l h1;have a2:=go k h l k1;have a3:=go l h k l1;unfold ci3;exact((a1.sub a2).add a3).mono (Nat.le_refl _) (by omega)
theorem Xai{l:List Ps}(hl:okPs 1000 l)(h:fourC l=0):PB 3 10000000 (bcL l):=by
 obtain⟨hlen,_⟩:=vay h;obtain⟨p,q,r,s,rfl⟩:=jbd hlen;have k1:=Vt (hl p (by simp)).1 (hl p (by simp)).2
 have k2:=Vt (hl q (by simp)).1 (hl q (by simp)).2
 have k3:=Vt (hl r (by simp)).1 (hl r (by simp)).2
 have k4:=Vt (hl s (by simp)).1 (hl s (by simp)).2
 exact(ybu (rb_d k1 k2) (rb_d k1 k3) (rb_d k1 k4) (qaM k1 k2) (qaM k1 k3) (qaM k1 k4)).mono (Nat.le_refl _) (by decide)
def kxM(b:Bool)(t:MQ):Int:=if b=true then t.1 else t.2.1
def nxM(b:Bool)(t:MQ):Int:=if b=true then t.2.1 else t.1
def fxT(b:Bool)(c:Rat)(k:Nat)(t:MQ):Rat:=if kxM b t=k then t.2.2*pw c (nxM b t).toNat else 0
def fxB(b:Bool)(c:Rat)(k:Nat):BQ->Rat
 | []=>0
 | t::l=>fxT b c k t+fxB b c k l
theorem ube(b:Bool)(c:Rat)(k:Nat)(l:BQ)(t:MQ):fxB b c k (l++[t])=fxB b c k l+fxT b c k t:=by
 induction l with
 | nil=>simp only [List.nil_append,fxB];rw [Rat.zero_add,Rat.add_zero]
 | cons u l ih=>simp only [List.cons_append,fxB,ih];rw [Rat.add_assoc]
theorem Ybb{b:Bool}{c:Rat}{k:Nat}{l:BQ}(h:∀t∈l,kxM b t≠k):fxB b c k l=0:=by
 induction l with
 | nil=>rfl
 | cons u l ih=>
  simp only [fxB];rw [ih λt ht=>h t (List.mem_cons_of_mem _ ht)];unfold fxT;rw [if_neg (h u (by simp)),Rat.add_zero]
def fixL(b:Bool)(c:Rat)(p:BQ):List Rat:=(List.range 25).map λk=>fxB b c k p
theorem ubU{p:BQ}(hi:InQ p)(hd:Deg 3 p)(x y:Rat):ev p x y=((fxB false x 3 p*y+fxB false x 2 p)*y+fxB false x 1 p)*y+fxB false x 0 p:=by
 induction p with
 | nil=>simp only [ev,fxB];grind
 | cons t p ih=>
  have hi':=Xe.1 hi;have ih:=ih hi'.2 λu hu=>hd u (List.mem_cons_of_mem _ hu);have h1:=hd t (by simp)
  obtain⟨i0,i1,i2⟩:=hi'.1;simp only [ev,fxB,ih];have hj:t.2.1=0∨t.2.1=1∨t.2.1=2∨t.2.1=3:=by omega
  unfold mev fxT kxM nxM;simp only [Bool.false_eq_true,if_false];rcases hj with h | h | h | h <;> rw [h] <;> simp [pw] <;> grind
def trimL:List Rat->List Rat
 | []=>[]
 | x::l=>if trimL l=[] then (if x=0 then [] else [x]) else x::trimL l
theorem zbh:∀{l:List Rat},(∀x∈l,x=0)->trimL l=[]
 | [],_=>rfl
 | x::l,h=>by
  simp only [trimL];rw [if_pos (zbh λy hy=>h y (List.mem_cons_of_mem _ hy)),if_pos (h x (by simp))]
theorem YA:∀{l:List Rat} {n:Nat},n<=l.length->(∀i,n<=i->l.getD i 0=0)->(n=0∨l.getD (n-1) 0≠0)->trimL l=l.take n
 | l,0,_,h,_=>by
  rw [List.take_zero];refine zbh λx hx=>?_;obtain⟨i,hi⟩:=List.getElem?_of_mem hx;have:=h i (Nat.zero_le _);rw [List.getD_eq_getElem?_getD,hi]at this;exact this
 | [],n+1,hn,_,_=>by simp at hn
 | x::l,n+1,hn,h,h2=>by
  simp only [List.length_cons]at hn;have h' : ∀i,n<=i->l.getD i 0=0:=λi hi=>by
   have:=h (i+1) (by omega)
   simpa using this
  rw [List.take_succ_cons];cases n with
  | zero=>
   have h0:=YA (l:=l) (Nat.zero_le _) h' (.inl rfl);rw [List.take_zero]at h0;have hx:x≠0:=by
    rcases h2 with h2 | h2
    .contradiction
    .simpa using h2
   simp only [trimL,h0,List.take_zero];rw [if_pos trivial,if_neg hx]
  | succ n=>
   have h2' : n+1=0∨l.getD (n+1-1) 0≠0:=by
    rcases h2 with h2 | h2
    .omega
    .refine .inr ?_;have:n+1+1-1=n+1:=rfl;rw [this]at h2;simpa using h2
   have h0:=YA (l:=l) (by omega) h' h2'
   have hne:l.take (n+1)≠[]:=by
    intro e;have:=congrArg List.length e;rw [List.length_take]at this;simp only [List.length_nil]at this;omega
   simp only [trimL,h0];rw [if_neg hne]
theorem Zbx(l:List Rat):∃n,n<=l.length/\trimL l=l.take n/\∀i,n<=i->l.getD i 0=0:=by
 induction l with
 | nil=>exact⟨0,Nat.le_refl _,rfl,λi _=>by simp⟩
 | cons x l ih=>
  obtain⟨n,h1,h2,h3⟩:=ih;simp only [trimL];by_cases h:trimL l=[]
  .rw [if_pos h];have hz:∀i,l.getD i 0=0:=λi=>by
    rcases Nat.lt_or_ge i n with hi | hi
    .have:(l.take n).length=0:=by rw [<-h2,h];rfl
     rw [List.length_take]at this;omega
    .exact h3 i hi
   by_cases hx:x=0
   .rw [if_pos hx];refine⟨0,Nat.zero_le _,by simp,λi _=>?_⟩
    cases i with
    | zero=>simpa using hx
    | succ i=>simpa using hz i
   .rw [if_neg hx];refine⟨1,by simp,by simp,λi hi=>?_⟩
    cases i with
    | zero=>omega
    | succ i=>simpa using hz i
  .rw [if_neg h];refine⟨n+1,by simp;omega,by rw [h2,List.take_succ_cons],λi hi=>?_⟩
   cases i with
   | zero=>omega
   | succ i=>simpa using h3 i (by omega)
def aloL(l:List Ps)(x:Rat):List Rat:=[fxB false x 0 (bcL l),fxB false x 1 (bcL l),fxB false x 2 (bcL l),fxB false x 3 (bcL l)]
theorem vbH{l:List Ps}(hl:okPs 1000 l)(h:fourC l=0)(x:Rat){k:Nat}(hk:4<=k):fxB false x k (bcL l)=0:=by
 have pb:=Xai hl h;refine Ybb λt ht e=>?_;have h1:=pb.deg t ht;obtain⟨i0,i1,i2⟩:=pb.canon.ins t ht;have e' : t.2.1=k:=e;omega
theorem qbK{l:List Ps}(hl:okPs 1000 l)(h:fourC l=0)(x y:Rat):dtL l (x,y)=((fxB false x 3 (bcL l)*y+fxB false x 2 (bcL l))*y+fxB false x 1 (bcL l))*y+fxB false x 0 (bcL l):=by
 have pb:=Xai hl h;rw [<-ubU pb.canon.ins pb.deg];exact((JL hl h).2 (x,y)).symm
theorem Qbu(b:Bool)(c:Rat)(k:Nat):∀{p:BQ},InQ p->rz (fxB b c k p)<=sz p+p.length*(24*(rz c+2)+8)+2
 | [],_=>by have:=rz_0;simp only [fxB];omega
 | t::p,hi=>by
  have hi':=Xe.1 hi;have ih:=Qbu b c k hi'.2;have h1:=Ql (fxT b c k t) (fxB b c k p);have h2:rz (fxT b c k t)<=rz t.2.2+24*(rz c+2)+4:=by
   unfold fxT;split
   .have a1:=qc t.2.2 (pw c (nxM b t).toNat);have a2:=kad c (nxM b t).toNat;have a3:(nxM b t).toNat<=24:=by
     obtain⟨i0,i1,i2⟩:=hi'.1;unfold nxM;split <;> omega
    have a4:=Nat.mul_le_mul_right (rz c+2) a3;omega
   .have:=rz_0;omega
  simp only [fxB,sz,List.length_cons];rw [Nat.add_mul];omega
end Go.Num
end
section
namespace Go.Num
open Go.Abs
def aloC(l:List Ps)(x:R):Nat:=if fourC l≠0 then fourC l else if vldR x=false then 2 else 0
theorem wak(b:Bool)(c:Rat)(p:BQ):(fixL b c p).length=25:=by unfold fixL;rw [List.length_map,List.length_range]
theorem Ja7(b:Bool)(c:Rat)(p:BQ){j:Nat}(h:j<25):((fixL b c p).map rcan).getD j (rcan 0)=rcan (fxB b c j p):=by
 unfold fixL;rw [List.getD_eq_getElem?_getD,List.getElem?_map,List.getElem?_map,List.getElem?_range h];rfl
theorem vap(b:Bool)(c:Rat)(p:BQ)(t:MQ){j:Nat}(h:kxM b t=j):(fixL b c p).set j (fxB b c j p+t.2.2*pw c (nxM b t).toNat)=fixL b c (p++[t]):=by
 apply List.ext_getElem?;intro i;rw [List.getElem?_set];unfold fixL;simp only [List.length_map,List.length_range,List.getElem?_map];by_cases hi:i<25
 .rw [List.getElem?_range hi];simp only [Option.map_some,ube];unfold fxT;by_cases e:j=i
  .subst e;rw [if_pos rfl,if_pos hi,if_pos h]
  .rw [if_neg e,if_neg (by rw [h];omega),Rat.add_zero]
 .rw [List.getElem?_eq_none (by rw [List.length_range];omega),Option.map_none,Option.map_none]
  by_cases e:j=i
  .rw [if_pos e,if_neg (by omega)]
  .rw [if_neg e]
theorem xbW(b:Bool)(c:Rat):(fixL b c []).map rcan=List.replicate 25 (rcan 0):=by
 unfold fixL fxB;rw [List.map_map];rfl
theorem VaS:∀{l:List Rat} {m:Nat},(∀i,m<=i->l.getD i 0=0)->(trimL l).length<=m
 | [],_,_=>Nat.zero_le _
 | x::l,0,h=>by
  rw [YA (n:=0) (Nat.zero_le _) h (.inl rfl)];exact Nat.zero_le _
 | x::l,m+1,h=>by
  have ih:=VaS (l:=l) (m:=m) λi hi=>by have:=h (i+1) (by omega);simpa using this
  simp only [trimL];split
  .split
   .exact Nat.zero_le _
   .simp
  .simp only [List.length_cons];omega
theorem vbf{A:List Rat}(hl:A.length=25){n:Nat}(hn:n<=4)(hz:∀i,n<=i->A.getD i 0=0) :
  (A.take n).map rcan++List.replicate (4-n) (rcan 0)=[rcan (A.getD 0 0),rcan (A.getD 1 0),rcan (A.getD 2 0),rcan (A.getD 3 0)]:=by
 match A,hl with
 | a0::a1::a2::a3::A,_=>
  match n,hn with
  | 0,_=>have h0:=hz 0 (by omega);have h1:=hz 1 (by omega);have h2:=hz 2 (by omega);have h3:=hz 3 (by omega);simp at h0 h1 h2 h3;subst h0 h1 h2 h3;rfl
  | 1,_=>have h1:=hz 1 (by omega);have h2:=hz 2 (by omega);have h3:=hz 3 (by omega);simp at h1 h2 h3;subst h1 h2 h3;rfl
  | 2,_=>have h2:=hz 2 (by omega);have h3:=hz 3 (by omega);simp at h2 h3;subst h2 h3;rfl
  | 3,_=>have h3:=hz 3 (by omega);simp at h3;subst h3;rfl
  | 4,_=>rfl
end Go.Num
namespace Go.Abs
open Go.Num
variable {P:Program} {Γ:Nat->Spec}
theorem Va7{h h' : Nat->HB}:∀n:Nat,okE h h' (List.replicate n [.lit (.bool false),.emp,.emp]) ((List.replicate n (rcan 0)).map rC)
 | 0=>trivial
 | n+1=>by
  rw [List.replicate_succ,List.replicate_succ,List.map_cons,Yb];refine⟨?_,by rw [<-Yb];exact Va7 n⟩
  simp [rC,cb,cn,cd,okL,okC,ws]
theorem kbo(L:List R)(i:Nat)(x:R):(L.map rC).set i [cb x,cn x,cd x]=(L.set i x).map rC:=by rw [List.map_set];rfl
theorem XbK(L:List R):nrmR (L.map rC)=L.map rC:=by
 unfold nrmR;rw [List.map_map];exact List.map_congr_left λx _=>rfl
theorem xbs(a b:List (List C)):nrmR (a++b)=nrmR a++nrmR b:=by unfold nrmR;rw [List.map_append]
theorem Ja9:∀n:Nat,nrmR (List.replicate n [.lit (.bool false),.emp,.emp])=(List.replicate n (rcan 0)).map rC
 | 0=>rfl
 | n+1=>by
  rw [List.replicate_succ,List.replicate_succ,List.map_cons,QaY,Ja9 n,Yb];rfl
def Wx(l:List AV)(K:List (List C)->Prop):Prop:=
 match l with
 | [a]=>onRs (λl=>okRs 4000000000 l/\l.length<=1000/\K (((trimL (l.map rv)).map rcan).map rC)) a
 | _=>False
theorem waC a K:Wx [a] K=(onRs (λl=>okRs 4000000000 l/\l.length<=1000/\K (((trimL (l.map rv)).map rcan).map rC)) a):=propext Iff.rfl
@[congr] theorem JbR{K}{l l'}(h:l=l'):Wx l K=Wx l' K:=by subst h;rfl
attribute [go_sem,go_sem ↓] waC
theorem QaH:Good Wx:=Ya λas=>by
 unfold Wx;split
 .exact(YbD λ_=>(.and λ_=>(.and λ_=>(.ret _))))
 .exact .of λK hk=>hk.elim
def ZF(tE:Nat)(l:List AV)(K:AV->Prop):Prop:=
 match l with
 | [p,b,c]=>onMs (λp=>asBool (λb=>onR (λc=>(∀t∈p,rl t.2.2<=1000000000)/\rl c<=10000/\sz (p.map mv)<=100000000/\K (.tup [.one (.slice ((if chkB p=0 then (trimL (fixL b (rv c) (p.map mv))).map rcan else []).map rC)),errV tE (chkB p)])) c) b) p
 | _=>False
theorem Za3 tE p b c K:ZF tE [p,b,c] K=(onMs (λp=>asBool (λb=>onR (λc=>(∀t∈p,rl t.2.2<=1000000000)/\rl c<=10000/\sz (p.map mv)<=100000000/\K (.tup [.one (.slice ((if chkB p=0 then (trimL (fixL b (rv c) (p.map mv))).map rcan else []).map rC)),errV tE (chkB p)])) c) b) p):=propext Iff.rfl
@[congr] theorem wbU tE{K}{l l'}(h:l=l'):ZF tE l K=ZF tE l' K:=by subst h;rfl
attribute [go_sem,go_sem ↓] Za3
theorem QaK(tE:Nat):Good (ZF tE):=Ya λas=>by
 unfold ZF;split
 .exact(Qu λ_=>(ZI (λ_=>(Wm λ_=>(.and λ_=>(.and λ_=>(.and λ_=>(.ret _)))))) _))
 .exact .of λK hk=>hk.elim
def qE(tE:Nat)(l:List AV)(K:AV->Prop):Prop:=
 match l with
 | [a,b]=>onPs (λl=>onR (λx=>okPs 1000 l/\rl x<=10000/\K (.tup [.one (.slice ((if aloC l x=0 then (aloL l (rv x)).map rcan else []).map rC)),errV tE (aloC l x)])) b) a
 | _=>False
theorem Wa8 tE a b K:qE tE [a,b] K=(onPs (λl=>onR (λx=>okPs 1000 l/\rl x<=10000/\K (.tup [.one (.slice ((if aloC l x=0 then (aloL l (rv x)).map rcan else []).map rC)),errV tE (aloC l x)])) b) a):=propext Iff.rfl
@[congr] theorem jb2 tE{K}{l l'}(h:l=l'):qE tE l K=qE tE l' K:=by subst h;rfl
attribute [go_sem,go_sem ↓] Wa8
theorem WaQ(tE:Nat):Good (qE tE):=Ya λas=>by
 unfold qE;split
 .exact(VB λ_=>(Wm λ_=>(.and λ_=>(.and λ_=>(.ret _)))))
 .exact .of λK hk=>hk.elim
def yB(f0 f1:Nat):AC:=(.seq (.ops false [.m 2 (.c (.one .emp))])
 (.fg [0] (.seq (.ops false [.m 3 (.c (.one .emp))])
 (.fg [0,3] (.seq (.seq (.ops false [.m 6 (.t 0),.u 7 (.len (.t 6)),.m 8 (.i 0)])
 (.fg [3,6,7,8] (.block 0 (.loop (.seq (.ops false [.u 9 (.bin .lss (.t 8) (.t 7))])
 (.fg [3,6,7,8,9] (.seq (.cond (.t 9) .skip (.exit 0))
 (.fg [3,6,7,8] (.seq (.block 1 (.seq (.ops false [.u 10 (.idx 3 (.t 6) (.t 8)),.u 11 (.ld none 3 true (.t 10)),.u 5 (.alloc [(.lit (.bool false)),.emp,.emp]),.n (.st none 3 (.t 5) (.t 11))])
 (.fg [3,5,6,7,8] (.ops false [.m 12 (.t 3),.u 13 (.ld none 3 true (.t 5)),.u 14 (.build [.z [(.lit (.bool false)),.emp,.emp]]),.u 15 (.call f0 [(.t 13),(.t 14)]),.u 16 (.row 3 [[.x 3 (.t 15)]]),.u 17 (.app 3 (.t 12) (.t 16)),.m 3 (.t 17)]))))
 (.fg [3,6,7,8] (.ops false [.u 18 (.bin .add (.t 8) (.i 1)),.m 8 (.t 18)])))))))))))
 (.fg [3] (.seq (.block 2 (.loop (.seq (.seq (.ops false [.m 19 (.t 3),.u 20 (.len (.t 19)),.u 21 (.bin .gtr (.t 20) (.i 0)),.m 22 (.t 21),.w 23 22 true (.mv (.t 3)),.w 24 22 true (.mv (.t 3)),.w 25 22 true (.len (.t 24)),.w 26 22 true (.bin .sub (.t 25) (.i 1)),.w 27 22 true (.idx 3 (.t 23) (.t 26)),.w 28 22 true (.ld none 3 true (.t 27)),.w 29 22 true (.call f1 [(.t 28)]),.w 30 22 true (.bin .eql (.t 29) (.i 0)),.u 31 (.pick (.t 22) (.t 30) .fa)])
 (.fg [3,31] (.cond (.t 31) .skip (.exit 2))))
 (.fg [3] (.block 3 (.ops false [.m 32 (.t 3),.m 33 (.t 3),.u 34 (.len (.t 33)),.u 35 (.bin .sub (.t 34) (.i 1)),.u 36 (.sl 3 (.t 32) none (some (.t 35))),.m 3 (.t 36)]))))))
 (.fg [3] (.seq (.ops false [.m 37 (.t 3),.m 2 (.t 37)])
 .ret)))))))))
def xq(f0 f1 f2 f3 f4:Nat):AC:=(.seq (.ops false [.u 5 (.box 3 (.t 2)),.m 6 (.c (.one .emp)),.m 7 (.c (.one (.lit .nilIface)))])
 (.fg [0,1,5] (.seq (.seq (.ops false [.m 16 (.t 0),.u 17 (.call f0 [(.t 16)]),.m 8 (.t 17)])
 (.fg [0,1,5,8] (.seq (.ops false [.m 18 (.t 8),.u 19 (.binn .neq (.t 18) (.c (.one (.lit .nilIface))))])
 (.fg [0,1,5,8,19] (.cond (.t 19) (.seq (.ops false [.m 20 (.t 8),.m 6 (.c (.one .emp)),.m 7 (.t 20)])
 .ret) .skip)))))
 (.fg [0,1,5] (.seq (.ops false [.u 21 (.mk 3 [(.lit (.bool false)),.emp,.emp] (.i 25) (.i 25)),.m 9 (.t 21)])
 (.fg [0,1,5,9] (.seq (.seq (.ops false [.m 22 (.t 0),.u 23 (.len (.t 22)),.m 24 (.i 0)])
 (.fg [1,5,9,22,23,24] (.block 0 (.loop (.seq (.ops false [.u 25 (.bin .lss (.t 24) (.t 23))])
 (.fg [1,5,9,22,23,24,25] (.seq (.cond (.t 25) .skip (.exit 0))
 (.fg [1,5,9,22,23,24] (.seq (.block 1 (.seq (.ops false [.u 26 (.idx 5 (.t 22) (.t 24)),.u 27 (.ld none 5 true (.t 26)),.u 11 (.alloc [(.lit (.int .i64 0)),(.lit (.int .i64 0)),(.lit (.bool false)),.emp,.emp]),.n (.st none 5 (.t 11) (.t 27))])
 (.fg [1,5,9,11,22,23,24] (.seq (.ops true [.u 28 (.fa 1 (.t 11)),.u 29 (.ld none 1 false (.t 28)),.u 30 (.fa 0 (.t 11)),.u 31 (.ld none 1 false (.t 30)),.m 12 (.t 29),.m 13 (.t 31)])
 (.fg [1,5,9,11,12,13,22,23,24] (.seq (.seq (.ops false [.m 32 (.t 1)])
 (.fg [1,5,9,11,12,13,22,23,24,32] (.cond (.t 32) (.ops true [.u 33 (.fa 0 (.t 11)),.u 34 (.ld none 1 false (.t 33)),.u 35 (.fa 1 (.t 11)),.u 36 (.ld none 1 false (.t 35)),.m 12 (.t 34),.m 13 (.t 36)]) .skip)))
 (.fg [1,5,9,11,12,13,22,23,24] (.seq (.ops false [.u 38 (.ld none 3 true (.t 5)),.m 39 (.t 13),.u 40 (.call f1 [(.t 38),(.t 39)]),.m 37 (.t 40),.u 41 (.ext 0 (.t 37)),.u 42 (.ext 1 (.t 37)),.u 14 (.alloc [(.lit (.bool false)),.emp,.emp]),.n (.st none 3 (.t 14) (.t 41)),.m 15 (.t 42)])
 (.fg [1,5,9,11,12,14,15,22,23,24] (.seq (.seq (.ops false [.m 43 (.t 15),.u 44 (.binn .neq (.t 43) (.c (.one (.lit .nilIface))))])
 (.fg [1,5,9,11,12,14,15,22,23,24,44] (.cond (.t 44) (.seq (.ops false [.m 45 (.t 15),.m 6 (.c (.one .emp)),.m 7 (.t 45)])
 .ret) .skip)))
 (.fg [1,5,9,11,12,14,22,23,24] (.ops true [.m 46 (.t 9),.m 47 (.t 12),.m 48 (.t 9),.m 49 (.t 12),.u 50 (.idx 3 (.t 48) (.t 49)),.u 51 (.ld none 3 true (.t 50)),.u 52 (.fa 2 (.t 11)),.u 53 (.ld none 3 true (.t 52)),.u 54 (.ld none 3 true (.t 14)),.u 55 (.call f2 [(.t 53),(.t 54)]),.u 56 (.call f3 [(.t 51),(.t 55)]),.u 57 (.idx 3 (.t 46) (.t 47)),.n (.st none 3 (.t 57) (.t 56))]))))))))))))
 (.fg [1,5,9,22,23,24] (.ops false [.u 58 (.bin .add (.t 24) (.i 1)),.m 24 (.t 58)])))))))))))
 (.fg [9] (.seq (.ops false [.m 59 (.t 9),.u 60 (.callf f4 [(.t 59)]),.m 6 (.t 60),.m 7 (.c (.one (.lit .nilIface)))])
 .ret)))))))))
def ye(f0 f1 f2 f3 tE:Nat):AC:=(.seq (.ops false [.u 3 (.box 3 (.t 1)),.m 4 (.c (.one .emp)),.m 5 (.c (.one (.lit .nilIface)))])
 (.fg [0,3] (.seq (.seq (.ops false [.m 11 (.t 0),.u 12 (.call f0 [(.t 11)]),.m 6 (.t 12)])
 (.fg [0,3,6] (.seq (.ops false [.m 13 (.t 6),.u 14 (.binn .neq (.t 13) (.c (.one (.lit .nilIface))))])
 (.fg [0,3,6,14] (.cond (.t 14) (.seq (.ops false [.m 15 (.t 6),.m 4 (.c (.one .emp)),.m 5 (.t 15)])
 .ret) .skip)))))
 (.fg [0,3] (.seq (.seq (.ops false [.u 16 (.ld none 3 true (.t 3)),.u 17 (.call f1 [(.t 16)]),.u 18 (.un .not (.t 17))])
 (.fg [0,3,18] (.cond (.t 18) (.seq (.ops false [.u 19 (.iface tE (.i 2)),.m 4 (.c (.one .emp)),.m 5 (.t 19)])
 .ret) .skip)))
 (.fg [0,3] (.seq (.ops false [.m 21 (.t 0),.u 22 (.call f2 [(.t 21)]),.m 20 (.t 22),.u 23 (.ext 0 (.t 20)),.u 24 (.ext 1 (.t 20)),.m 7 (.t 23),.m 8 (.t 24)])
 (.fg [3,7,8] (.seq (.seq (.ops false [.m 25 (.t 8),.u 26 (.binn .neq (.t 25) (.c (.one (.lit .nilIface))))])
 (.fg [3,7,8,26] (.cond (.t 26) (.seq (.ops false [.m 27 (.t 8),.m 4 (.c (.one .emp)),.m 5 (.t 27)])
 .ret) .skip)))
 (.fg [3,7] (.seq (.ops false [.m 29 (.t 7),.u 30 (.ld none 3 true (.t 3)),.u 31 (.call f3 [(.t 29),.fa,(.t 30)]),.m 28 (.t 31),.u 32 (.ext 0 (.t 28)),.u 33 (.ext 1 (.t 28)),.m 9 (.t 32),.m 8 (.t 33)])
 (.fg [8,9] (.seq (.seq (.ops false [.m 34 (.t 8),.u 35 (.binn .neq (.t 34) (.c (.one (.lit .nilIface))))])
 (.fg [8,9,35] (.cond (.t 35) (.seq (.ops false [.m 36 (.t 8),.m 4 (.c (.one .emp)),.m 5 (.t 36)])
 .ret) .skip)))
 (.fg [9] (.seq (.ops false [.u 37 (.mk 3 [(.lit (.bool false)),.emp,.emp] (.i 4) (.i 4)),.m 10 (.t 37)])
 (.fg [9,10] (.seq (.ops false [.m 38 (.t 10),.m 39 (.t 9),.u 40 (.cpy 3 (.t 38) (.t 39))])
 (.fg [10] (.seq (.ops false [.m 41 (.t 10),.m 4 (.t 41),.m 5 (.c (.one (.lit .nilIface)))])
 .ret)))))))))))))))))))
theorem jam(hΓ:Holds P Γ){f fa fs:Nat}(ha:Γ fa=.dat false jl)(hs:Γ fs=.dat true qg)(hc:check P f=some (38,(yB fa fs).strip,[.tmp 2])):Sound P f (.fresh 3 Wx):=by
 refine Xm hc QaH hΓ (λargs K hcl hfi hG=>?_);match args,hG with
 | [a],hG=>
  obtain⟨l,rfl,hwl,hok,hlen,hK⟩:=hG;refine⟨by simp,?_⟩
  obtain⟨M,hM⟩:∃M,(l.map rv).map rcan=M:=⟨_,rfl⟩;have lM:M.length=l.length:=by rw [<-hM,List.length_map,List.length_map]
  simp only [go_sem,yB];intro _;refine Xa (λk:Nat=>if k=0 then ⟨mkV [(3,.one .emp),(6,rsA l),(7,.one (.lit (.int .i64 l.length))),(8,.one (.lit (.int .i64 k)))],mkH []⟩ else ⟨mkV [(3,.one (.own 17 1 3 0 k)),(6,rsA l),(7,.one (.lit (.int .i64 l.length))),(8,.one (.lit (.int .i64 k)))],mkH [(17,⟨1,some ⟨(M.take k).map rC,3,true⟩⟩)]⟩) (λk=>k<=l.length) (λk=>l.length-k) 0 ?_ ?_ ?_
  .exact Qa (by simp [okS,okV,okC,okL,okH,okB,okE,ja,Va,qa,ka,wsA,ws,rsA]) trivial
  .exact Nat.zero_le _
  .intro k hk;by_cases hlt:k<l.length
   .obtain⟨x,hx⟩:∃x,l.getD k (rcan 0)=x:=⟨_,rfl⟩;have hx0:=Xu hlt hx;obtain⟨hx1,hx2⟩:=hok x (List.mem_of_getElem? hx0);have rx:=Jg hx1;have rz0:=rz_0;have hMk:M[k]?=some (rcan (rv x)):=by rw [<-hM,List.getElem?_map,List.getElem?_map,hx0];rfl
    have hMt:M.take (k+1)=M.take k++[rcan (rv x)]:=by rw [List.take_add_one,hMk];rfl
    have hMl:(M.take k).length=k:=by rw [List.length_take,lM];omega
    have f3:∀e:List C,e∈[[cb (rcan (rv x)),cn (rcan (rv x)),cd (rcan (rv x))]]->e.length=3:=λe he=>by rw [List.mem_singleton.1 he];rfl
    have ht:((M.take k).map rC).take k=(M.take k).map rC:=List.take_of_length_le (by rw [List.length_map,hMl];exact Nat.le_refl _)
    by_cases hk0:k=0
    .subst hk0;simp only [go_sem,hlt,hx,ha,jac,Wb,Rat.add_zero];repeat first | refine Ja (by omega) ?_ | refine Ja (by assumption) ?_ | refine Ja rfl ?_ | refine Ja ⟨rfl,by omega⟩ ?_ | refine Ja ⟨rfl,by omega,by omega⟩ ?_ | intro _
     refine⟨1,?_,by omega,by omega⟩
     rw [if_neg (by decide)]
     exact Qa (by simp [okS,okV,okC,okL,okH,okB,okE,ja,Va,qa,ka,wsA,ws,rsA]) ⟨WQ (by rw [hMt];rfl),trivial⟩
    .simp only [go_sem,hlt,hx,ha,jac,Wb,Rat.add_zero,hk0,List.length_map,hMl,ht];repeat first | refine Ja (by omega) ?_ | refine Ja (by assumption) ?_ | refine Ja rfl ?_ | refine Ja ⟨rfl,by omega⟩ ?_ | refine Ja ⟨rfl,by omega,by omega⟩ ?_ | intro _
     refine⟨k+1,?_,by omega,by omega⟩
     rw [if_neg (by omega)]
     exact Qa (by simp [okS,okV,okC,okL,okH,okB,okE,ja,Va,qa,ka,wsA,ws,rsA]) ⟨WQ (by rw [hMt,List.map_append];rfl),trivial⟩
   .have ek:k=l.length:=by omega
    subst ek;have hMM:M.take l.length=M:=List.take_of_length_le (by omega)
    by_cases hl0:l.length=0
    .have hl1:l=[]:=List.length_eq_zero_iff.1 hl0;subst hl1;simp only [go_sem,hlt,List.length_nil];refine Xbg 0 ⟨mkV [(3,.one .emp)],mkH []⟩ ?_ ?_
     .exact Qa (by simp [okS,okV,okC,okL,okH,okB,okE,ja,Va,qa,ka,wsA,ws]) trivial
     .simp only [go_sem,Int.lt_irrefl,decide_false];exact hK
    .simp only [go_sem,hlt,hl0,hMM];refine Xa (λn:Nat=>⟨mkV [(3,.one (.own 17 1 3 0 n))],mkH [(17,⟨1,some ⟨M.map rC,3,true⟩⟩)]⟩) (λn=>n<=M.length/\∀i,n<=i->(l.map rv).getD i 0=0) (λn=>n) l.length ?_ ?_ ?_
     .exact Qa (by simp [okS,okV,okC,okL,okH,okB,okE,ja,Va,qa,ka,wsA,ws]) ⟨WQ rfl,trivial⟩
     .exact⟨by omega,λi hi=>by rw [List.getD_eq_getElem?_getD,List.getElem?_eq_none (by rw [List.length_map];exact hi)];rfl⟩
     .rintro n ⟨hn,hz⟩;have hlv:(l.map rv).length=M.length:=by rw [lM,List.length_map]
      match n,hn,hz with
      | 0,hn,hz=>
       rw [YA (n:=0) (Nat.zero_le _) hz (.inl rfl)]at hK;simp only [go_sem,Int.lt_irrefl,decide_false];repeat first | refine Ja (by omega) ?_ | refine Ja (by assumption) ?_ | refine Ja rfl ?_ | refine Ja ⟨rfl,by omega⟩ ?_ | refine Ja ⟨rfl,by omega,by omega⟩ ?_ | intro _
       exact hK
      | m+1,hn,hz=>
       obtain⟨q,hq⟩:∃q,(l.map rv).getD m 0=q:=⟨_,rfl⟩;have hml:m<l.length:=by omega
       have hMq:M.getD m (rcan 0)=rcan q:=by
        rw [<-hM,<-hq,List.getD_eq_getElem?_getD,List.getD_eq_getElem?_getD,List.getElem?_map];rw [List.getElem?_map,List.getElem?_eq_getElem hml];rfl
       have rq:rz q<=4294967296:=by
        have h1:l[m]?=some l[m]:=List.getElem?_eq_getElem hml;have h2:=hok l[m] (List.mem_of_getElem? h1);have h3:=Jg h2.1;have h4:rv l[m]=q:=by rw [<-hq,List.getD_eq_getElem?_getD,List.getElem?_map,h1];rfl
        rw [h4]at h3;have:=h2.2;omega
       have em:((m+1:Nat):Int)-1=(m:Int):=by omega
       have e0:(0:Int)<((m+1:Nat):Int):=by omega
       have n64:((m+1:Nat):Int)<=9223372036854775807:=by omega
       have mM:m<M.length:=by omega
       have rz0:=rz_0;by_cases hq0:q=0
       .simp only [go_sem,em,e0,decide_true,hs,hMq,jac,Wb,Jn,xo,hq0,Int.toNat_natCast,Nat.zero_add];repeat first | refine Ja (by omega) ?_ | refine Ja (by assumption) ?_ | refine Ja rfl ?_ | refine Ja ⟨rfl,by omega⟩ ?_ | refine Ja ⟨rfl,by omega,by omega⟩ ?_ | intro _
        exact⟨m,Qa (by simp [okS,okV,okC,okL,okH,okB,okE,ja,Va,qa,ka,wsA,ws]) ⟨WQ rfl,trivial⟩,⟨by omega,λi hi=>by
         by_cases e:i=m
         .subst e;rw [hq];exact hq0
         .exact hz i (by omega)⟩,by omega⟩
       .rw [YA (n:=m+1) (by omega) hz (.inr (by rw [Nat.add_sub_cancel,hq];exact hq0))]at hK
        simp only [go_sem,em,e0,decide_true,hs,hMq,jac,Wb,Jn,xo,hq0,decide_false,Int.toNat_natCast,Nat.zero_add];rw [List.map_take,hM]at hK;repeat first | refine Ja (by omega) ?_ | refine Ja (by assumption) ?_ | refine Ja rfl ?_ | refine Ja ⟨rfl,by omega⟩ ?_ | refine Ja ⟨rfl,by omega,by omega⟩ ?_ | intro _
        exact hK
set_option maxHeartbeats 1000000 in
theorem zaG(hΓ:Holds P Γ){f fk fp fm fa ft tE:Nat}(hk:Γ fk=.dat false (qm tE))(hp:Γ fp=.dat false (vC tE))(hm:Γ fm=.dat false vl)(ha:Γ fa=.dat false jl)(htr:Γ ft=.fresh 3 Wx)(hc:check P f=some (61,(xq fk fp fm fa ft).strip,[.tmp 6,.tmp 7])):Sound P f (.dat false (ZF tE)):=by
 refine Wa hc (QaK tE) hΓ (λargs K hcl hfi hG=>?_);match args,hG with
 | [a0,a1,a2],hG=>
  obtain⟨p,rfl,hwp,hG1⟩:=hG;obtain⟨b,rfl,hG2⟩:=Zx hG1;obtain⟨c,rfl,hwc,hrp,hrc,hsz,hK⟩:=hG2;refine⟨by simp,?_⟩
  have hrp' : ∀t∈p,rl t.2.2<=4294967296:=λt ht=>Nat.le_trans (hrp t ht) (by decide)
  by_cases h0:chkB p=0
  case neg=>
   have e1:=vc tE h0;rw [if_neg h0,e1]at hK;simp only [go_sem,xq,hk,rA,e1];repeat first | refine Ja (by omega) ?_ | refine Ja (by assumption) ?_ | refine Ja rfl ?_ | refine Ja ⟨rfl,by omega⟩ ?_ | refine Ja ⟨rfl,by omega,by omega⟩ ?_ | intro _
   exact hK
  have e0:=ub tE;rw [if_pos h0,h0,e0]at hK;obtain⟨i1,j1,l1⟩:=xB h0 hwp;simp only [go_sem,xq,hk,rA,h0,e0];repeat first | refine Ja (by omega) ?_ | refine Ja (by assumption) ?_ | refine Ja rfl ?_ | refine Ja ⟨rfl,by omega⟩ ?_ | refine Ja ⟨rfl,by omega,by omega⟩ ?_ | intro _
  refine Xa (λk:Nat=>⟨mkV [(1,.one (.lit (.bool b))),(5,.one (.ptr 5 1 0 0)),(9,.one (.own 21 1 3 0 25)),(22,msA p),(23,.one (.lit (.int .i64 p.length))),(24,.one (.lit (.int .i64 k)))],mkH [(5,⟨1,some ⟨[[cb c,cn c,cd c]],3,true⟩⟩),(21,⟨1,some ⟨((fixL b (rv c) ((p.take k).map mv)).map rcan).map rC,3,true⟩⟩)]⟩) (λk=>k<=p.length) (λk=>p.length-k) 0 ?_ ?_ ?_
  .exact Qa (by simp [okS,okV,okC,okL,okH,okB,okE,ja,Va,qa,ka,wsA,ws,msA,ms]) ⟨ZA,⟨⟨rfl,rfl⟩,.inr (by rw [List.take_zero,List.map_nil,xbW];exact Va7 25)⟩,trivial⟩
  .exact Nat.zero_le _
  .intro k hk2;have hsP:sz ((p.take k).map mv)<=100000000:=by
    have w2:=UG (p.map mv) k;rw [<-List.map_take]at w2;omega
   have inP:InQ ((p.take k).map mv):=λu hu=>by
    obtain⟨v,hv,rfl⟩:=List.mem_map.1 hu;exact i1 v (List.mem_of_mem_take hv)
   have lP:((p.take k).map mv).length<=325:=by rw [List.length_map,List.length_take];omega
   have z1:=Jg hwc;have bF:∀j,rz (fxB b (rv c) j ((p.take k).map mv))<=1000000000:=λj=>by
    have w1:=Qbu b (rv c) j inP;have w3:=Nat.mul_le_mul lP (show 24*(rz (rv c)+2)+8<=24*10002+8 by omega)
    omega
   have lF:((fixL b (rv c) ((p.take k).map mv)).map rcan).length=25:=by rw [List.length_map,wak]
   by_cases hlt:k<p.length
   .obtain⟨t,ht⟩:∃t,p.getD k mo0=t:=⟨_,rfl⟩;have ht0:=getDm hlt ht;have htm:=List.mem_of_getElem? ht0;obtain⟨t1,t2,t3⟩:=i1 t htm;have hwt:=(hwp t htm).2.2;have hrt:=hrp t htm;have z3:=Jg hwt;obtain⟨X,hX⟩:=Int.eq_ofNat_of_zero_le t1;obtain⟨Y,hY⟩:=Int.eq_ofNat_of_zero_le t2;have hsnoc:(p.take (k+1)).map mv=(p.take k).map mv++[mv t]:=by rw [List.take_add_one,ht0];simp
    have e1:=ub tE;cases b with
    | false=>
     have hg:=Ja7 false (rv c) ((p.take k).map mv) (j:=Y) (by omega)
     have hst:=vap false (rv c) ((p.take k).map mv) (mv t) (j:=Y) hY;have en:(nxM false (mv t)).toNat=X:=by show t.1.toNat=X;omega
     rw [en,<-hsnoc]at hst;have ev2:(mv t).2.2=rv t.2.2:=rfl;rw [ev2]at hst;have z4:=kad (rv c) X;have z5:X*(rz (rv c)+2)<=24*(rz (rv c)+2):=Nat.mul_le_mul_right _ (by omega)
     have z6:=qc (rv t.2.2) (pw (rv c) X);have bY:=bF Y;obtain⟨v,hv⟩:∃v,fxB false (rv c) Y ((p.take k).map mv)=v:=⟨_,rfl⟩;rw [hv]at hg hst bY;obtain⟨F,hF⟩:∃F,(fixL false (rv c) ((p.take k).map mv)).map rcan=F:=⟨_,rfl⟩;rw [hF]at hg lF;simp only [go_sem,hlt,ht,hp,hm,ha,mC,hX,hY,e1,Wb,rQ,hF,hg,jac,lF,Int.toNat_natCast,Nat.zero_add];repeat first | refine Ja (by omega) ?_ | refine Ja (by assumption) ?_ | refine Ja rfl ?_ | refine Ja ⟨rfl,by omega⟩ ?_ | refine Ja ⟨rfl,by omega,by omega⟩ ?_ | intro _
     refine⟨k+1,?_,by omega,by omega⟩
     rw [<-hst,List.map_set,hF];exact Qa (by simp [okS,okV,okC,okL,okH,okB,okE,ja,Va,qa,ka,wsA,ws,msA,ms]) ⟨ZA,WQ (by rw [kbo]),trivial⟩
    | true=>
     have hg:=Ja7 true (rv c) ((p.take k).map mv) (j:=X) (by omega)
     have hst:=vap true (rv c) ((p.take k).map mv) (mv t) (j:=X) hX;have en:(nxM true (mv t)).toNat=Y:=by show t.2.1.toNat=Y;omega
     rw [en,<-hsnoc]at hst;have ev2:(mv t).2.2=rv t.2.2:=rfl;rw [ev2]at hst;have z4:=kad (rv c) Y;have z5:Y*(rz (rv c)+2)<=24*(rz (rv c)+2):=Nat.mul_le_mul_right _ (by omega)
     have z6:=qc (rv t.2.2) (pw (rv c) Y);have bY:=bF X;obtain⟨v,hv⟩:∃v,fxB true (rv c) X ((p.take k).map mv)=v:=⟨_,rfl⟩;rw [hv]at hg hst bY;obtain⟨F,hF⟩:∃F,(fixL true (rv c) ((p.take k).map mv)).map rcan=F:=⟨_,rfl⟩;rw [hF]at hg lF;simp only [go_sem,hlt,ht,hp,hm,ha,mC,hX,hY,e1,Wb,rQ,hF,hg,jac,lF,Int.toNat_natCast,Nat.zero_add];repeat first | refine Ja (by omega) ?_ | refine Ja (by assumption) ?_ | refine Ja rfl ?_ | refine Ja ⟨rfl,by omega⟩ ?_ | refine Ja ⟨rfl,by omega,by omega⟩ ?_ | intro _
     refine⟨k+1,?_,by omega,by omega⟩
     rw [<-hst,List.map_set,hF];exact Qa (by simp [okS,okV,okC,okL,okH,okB,okE,ja,Va,qa,ka,wsA,ws,msA,ms]) ⟨ZA,WQ (by rw [kbo]),trivial⟩
   .have ek:p.take k=p:=List.take_of_length_le (by omega)
    rw [ek]at bF lF ⊢;have hFv:((fixL b (rv c) (p.map mv)).map rcan).map rv=fixL b (rv c) (p.map mv):=by
     rw [List.map_map];have:rv ∘ rcan=id:=funext λx=>Wb x;rw [this,List.map_id]
    have oF:okRs 4000000000 ((fixL b (rv c) (p.map mv)).map rcan):=λx hx=>by
     obtain⟨y,hy,rfl⟩:=List.mem_map.1 hx;unfold fixL at hy;obtain⟨j,hj,rfl⟩:=List.mem_map.1 hy;exact⟨Qj _,Nat.le_trans (bF j) (by decide)⟩
    have wF:∀x∈(fixL b (rv c) (p.map mv)).map rcan,WLR x:=λx hx=>(oF x hx).1;obtain⟨F,hF⟩:∃F,(fixL b (rv c) (p.map mv)).map rcan=F:=⟨_,rfl⟩;rw [hF]at hFv oF wF lF;have ht:(F.map rC).take 25=F.map rC:=List.take_of_length_le (by rw [List.length_map,lF];exact Nat.le_refl _)
    simp only [go_sem,hlt,htr,hF,List.length_map,lF,ht,hFv];exact⟨wF,oF,hK⟩
set_option maxHeartbeats 1000000 in
theorem yaE(hΓ:Holds P Γ){f fk fv fb fx tE:Nat}(hk:Γ fk=.dat false (uz tE))(hv:Γ fv=.dat true kd)(hb:Γ fb=.dat false qA)(hx:Γ fx=.dat false (ZF tE))(hc:check P f=some (42,(ye fk fv fb fx tE).strip,[.tmp 4,.tmp 5])):Sound P f (.dat false (qE tE)):=by
 refine Wa hc (WaQ tE) hΓ (λargs K hcl hfi hG=>?_);match args,hG with
 | [a,b],hG=>
  obtain⟨l,rfl,hw,x,rfl,wx,hl,lx,hK⟩:=hG;refine⟨by simp,?_⟩
  have hl2:=Vi hl (by decide:1000<=100000000)
  have lx2:rl x<=4294967296:=Nat.le_trans lx (by decide)
  have e0:=ub tE;by_cases f0:fourC l=0
  case neg=>
   have ec:aloC l x=fourC l:=if_pos f0;have e1:=vc tE f0;rw [ec,if_neg f0,e1]at hK;simp only [go_sem,ye,hk,rA,e1];repeat first | refine Ja (by omega) ?_ | refine Ja (by assumption) ?_ | refine Ja rfl ?_ | refine Ja ⟨rfl,by omega⟩ ?_ | refine Ja ⟨rfl,by omega,by omega⟩ ?_ | intro _
   exact hK
  cases hvx:vldR x with
  | false=>
   have ec:aloC l x=2:=by unfold aloC;rw [if_neg (by omega),if_pos hvx]
   rw [ec,if_neg (by decide),vc tE (by decide)]at hK
   simp only [go_sem,ye,hk,hv,rA,f0,e0,hvx];repeat first | refine Ja (by omega) ?_ | refine Ja (by assumption) ?_ | refine Ja rfl ?_ | refine Ja ⟨rfl,by omega⟩ ?_ | refine Ja ⟨rfl,by omega,by omega⟩ ?_ | intro _
   exact hK
  | true=>
   have ec:aloC l x=0:=by unfold aloC;rw [if_neg (by omega),if_neg (by simp [hvx])]
   rw [ec,if_pos rfl,e0]at hK;obtain⟨pc,hev⟩:=JL hl f0;have cc:=qB pc.canon;have i0:=Uy pc.canon.ins;have i1:=uD (p:=bcL l) (N:=1000000000) (Nat.le_trans pc.size (by decide))
   have i2:=Nat.le_trans pc.size (by decide:_<=100000000)
   have hz:∀i,4<=i->(fixL false (rv x) (bcL l)).getD i 0=0:=λi hi=>by
    by_cases h25:i<25
    .have hf:=vbH hl f0 (rv x) hi;unfold fixL;rw [List.getD_eq_getElem?_getD,List.getElem?_map,List.getElem?_range h25];exact hf
    .rw [List.getD_eq_getElem?_getD,List.getElem?_eq_none (by rw [wak];omega)];rfl
   have hle:=VaS hz;obtain⟨n,n1,n2,n3⟩:=Zbx (fixL false (rv x) (bcL l));have hn4:n<=4:=by
    rw [n2,List.length_take]at hle;omega
   have hrow:=vbf (wak false (rv x) (bcL l)) hn4 n3;have hA:[rcan ((fixL false (rv x) (bcL l)).getD 0 0),rcan ((fixL false (rv x) (bcL l)).getD 1 0),rcan ((fixL false (rv x) (bcL l)).getD 2 0),rcan ((fixL false (rv x) (bcL l)).getD 3 0)]=(aloL l (rv x)).map rcan:=rfl;rw [hA]at hrow;rw [<-hrow]at hK;obtain⟨T,hT⟩:∃T,((fixL false (rv x) (bcL l)).take n).map rcan=T:=⟨_,rfl⟩;have lT:T.length=n:=by rw [<-hT,List.length_map,List.length_take];omega
   rw [hT]at hK;simp only [go_sem,ye,hk,hv,hb,hx,rA,f0,e0,hvx,jB,cc,n2,hT,List.length_map,lT];repeat first | refine Ja (by omega) ?_ | refine Ja (by assumption) ?_ | refine Ja rfl ?_ | refine Ja ⟨rfl,by omega⟩ ?_ | refine Ja ⟨rfl,by omega,by omega⟩ ?_ | intro _
   have hN:nrmR (T.map rC++List.drop n (List.replicate 4 [.lit (.bool false),.emp,.emp]))=(T++List.replicate (4-n) (rcan 0)).map rC:=by
    rw [xbs,XbK,List.drop_replicate,Ja9,<-List.map_append]
   have h4:(T++List.replicate (4-n) (rcan 0)).length=4:=by rw [List.length_append,lT,List.length_replicate];omega
   have ht:((T++List.replicate (4-n) (rcan 0)).map rC).take 4=(T++List.replicate (4-n) (rcan 0)).map rC:=List.take_of_length_le (by rw [List.length_map,h4];exact Nat.le_refl _)
   refine⟨⟨hn4,by rw [List.length_replicate];exact Nat.le_refl _⟩,?_⟩
   rw [hN,ht,if_pos (by rw [List.length_map,h4];exact Nat.le_refl _),kt _ (of_eq_true (qG _))]
   exact hK
end Go.Abs
end
section
namespace Go.Abs
open Go.Num
variable {P:Program} {Γ:Nat->Spec}
def zbp(l:List AV)(K:AV->Prop):Prop:=
 match l with
 | [a,b]=>onPs (λl=>onA (λm=>okPs 1000 l/\al m<=10000/\fourC l=0/\avld m=true/\K (.tup [dqA (dyR l m),.one (.lit (.int .i64 (dyC l m:Nat)))])) b) a
 | _=>False
theorem zbm a b K:zbp [a,b] K=(onPs (λl=>onA (λm=>okPs 1000 l/\al m<=10000/\fourC l=0/\avld m=true/\K (.tup [dqA (dyR l m),.one (.lit (.int .i64 (dyC l m:Nat)))])) b) a):=propext Iff.rfl
@[congr] theorem ub3{K}{l l'}(h:l=l'):zbp l K=zbp l' K:=by subst h;rfl
attribute [go_sem,go_sem ↓] zbm
end Go.Abs
end
section
namespace Go.Num
open Go.Abs
end Go.Num
namespace Go.Abs
open Go.Num
variable {P:Program} {Γ:Nat->Spec}
def wL(l:List AV)(K:AV->Prop):Prop:=
 match l with
 | [a,b]=>onPs (λl=>onA (λm=>okPs 1048576 l/\al m<=1048576/\K (.one (.lit (.bool true)))) b) a
 | _=>False
theorem kR a b K:wL [a,b] K=(onPs (λl=>onA (λm=>okPs 1048576 l/\al m<=1048576/\K (.one (.lit (.bool true)))) b) a):=propext Iff.rfl
@[congr] theorem jbz{K}{l l'}(h:l=l'):wL l K=wL l' K:=by subst h;rfl
attribute [go_sem,go_sem ↓] kR
end Go.Abs
end
section
namespace Go.Num
open Go.Abs
theorem Ja8{l:List Ps}{g:Gd}(hw:WLG g)(hl:gl g<=1000){j:Nat}(hj:j<=16):∀{n:Nat},n<=17->∀x∈hit l g j n,zq x<=10000
 | 0,_,x,hx=>by simp [hit]at hx
 | n+1,hn,x,hx=>by
  simp only [hit]at hx;split at hx
  .rcases List.mem_append.1 hx with h | h
   .exact Ja8 hw hl hj (by omega) x h
   .rw [List.mem_singleton.1 h];exact Xbs hw hl (by omega) hj
  .exact Ja8 hw hl hj (by omega) x hx
theorem waQ{l:List Ps}{g:Gd}(hw:WLG g)(hl:gl g<=1000)(h16:g.2.2.1<=16):∀{n:Nat},n<=17->∀x∈hits l g n,zq x<=10000
 | 0,_,x,hx=>by simp [hits]at hx
 | n+1,hn,x,hx=>by
  simp only [hits]at hx;rcases List.mem_append.1 hx with h | h
  .exact waQ hw hl h16 (by omega) x h
  .exact Ja8 hw hl (by omega) (by omega) x h
theorem qbw{l:List Ps}{g:Gd}(h:srC l g=0):fourC l=0/\gridC g=0:=by
 unfold srC at h;split at h
 .contradiction
 .exact⟨by omega,h⟩
theorem ubL{l:List Ps}{g:Gd}(hw:WLG g)(hl:gl g<=1000):∀x∈srL l g,zq x<=10000:=λx hx=>by
 unfold srL at hx;split at hx
 .rename_i h;obtain⟨_,_,_,n1,n16,r1,r16⟩:=Qai (qbw h).2;exact waQ hw hl n16 (by omega) x hx
 .simp at hx
theorem qbp(l:List Ps)(g:Gd):(srL l g).length<=256:=by
 unfold srL;split
 .rename_i h;obtain⟨_,_,_,n1,n16,r1,r16⟩:=Qai (qbw h).2;have:=yY (l:=l) n16 g.2.2.2.toNat;omega
 .simp
def sG(g:Gd):Bool:=[g.1,(g.2.1,rcan 0)].all sA
theorem VbV{g:Gd}(h:sG g=true):gl g<=2:=by
 unfold sG at h;simp only [List.all_cons,List.all_nil,Bool.and_true,Bool.and_eq_true]at h;obtain⟨h1,h2⟩:=h;have a1:=zaB h1;have a2:=(Nat.max_le.1 (zaB h2)).1;exact Nat.max_le.2 ⟨a1,a2⟩
end Go.Num
namespace Go.Abs
open Go.Num
variable {P:Program} {Γ:Nat->Spec}
def UA(l:List AV)(K:AV->Prop):Prop:=
 match l with
 | [a,b]=>onPs (λl=>onGd (λg=>okPs 1048576 l/\gl g<=1048576/\K (.one (.lit (.bool true)))) b) a
 | _=>False
theorem qF a b K:UA [a,b] K=(onPs (λl=>onGd (λg=>okPs 1048576 l/\gl g<=1048576/\K (.one (.lit (.bool true)))) b) a):=propext Iff.rfl
@[congr] theorem vbg{K}{l l'}(h:l=l'):UA l K=UA l' K:=by subst h;rfl
attribute [go_sem,go_sem ↓] qF
end Go.Abs
end
section
namespace Go.Num
open Go.Abs
theorem ka8{l:List Ps}{g:Gd}{j:Nat}{x:V2}:∀{n:Nat},x∈hit l g j n↔dtL l x=0/\∃i,i<n/\x=atQ g i j
 | 0=>⟨λh=>by simp [hit]at h,λ⟨_,i,hi,_⟩=>by omega⟩
 | n+1=>by
  have ih:=ka8 (l:=l) (g:=g) (j:=j) (x:=x) (n:=n);simp only [hit];by_cases h:dtL l (atQ g n j)=0
  .rw [if_pos h,List.mem_append,List.mem_singleton,ih];constructor
   .rintro(⟨h1,i,hi,rfl⟩ | rfl)
    .exact⟨h1,i,by omega,rfl⟩
    .exact⟨h,n,by omega,rfl⟩
   .rintro⟨h1,i,hi,rfl⟩;by_cases e:i=n
    .subst e;exact .inr rfl
    .exact .inl ⟨h1,i,by omega,rfl⟩
  .rw [if_neg h,ih];constructor
   .rintro⟨h1,i,hi,rfl⟩;exact⟨h1,i,by omega,rfl⟩
   .rintro⟨h1,i,hi,rfl⟩;by_cases e:i=n
    .subst e;exact absurd h1 h
    .exact⟨h1,i,by omega,rfl⟩
theorem uX{l:List Ps}{g:Gd}{x:V2}:∀{n:Nat},x∈hits l g n↔dtL l x=0/\∃i j,i<g.2.2.1.toNat/\j<n/\x=atQ g i j
 | 0=>⟨λh=>by simp [hits]at h,λ⟨_,i,j,_,hj,_⟩=>by omega⟩
 | n+1=>by
  have ih:=uX (l:=l) (g:=g) (x:=x) (n:=n);simp only [hits];rw [List.mem_append,ih,ka8];constructor
  .rintro(⟨h1,i,j,hi,hj,rfl⟩ | ⟨h1,i,hi,rfl⟩)
   .exact⟨h1,i,j,hi,by omega,rfl⟩
   .exact⟨h1,i,n,hi,by omega,rfl⟩
  .rintro⟨h1,i,j,hi,hj,rfl⟩;by_cases e:j=n
   .subst e;exact .inr ⟨h1,i,hi,rfl⟩
   .exact .inl ⟨h1,i,j,hi,by omega,rfl⟩
theorem Jbe{x y:V2}(h:acan x=acan y):x=y:=by
 have:=congrArg av h;simpa only [Qa6,QD] using this
theorem wbd{l:List Ps}{g:Gd}(h0:srC l g=0){i j:Nat}(hi:i<g.2.2.1.toNat)(hj:j<g.2.2.2.toNat) :
  ((srL l g).map acan).any (λq=>decide (q=acan (atQ g i j)))=decide (dtL l (atQ g i j)=0):=by
 rw [Bool.eq_iff_iff,List.any_eq_true,decide_eq_true_eq];have e:srL l g=hits l g g.2.2.2.toNat:=if_pos h0;rw [e];constructor
 .rintro⟨q,hq,h⟩;obtain⟨x,hx,rfl⟩:=List.mem_map.1 hq;have:=Jbe (of_decide_eq_true h);subst this;exact(uX.1 hx).1
 .intro h;exact⟨_,List.mem_map.2 ⟨_,uX.2 ⟨h,i,j,hi,hj,rfl⟩,rfl⟩,decide_eq_true rfl⟩
theorem wbe{α:Type}{f:α->Bool}{l:List α}{k:Nat}{x:α}(h:l[k]?=some x):(l.take (k+1)).any f=((l.take k).any f || f x):=by
 rw [List.take_add_one,h,List.any_append];simp
end Go.Num
namespace Go.Abs
open Go.Num
variable {P:Program} {Γ:Nat->Spec}
def u2A(x:U2):AV:=.agg (u2C x)
theorem Zbs(x y:U2)(h:u2A x=u2A y):x=y:=by
 simp only [u2A,u2C,AV.agg.injEq,List.cons.injEq,and_true,C.lit.injEq,Value.int.injEq,true_and]at h;exact Prod.ext (by omega) (by omega)
def onU2(k:U2->Prop)(a:AV):Prop:=onE u2A (λx=>okU2 x/\k x) a
@[congr] theorem xbS{k:U2->Prop}{a a'}(h:a=a'):onU2 k a=onU2 k a':=by subst h;rfl
theorem XbB{β:Type}{T:U2->(β->Prop)->Prop}(h:∀x,GoodT (T x)){a:AV}:GoodT λK=>onU2 (λx=>T x K) a:=
 JD (e:=u2A) (T:=λp K=>okU2 p/\T p K) Zbs λp=>GoodT.and (c:=okU2 p) (T:=T p) λ_=>h p
theorem jR(x:U2):u2A x=.agg [.lit (.int .u8 x.1),.lit (.int .u8 x.2)]:=eq_of_heq (HEq.refl _)
attribute [go_sem,go_sem ↓] jR
def xr(l:List AV)(K:AV->Prop):Prop:=
 match l with
 | [a,b,c]=>onP4 (λt=>onGd (λg=>onU2 (λx=>okPs 1048576 (l4 t)/\gl g<=1048576/\K (.one (.lit (.bool true)))) c) b) a
 | _=>False
theorem W2 a b c K:xr [a,b,c] K=(onP4 (λt=>onGd (λg=>onU2 (λx=>okPs 1048576 (l4 t)/\gl g<=1048576/\K (.one (.lit (.bool true)))) c) b) a):=propext Iff.rfl
@[congr] theorem QbB{K}{l l'}(h:l=l'):xr l K=xr l' K:=by subst h;rfl
attribute [go_sem,go_sem ↓] W2
theorem yak:Good xr:=Ya λas=>by
 unfold xr;split
 .exact(Vbh λ_=>(zbj λ_=>(XbB λ_=>(.and λ_=>(.and λ_=>(.ret _))))))
 .exact .of λK hk=>hk.elim
def Vb(f0 f1 f2 f3 f4 f5 f6 f7 f8 f9 f10 f11 f12:Nat):AC:=(.seq (.ops false [.u 3 (.box 40 (.t 0)),.u 4 (.box 11 (.t 1)),.u 5 (.box 2 (.t 2)),.m 6 .fa])
 (.fg [3,4,5] (.fz [3] (.seq (.seq (.ops false [.u 23 (.call f0 []),.u 24 (.un .not (.t 23)),.m 25 (.t 24),.w 26 25 false (.ld none 40 true (.t 3)),.w 27 25 false (.call f1 [(.t 26)]),.w 28 25 false (.un .not (.t 27)),.u 29 (.pick (.t 25) .tr (.t 28)),.m 30 (.t 29),.w 31 30 false (.fa 0 (.t 4)),.w 32 30 false (.ld none 6 true (.t 31)),.w 33 30 false (.fa 6 (.t 4)),.w 34 30 false (.ld none 3 true (.t 33)),.w 35 30 false (.build [.x 3 (.t 34),.z [(.lit (.bool false)),.emp,.emp]]),.w 36 30 false (.row 6 [[.x 6 (.t 32)],[.x 6 (.t 35)]]),.w 37 30 false (.call f2 [(.t 36)]),.w 38 30 false (.un .not (.t 37)),.u 39 (.pick (.t 30) .tr (.t 38))])
 (.fg [3,4,5,39] (.cond (.t 39) (.seq (.ops false [.u 40 (.call f0 []),.m 6 (.t 40)])
 .ret) .skip)))
 (.fg [3,4,5] (.seq (.ops true [.u 42 (.rsl 10 4 (.t 3)),.u 43 (.ld none 11 true (.t 4)),.u 44 (.call f3 [(.t 42),(.t 43)]),.m 41 (.t 44),.u 45 (.ext 0 (.t 41)),.u 46 (.ext 1 (.t 41)),.m 7 (.t 45),.m 8 (.t 46)])
 (.fg [3,4,5,7,8] (.seq (.seq (.ops false [.m 47 (.t 8),.u 48 (.binn .neq (.t 47) (.c (.one (.lit .nilIface))))])
 (.fg [3,4,5,7,48] (.cond (.t 48) (.seq (.ops false [.m 49 (.t 7),.u 50 (.len (.t 49)),.u 51 (.bin .eql (.t 50) (.i 0)),.m 6 (.t 51)])
 .ret) .skip)))
 (.fg [3,4,5,7] (.seq (.seq (.ops false [.u 52 (.fa 9 (.t 4)),.u 53 (.ld none 1 false (.t 52)),.u 54 (.bin .lss (.t 53) (.i 1)),.m 55 (.t 54),.w 56 55 false (.fa 10 (.t 4)),.w 57 55 false (.ld none 1 false (.t 56)),.w 58 55 false (.bin .lss (.t 57) (.i 1)),.u 59 (.pick (.t 55) .tr (.t 58))])
 (.fg [3,4,5,7,59] (.cond (.t 59) (.seq (.ops false [.m 6 .fa])
 .ret) .skip)))
 (.fg [3,4,5,7] (.seq (.ops true [.u 60 (.ai 1 2 (.t 5) (.i 0)),.u 61 (.ld none 1 false (.t 60)),.u 62 (.conv .i64 (.t 61)),.u 63 (.fa 9 (.t 4)),.u 64 (.ld none 1 false (.t 63)),.u 65 (.bin .rem (.t 62) (.t 64)),.u 66 (.ai 1 2 (.t 5) (.i 1)),.u 67 (.ld none 1 false (.t 66)),.u 68 (.conv .i64 (.t 67)),.u 69 (.fa 10 (.t 4)),.u 70 (.ld none 1 false (.t 69)),.u 71 (.bin .rem (.t 68) (.t 70)),.m 9 (.t 65),.m 10 (.t 71)])
 (.fg [3,4,7,9,10] (.seq (.ops true [.u 72 (.fa 0 (.t 4)),.u 73 (.fa 0 (.t 72)),.u 74 (.ld none 3 true (.t 73)),.m 75 (.t 9),.u 76 (.call f4 [(.t 75)]),.u 77 (.fa 6 (.t 4)),.u 78 (.ld none 3 true (.t 77)),.u 79 (.call f5 [(.t 76),(.t 78)]),.u 80 (.call f6 [(.t 74),(.t 79)]),.u 81 (.fa 0 (.t 4)),.u 82 (.fa 3 (.t 81)),.u 83 (.ld none 3 true (.t 82)),.m 84 (.t 10),.u 85 (.call f4 [(.t 84)]),.u 86 (.fa 6 (.t 4)),.u 87 (.ld none 3 true (.t 86)),.u 88 (.call f5 [(.t 85),(.t 87)]),.u 89 (.call f6 [(.t 83),(.t 88)]),.u 90 (.build [.x 3 (.t 80),.x 3 (.t 89)]),.u 11 (.alloc [(.lit (.bool false)),.emp,.emp,(.lit (.bool false)),.emp,.emp]),.n (.st none 6 (.t 11) (.t 90))])
 (.fg [3,7,11] (.seq (.ops false [.m 12 .fa])
 (.fg [3,7,11,12] (.seq (.seq (.ops false [.m 91 (.t 7),.u 92 (.len (.t 91)),.m 93 (.i 0)])
 (.fg [3,11,12,91,92,93] (.block 0 (.loop (.seq (.ops false [.u 94 (.bin .lss (.t 93) (.t 92))])
 (.fg [3,11,12,91,92,93,94] (.seq (.cond (.t 94) .skip (.exit 0))
 (.fg [3,11,12,91,92,93] (.seq (.block 1 (.seq (.ops false [.u 95 (.idx 6 (.t 91) (.t 93)),.u 96 (.ld none 6 true (.t 95)),.u 14 (.alloc [(.lit (.bool false)),.emp,.emp,(.lit (.bool false)),.emp,.emp]),.n (.st none 6 (.t 14) (.t 96))])
 (.fg [3,11,12,14,91,92,93] (.ops false [.m 97 (.t 12),.m 98 (.t 97),.w 99 98 false (.ld none 6 true (.t 14)),.w 100 98 false (.ld none 6 true (.t 11)),.w 101 98 false (.call f7 [(.t 99),(.t 100)]),.u 102 (.pick (.t 98) .tr (.t 101)),.m 12 (.t 102)]))))
 (.fg [3,11,12,91,92,93] (.ops false [.u 103 (.bin .add (.t 93) (.i 1)),.m 93 (.t 103)])))))))))))
 (.fg [3,11,12] (.seq (.ops true [.u 105 (.rsl 10 4 (.t 3)),.u 106 (.ld none 6 true (.t 11)),.u 107 (.call f8 [(.t 105),(.t 106)]),.m 104 (.t 107),.u 108 (.ext 0 (.t 104)),.u 109 (.ext 1 (.t 104)),.m 15 (.t 108),.m 16 (.t 109)])
 (.fg [3,11,12,15,16] (.seq (.ops true [.u 111 (.rsl 10 4 (.t 3)),.u 112 (.fa 0 (.t 11)),.u 113 (.ld none 3 true (.t 112)),.u 114 (.call f9 [(.t 111),(.t 113)]),.m 110 (.t 114),.u 115 (.ext 0 (.t 110)),.u 116 (.ext 1 (.t 110)),.m 17 (.t 115),.m 18 (.t 116)])
 (.fg [3,11,12,15,16,17,18] (.seq (.seq (.ops false [.m 117 (.t 16),.u 118 (.binn .neq (.t 117) (.c (.one (.lit .nilIface)))),.m 119 (.t 118),.w 120 119 false (.mv (.t 18)),.w 121 119 false (.binn .neq (.t 120) (.c (.one (.lit .nilIface)))),.u 122 (.pick (.t 119) .tr (.t 121)),.m 123 (.t 122),.w 124 123 false (.mv (.t 17)),.w 125 123 false (.len (.t 124)),.w 126 123 false (.bin .neq (.t 125) (.i 4)),.u 127 (.pick (.t 123) .tr (.t 126))])
 (.fg [3,11,12,15,17,127] (.cond (.t 127) (.seq (.ops false [.m 6 .fa])
 .ret) .skip)))
 (.fg [3,11,12,15,17] (.seq (.ops false [.u 128 (.build [.z [(.lit (.bool false)),.emp,.emp]]),.u 19 (.alloc [(.lit (.bool false)),.emp,.emp]),.n (.st none 3 (.t 19) (.t 128))])
 (.fg [3,11,12,15,17,19] (.seq (.seq (.ops false [.m 20 (.i 3)])
 (.fg [3,11,12,15,17,19,20] (.block 2 (.loop (.seq (.seq (.ops false [.m 129 (.t 20),.u 130 (.bin .geq (.t 129) (.i 0))])
 (.fg [3,11,12,15,17,19,20,130] (.cond (.t 130) .skip (.exit 2))))
 (.fg [3,11,12,15,17,19,20] (.seq (.block 3 (.ops true [.u 133 (.ld none 3 true (.t 19)),.u 134 (.fa 3 (.t 11)),.u 135 (.ld none 3 true (.t 134)),.u 136 (.call f5 [(.t 133),(.t 135)]),.m 137 (.t 17),.m 138 (.t 20),.u 139 (.idx 3 (.t 137) (.t 138)),.u 140 (.ld none 3 true (.t 139)),.u 141 (.call f6 [(.t 136),(.t 140)]),.n (.st none 3 (.t 19) (.t 141))]))
 (.fg [3,11,12,15,17,19,20] (.ops false [.m 131 (.t 20),.u 132 (.bin .sub (.t 131) (.i 1)),.m 20 (.t 132)])))))))))
 (.fg [3,11,12,15,19] (.seq (.ops false [.u 143 (.ai 10 4 (.t 3) (.i 0)),.u 144 (.ld none 10 true (.t 143)),.u 145 (.ld none 6 true (.t 11)),.u 146 (.call f10 [(.t 144),(.t 145)]),.m 142 (.t 146),.u 147 (.ext 0 (.t 142)),.u 148 (.ext 1 (.t 142)),.u 21 (.alloc [(.lit (.bool false)),.emp,.emp,(.lit (.bool false)),.emp,.emp]),.n (.st none 6 (.t 21) (.t 147)),.m 22 (.t 148)])
 (.fg [12,15,19,21,22] (.seq (.ops false [.m 149 (.t 22),.u 150 (.binn .eql (.t 149) (.c (.one (.lit .nilIface)))),.m 151 (.t 150),.w 152 151 true (.ld none 6 true (.t 21)),.w 153 151 true (.call f11 [(.t 152)]),.u 154 (.pick (.t 151) (.t 153) .fa),.m 155 (.t 154),.w 156 155 true (.mv (.t 12)),.w 157 155 true (.mv (.t 15)),.w 158 155 true (.binb .eql (.t 156) (.t 157)),.u 159 (.pick (.t 155) (.t 158) .fa),.m 160 (.t 159),.w 161 160 true (.mv (.t 15)),.w 162 160 true (.ld none 3 true (.t 19)),.w 163 160 true (.call f12 [(.t 162)]),.w 164 160 true (.bin .eql (.t 163) (.i 0)),.w 165 160 true (.binb .eql (.t 161) (.t 164)),.u 166 (.pick (.t 160) (.t 165) .fa),.m 6 (.t 166)])
 .ret))))))))))))))))))))))))))))))))
set_option maxHeartbeats 0 in
theorem Zad(hΓ:Holds P Γ){f fw f4 fs fo ff fm fa fe fn fl fp fv fg tE:Nat}(hw:Γ fw=.dat true xy)(h4:Γ f4=.dat true jz)(hs:Γ fs=.dat true jq)(ho:Γ fo=.dat false (yl tE))(hof:Γ ff=.dat false wB)(hm:Γ fm=.dat false vl)(ha:Γ fa=.dat false jl)(he:Γ fe=.dat true Jy)(hn:Γ fn=.dat false (vM tE))(hl:Γ fl=.dat false (qE tE))(hp:Γ fp=.dat false (yC tE))(hv:Γ fv=.dat true Qe)(hg:Γ fg=.dat true qg)(hc:check P f=some (167,(Vb fw f4 fs fo ff fm fa fe fn fl fp fv fg).strip,[.tmp 6])):Sound P f (.dat true xr):=by
 refine Wa hc yak hΓ (λargs K hcl hfi hG=>?_);match args,hG with
 | [a,b,c],hG=>
  obtain⟨t,rfl,hwt,g,rfl,hwg,x,rfl,hx,hok,hgl,hK⟩:=hG;refine⟨by simp,?_⟩
  have hwl:=ybF hwt;obtain⟨k1,k2⟩:=Nat.max_le.1 hgl;have wA:=hwg.1;have wR:=hwg.2.1;have w0:WLA (g.2.1,rcan 0):=⟨wR,Qj _⟩;have ws2:∀t∈[g.1,(g.2.1,rcan 0)],WLA t:=λt ht=>by
   simp only [List.mem_cons,List.not_mem_nil,or_false]at ht;rcases ht with rfl | rfl
   .exact wA
   .exact w0
  have o0:al (g.2.1,rcan 0)<=4294967296:=Nat.max_le.2 ⟨Nat.le_trans k2 (by decide),Nat.le_trans (Nat.le_of_eq rz_0) (by decide)⟩
  have om1:okAs 4294967296 [g.1,(g.2.1,rcan 0)]:=λz hz=>⟨ws2 z hz,by
   simp only [List.mem_cons,List.not_mem_nil,or_false]at hz;rcases hz with rfl | rfl
   .exact Nat.le_trans k1 (by decide)
   .exact o0⟩
  cases hsl:((l4 t).all pvld && (decide ((l4 t).length<=20) && (l4 t).all sP)) with
  | false=>
   simp only [go_sem,Vb,hw,h4,hsl,Jp,jR,Qb];repeat first | refine Ja (by omega) ?_ | refine Ja (by assumption) ?_ | refine Ja rfl ?_ | refine Ja ⟨rfl,by omega⟩ ?_ | refine Ja ⟨rfl,by omega,by omega⟩ ?_ | intro _
   exact hK
  | true=>
  cases hsm:sG g with
  | false=>
   have hsm' : List.all [g.1,(g.2.1,rcan 0)] sA=false:=hsm;simp only [go_sem,Vb,hw,h4,hs,hsl,Jp,jR,Qb,hsm',dR_0,dR_e];repeat first | refine Ja (by omega) ?_ | refine Ja (by assumption) ?_ | refine Ja rfl ?_ | refine Ja ⟨rfl,by omega⟩ ?_ | refine Ja ⟨rfl,by omega,by omega⟩ ?_ | intro _
   exact hK
  | true=>
   have hsm' : List.all [g.1,(g.2.1,rcan 0)] sA=true:=hsm;have hsl2:=hsl;simp only [Bool.and_eq_true,decide_eq_true_eq]at hsl2;obtain⟨hvl,_,hsP⟩:=hsl2;have o2l:=jbg hwl hsP;have ok2:=Vi o2l (by decide:2<=1000)
   have g2:gl g<=1000:=Nat.le_trans (VbV hsm) (by decide)
   have e0:=ub tE;obtain⟨f0,p0'⟩:=wbt hvl;by_cases h0:srC (l4 t) g=0
   case neg=>
    have hL:srL (l4 t) g=[]:=qaK h0;have es:=vc tE h0;simp only [go_sem,Vb,hw,h4,hs,ho,hsl,Jp,jR,Qb,hsm',dR_0,dR_e,hL,es,List.map_nil];repeat first | refine Ja (by omega) ?_ | refine Ja (by assumption) ?_ | refine Ja rfl ?_ | refine Ja ⟨rfl,by omega⟩ ?_ | refine Ja ⟨rfl,by omega,by omega⟩ ?_ | intro _
    exact hK
   obtain⟨_,g0⟩:=qbw h0;obtain⟨va,vr,_,n1,n16,r1,r16⟩:=Qai g0;have bL:=ubL (l:=l4 t) hwg g2;have lL:=qbp (l4 t) g;obtain⟨I,hI⟩:=Int.eq_ofNat_of_zero_le (Int.emod_nonneg (x.1:Int) (by omega:g.2.2.1≠0))
   obtain⟨J,hJ⟩:=Int.eq_ofNat_of_zero_le (Int.emod_nonneg (x.2:Int) (by omega:g.2.2.2≠0))
   have hI2:=Int.emod_lt_of_pos (x.1:Int) (by omega:0<g.2.2.1)
   have hJ2:=Int.emod_lt_of_pos (x.2:Int) (by omega:0<g.2.2.2)
   rw [hI]at hI2;rw [hJ]at hJ2;have i16:I<=16:=by omega
   have j16:J<=16:=by omega
   have hfd:=wbd h0 (i:=I) (j:=J) (by omega) (by omega)
   have bQ:=Xbs hwg g2 i16 j16;have wx:=wA.1;have wy:=wA.2;obtain⟨l1,l2⟩:=Nat.max_le.1 g2;have lx:=Nat.le_trans (Nat.max_le.1 l1).1 (by decide:1000<=1073741824)
   have ly:=Nat.le_trans (Nat.max_le.1 l1).2 (by decide:1000<=1073741824)
   have lz:=Nat.le_trans l2 (by decide:1000<=1073741824)
   have m1:rz (((I:Int):Rat)*rv g.2.1)<=10000:=by have:=qc ((I:Int):Rat) (rv g.2.1);have:=Jg wR;have:=yz i16;omega
   have m2:rz (((J:Int):Rat)*rv g.2.1)<=10000:=by have:=qc ((J:Int):Rat) (rv g.2.1);have:=Jg wR;have:=yz j16;omega
   have q1:=yz i16;have q2:=yz j16;obtain⟨Q,hQ⟩:∃Q,atQ g I J=Q:=⟨_,rfl⟩;have eQ1:rv g.1.1+((I:Int):Rat)*rv g.2.1=Q.1:=by rw [<-hQ];rfl
   have eQ2:rv g.1.2+((J:Int):Rat)*rv g.2.1=Q.2:=by rw [<-hQ];rfl
   rw [hQ]at bQ hfd;rw [Qa6]at hfd;obtain⟨b1,b2⟩:=Nat.max_le.1 bQ;have wQ:=qy Q;have lQ:al (rcan Q.1,rcan Q.2)<=10000:=bQ;have rd:rz (dtL (l4 t) Q)<=4294967296:=XbJ ok2 f0 bQ;have vQ:avld (rcan Q.1,rcan Q.2)=true:=vas Q;have oc:onC (l4 t) (rcan Q.1,rcan Q.2)=0:=Xbx f0 vQ;have ac:aloC (l4 t) (rcan Q.1)=0:=by unfold aloC;rw [if_neg (by omega),if_neg (by simp [Jm])]
   have hv4:=qbK ok2 f0 Q.1 Q.2;have e2:dtL (l4 t) (Q.1,Q.2)=dtL (l4 t) Q:=rfl;rw [e2]at hv4;have pb:=Xai ok2 f0;have fxb:∀k,rz (fxB false Q.1 k (bcL (l4 t)))<=100000000:=λk=>by
    have w1:=Qbu false Q.1 k pb.canon.ins;have w2:=jN pb.canon;have w3:=pb.size;have w4:=Nat.mul_le_mul w2 (show 24*(rz Q.1+2)+8<=24*10002+8 by omega)
    omega
   obtain⟨A0,hA0⟩:∃y,fxB false Q.1 0 (bcL (l4 t))=y:=⟨_,rfl⟩;obtain⟨A1,hA1⟩:∃y,fxB false Q.1 1 (bcL (l4 t))=y:=⟨_,rfl⟩;obtain⟨A2,hA2⟩:∃y,fxB false Q.1 2 (bcL (l4 t))=y:=⟨_,rfl⟩;obtain⟨A3,hA3⟩:∃y,fxB false Q.1 3 (bcL (l4 t))=y:=⟨_,rfl⟩;have f3:=fxb 3;have f2:=fxb 2;have f1:=fxb 1;have f00:=fxb 0;rw [hA0]at f00;rw [hA1]at f1;rw [hA2]at f2;rw [hA3]at f3;have hAl:((aloL (l4 t) Q.1).map rcan).map rC=[[cb (rcan A0),cn (rcan A0),cd (rcan A0)],[cb (rcan A1),cn (rcan A1),cd (rcan A1)],[cb (rcan A2),cn (rcan A2),cd (rcan A2)],[cb (rcan A3),cn (rcan A3),cd (rcan A3)]]:=by
    unfold aloL;rw [hA0,hA1,hA2,hA3];rfl
   rw [hA0,hA1,hA2,hA3]at hv4;have z1:rz (A3*Q.2)<=200000000:=by have:=qc A3 Q.2;omega
   obtain⟨V2',hV2⟩:∃v,A3*Q.2+A2=v:=⟨_,rfl⟩;have y2:rz V2'<=400000000:=by rw [<-hV2];have:=Ql (A3*Q.2) A2;omega
   have z2:rz (V2' * Q.2)<=500000000:=by have:=qc V2' Q.2;omega
   obtain⟨V3',hV3⟩:∃v,V2' * Q.2+A1=v:=⟨_,rfl⟩;have y3:rz V3'<=800000000:=by rw [<-hV3];have:=Ql (V2' * Q.2) A1;omega
   have z3:rz (V3' * Q.2)<=900000000:=by have:=qc V3' Q.2;omega
   obtain⟨D,hD⟩:∃D,dtL (l4 t) Q=D:=⟨_,rfl⟩;rw [hV2,hV3,hD]at hv4;have hV4:V3' * Q.2+A0=D:=hv4.symm;rw [hD]at rd hfd;obtain⟨M,hM⟩:∃M,(srL (l4 t) g).map acan=M:=⟨_,rfl⟩;have lM:M.length<=256:=by rw [<-hM,List.length_map];exact lL
   have bM:∀x∈M,WLA x/\al x<=4294967296:=λx hx=>by
    rw [<-hM]at hx;obtain⟨y,hy,rfl⟩:=List.mem_map.1 hx;exact⟨qy y,Nat.le_trans (bL y hy) (by decide)⟩
   rw [hM]at hfd;have lt1:(g.2.2.1<1)=False:=eq_false (by omega)
   have lt2:(g.2.2.2<1)=False:=eq_false (by omega)
   have d0' : decide ((0:Nat)=0)=true:=rfl;have x1:=hx.1;have x2:=hx.2;have wp:=(o2l t.1 (by simp [l4])).1
   have lp:=Nat.le_trans (o2l t.1 (by simp [l4])).2 (by decide:2<=1000000)
   have kp:aok t.1 (rcan Q.1,rcan Q.2)=true:=by unfold aok;rw [List.all_eq_true.1 hvl t.1 (by simp [l4]),vQ];rfl
   have zI:al (rcan (appQ (pv t.1) Q).1,rcan (appQ (pv t.1) Q).2)<=100000000:=by
    obtain⟨y1,y2⟩:=Vt wp (Nat.le_trans (o2l t.1 (by simp [l4])).2 (by decide:2<=1000))
    have:=Wbj (pv t.1) Q;have e:al (rcan (appQ (pv t.1) Q).1,rcan (appQ (pv t.1) Q).2)=zq (appQ (pv t.1) Q):=rfl;omega
   have vI:avld (rcan (appQ (pv t.1) Q).1,rcan (appQ (pv t.1) Q).2)=true:=vas _;simp only [go_sem,Vb,hw,h4,hs,ho,hof,hm,ha,hsl,Jp,jR,Qb,hsm',dR_0,dR_e,h0,e0,hM,lt1,lt2,decide_false,hI,hJ,eQ1,eQ2,Wb];repeat first | refine Ja (by omega) ?_ | refine Ja (by assumption) ?_ | refine Ja rfl ?_ | refine Ja ⟨rfl,by omega⟩ ?_ | refine Ja ⟨rfl,by omega,by omega⟩ ?_ | intro _
   have cQ:CleanR [[cb (rcan Q.1),cn (rcan Q.1),cd (rcan Q.1),cb (rcan Q.2),cn (rcan Q.2),cd (rcan Q.2)]]:=cleanA1 (rcan Q.1,rcan Q.2);refine Xa (λk:Nat=>⟨mkV [(3,.one (.ref (p4C t))),(11,.one (.ptr 11 1 0 0)),(12,.one (.lit (.bool ((M.take k).any λq=>decide (q=(rcan Q.1,rcan Q.2)))))),(91,.one (.slice (M.map aC))),(92,.one (.lit (.int .i64 (M.length:Nat)))),(93,.one (.lit (.int .i64 k)))],mkH [(11,⟨1,some ⟨[[cb (rcan Q.1),cn (rcan Q.1),cd (rcan Q.1),cb (rcan Q.2),cn (rcan Q.2),cd (rcan Q.2)]],6,true⟩⟩)]⟩) (λk=>k<=M.length) (λk=>M.length-k) 0 ?_ ?_ ?_
   .exact Qa (by simp [okS,okV,okC,okL,okH,okB,okE,ja,Va,qa,ka,wsA,ws]) ⟨uu cQ,trivial⟩
   .exact Nat.zero_le _
   .intro k hk;by_cases hlt:k<M.length
    .obtain⟨p,hpp⟩:∃p,M.getD k a0=p:=⟨_,rfl⟩;have hp0:=Xu hlt hpp;obtain⟨hp1,hp2⟩:=bM p (List.mem_of_getElem? hp0);have hsn:=wbe (f:=λq=>decide (q=(rcan Q.1,rcan Q.2))) hp0;cases hb:(M.take k).any λq=>decide (q=(rcan Q.1,rcan Q.2)) with
     | true=>
      rw [hb,Bool.true_or]at hsn;simp only [go_sem,hlt,hpp,Wc,Qb,hb];repeat first | refine Ja (by omega) ?_ | refine Ja (by assumption) ?_ | refine Ja rfl ?_ | refine Ja ⟨rfl,by omega⟩ ?_ | refine Ja ⟨rfl,by omega,by omega⟩ ?_ | intro _
      refine⟨k+1,?_,by omega,by omega⟩
      rw [hsn];exact Qa (by simp [okS,okV,okC,okL,okH,okB,okE,ja,Va,qa,ka,wsA,ws]) ⟨uu cQ,trivial⟩
     | false=>
      rw [hb,Bool.false_or]at hsn;simp only [go_sem,hlt,hpp,Wc,Qb,hb,he];repeat first | refine Ja (by omega) ?_ | refine Ja (by assumption) ?_ | refine Ja rfl ?_ | refine Ja ⟨rfl,by omega⟩ ?_ | refine Ja ⟨rfl,by omega,by omega⟩ ?_ | intro _
      refine⟨k+1,?_,by omega,by omega⟩
      rw [hsn];exact Qa (by simp [okS,okV,okC,okL,okH,okB,okE,ja,Va,qa,ka,wsA,ws]) ⟨uu cQ,trivial⟩
    .have ek:M.take k=M:=List.take_of_length_le (by omega)
     rw [ek,hfd];simp only [go_sem,hlt,hn,hl,UI,Wc,Qb,oc,ac,e0,d0',Bool.true_and,QD,hD,Wb,hAl];repeat first | refine Ja (by omega) ?_ | refine Ja (by assumption) ?_ | refine Ja rfl ?_ | refine Ja ⟨rfl,by omega⟩ ?_ | refine Ja ⟨rfl,by omega,by omega⟩ ?_ | intro _
     refine⟨λ_=>?_,λh=>absurd rfl h⟩;refine QH 4 [3,11,12,15,17,19,20] [11,19] (by simp [go_sem]) ?_
     iterate 4
      simp only [go_sem,Int.reduceSub,Int.reduceNeg,Int.reduceLE,ge_iff_le,decide_true,decide_false,hm,ha,Wc,Qb,Wb,Rat.zero_mul,Rat.zero_add,hV2,hV3,hV4];repeat first | refine Ja (by with_reducible assumption) ?_ | refine Ja (Nat.le_trans (by with_reducible assumption) (by decide)) ?_ | refine Ja (by decide) ?_
      refine yy [3,11,12,15,17,19,20] [11,19] (by simp [go_sem]) ?_
     have e9:errV tE (if aok t.1 (rcan Q.1,rcan Q.2)=true then 0 else 2)=.one (.lit .nilIface):=by rw [kp,if_pos rfl];exact e0
     have e7:(if aok t.1 (rcan Q.1,rcan Q.2)=true then appQ (pv t.1) Q else (0,0))=appQ (pv t.1) Q:=if_pos kp
     have hp41:(p4C t).take 10=pC t.1:=WbK t 0 (by decide)
     have lQ6:=Nat.le_trans lQ (by decide:10000<=1000000)
     have wI:=qy (appQ (pv t.1) Q);simp only [go_sem,Int.reduceSub,Int.reduceNeg,Int.reduceLE,ge_iff_le,decide_true,decide_false,hp,hv,hg,Wc,Qb,QD,Wb,e9,e7,hp41,vI,Jn,xo,beq_self_eq_true];repeat first | refine Ja (by omega) ?_ | refine Ja (by assumption) ?_ | refine Ja rfl ?_ | refine Ja ⟨rfl,by omega⟩ ?_ | refine Ja ⟨rfl,by omega,by omega⟩ ?_ | intro _
     exact hK
end Go.Abs
end
section
namespace Go.Num
open Go.Abs
end Go.Num
namespace Go.Abs
open Go.Num
variable {P:Program} {Γ:Nat->Spec}
def kJ(l:List AV)(K:AV->Prop):Prop:=
 match l with
 | [c,p]=>onCp (λc=>onA (λp=>cl c<=1048576/\al p<=1048576/\K (.one (.lit (.bool true)))) p) c
 | _=>False
theorem WT c p K:kJ [c,p] K=(onCp (λc=>onA (λp=>cl c<=1048576/\al p<=1048576/\K (.one (.lit (.bool true)))) p) c):=propext Iff.rfl
@[congr] theorem kbz{K}{l l'}(h:l=l'):kJ l K=kJ l' K:=by subst h;rfl
attribute [go_sem,go_sem ↓] WT
end Go.Abs
end
section
namespace Go.Num
open Go.Abs
def clsC(c:Cp)(a b:Arc):Cp:=(c.1,c.2.1,rcan (sqQ (subQ (av a) (av c.1))),rcan (sqQ (subQ (av b) (av a))),rcan (sqQ (subQ (av b) (av c.2.1))),c.2.2.2.2.2.1,c.2.2.2.2.2.2)
end Go.Num
namespace Go.Abs
open Go.Num
variable {P:Program} {Γ:Nat->Spec}
def qa9(l:List AV)(K:AV->Prop):Prop:=
 match l with
 | [c]=>onCp (λc=>cl c<=100000000/\K (.one (.lit (.int .i64 (cchk c:Nat))))) c
 | _=>False
theorem vaO c K:qa9 [c] K=(onCp (λc=>cl c<=100000000/\K (.one (.lit (.int .i64 (cchk c:Nat))))) c):=propext Iff.rfl
@[congr] theorem XbU{K}{l l'}(h:l=l'):qa9 l K=qa9 l' K:=by subst h;rfl
attribute [go_sem,go_sem ↓] vaO
def qaP(l:List AV)(K:AV->Prop):Prop:=
 match l with
 | [c,a,b]=>onCp (λc=>onA (λa=>onA (λb=>cl c<=10000/\al a<=10000/\al b<=10000/\K (.tup [cpA (clsC c a b),.one (.lit (.bool (decide (cchk (clsC c a b)=0))))])) b) a) c
 | _=>False
theorem vaT c a b K:qaP [c,a,b] K=(onCp (λc=>onA (λa=>onA (λb=>cl c<=10000/\al a<=10000/\al b<=10000/\K (.tup [cpA (clsC c a b),.one (.lit (.bool (decide (cchk (clsC c a b)=0))))])) b) a) c):=propext Iff.rfl
@[congr] theorem qbY{K}{l l'}(h:l=l'):qaP l K=qaP l' K:=by subst h;rfl
attribute [go_sem,go_sem ↓] vaT
end Go.Abs
end
section
namespace Go.Num
open Go.Abs
def riC(c:Cp)(p:Arc):Nat:=if wV (cpv c) (av p)≠0 then 21 else if wM (cpv c) (av p)=0 then 15 else 0
def reQ(c:CpR):V2:=subQ (1,0) (cW c)
end Go.Num
namespace Go.Abs
open Go.Num
variable {P:Program} {Γ:Nat->Spec}
def kbt(l:List AV)(K:AV->Prop):Prop:=
 match l with
 | [c]=>onCp (λc=>K (aA (c.2.2.2.2.2.1,c.2.2.2.2.2.2))) c
 | _=>False
theorem Zbj c K:kbt [c] K=(onCp (λc=>K (aA (c.2.2.2.2.2.1,c.2.2.2.2.2.2))) c):=propext Iff.rfl
@[congr] theorem Yb2{K}{l l'}(h:l=l'):kbt l K=kbt l' K:=by subst h;rfl
attribute [go_sem,go_sem ↓] Zbj
def zaZ(l:List AV)(K:AV->Prop):Prop:=
 match l with
 | [c]=>onCp (λc=>cl c<=100000000/\K (pQ (reQ (cpv c)))) c
 | _=>False
theorem Qa0 c K:zaZ [c] K=(onCp (λc=>cl c<=100000000/\K (pQ (reQ (cpv c)))) c):=propext Iff.rfl
@[congr] theorem jbU{K}{l l'}(h:l=l'):zaZ l K=zaZ l' K:=by subst h;rfl
attribute [go_sem,go_sem ↓] Qa0
def Wa7(l:List AV)(K:AV->Prop):Prop:=
 match l with
 | [c,p]=>onCp (λc=>onA (λp=>cl c<=1000/\al p<=1000/\cchk c=0/\K (.tup [pQ (wN (cpv c) (av p)),rQ (wM (cpv c) (av p))])) p) c
 | _=>False
theorem waO c p K:Wa7 [c,p] K=(onCp (λc=>onA (λp=>cl c<=1000/\al p<=1000/\cchk c=0/\K (.tup [pQ (wN (cpv c) (av p)),rQ (wM (cpv c) (av p))])) p) c):=propext Iff.rfl
@[congr] theorem xb0{K}{l l'}(h:l=l'):Wa7 l K=Wa7 l' K:=by subst h;rfl
attribute [go_sem,go_sem ↓] waO
def jaP(l:List AV)(K:AV->Prop):Prop:=
 match l with
 | [c,p]=>onCp (λc=>onA (λp=>cl c<=1000/\al p<=1000/\cchk c=0/\K (rQ (wV (cpv c) (av p)))) p) c
 | _=>False
theorem VaX c p K:jaP [c,p] K=(onCp (λc=>onA (λp=>cl c<=1000/\al p<=1000/\cchk c=0/\K (rQ (wV (cpv c) (av p)))) p) c):=propext Iff.rfl
@[congr] theorem VbW{K}{l l'}(h:l=l'):jaP l K=jaP l' K:=by subst h;rfl
attribute [go_sem,go_sem ↓] VaX
def xa5(l:List AV)(K:AV->Prop):Prop:=
 match l with
 | [c,p]=>onCp (λc=>onA (λp=>cl c<=1000/\al p<=1000/\cchk c=0/\K (.tup [pQ (if riC c p=0 then endA (cpv c) (av p) (zL (cpv c) (av p)) else (0,0)),pQ (if riC c p=0 then endB (cpv c) (av p) (zL (cpv c) (av p)) else (0,0)),.one (.lit (.int .i64 (riC c p:Nat)))])) p) c
 | _=>False
theorem jaS c p K:xa5 [c,p] K=(onCp (λc=>onA (λp=>cl c<=1000/\al p<=1000/\cchk c=0/\K (.tup [pQ (if riC c p=0 then endA (cpv c) (av p) (zL (cpv c) (av p)) else (0,0)),pQ (if riC c p=0 then endB (cpv c) (av p) (zL (cpv c) (av p)) else (0,0)),.one (.lit (.int .i64 (riC c p:Nat)))])) p) c):=propext Iff.rfl
@[congr] theorem ybW{K}{l l'}(h:l=l'):xa5 l K=xa5 l' K:=by subst h;rfl
attribute [go_sem,go_sem ↓] jaS
def xa8(l:List AV)(K:AV->Prop):Prop:=
 match l with
 | [c,a,b]=>onCp (λc=>onA (λa=>onA (λb=>cl c<=10000/\al a<=10000/\al b<=10000/\K (pQ (ptQ (cpv c) (av a) (av b)))) b) a) c
 | _=>False
theorem za6 c a b K:xa8 [c,a,b] K=(onCp (λc=>onA (λa=>onA (λb=>cl c<=10000/\al a<=10000/\al b<=10000/\K (pQ (ptQ (cpv c) (av a) (av b)))) b) a) c):=propext Iff.rfl
@[congr] theorem ybU{K}{l l'}(h:l=l'):xa8 l K=xa8 l' K:=by subst h;rfl
attribute [go_sem,go_sem ↓] za6
def qaZ(l:List AV)(K:AV->Prop):Prop:=
 match l with
 | [c,a,b]=>onCp (λc=>onA (λa=>onA (λb=>cl c<=10000/\al a<=10000/\al b<=10000/\K (.one (.lit (.bool (decide (hldQ (cpv c) (av a) (av b))))))) b) a) c
 | _=>False
theorem Ya6 c a b K:qaZ [c,a,b] K=(onCp (λc=>onA (λa=>onA (λb=>cl c<=10000/\al a<=10000/\al b<=10000/\K (.one (.lit (.bool (decide (hldQ (cpv c) (av a) (av b))))))) b) a) c):=propext Iff.rfl
@[congr] theorem xbV{K}{l l'}(h:l=l'):qaZ l K=qaZ l' K:=by subst h;rfl
attribute [go_sem,go_sem ↓] Ya6
def Xg(f0 f1:Nat):AC:=(.seq (.ops false [.u 2 (.box 6 (.t 0)),.u 3 (.box 6 (.t 1)),.u 4 (.alloc [(.lit (.bool false)),.emp,.emp])])
 (.fg [2,3,4] (.seq (.ops true [.u 5 (.fa 0 (.t 2)),.u 6 (.ld none 3 true (.t 5)),.u 7 (.fa 3 (.t 3)),.u 8 (.ld none 3 true (.t 7)),.u 9 (.call f0 [(.t 6),(.t 8)]),.u 10 (.fa 3 (.t 2)),.u 11 (.ld none 3 true (.t 10)),.u 12 (.fa 0 (.t 3)),.u 13 (.ld none 3 true (.t 12)),.u 14 (.call f0 [(.t 11),(.t 13)]),.u 15 (.call f1 [(.t 9),(.t 14)]),.n (.st none 3 (.t 4) (.t 15))])
 .ret)))
theorem wac(hΓ:Holds P Γ){f fm fs:Nat}(hm:Γ fm=.dat false vl)(hs:Γ fs=.dat false Vx)(hc:check P f=some (16,(Xg fm fs).strip,[.cell 4 3 true])):Sound P f (.dat false wn):=by
 refine Wa hc qai hΓ (λargs K hcl hfi hG=>?_);match args,hG with
 | [a,b],hG=>
  obtain⟨p,rfl,wp,q,rfl,wq,hl,hl2,hK⟩:=hG;refine⟨by simp,?_⟩
  have w1:=wp.1;have w2:=wp.2;have w3:=wq.1;have w4:=wq.2;have l1:=(Nat.max_le.1 hl).1;have l2:=(Nat.max_le.1 hl).2;have l3:=(Nat.max_le.1 hl2).1;have l4:=(Nat.max_le.1 hl2).2;have r1:=Jg w1;have r2:=Jg w2;have r3:=Jg w3;have r4:=Jg w4;have m1:=Nat.le_trans (qc (rv p.1) (rv q.2)) (by omega:_<=1000000000)
  have m2:=Nat.le_trans (qc (rv p.2) (rv q.1)) (by omega:_<=1000000000)
  simp only [go_sem,Xg,hm,hs,Wc,Wb];repeat first | refine Ja (by with_reducible assumption) ?_ | refine Ja (Nat.le_trans (by with_reducible assumption) (by decide)) ?_ | refine Ja (by decide) ?_
  exact hK
end Go.Abs
end
section
namespace Go.Abs
open Go.Num
variable {P:Program} {Γ:Nat->Spec}
def vt:AC:=(.seq (.ops false [.m 2 (.c (.one .emp))])
 (.fg [0] (.seq (.ops false [.m 4 (.t 0),.u 5 (.len (.t 4)),.m 3 (.t 5)])
 (.fg [0,3] (.seq (.block 0 (.loop (.seq (.seq (.ops false [.m 6 (.t 3),.u 7 (.bin .gtr (.t 6) (.i 0)),.m 8 (.t 7),.w 9 8 true (.mv (.t 0)),.w 10 8 true (.mv (.t 3)),.w 11 8 true (.bin .sub (.t 10) (.i 1)),.w 12 8 true (.idx 1 (.t 9) (.t 11)),.w 13 8 true (.ld none 1 false (.t 12)),.w 14 8 true (.bin .eql (.t 13) (.c (.one (.lit (.int .u32 0))))),.u 15 (.pick (.t 8) (.t 14) .fa)])
 (.fg [0,3,15] (.cond (.t 15) .skip (.exit 0))))
 (.fg [0,3] (.block 1 (.ops false [.m 16 (.t 3),.u 17 (.bin .sub (.t 16) (.i 1)),.m 3 (.t 17)]))))))
 (.fg [0,3] (.seq (.seq (.ops false [.m 18 (.t 3),.u 19 (.bin .eql (.t 18) (.i 0))])
 (.fg [0,3,19] (.cond (.t 19) (.seq (.ops false [.m 2 (.c (.one .emp))])
 .ret) .skip)))
 (.fg [0,3] (.seq (.ops false [.m 20 (.c (.one .emp)),.m 21 (.t 0),.m 22 (.t 3),.u 23 (.sl 1 (.t 21) none (some (.t 22))),.u 24 (.app0 1 (.t 20) (.t 23)),.m 2 (.t 24)])
 .ret)))))))))
def Yl:AC:=(.seq (.ops false [.m 4 (.c (.one (.lit (.int .u64 0))))])
 (.fg [0,1] (.seq (.seq (.ops false [.m 5 (.t 1),.m 6 (.t 0),.u 7 (.len (.t 6)),.u 8 (.bin .lss (.t 5) (.t 7))])
 (.fg [0,1,8] (.cond (.t 8) (.seq (.ops false [.m 9 (.t 0),.m 10 (.t 1),.u 11 (.idx 1 (.t 9) (.t 10)),.u 12 (.ld none 1 false (.t 11)),.u 13 (.conv .u64 (.t 12)),.m 4 (.t 13)])
 .ret) .skip)))
 (.fg [] (.seq (.ops false [.m 4 (.c (.one (.lit (.int .u64 0))))])
 .ret)))))
def Jt(f0 f1:Nat):AC:=(.seq (.ops false [.m 4 (.c (.one .emp))])
 (.fg [0,1] (.seq (.ops false [.m 8 (.t 0),.u 9 (.len (.t 8)),.m 10 (.t 1),.u 11 (.len (.t 10)),.u 12 (.max [(.t 9),(.t 11)]),.u 13 (.bin .add (.t 12) (.i 1)),.u 14 (.mk 1 [(.lit (.int .u32 0))] (.t 13) (.t 13)),.m 5 (.t 14)])
 (.fg [0,1,5] (.seq (.ops false [.m 6 (.c (.one (.lit (.int .u64 0))))])
 (.fg [0,1,5,6] (.seq (.seq (.ops false [.m 15 (.t 5),.u 16 (.len (.t 15)),.m 17 (.i 0)])
 (.fg [0,1,5,6,16,17] (.block 0 (.loop (.seq (.ops false [.u 18 (.bin .lss (.t 17) (.t 16))])
 (.fg [0,1,5,6,16,17,18] (.seq (.cond (.t 18) .skip (.exit 0))
 (.fg [0,1,5,6,16,17] (.seq (.block 1 (.seq (.ops false [.m 19 (.t 17),.m 7 (.t 19)])
 (.fg [0,1,5,6,7,16,17] (.seq (.ops false [.m 20 (.t 6),.m 21 (.t 0),.m 22 (.t 7),.u 23 (.call f0 [(.t 21),(.t 22)]),.m 24 (.t 1),.m 25 (.t 7),.u 26 (.call f0 [(.t 24),(.t 25)]),.u 27 (.bin .add (.t 23) (.t 26)),.u 28 (.bin .add (.t 20) (.t 27)),.m 6 (.t 28)])
 (.fg [0,1,5,6,7,16,17] (.seq (.ops false [.m 29 (.t 5),.m 30 (.t 7),.m 31 (.t 6),.u 32 (.conv .u32 (.t 31)),.u 33 (.idx 1 (.t 29) (.t 30)),.n (.st none 1 (.t 33) (.t 32))])
 (.fg [0,1,5,6,16,17] (.ops false [.m 34 (.t 6),.u 35 (.bin .shr (.t 34) (.c (.one (.lit (.int .u64 32))))),.m 6 (.t 35)]))))))))
 (.fg [0,1,5,6,16,17] (.ops false [.u 36 (.bin .add (.t 17) (.i 1)),.m 17 (.t 36)])))))))))))
 (.fg [5] (.seq (.ops false [.m 37 (.t 5),.u 38 (.call f1 [(.t 37)]),.m 4 (.t 38)])
 .ret)))))))))
theorem XaD(hΓ:Holds P Γ){f:Nat}(hc:check P f=some (25,vt.strip,[.tmp 2])):Sound P f (.dat false xt):=by
 refine Wa hc uaJ hΓ (λargs K hcl hfi hG=>?_);match args,hG with
 | [a],hG=>
  obtain⟨l,rfl,hl,hlen,hK⟩:=hG;refine⟨by simp,?_⟩
  simp only [go_sem,vt];intro hmax;refine Xa (λn:Nat=>⟨mkV [(0,wsA l),(3,.one (.lit (.int .i64 n)))],mkH []⟩) (λn=>n<=l.length/\val (l.take n)=val l) id l.length ?_ ?_ ?_
  .exact Qa (by simp [okS,okV,okC,okL,okH,okB,okE,ja,Va,qa,ka,wsA,ws]) trivial
  .simp
  .rintro n ⟨hn,ht⟩;simp only [go_sem];refine⟨λh=>⟨by omega,by omega,by omega,λh0=>⟨by omega,n-1,Qa (by simp [okS,okV,okC,okL,okH,okB,okE,ja,Va,qa,ka,wsA,ws];omega) trivial,⟨by omega,?_⟩,?_⟩,λh0=>⟨λh1=>by omega,λ_=>⟨by omega,by simp;omega,?_⟩⟩⟩,λh=>⟨λh1=>?_,λh1=>by omega⟩⟩
   .rw [show((n:Int)-1).toNat=n-1 by omega]at h0
    have:=Zc l (n-1);rw [show n-1+1=n by omega,h0,Nat.mul_zero,Nat.add_zero]at this
    rw [<-this];exact ht
   .simp only [id];omega
   .rw [show((n:Int)-1).toNat=n-1 by omega]at h0
    have:=Je (uy hl n) (yJ h hn h0);rw [<-this,ht];exact hK
   .subst h1;have:val l=0:=by rw [<-ht];simp [val]
    rw [this,yb]at hK;exact hK
theorem QU(hΓ:Holds P Γ){f:Nat}(hc:check P f=some (14,Yl.strip,[.tmp 4])):Sound P f (.dat true Jl):=by
 refine Wa hc VaM hΓ (λargs K hcl hfi hG=>?_);match args,hG with
 | [a,b],hG=>
  obtain⟨l,rfl,hl,hG⟩:=hG;obtain⟨k,i,rfl,rfl,hi,hK⟩:=vb hG;refine⟨by simp,?_⟩
  simp only [go_sem,Yl];intro hmax;refine⟨λh=>⟨hi,by omega,?_⟩,λh=>?_⟩
  .have:=Ub hl i.toNat;rw [Nat.mod_eq_of_lt (by omega)];exact hK
  .rw [List.getD_eq_getElem?_getD,List.getElem?_eq_none (by omega)]at hK;exact hK
theorem yaG(hΓ:Holds P Γ){f fw ft:Nat}(hw:Γ fw=.dat true Jl)(ht:Γ ft=.dat false xt)(hc:check P f=some (39,(Jt fw ft).strip,[.tmp 4])):Sound P f (.dat false Vp):=by
 refine Wa hc Uaa hΓ (λargs K hcl hfi hG=>?_);match args,hG with
 | [a,b],hG=>
  obtain⟨x,rfl,hx,y,rfl,hy,hxl,hyl,hK⟩:=hG;refine⟨by simp,?_⟩
  simp only [go_sem,Jt,hw,ht];intro h1 h2;refine⟨by omega,by omega,λhN=>?_⟩
  generalize hNN:max x.length y.length+1=N at hN;refine Xa (λp:List Nat×Nat=>⟨mkV [(0,wsA x),(1,wsA y),(5,.one (.own 14 1 1 0 N)),(6,.one (.lit (.int .u64 p.2))),(16,.one (.lit (.int .i64 N))),(17,.one (.lit (.int .i64 p.1.length)))],mkH [(14,⟨1,some ⟨(p.1++List.replicate (N-p.1.length) 0).map wc,1,true⟩⟩)]⟩)
   (λp=>p.1.length<=N/\WL p.1/\p.2<=1/\val p.1+4294967296 ^ p.1.length*p.2=val (x.take p.1.length)+val (y.take p.1.length)) (λp=>N-p.1.length) ([],0) ?_ ?_ ?_
  .exact Qa (by simp [okS,okV,okC,okL,okH,okB,okE,ja,Va,qa,ka,wsA,ws]) (qj (by simp))
  .simp [zd,val]
  .rintro⟨o,c⟩ ⟨hoN,ho,hc1,hval⟩;simp only at hoN ho hc1 hval;have hlen:(o++List.replicate (N-o.length) 0).length=N:=by simp;omega
   simp only [go_sem,hw,ht,hlen];refine⟨λhlt=>⟨hx,hy,hlt,hlt,by omega,by omega,?_⟩,λhge=>?_⟩
   .have g1:=Ub hx o.length;have g2:=Ub hy o.length;rw [Nat.mod_eq_of_lt (show x.getD o.length 0+y.getD o.length 0<18446744073709551616 by omega),Nat.mod_eq_of_lt (show c+(x.getD o.length 0+y.getD o.length 0)<18446744073709551616 by omega)]
    generalize hs:c+(x.getD o.length 0+y.getD o.length 0)=s;refine⟨(o++[s % 4294967296],s / 4294967296),Qa (by simp [okS,okV,okC,okL,okH,okB,okE,ja,Va,qa,ka,wsA,ws]) (qj ?_),⟨by simp;omega,ue.2 ⟨ho,xc.2 ⟨Nat.mod_lt _ (by omega),zd⟩⟩,by simp only;omega,?_⟩,by simp;omega⟩
    .rw [show N-o.length=N-(o.length+1)+1 by omega,Jag];simp
    .simp only [List.length_append,List.length_cons,List.length_nil,Nat.zero_add,Zc,Yc,xi,xm,Nat.mul_zero,Nat.add_zero,Nat.pow_succ];rw [Nat.mul_assoc,Nat.add_assoc,<-Nat.mul_add,Nat.mod_add_div,<-hs,Nat.mul_add,<-Nat.add_assoc,hval,Nat.mul_add];omega
   .have e:o.length=N:=by omega
    simp only [e,Nat.sub_self,List.replicate_zero,List.append_nil,Nat.le_refl,if_true,XH];have hv:val o=val x+val y:=by
     rw [e,Wk (by omega),Wk (by omega)]at hval
     exact waq hx hy (by omega) (by omega) (by omega) hval
    refine⟨ho,by omega,?_⟩
    rw [hv];exact hK
end Go.Abs
end
section
namespace Go.Abs
open Go.Num
variable {P:Program} {Γ:Nat->Spec}
def Zt(f0 f1:Nat):AC:=(.seq (.ops false [.m 4 (.c (.one .emp))])
 (.fg [0,1] (.seq (.ops false [.m 9 (.t 0),.u 10 (.len (.t 9)),.u 11 (.mk 1 [(.lit (.int .u32 0))] (.t 10) (.t 10)),.m 5 (.t 11)])
 (.fg [0,1,5] (.seq (.ops false [.m 6 (.c (.one (.lit (.int .u64 0))))])
 (.fg [0,1,5,6] (.seq (.seq (.ops false [.m 12 (.t 5),.u 13 (.len (.t 12)),.m 14 (.i 0)])
 (.fg [0,1,5,6,13,14] (.block 0 (.loop (.seq (.ops false [.u 15 (.bin .lss (.t 14) (.t 13))])
 (.fg [0,1,5,6,13,14,15] (.seq (.cond (.t 15) .skip (.exit 0))
 (.fg [0,1,5,6,13,14] (.seq (.block 1 (.seq (.ops false [.m 16 (.t 14),.m 7 (.t 16)])
 (.fg [0,1,5,6,7,13,14] (.seq (.ops true [.m 17 (.t 0),.m 18 (.t 7),.u 19 (.idx 1 (.t 17) (.t 18)),.u 20 (.ld none 1 false (.t 19)),.u 21 (.conv .u64 (.t 20)),.m 22 (.t 1),.m 23 (.t 7),.u 24 (.call f0 [(.t 22),(.t 23)]),.u 25 (.bin .sub (.t 21) (.t 24)),.m 26 (.t 6),.u 27 (.bin .sub (.t 25) (.t 26)),.m 8 (.t 27)])
 (.fg [0,1,5,7,8,13,14] (.seq (.ops false [.m 28 (.t 5),.m 29 (.t 7),.m 30 (.t 8),.u 31 (.conv .u32 (.t 30)),.u 32 (.idx 1 (.t 28) (.t 29)),.n (.st none 1 (.t 32) (.t 31))])
 (.fg [0,1,5,8,13,14] (.ops false [.m 33 (.t 8),.u 34 (.bin .shr (.t 33) (.c (.one (.lit (.int .u64 63))))),.m 6 (.t 34)]))))))))
 (.fg [0,1,5,6,13,14] (.ops false [.u 35 (.bin .add (.t 14) (.i 1)),.m 14 (.t 35)])))))))))))
 (.fg [5] (.seq (.ops false [.m 36 (.t 5),.u 37 (.call f1 [(.t 36)]),.m 4 (.t 37)])
 .ret)))))))))
def Ul:AC:=(.seq (.ops false [.m 4 (.i 0)])
 (.fg [0,1] (.seq (.seq (.ops false [.m 6 (.t 0),.u 7 (.len (.t 6)),.m 8 (.t 1),.u 9 (.len (.t 8)),.u 10 (.bin .neq (.t 7) (.t 9))])
 (.fg [0,1,10] (.cond (.t 10) (.seq (.seq (.ops false [.m 11 (.t 0),.u 12 (.len (.t 11)),.m 13 (.t 1),.u 14 (.len (.t 13)),.u 15 (.bin .lss (.t 12) (.t 14))])
 (.fg [15] (.cond (.t 15) (.seq (.ops false [.m 4 (.i (-1))])
 .ret) .skip)))
 (.fg [] (.seq (.ops false [.m 4 (.i 1)])
 .ret))) .skip)))
 (.fg [0,1] (.seq (.seq (.ops false [.m 16 (.t 0),.u 17 (.len (.t 16)),.u 18 (.bin .sub (.t 17) (.i 1)),.m 5 (.t 18)])
 (.fg [0,1,5] (.block 0 (.loop (.seq (.seq (.ops false [.m 19 (.t 5),.u 20 (.bin .geq (.t 19) (.i 0))])
 (.fg [0,1,5,20] (.cond (.t 20) .skip (.exit 0))))
 (.fg [0,1,5] (.seq (.block 1 (.seq (.ops true [.m 23 (.t 0),.m 24 (.t 5),.u 25 (.idx 1 (.t 23) (.t 24)),.u 26 (.ld none 1 false (.t 25)),.m 27 (.t 1),.m 28 (.t 5),.u 29 (.idx 1 (.t 27) (.t 28)),.u 30 (.ld none 1 false (.t 29)),.u 31 (.bin .neq (.t 26) (.t 30))])
 (.fg [0,1,5,31] (.cond (.t 31) (.seq (.seq (.ops true [.m 32 (.t 0),.m 33 (.t 5),.u 34 (.idx 1 (.t 32) (.t 33)),.u 35 (.ld none 1 false (.t 34)),.m 36 (.t 1),.m 37 (.t 5),.u 38 (.idx 1 (.t 36) (.t 37)),.u 39 (.ld none 1 false (.t 38)),.u 40 (.bin .lss (.t 35) (.t 39))])
 (.fg [40] (.cond (.t 40) (.seq (.ops false [.m 4 (.i (-1))])
 .ret) .skip)))
 (.fg [] (.seq (.ops false [.m 4 (.i 1)])
 .ret))) .skip))))
 (.fg [0,1,5] (.ops false [.m 21 (.t 5),.u 22 (.bin .sub (.t 21) (.i 1)),.m 5 (.t 22)])))))))))
 (.fg [] (.seq (.ops false [.m 4 (.i 0)])
 .ret)))))))
def yo(f0:Nat):AC:=(.seq (.ops false [.m 4 (.c (.one .emp)),.m 5 (.c (.one (.lit (.int .u32 0))))])
 (.fg [0,1] (.seq (.ops false [.m 9 (.t 0),.u 10 (.len (.t 9)),.u 11 (.mk 1 [(.lit (.int .u32 0))] (.t 10) (.t 10)),.m 6 (.t 11)])
 (.fg [0,1,6] (.seq (.ops false [.m 7 (.c (.one (.lit (.int .u64 0))))])
 (.fg [0,1,6,7] (.seq (.seq (.ops false [.m 12 (.t 0),.u 13 (.len (.t 12)),.u 14 (.bin .sub (.t 13) (.i 1)),.m 8 (.t 14)])
 (.fg [0,1,6,7,8] (.block 0 (.loop (.seq (.seq (.ops false [.m 15 (.t 8),.u 16 (.bin .geq (.t 15) (.i 0))])
 (.fg [0,1,6,7,8,16] (.cond (.t 16) .skip (.exit 0))))
 (.fg [0,1,6,7,8] (.seq (.block 1 (.seq (.ops false [.m 19 (.t 7),.u 20 (.bin .shl (.t 19) (.c (.one (.lit (.int .u64 32))))),.m 21 (.t 0),.m 22 (.t 8),.u 23 (.idx 1 (.t 21) (.t 22)),.u 24 (.ld none 1 false (.t 23)),.u 25 (.conv .u64 (.t 24)),.u 26 (.bin .or (.t 20) (.t 25)),.m 7 (.t 26)])
 (.fg [0,1,6,7,8] (.seq (.ops false [.m 27 (.t 6),.m 28 (.t 8),.m 29 (.t 7),.m 30 (.t 1),.u 31 (.conv .u64 (.t 30)),.u 32 (.bin .quo (.t 29) (.t 31)),.u 33 (.conv .u32 (.t 32)),.u 34 (.idx 1 (.t 27) (.t 28)),.n (.st none 1 (.t 34) (.t 33))])
 (.fg [0,1,6,7,8] (.ops false [.m 35 (.t 7),.m 36 (.t 1),.u 37 (.conv .u64 (.t 36)),.u 38 (.bin .rem (.t 35) (.t 37)),.m 7 (.t 38)]))))))
 (.fg [0,1,6,7,8] (.ops false [.m 17 (.t 8),.u 18 (.bin .sub (.t 17) (.i 1)),.m 8 (.t 18)])))))))))
 (.fg [6,7] (.seq (.ops false [.m 39 (.t 6),.u 40 (.call f0 [(.t 39)]),.m 41 (.t 7),.u 42 (.conv .u32 (.t 41)),.m 4 (.t 40),.m 5 (.t 42)])
 .ret)))))))))
theorem jaI(hΓ:Holds P Γ){f fw ft:Nat}(hw:Γ fw=.dat true Jl)(ht:Γ ft=.dat false xt)(hc:check P f=some (38,(Zt fw ft).strip,[.tmp 4])):Sound P f (.dat false Ys):=by
 refine Wa hc vad hΓ (λargs K hcl hfi hG=>?_);match args,hG with
 | [a,b],hG=>
  obtain⟨x,rfl,hx,y,rfl,hy,hxl,hle,hK⟩:=hG;refine⟨by simp,?_⟩
  simp only [go_sem,Zt,hw,ht];intro h1;refine⟨by omega,λ_=>?_⟩
  generalize hN:x.length=N at h1 hxl;refine Xa (λp:List Nat×Nat=>⟨mkV [(0,wsA x),(1,wsA y),(5,.one (.own 11 1 1 0 N)),(6,.one (.lit (.int .u64 p.2))),(13,.one (.lit (.int .i64 N))),(14,.one (.lit (.int .i64 p.1.length)))],mkH [(11,⟨1,some ⟨(p.1++List.replicate (N-p.1.length) 0).map wc,1,true⟩⟩)]⟩)
   (λp=>p.1.length<=N/\WL p.1/\p.2<=1/\val p.1+val (y.take p.1.length)=val (x.take p.1.length)+4294967296 ^ p.1.length*p.2) (λp=>N-p.1.length) ([],0) ?_ ?_ ?_
  .exact Qa (by simp [okS,okV,okC,okL,okH,okB,okE,ja,Va,qa,ka,wsA,ws]) (qj (by simp))
  .simp [zd,val]
  .rintro⟨o,c⟩ ⟨hoN,ho,hc1,hval⟩;simp only at hoN ho hc1 hval;have hlen:(o++List.replicate (N-o.length) 0).length=N:=by simp;omega
   simp only [go_sem,hw,ht,hlen];refine⟨λhlt=>⟨by omega,hy,hlt,hlt,by omega,by omega,?_⟩,λhge=>?_⟩
   .have g1:=Ub hx o.length;have g2:=Ub hy o.length;rw [Nat.mod_eq_of_lt (show x.getD o.length 0<18446744073709551616 by omega)]
    obtain⟨s1,s2⟩:=xay g1 g2 hc1;generalize sub64 (sub64 (x.getD o.length 0) (y.getD o.length 0)) c=s at s1 s2;refine⟨(o++[s % 4294967296],s / 9223372036854775808),Qa (by simp [okS,okV,okC,okL,okH,okB,okE,ja,Va,qa,ka,wsA,ws]) (qj ?_),⟨by simp;omega,ue.2 ⟨ho,xc.2 ⟨Nat.mod_lt _ (by omega),zd⟩⟩,s2,?_⟩,by simp;omega⟩
    .rw [show N-o.length=N-(o.length+1)+1 by omega,Jag];simp
    .simp only [List.length_append,List.length_cons,List.length_nil,Nat.zero_add,Zc,Yc,xi,xm,Nat.mul_zero,Nat.add_zero,Nat.pow_succ];exact xI hval s1
   .have e:o.length=N:=by omega
    have hv:=JI ho hx (by omega) hle hval
    simp only [e,Nat.sub_self,List.replicate_zero,List.append_nil];refine⟨ho,by omega,?_⟩
    rw [hv];exact hK
theorem qY(hΓ:Holds P Γ){f:Nat}(hc:check P f=some (41,Ul.strip,[.tmp 4])):Sound P f (.dat false Ji):=by
 refine Wa hc Xae hΓ (λargs K hcl hfi hG=>?_);match args,hG with
 | [a,b],hG=>
  obtain⟨x,rfl,hx,y,rfl,hy,hzx,hzy,hK⟩:=hG;refine⟨by simp,?_⟩
  simp only [go_sem,Ul];intro h1 h2;refine⟨λhl _=>⟨by omega,?_⟩,λhne _ _=>⟨λhlt=>?_,λhge=>?_⟩⟩
  rotate_left
  .rw [zZ (YN hx hzy hlt)]at hK;exact hK
  .rw [Uaj (YN hy hzx (by omega))]at hK;exact hK
  refine Xa (λn:Nat=>⟨mkV [(0,wsA x),(1,wsA y),(5,.one (.lit (.int .i64 ((n:Int)-1))))],mkH []⟩) (λn=>n<=x.length/\x.drop n=y.drop n) id x.length ?_ ?_ ?_
  .exact Qa (by simp [okS,okV,okC,okL,okH,okB,okE,ja,Va,qa,ka,wsA,ws]) trivial
  .simp [hl]
  .rintro n ⟨hn,hd⟩;simp only [go_sem];refine⟨λh=>⟨by omega,by omega,by omega,by omega,λhe=>⟨by omega,n-1,Qa (by simp [okS,okV,okC,okL,okH,okB,okE,ja,Va,qa,ka,wsA,ws];omega) trivial,⟨by omega,?_⟩,by simp only [id];omega⟩,λhne=>?_⟩,λh=>?_⟩
   .rw [show((n:Int)-1).toNat=n-1 by omega]at he
    rw [List.getD_eq_getElem?_getD,List.getD_eq_getElem?_getD,List.getElem?_eq_getElem (by omega),List.getElem?_eq_getElem (by omega)]at he
    have e1:=List.getElem_cons_drop (as:=x) (i:=n-1) (by omega)
    have e2:=List.getElem_cons_drop (as:=y) (i:=n-1) (by omega)
    rw [show n-1+1=n by omega]at e1 e2
    rw [<-e1,<-e2,hd];simp only [Option.getD_some]at he;rw [he]
   .rw [show((n:Int)-1).toNat=n-1 by omega]at hne ⊢
    refine⟨by omega,by omega,by omega,by omega,λhlt=>?_,λhge=>?_⟩
    .rw [zZ (ybn (i:=n-1) hx hl (by omega) (by rw [show n-1+1=n by omega];exact hd) hlt)]at hK;exact hK
    .rw [Uaj (ybn (i:=n-1) hy hl.symm (by omega) (by rw [show n-1+1=n by omega];exact hd.symm) (by omega))]at hK;exact hK
   .have:n=0:=by omega
    subst this;simp only [List.drop_zero]at hd;rw [hd,Ya2]at hK;exact hK
theorem kan(hΓ:Holds P Γ){f ft:Nat}(ht:Γ ft=.dat false xt)(hc:check P f=some (43,(yo ft).strip,[.tmp 4,.tmp 5])):Sound P f (.dat false Yv):=by
 refine Wa hc XaH hΓ (λargs K hcl hfi hG=>?_);match args,hG with
 | [a,b],hG=>
  obtain⟨x,rfl,hx,hG⟩:=hG;obtain⟨k,m,rfl,rfl,hm,hmB,hxl,hK⟩:=vb hG;obtain⟨m,rfl⟩:∃n:Nat,m=n:=⟨m.toNat,by omega⟩
  simp only [Int.toNat_natCast]at hK;refine⟨by simp,?_⟩
  simp only [go_sem,yo,ht];intro h1;refine⟨hxl,λ_=>⟨by omega,?_⟩⟩
  refine Xa (λp:List Nat×Nat=>⟨mkV [(0,wsA x),(1,.one (.lit (.int .u32 m))),(6,.one (.own 11 1 1 0 x.length)),(7,.one (.lit (.int .u64 p.2))),(8,.one (.lit (.int .i64 ((x.length:Int)-p.1.length-1))))],mkH [(11,⟨1,some ⟨(List.replicate (x.length-p.1.length) 0++p.1).map wc,1,true⟩⟩)]⟩)
   (λp=>p.1.length<=x.length/\WL p.1/\p.2<m/\val p.1*m+p.2=val (x.drop (x.length-p.1.length))) (λp=>x.length-p.1.length) ([],0) ?_ ?_ ?_
  .exact Qa (by simp [okS,okV,okC,okL,okH,okB,okE,ja,Va,qa,ka,wsA,ws]) (qj (by simp))
  .simp [zd,val];omega
  .rintro⟨q,r⟩ ⟨hq,hqw,hr,hval⟩;simp only at hq hqw hr hval;have hlen:(List.replicate (x.length-q.length) 0++q).length=x.length:=by simp;omega
   simp only [go_sem,ht,hlen];refine⟨λh=>?_,λh=>?_⟩
   .obtain⟨n,hn⟩:∃n,n=x.length-q.length:=⟨_,rfl⟩;have hn0:0<n:=by omega
    have hi:((x.length:Int)-q.length-1).toNat=n-1:=by omega
    have g1:=Ub hx (n-1);have hd:=qM x hn0 (by omega)
    obtain⟨s1,s2⟩:=yba (by omega) hr g1
    have s3:=Ja0 (B:=4294967296) (a:=x.getD (n-1) 0) (by omega) (hn▸hval)
    have e1:r*4294967296 % 18446744073709551616=r*4294967296:=by omega
    have e2:x.getD (n-1) 0 % 18446744073709551616=x.getD (n-1) 0:=by omega
    have e3:m % 18446744073709551616=m:=by omega
    rw [hi,<-hn,e1,e2,e3,or32 _ _ g1];generalize hs:r*4294967296+x.getD (n-1) 0=s at s1 s2 s3;rw [Nat.mod_eq_of_lt (show s / m<18446744073709551616 by omega),Nat.mod_eq_of_lt s1]
    have hm0:s % m<m:=Nat.mod_lt _ (by omega)
    refine⟨⟨rfl,by omega⟩,by omega,by omega,⟨rfl,by omega,by omega⟩,by omega,⟨by omega,by omega⟩,by omega,by omega,by omega,(s / m::q,s % m),Qa (by simp [okS,okV,okC,okL,okH,okB,okE,ja,Va,qa,ka,wsA,ws];omega) (qj ?_),⟨by simp;omega,xc.2 ⟨s1,hqw⟩,hm0,?_⟩,by simp;omega⟩
    .simp only [List.length_cons];rw [ut q _ hn0,show x.length-(q.length+1)=n-1 by omega]
    .rw [xi,List.length_cons,show x.length-(q.length+1)=n-1 by omega,hd];exact s3
   .have e:x.length-q.length=0:=by omega
    simp only [e,List.replicate_zero,List.nil_append,List.drop_zero]at hval ⊢;have h1:=Nat.div_mod_unique (show 0<m by omega) (a:=val x) (c:=r) (d:=val q)
    obtain⟨h2,h3⟩:=h1.2 ⟨by rw [<-hval,Nat.mul_comm m,Nat.add_comm],hr⟩
    rw [h2,h3]at hK;refine⟨hqw,by omega,?_⟩
    rw [Nat.mod_eq_of_lt (by omega)];exact hK
end Go.Abs
end
section
namespace Go.Abs
open Go.Num
variable {P:Program} {Γ:Nat->Spec}
def ky:AC:=(.seq (.ops false [.m 4 (.c (.one .emp))])
 (.fg [0,1] (.seq (.ops false [.m 9 (.t 0),.u 10 (.len (.t 9)),.u 11 (.bin .add (.t 10) (.i 1)),.u 12 (.mk 1 [(.lit (.int .u32 0))] (.t 11) (.t 11)),.m 5 (.t 12)])
 (.fg [0,1,5] (.seq (.seq (.ops false [.m 13 (.t 0),.u 14 (.len (.t 13)),.m 15 (.i 0)])
 (.fg [1,5,13,14,15] (.block 0 (.loop (.seq (.ops false [.u 16 (.bin .lss (.t 15) (.t 14))])
 (.fg [1,5,13,14,15,16] (.seq (.cond (.t 16) .skip (.exit 0))
 (.fg [1,5,13,14,15] (.seq (.block 1 (.seq (.ops false [.m 17 (.t 15),.u 18 (.idx 1 (.t 13) (.t 15)),.u 19 (.ld none 1 false (.t 18)),.m 6 (.t 17),.m 7 (.t 19)])
 (.fg [1,5,6,7,13,14,15] (.seq (.ops false [.m 20 (.t 7),.u 21 (.conv .u64 (.t 20)),.m 22 (.t 1),.u 23 (.bin .shl (.t 21) (.t 22)),.m 8 (.t 23)])
 (.fg [1,5,6,8,13,14,15] (.seq (.ops false [.m 24 (.t 5),.m 25 (.t 6),.u 26 (.idx 1 (.t 24) (.t 25)),.u 27 (.ld none 1 false (.t 26)),.m 28 (.t 8),.u 29 (.conv .u32 (.t 28)),.u 30 (.bin .or (.t 27) (.t 29)),.u 31 (.idx 1 (.t 24) (.t 25)),.n (.st none 1 (.t 31) (.t 30))])
 (.fg [1,5,6,8,13,14,15] (.ops false [.m 32 (.t 5),.m 33 (.t 6),.u 34 (.bin .add (.t 33) (.i 1)),.m 35 (.t 8),.u 36 (.bin .shr (.t 35) (.c (.one (.lit (.int .u64 32))))),.u 37 (.conv .u32 (.t 36)),.u 38 (.idx 1 (.t 32) (.t 34)),.n (.st none 1 (.t 38) (.t 37))]))))))))
 (.fg [1,5,13,14,15] (.ops false [.u 39 (.bin .add (.t 15) (.i 1)),.m 15 (.t 39)])))))))))))
 (.fg [5] (.seq (.ops false [.m 40 (.t 5),.m 4 (.t 40)])
 .ret)))))))
def Xs(f0 f1:Nat):AC:=(.seq (.ops false [.m 4 (.c (.one .emp))])
 (.fg [0,1] (.seq (.ops false [.m 7 (.t 0),.u 8 (.len (.t 7)),.u 9 (.mk 1 [(.lit (.int .u32 0))] (.t 8) (.t 8)),.m 5 (.t 9)])
 (.fg [0,1,5] (.seq (.seq (.ops false [.m 10 (.t 0),.u 11 (.len (.t 10)),.m 12 (.i 0)])
 (.fg [0,1,5,11,12] (.block 0 (.loop (.seq (.ops false [.u 13 (.bin .lss (.t 12) (.t 11))])
 (.fg [0,1,5,11,12,13] (.seq (.cond (.t 13) .skip (.exit 0))
 (.fg [0,1,5,11,12] (.seq (.block 1 (.seq (.ops false [.m 14 (.t 12),.m 6 (.t 14)])
 (.fg [0,1,5,6,11,12] (.ops true [.m 15 (.t 5),.m 16 (.t 6),.m 17 (.t 0),.m 18 (.t 6),.u 19 (.idx 1 (.t 17) (.t 18)),.u 20 (.ld none 1 false (.t 19)),.u 21 (.conv .u64 (.t 20)),.m 22 (.t 0),.m 23 (.t 6),.u 24 (.bin .add (.t 23) (.i 1)),.u 25 (.call f0 [(.t 22),(.t 24)]),.u 26 (.bin .shl (.t 25) (.c (.one (.lit (.int .u64 32))))),.u 27 (.bin .or (.t 21) (.t 26)),.m 28 (.t 1),.u 29 (.bin .shr (.t 27) (.t 28)),.u 30 (.conv .u32 (.t 29)),.u 31 (.idx 1 (.t 15) (.t 16)),.n (.st none 1 (.t 31) (.t 30))]))))
 (.fg [0,1,5,11,12] (.ops false [.u 32 (.bin .add (.t 12) (.i 1)),.m 12 (.t 32)])))))))))))
 (.fg [5] (.seq (.ops false [.m 33 (.t 5),.u 34 (.call f1 [(.t 33)]),.m 4 (.t 34)])
 .ret)))))))
def Qp(f0:Nat):AC:=(.seq (.ops false [.m 4 (.c (.one .emp))])
 (.fg [0,1] (.seq (.ops false [.m 11 (.t 0),.u 12 (.len (.t 11)),.m 13 (.t 1),.u 14 (.len (.t 13)),.u 15 (.bin .add (.t 12) (.t 14)),.u 16 (.mk 1 [(.lit (.int .u32 0))] (.t 15) (.t 15)),.m 5 (.t 16)])
 (.fg [0,1,5] (.seq (.seq (.ops false [.m 17 (.t 0),.u 18 (.len (.t 17)),.m 19 (.i 0)])
 (.fg [1,5,17,18,19] (.block 0 (.loop (.seq (.ops false [.u 20 (.bin .lss (.t 19) (.t 18))])
 (.fg [1,5,17,18,19,20] (.seq (.cond (.t 20) .skip (.exit 0))
 (.fg [1,5,17,18,19] (.seq (.block 1 (.seq (.ops false [.m 21 (.t 19),.u 22 (.idx 1 (.t 17) (.t 19)),.u 23 (.ld none 1 false (.t 22)),.m 6 (.t 21),.m 7 (.t 23)])
 (.fg [1,5,6,7,17,18,19] (.seq (.ops false [.m 8 (.c (.one (.lit (.int .u64 0))))])
 (.fg [1,5,6,7,8,17,18,19] (.seq (.seq (.ops false [.m 24 (.t 1),.u 25 (.len (.t 24)),.m 26 (.i 0)])
 (.fg [1,5,6,7,8,17,18,19,24,25,26] (.block 2 (.loop (.seq (.ops false [.u 27 (.bin .lss (.t 26) (.t 25))])
 (.fg [1,5,6,7,8,17,18,19,24,25,26,27] (.seq (.cond (.t 27) .skip (.exit 2))
 (.fg [1,5,6,7,8,17,18,19,24,25,26] (.seq (.block 3 (.seq (.ops false [.m 28 (.t 26),.u 29 (.idx 1 (.t 24) (.t 26)),.u 30 (.ld none 1 false (.t 29)),.m 9 (.t 28),.m 10 (.t 30)])
 (.fg [1,5,6,7,8,9,10,17,18,19,24,25,26] (.seq (.ops false [.m 31 (.t 8),.m 32 (.t 7),.u 33 (.conv .u64 (.t 32)),.m 34 (.t 10),.u 35 (.conv .u64 (.t 34)),.u 36 (.bin .mul (.t 33) (.t 35)),.m 37 (.t 5),.m 38 (.t 6),.m 39 (.t 9),.u 40 (.bin .add (.t 38) (.t 39)),.u 41 (.idx 1 (.t 37) (.t 40)),.u 42 (.ld none 1 false (.t 41)),.u 43 (.conv .u64 (.t 42)),.u 44 (.bin .add (.t 36) (.t 43)),.u 45 (.bin .add (.t 31) (.t 44)),.m 8 (.t 45)])
 (.fg [1,5,6,7,8,9,17,18,19,24,25,26] (.seq (.ops false [.m 46 (.t 5),.m 47 (.t 6),.m 48 (.t 9),.u 49 (.bin .add (.t 47) (.t 48)),.m 50 (.t 8),.u 51 (.conv .u32 (.t 50)),.u 52 (.idx 1 (.t 46) (.t 49)),.n (.st none 1 (.t 52) (.t 51))])
 (.fg [1,5,6,7,8,17,18,19,24,25,26] (.ops false [.m 53 (.t 8),.u 54 (.bin .shr (.t 53) (.c (.one (.lit (.int .u64 32))))),.m 8 (.t 54)]))))))))
 (.fg [1,5,6,7,8,17,18,19,24,25,26] (.ops false [.u 55 (.bin .add (.t 26) (.i 1)),.m 26 (.t 55)])))))))))))
 (.fg [1,5,6,8,17,18,19] (.ops false [.m 56 (.t 5),.m 57 (.t 6),.m 58 (.t 1),.u 59 (.len (.t 58)),.u 60 (.bin .add (.t 57) (.t 59)),.m 61 (.t 8),.u 62 (.conv .u32 (.t 61)),.u 63 (.idx 1 (.t 56) (.t 60)),.n (.st none 1 (.t 63) (.t 62))]))))))))
 (.fg [1,5,17,18,19] (.ops false [.u 64 (.bin .add (.t 19) (.i 1)),.m 19 (.t 64)])))))))))))
 (.fg [5] (.seq (.ops false [.m 65 (.t 5),.u 66 (.call f0 [(.t 65)]),.m 4 (.t 66)])
 .ret)))))))
theorem ubc(hΓ:Holds P Γ){f:Nat}(hc:check P f=some (41,ky.strip,[.tmp 4])):Sound P f (.fresh 1 up_G):=by
 refine Xm hc Vbx hΓ (λargs K hcl hfi hG=>?_);match args,hG with
 | [a,b],hG=>
  obtain⟨x,rfl,hx,hG⟩:=hG;obtain⟨k,m,rfl,rfl,hm,hmB,hxl,hK⟩:=vb hG;obtain⟨m,rfl⟩:∃n:Nat,m=n:=⟨m.toNat,by omega⟩
  simp only [Int.toNat_natCast]at hK;refine⟨by simp,?_⟩
  simp only [go_sem,ky];intro h1;refine⟨by omega,by omega,λ_=>?_⟩
  refine Xa (λp:List Nat×Nat=>⟨mkV [(1,.one (.lit (.int .i64 m))),(5,.one (.own 12 1 1 0 (x.length+1))),(13,wsA x),(14,.one (.lit (.int .i64 x.length))),(15,.one (.lit (.int .i64 p.1.length)))],mkH [(12,⟨1,some ⟨(p.1++p.2::List.replicate (x.length-p.1.length) 0).map wc,1,true⟩⟩)]⟩)
   (λp=>p.1.length<=x.length/\WL p.1/\p.2<2 ^ m/\val p.1+4294967296 ^ p.1.length*p.2=val (x.take p.1.length)*2 ^ m) (λp=>x.length-p.1.length) ([],0) ?_ ?_ ?_
  .exact Qa (by simp [okS,okV,okC,okL,okH,okB,okE,ja,Va,qa,ka,wsA,ws]) (qj (by simp [List.replicate_succ]))
  .simp [zd,val];exact Nat.pow_pos (by omega)
  .rintro⟨o,c⟩ ⟨hoN,ho,hc1,hval⟩;simp only at hoN ho hc1 hval;have hlen:(o++c::List.replicate (x.length-o.length) 0).length=x.length+1:=by simp;omega
   simp only [go_sem,hlen,List.length_set];refine⟨λhlt=>?_,λhge=>?_⟩
   .have g1:=Ub hx o.length;obtain⟨s1,s2,s3,s4⟩:=Jbw (by omega) hc1 g1
    have e1:x.getD o.length 0 % 18446744073709551616=x.getD o.length 0:=by omega
    have hp:=jX (show m<32 by omega)
    rw [vbI,e1,Nat.mod_eq_of_lt s1,s2,jbN];generalize hy:x.getD o.length 0*2 ^ m=y at s1 s2 s3 s4;rw [Nat.mod_eq_of_lt (show y / 4294967296<4294967296 by omega)]
    refine⟨hlt,⟨rfl,by omega⟩,by omega,by omega,⟨rfl,by omega,by omega⟩,by omega,by omega,by omega,by omega,by omega,by omega,by omega,(o++[y % 4294967296+c],y / 4294967296),Qa (by simp [okS,okV,okC,okL,okH,okB,okE,ja,Va,qa,ka,wsA,ws]) (qj ?_),⟨by simp;omega,ue.2 ⟨ho,xc.2 ⟨s3,zd⟩⟩,s4,?_⟩,by simp;omega⟩
    .rw [show x.length-o.length=(x.length-(o.length+1))+1 by omega,List.replicate_succ,kby];simp
    .simp only [List.length_append,List.length_cons,List.length_nil,Nat.zero_add,Zc,Yc,xi,xm,Nat.mul_zero,Nat.add_zero,Nat.pow_succ];rw [VbH (B:=4294967296) (x:=y) hval rfl,Nat.add_mul,<-hy,Nat.mul_assoc]
   .have e:o.length=x.length:=by omega
    have hcB:c<4294967296:=by have:=jX (show m<32 by omega);omega
    rw [e,Wk (Nat.le_refl _)]at hval;simp only [e,Nat.sub_self,List.replicate_zero];have hw:WL (o++[c]):=ue.2 ⟨ho,xc.2 ⟨hcB,zd⟩⟩;have hv:val (o++[c])=val x*2 ^ m:=by rw [Yc,e];simpa [val] using hval
    have:=VD hw;rw [hv,List.length_append,List.length_singleton,e]at this;rw [<-this];exact hK
theorem XaE(hΓ:Holds P Γ){f fw ft:Nat}(hw:Γ fw=.dat true Jl)(ht:Γ ft=.dat false xt)(hc:check P f=some (35,(Xs fw ft).strip,[.tmp 4])):Sound P f (.dat false vE):=by
 refine Wa hc Za1 hΓ (λargs K hcl hfi hG=>?_);match args,hG with
 | [a,b],hG=>
  obtain⟨x,rfl,hx,hG⟩:=hG;obtain⟨k,m,rfl,rfl,hm,hmB,hxl,hK⟩:=vb hG;obtain⟨m,rfl⟩:∃n:Nat,m=n:=⟨m.toNat,by omega⟩
  simp only [Int.toNat_natCast]at hK;refine⟨by simp,?_⟩
  simp only [go_sem,Xs,hw,ht];intro h1;refine⟨by omega,λ_=>?_⟩
  refine Xa (λo:List Nat=>⟨mkV [(0,wsA x),(1,.one (.lit (.int .i64 m))),(5,.one (.own 9 1 1 0 x.length)),(11,.one (.lit (.int .i64 x.length))),(12,.one (.lit (.int .i64 o.length)))],mkH [(9,⟨1,some ⟨(o++List.replicate (x.length-o.length) 0).map wc,1,true⟩⟩)]⟩)
   (λo=>o.length<=x.length/\WL o/\val o=val x / 2 ^ m % 4294967296 ^ o.length) (λo=>x.length-o.length) [] ?_ ?_ ?_
  .exact Qa (by simp [okS,okV,okC,okL,okH,okB,okE,ja,Va,qa,ka,wsA,ws]) (qj (by simp))
  .simp [zd,val,Nat.mod_one]
  .rintro o ⟨hoN,ho,hval⟩;have hlen:(o++List.replicate (x.length-o.length) 0).length=x.length:=by simp;omega
   simp only [go_sem,hw,ht,hlen];refine⟨λhlt=>⟨hlt,by omega,hx,⟨rfl,by omega⟩,⟨rfl,by omega,by omega⟩,by omega,hlt,hlt,by omega,?_⟩,λhge=>?_⟩
   .have g1:=Ub hx o.length;have g2:=Ub hx (o.length+1);have e1:x.getD o.length 0 % 18446744073709551616=x.getD o.length 0:=by omega
    have e2:x.getD (o.length+1) 0*4294967296 % 18446744073709551616=x.getD (o.length+1) 0*4294967296:=by omega
    rw [e1,e2,or32' _ _ g1,show x.getD (o.length+1) 0*4294967296+x.getD o.length 0=x.getD o.length 0+4294967296*x.getD (o.length+1) 0 by omega,Y9 hx (by omega)]
    generalize hv:val x / 2 ^ m / 4294967296 ^ o.length % 4294967296=v;have hvB:v<4294967296:=by rw [<-hv];exact Nat.mod_lt _ (by omega)
    refine⟨o++[v],Qa (by simp [okS,okV,okC,okL,okH,okB,okE,ja,Va,qa,ka,wsA,ws]) (qj ?_),⟨by simp;omega,ue.2 ⟨ho,xc.2 ⟨hvB,zd⟩⟩,?_⟩,by simp;omega⟩
    .rw [show x.length-o.length=x.length-(o.length+1)+1 by omega,Jag];simp
    .rw [Yc,List.length_append,List.length_singleton,uH,hv,<-hval];simp [val]
   .have e:o.length=x.length:=by omega
    have hlt:val x / 2 ^ m<4294967296 ^ x.length:=Nat.lt_of_le_of_lt (Nat.div_le_self _ _) (ul hx);rw [e,Nat.mod_eq_of_lt hlt]at hval;simp only [e,Nat.sub_self,List.replicate_zero,List.append_nil];refine⟨ho,by omega,?_⟩
    rw [hval];exact hK
theorem Qak(hΓ:Holds P Γ){f ft:Nat}(ht:Γ ft=.dat false xt)(hc:check P f=some (67,(Qp ft).strip,[.tmp 4])):Sound P f (.dat false Vz):=by
 refine Wa hc VaJ hΓ (λargs K hcl hfi hG=>?_);match args,hG with
 | [a,b],hG=>
  obtain⟨x,rfl,hx,y,rfl,hy,hxl,hyl,hK⟩:=hG;refine⟨by simp,?_⟩
  simp only [go_sem,Qp,ht];intro h1 h2;refine⟨by omega,by omega,λ_=>?_⟩
  generalize hN:x.length+y.length=N;refine Xa (λp:Nat×List Nat=>⟨mkV [(1,wsA y),(5,.one (.own 16 1 1 0 N)),(17,wsA x),(18,.one (.lit (.int .i64 x.length))),(19,.one (.lit (.int .i64 p.1)))],mkH [(16,⟨1,some ⟨p.2.map wc,1,true⟩⟩)]⟩)
   (λp=>p.1<=x.length/\WL p.2/\p.2.length=N/\val p.2=val (x.take p.1)*val y/\∀j,p.1+y.length<=j->p.2.getD j 0=0) (λp=>x.length-p.1) (0,List.replicate N 0) ?_ ?_ ?_
  .exact Qa (by simp [okS,okV,okC,okL,okH,okB,okE,ja,Va,qa,ka,wsA,ws]) (qj (by simp))
  .simp [ybl,val,Wam];intro j _;rw [List.getElem?_replicate];split <;> rfl
  .rintro⟨i,o⟩ ⟨hi,ho,hoN,hval,hz⟩;simp only at hi ho hoN hval hz;simp only [go_sem,ht,hoN];refine⟨λhlt=>⟨hlt,λ_=>?_⟩,λhge=>?_⟩
   .have g1:=Ub hx i;refine Xa (λp:Nat×Nat×List Nat=>⟨mkV [(1,wsA y),(5,.one (.own 16 1 1 0 N)),(6,.one (.lit (.int .i64 i))),(7,.one (.lit (.int .u32 (x.getD i 0:Nat)))),(8,.one (.lit (.int .u64 p.2.1))),(17,wsA x),(18,.one (.lit (.int .i64 x.length))),(19,.one (.lit (.int .i64 i))),(24,wsA y),(25,.one (.lit (.int .i64 y.length))),(26,.one (.lit (.int .i64 p.1)))],mkH [(16,⟨1,some ⟨p.2.2.map wc,1,true⟩⟩)]⟩)
     (λp=>p.1<=y.length/\p.2.1<4294967296/\WL p.2.2/\p.2.2.length=N/\val p.2.2+4294967296 ^ i*4294967296 ^ p.1*p.2.1=val (x.take i)*val y+4294967296 ^ i*x.getD i 0*val (y.take p.1)/\∀j,i+y.length<=j->p.2.2.getD j 0=0) (λp=>y.length-p.1) (0,0,o) ?_ ?_ ?_
    .exact Qa (by simp [okS,okV,okC,okL,okH,okB,okE,ja,Va,qa,ka,wsA,ws]) (qj rfl)
    .exact⟨Nat.zero_le _,by simp,ho,hoN,by simp [val,hval],hz⟩
    .rintro⟨k,c,o⟩ ⟨hk,hc,ho,hoN,hval,hz⟩;simp only at hk hc ho hoN hval hz;simp only [go_sem,ht,hoN];refine⟨λhlt2=>?_,λhge2=>?_⟩
     .have g2:=Ub hy k;have g3:=Ub ho (i+k);have s1:=Yaw g1 g2 hc g3;have e1:x.getD i 0 % 18446744073709551616=x.getD i 0:=by omega
      have e2:y.getD k 0 % 18446744073709551616=y.getD k 0:=by omega
      have e3:o.getD (i+k) 0 % 18446744073709551616=o.getD (i+k) 0:=by omega
      have hstep:=jaE hval (by omega) rfl
      rw [e1,e2,e3,Nat.mod_eq_of_lt (show x.getD i 0*y.getD k 0<18446744073709551616 by omega),Nat.mod_eq_of_lt (show x.getD i 0*y.getD k 0+o.getD (i+k) 0<18446744073709551616 by omega),Nat.mod_eq_of_lt s1]
      generalize hs:c+(x.getD i 0*y.getD k 0+o.getD (i+k) 0)=s at s1 hstep;refine⟨hlt2,by omega,by omega,by omega,by omega,by omega,by omega,by omega,by omega,(k+1,s / 4294967296,o.set (i+k) (s % 4294967296)),Qa (by simp [okS,okV,okC,okL,okH,okB,okE,ja,Va,qa,ka,wsA,ws]) (qj rfl),⟨by simp only;omega,by simp only;omega,waU ho _ (Nat.mod_lt _ (by omega)),by simp [hoN],hstep,?_⟩,by simp only;omega⟩
      intro j hj;simp only;rw [Num.getD_set_ne (by omega)];exact hz j hj
     .have e:k=y.length:=by omega
      subst e;have hend:=Xa6 hval (by omega) (hz _ (Nat.le_refl _))
      rw [Nat.mod_eq_of_lt hc];refine λ_=>⟨by omega,by omega,by omega,by omega,(i+1,o.set (i+y.length) c),Qa (by simp [okS,okV,okC,okL,okH,okB,okE,ja,Va,qa,ka,wsA,ws]) (qj rfl),⟨by simp only;omega,waU ho _ hc,by simp [hoN],hend,?_⟩,by simp only;omega⟩
      intro j hj;simp only at hj ⊢;rw [Num.getD_set_ne (by omega)];exact hz j (by omega)
   .have e:i=x.length:=by omega
    subst e;rw [Wk (Nat.le_refl _)]at hval;refine⟨ho,by omega,?_⟩
    rw [hval];exact hK
end Go.Abs
end
