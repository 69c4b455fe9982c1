/-
  Parts of the proof, merged: RunK, RunL, RunS.
-/
import Derived.Test.YtfichbefnpcdeaaGreatM13
set_option linter.unusedVariables false
set_option linter.unusedSimpArgs false
set_option linter.unnecessarySimpa false
section
namespace Go.Abs
open Go.Num
theorem YJ:∀l:List Nat,nval l=val l
 | []=>rfl
 | a::l=>by rw [nval,val,YJ l]
theorem qW:∀{es:List (List C)} {l:List Nat},decW es=some l->es=l.map wc/\WL l
 | [],l,h=>by cases h;exact⟨rfl,Ub⟩
 | e::r,l,h=>by
  simp only [decW]at h;split at h
  .rename_i n;cases hb:Nat.blt n 4294967296 with
   | false=>rw [hb]at h;exact nos h
   | true=>
    rw [hb]at h;simp only [cond_true,Option.map_eq_some_iff]at h;obtain⟨l',h1,rfl⟩:=h;obtain⟨h2,h3⟩:=qW h1;refine⟨by rw [h2];rfl,Xb.2 ⟨Vb hb,h3⟩⟩
  .exact nos h
theorem XI:∀(l:List Nat),lastNZ l=true↔NZ l
 | []=>by simp [lastNZ,NZ]
 | [a]=>by
  simp only [lastNZ,NZ,List.getLast?_singleton,ne_eq,Option.some.injEq,Bool.not_eq_true'];cases hb:Nat.beq a 0 with
  | false=>simp only [true_iff];intro e;rw [e]at hb;exact Bool.noConfusion hb
  | true=>simp only [Bool.true_eq_false,false_iff,Classical.not_not];exact beq_eq hb
 | a::b::l=>by
  have:=XI (b::l);simp only [lastNZ]at this ⊢;rw [this];unfold NZ;rw [List.getLast?_cons_cons]
theorem Jz{α:Type}(l:List α):nilB l=true↔l=[]:=by cases l <;> simp [nilB]
theorem yao(x:R):vldE x=vldR x:=by
 unfold vldE vldR;by_cases h:x.2.1=[]/\x.2.2=[]
 .rw [if_pos h,(Jz _).2 h.1,(Jz _).2 h.2];rfl
 .rw [if_neg h];have hb:(nilB x.2.1 && nilB x.2.2)=false:=by
   rw [Bool.eq_false_iff];intro e;simp only [Bool.and_eq_true,Jz]at e;exact h e
  rw [hb,cond_false,Bool.eq_iff_iff];simp only [Bool.and_eq_true,Bool.not_eq_true',decide_eq_true_eq,XI,Nat.beq_eq,YJ];have e1:∀l:List Nat,nilB l=false↔l≠[]:=λl=>by
   rw [<-Bool.not_eq_true,Jz]
  rw [e1,e1];exact⟨λ⟨⟨⟨⟨a,b⟩,c⟩,d⟩,e⟩=>⟨a,b,c,d,e⟩,λ⟨a,b,c,d,e⟩=>⟨⟨⟨⟨a,b⟩,c⟩,d⟩,e⟩⟩
theorem jaq{a:AV}{x:R}(h:decR a=some x):a=rA x/\WLR x/\rl x<=1000000:=by
 unfold decR at h;split at h
 .split at h
  .rename_i e1 e2;rename_i n' d';obtain⟨g1,g2⟩:=qW e1;obtain⟨g3,g4⟩:=qW e2;cases hb:(Nat.ble n'.length 1000000 && Nat.ble d'.length 1000000) with
   | false=>rw [hb]at h;exact nos h
   | true=>
    rw [hb]at h;cases h
    simp only [Bool.and_eq_true]at hb;exact⟨by rw [g1,g3];rfl,⟨g2,g4⟩,Nat.max_le.2 ⟨Vb hb.1,Vb hb.2⟩⟩
  .exact nos h
 .exact nos h
theorem kj{a:AV}{x:R}(h:decV a=some x):a=rA x/\WLR x/\rl x<=1000000/\vldR x=true:=by
 unfold decV at h;split at h
 .rename_i x' e;obtain⟨h1,h2,h3⟩:=jaq e;cases hb:vldE x' with
  | false=>rw [hb]at h;exact nos h
  | true=>
   rw [hb]at h;cases h
   rw [yao]at hb;exact⟨h1,h2,h3,hb⟩
 .exact nos h
theorem Jao:∀(f n:Nat),n<2 ^ f->dgF f n=digs n
 | 0,n,h=>by
  have:n=0:=by simpa using h
  subst this;rw [Xa];rfl
 | f+1,n,h=>by
  simp only [dgF];by_cases e:n=0
  .subst e;rw [Xa];rfl
  .have hb:Nat.beq n 0=false:=by
    cases hx:Nat.beq n 0 with
    | false=>rfl
    | true=>exact(e (beq_eq hx)).elim
   rw [hb,cond_false,Uj e,Jao f (n / 4294967296) (by rw [Nat.pow_succ]at h;omega)]
theorem JE(s:Bool)(n:Nat):(sg s n).natAbs=n:=by unfold sg;split <;> omega
theorem kaZ(s:Bool)(n d:Nat):Int.gcd (sg s n) d=Nat.gcd n d:=by
 unfold Int.gcd;rw [JE];rfl
theorem Ya0{s:Bool}{n:Nat}(h:n≠0):decide (sg s n<0)=s:=by unfold sg;cases s <;> simp <;> omega
theorem ZaY(s:Bool):sg s 0=0:=by cases s <;> rfl
theorem YB(s:Bool)(n d:Nat)(hd:d≠0):mkR s n d=rcan (Rat.divInt (sg s n) d):=by
 unfold mkR;by_cases e:n=0
 .subst e;rw [ZaY,Rat.zero_divInt,Ya];rfl
 .have hb:Nat.beq n 0=false:=by
   cases hx:Nat.beq n 0 with
   | false=>rfl
   | true=>exact(e (beq_eq hx)).elim
  have hdi:(d:Int)≠0:=by omega
  have hni:sg s n≠0:=by have:=JE s n;omega
  rw [hb,cond_false,XE hdi hni,kaZ,JE,Int.sign_eq_one_of_pos (by omega),Int.one_mul,Ya0 e,Int.natAbs_natCast]
  rw [Jao _ _ (Nat.lt_of_le_of_lt (Nat.div_le_self _ _) Nat.lt_log2_self),Jao _ _ (Nat.lt_of_le_of_lt (Nat.div_le_self _ _) Nat.lt_log2_self)]
theorem Ui{x:R}(hw:WLR x)(h:vldR x=true):(x=(false,[],[])/\rv x=0)∨(x.2.1≠[]/\(rv x).num=sg x.1 (nval x.2.1)/\(rv x).den=nval x.2.2/\rv x≠0/\nval x.2.1≠0/\nval x.2.2≠0):=by
 by_cases hn:x.2.1=[]
 .left;have hc:=Zg hw h;have h0:rv x=0:=by
   apply Classical.byContradiction;intro hne;unfold rcan at hc;rw [if_neg hne]at hc;have:digs (rv x).num.natAbs=x.2.1:=congrArg (λr:R=>r.2.1) hc;rw [hn]at this;rw [Jd]at this;have:=UR hne;omega
  rw [h0,Ya]at hc;exact⟨hc.symm,h0⟩
 .right;obtain⟨h1,h2,h3,h4,h5,h6⟩:=Xy hw h hn;rw [YJ,YJ];exact⟨hn,h1,h2,h3,ub h4 hn,by rw [<-h2];exact(rv x).den_nz⟩
theorem Ju{α:Type}{l:List α}(h:l≠[]):∃a r,l=a::r:=by
 cases l with
 | nil=>exact(h rfl).elim
 | cons a r=>exact⟨a,r,rfl⟩
theorem vW{x y:R}(hx:WLR x)(hy:WLR y)(vx:vldR x=true)(vy:vldR y=true):addR x y=rcan (rv x+rv y):=by
 rcases Ui hx vx with⟨rfl,e⟩ | ⟨hn,h1,h2,h3,h4,h5⟩
 .rw [e,Rat.zero_add,Zg hy vy];rfl
 .rcases Ui hy vy with⟨rfl,e⟩ | ⟨kn,k1,k2,k3,k4,k5⟩
  .rw [e,Rat.add_zero,Zg hx vx];obtain⟨s,n,d⟩:=x;obtain⟨a,r,hr⟩:=Ju hn;simp only at hr;subst hr;rfl
  .rw [<-vE,h1,h2,k1,k2];obtain⟨s,n,d⟩:=x;obtain⟨t,m,e⟩:=y;simp only at hn kn h4 h5 k4 k5 ⊢;have hdef:addR (s,n,d) (t,m,e)=cond (s == t) (mkR s (nval n*nval e+nval m*nval d) (nval d*nval e)) (cond (Nat.ble (nval m*nval d) (nval n*nval e)) (mkR s (nval n*nval e-nval m*nval d) (nval d*nval e)) (mkR t (nval m*nval d-nval n*nval e) (nval d*nval e))):=by
    obtain⟨a,r,hr⟩:=Ju hn;obtain⟨b,q,hq⟩:=Ju kn;subst hr hq;rfl
   rw [hdef];generalize nval n=n at *
   generalize nval m=m at *
   generalize nval d=d at *
   generalize nval e=e at *
   have hde:d*e≠0:=Nat.mul_ne_zero h5 k5;have hc:((d:Int)*(e:Int))=((d*e:Nat):Int):=by rw [Int.natCast_mul]
   rw [hc];have h1:((n*e:Nat):Int)=(n:Int)*(e:Int):=Int.natCast_mul ..;have h2:((m*d:Nat):Int)=(m:Int)*(d:Int):=Int.natCast_mul ..;by_cases hst:s=t
   .subst hst;rw [show(s == s)=true by cases s <;> rfl,cond_true,YB _ _ _ hde]
    congr 2;unfold sg;cases s
    .simp only [Bool.false_eq_true,if_false];omega
    .simp only [if_true,Int.neg_mul];omega
   .rw [show(s == t)=false by cases s <;> cases t <;> first | rfl | exact(hst rfl).elim,cond_false]
    by_cases hle:m*d<=n*e
    .rw [show Nat.ble (m*d) (n*e)=true by rw [Nat.ble_eq];exact hle,cond_true,YB _ _ _ hde]
     congr 2;unfold sg;cases s <;> cases t <;> first | exact(hst rfl).elim | (simp only [Bool.false_eq_true,if_false,if_true,Int.neg_mul];omega)
    .rw [show Nat.ble (m*d) (n*e)=false by rw [<-Bool.not_eq_true,Nat.ble_eq];exact hle,cond_false,YB _ _ _ hde]
     congr 2;unfold sg;cases s <;> cases t <;> first | exact(hst rfl).elim | (simp only [Bool.false_eq_true,if_false,if_true,Int.neg_mul];omega)
theorem xW{x:R}(hx:WLR x)(vx:vldR x=true):negR x=rcan (-rv x):=by
 rcases Ui hx vx with⟨rfl,e⟩ | ⟨hn,h1,h2,h3,h4,h5⟩
 .rw [e,show -(0:Rat)=0 from rfl,Ya];rfl
 .have hc:=Zg hx vx;have h' : -rv x≠0:=by intro e;apply h3;rw [<-Rat.neg_neg (rv x),e];rfl
  unfold rcan at hc ⊢;rw [if_neg h3]at hc;rw [if_neg h',Rat.neg_num,Rat.neg_den,Int.natAbs_neg];have hnum:=UR h3;generalize rv x=q at *
  obtain⟨s,n,d⟩:=x;simp only [Prod.mk.injEq]at hc;obtain⟨c1,c2,c3⟩:=hc;have hdef:negR (s,n,d)=(!s,n,d):=by
   obtain⟨a,r,hr⟩:=Ju hn;simp only at hr;subst hr;rfl
  rw [hdef,c2,c3,<-c1];congr 1;rw [Bool.eq_iff_iff];simp only [Bool.not_eq_true',decide_eq_false_iff_not,decide_eq_true_eq];omega
theorem UaR{x y:R}(hx:WLR x)(hy:WLR y)(vx:vldR x=true)(vy:vldR y=true):mulR x y=rcan (rv x*rv y):=by
 rcases Ui hx vx with⟨rfl,e⟩ | ⟨hn,h1,h2,h3,h4,h5⟩
 .rw [e,Rat.zero_mul,Ya];rfl
 .rcases Ui hy vy with⟨rfl,e⟩ | ⟨kn,k1,k2,k3,k4,k5⟩
  .rw [e,Rat.mul_zero,Ya];obtain⟨s,n,d⟩:=x;obtain⟨a,r,hr⟩:=Ju hn;simp only at hr;subst hr;rfl
  .rw [<-Uz,h1,h2,k1,k2];obtain⟨s,n,d⟩:=x;obtain⟨t,m,e⟩:=y;simp only at hn kn h4 h5 k4 k5 ⊢;have hdef:mulR (s,n,d) (t,m,e)=mkR (s != t) (nval n*nval m) (nval d*nval e):=by
    obtain⟨a,r,hr⟩:=Ju hn;obtain⟨b,q,hq⟩:=Ju kn;subst hr hq;rfl
   rw [hdef];generalize nval n=n at *
   generalize nval m=m at *
   generalize nval d=d at *
   generalize nval e=e at *
   rw [YB _ _ _ (Nat.mul_ne_zero h5 k5),Int.natCast_mul];congr 2;unfold sg;cases s <;> cases t <;> simp [Int.natCast_mul,Int.neg_mul,Int.mul_neg]
theorem xaU{x y:R}(hx:WLR x)(hy:WLR y)(vx:vldR x=true)(vy:vldR y=true)(hne:nilB y.2.1=false):divR x y=rcan (rv x / rv y)/\rv y≠0:=by
 rcases Ui hy vy with⟨rfl,e⟩ | ⟨kn,k1,k2,k3,k4,k5⟩
 .exact Bool.noConfusion hne
 refine⟨?_,k3⟩;rcases Ui hx vx with⟨rfl,e⟩ | ⟨hn,h1,h2,h3,h4,h5⟩
 .rw [e,Rat.div_def,Rat.zero_mul,Ya];rfl
 .rw [<-kE k3,h1,h2,k1,k2];obtain⟨s,n,d⟩:=x;obtain⟨t,m,e⟩:=y;simp only at hn kn h4 h5 k4 k5 ⊢;have hdef:divR (s,n,d) (t,m,e)=mkR (s != t) (nval n*nval e) (nval d*nval m):=by
   obtain⟨a,r,hr⟩:=Ju hn;subst hr;rfl
  rw [hdef];generalize nval n=n at *
  generalize nval m=m at *
  generalize nval d=d at *
  generalize nval e=e at *
  rw [YB _ _ _ (Nat.mul_ne_zero h5 k4)];congr 1;cases t
  .unfold sg;cases s <;> simp [Int.natCast_mul,Int.neg_mul,Int.mul_neg]
  .rw [show sg true m = -(m:Int) from rfl,Int.mul_neg,Rat.divInt_neg',<-Int.natCast_mul];congr 1;unfold sg;cases s <;> simp [Int.natCast_mul,Int.neg_mul,Int.mul_neg]
theorem W7{x:R}(hx:WLR x)(vx:vldR x=true):signR x=ordQ (rv x) 0:=by
 rcases Ui hx vx with⟨rfl,e⟩ | ⟨hn,h1,h2,h3,h4,h5⟩
 .rw [e];rfl
 .have hs:(rv x<0)↔sg x.1 (nval x.2.1)<0:=by rw [<-h1,Rat.lt_iff];simp
  have hp:(0<rv x)↔0<sg x.1 (nval x.2.1):=by rw [<-h1,Rat.lt_iff];simp
  obtain⟨s,n,d⟩:=x;have hdef:signR (s,n,d)=cond s (.negSucc 0) (.ofNat 1):=by
   obtain⟨a,r,hr⟩:=Ju hn;simp only at hr;subst hr;rfl
  rw [hdef];unfold ordQ;simp only at hs hp h4;cases s
  .rw [if_neg (by rw [hs];unfold sg;simp only [Bool.false_eq_true,if_false];omega),if_pos (by rw [hp];unfold sg;simp only [Bool.false_eq_true,if_false];omega)]
   rfl
  .rw [if_pos (by rw [hs];unfold sg;simp only [if_true];omega)]
   rfl
theorem xae(n:Int):Rat.divInt n 1=(n:Rat):=by
 have:=Rat.mkRat_one n
 rwa [<-Rat.divInt_ofNat]at this
theorem jJ(q:Rat):WLR (rcan q)/\vldR (rcan q)=true:=⟨jk q,ug q⟩
theorem YaH(p q:Rat):ordQ (p-q) 0=ordQ p q:=by
 unfold ordQ;have h1:p-q<0↔p<q:=by constructor <;> intro h <;> grind
 have h2:0<p-q↔q<p:=by constructor <;> intro h <;> grind
 simp only [h1,h2]
theorem Yn{k:R->Prop}{x:R}(hw:WLR x)(hk:k x):onR k (rA x):=⟨x,rfl,hw,hk⟩
def fG(tE:Nat):FK->List AV->(AV->Prop)->Prop
 | .add=>Wl
 | .sub=>Un
 | .mul=>Zq
 | .div=>Zp tE
 | .neg=>Ys
 | .sign=>jh
 | .cmp=>ux
 | .valid=>Xc
 | .of=>QE
theorem vaH(tE:Nat){k:FK}{args:List AV}{r:AV}{K:AV->Prop}(h:fracE k args=some r)(hk:K r):fG tE k args K:=by
 unfold fracE at h;split at h
 .split at h
  .rename_i x y e1 e2;cases h
   obtain⟨rfl,a2,a3,a4⟩:=kj e1;obtain⟨rfl,b2,b3,b4⟩:=kj e2;rw [vW a2 b2 a4 b4]at hk;exact Yn a2 (Yn b2 ⟨by omega,by omega,hk⟩)
  .exact nos h
 .split at h
  .rename_i x y e1 e2;cases h
   obtain⟨rfl,a2,a3,a4⟩:=kj e1;obtain⟨rfl,b2,b3,b4⟩:=kj e2;rw [xW b2 b4,vW a2 (jJ _).1 a4 (jJ _).2,Zc,<-Rat.sub_eq_add_neg]at hk;exact Yn a2 (Yn b2 ⟨by omega,by omega,hk⟩)
  .exact nos h
 .split at h
  .rename_i x y e1 e2;cases h
   obtain⟨rfl,a2,a3,a4⟩:=kj e1;obtain⟨rfl,b2,b3,b4⟩:=kj e2;rw [UaR a2 b2 a4 b4]at hk;exact Yn a2 (Yn b2 ⟨by omega,by omega,hk⟩)
  .exact nos h
 .split at h
  .rename_i x y e1 e2;obtain⟨rfl,a2,a3,a4⟩:=kj e1;obtain⟨rfl,b2,b3,b4⟩:=kj e2;cases hn:nilB y.2.1 with
   | true=>rw [hn]at h;exact nos h
   | false=>
    rw [hn]at h;cases h
    obtain⟨q1,q2⟩:=xaU a2 b2 a4 b4 hn;rw [q1]at hk;refine Yn a2 (Yn b2 ⟨by omega,by omega,?_⟩)
    rw [if_neg q2,Qc];exact hk
  .exact nos h
 .split at h
  .rename_i x e1;cases h
   obtain⟨rfl,a2,a3,a4⟩:=kj e1;rw [xW a2 a4]at hk;exact Yn a2 ⟨by omega,hk⟩
  .exact nos h
 .split at h
  .rename_i x e1;cases h
   obtain⟨rfl,a2,a3,a4⟩:=kj e1;rw [W7 a2 a4]at hk;exact Yn a2 ⟨by omega,hk⟩
  .exact nos h
 .split at h
  .rename_i x y e1 e2;cases h
   obtain⟨rfl,a2,a3,a4⟩:=kj e1;obtain⟨rfl,b2,b3,b4⟩:=kj e2;rw [xW b2 b4,vW a2 (jJ _).1 a4 (jJ _).2,Zc,<-Rat.sub_eq_add_neg,W7 (jJ _).1 (jJ _).2,Zc,YaH]at hk;exact Yn a2 (Yn b2 ⟨by omega,by omega,hk⟩)
  .exact nos h
 .split at h
  .rename_i x e1;cases h
   obtain⟨rfl,a2,a3⟩:=jaq e1;rw [yao]at hk;exact Yn a2 ⟨by omega,hk⟩
  .exact nos h
 .split at h
  .rename_i k;cases hb:Nat.ble k 1000000 with
   | false=>rw [hb]at h;exact nos h
   | true=>
    rw [hb]at h;cases h
    have:=Vb hb;rw [YB _ _ _ (by decide),show sg false k=((k:Nat):Int) from rfl,show(((1:Nat):Int))=1 from rfl,xae]at hk
    refine⟨rfl,by simp only [Int.ofNat_eq_natCast];omega,by simp only [Int.ofNat_eq_natCast];omega,hk⟩
  .rename_i k;cases hb:Nat.ble k 1000000 with
   | false=>rw [hb]at h;exact nos h
   | true=>
    rw [hb]at h;cases h
    have:=Vb hb;rw [YB _ _ _ (by decide),show sg true (k+1)=Int.negSucc k from rfl,show(((1:Nat):Int))=1 from rfl,xae]at hk
    refine⟨rfl,by simp only [Int.negSucc_eq];omega,by simp only [Int.negSucc_eq];omega,hk⟩
 .exact nos h
end Go.Abs
end
section
namespace Go.Abs
open Go.Num
variable {P:Program}
def clAC(z:Nat):AC:=(.seq (.p [⟨some 2,none,.mv (.c (.one .emp))⟩]) (.seq (.seq (.p [⟨some 3,none,.mv (.t 0)⟩,⟨some 4,none,.snil false (.t 3)⟩]) (.cond (.t 4) (.seq (.p [⟨some 2,none,.mv (.c (.one .emp))⟩]) .ret) .skip)) (.seq (.p [⟨some 5,none,.mv (.c (.one .emp))⟩,⟨some 6,none,.mv (.t 0)⟩,⟨some 7,none,.app0 z (.t 5) (.t 6)⟩,⟨some 2,none,.mv (.t 7)⟩]) .ret)))
theorem Uak:Holds P λ_=>.none:=λ_=>trivial
theorem Q3{f z:Nat}(hc:check P f=some (8,clAC z,[.tmp 2])):FSound P f z λargs K=>∃r,cloneE args=some r/\K r:=by
 obtain⟨fn,c,h1,h2,h3,h4,h5,h6,h7⟩:=jo hc;refine fsound (ac:=clAC z) (Γ:=λ_=>.none) h1 h3 h4 h5 h6 Uak h7 λargs K hcl hfi ⟨r,hr,hk⟩=>?_;unfold cloneE at hr;split at hr
 .cases hr
  refine⟨by simp,?_⟩
  simp only [go_sem,clAC];simp [roomA,hk,CleanR]
 .cases hr
  refine⟨by simp,?_⟩
  simp only [go_sem,clAC];simp [roomA,hk,CleanR]
 .cases hr
  refine⟨by simp,?_⟩
  simp only [go_sem,clAC];simp [roomA,hk,CleanR]
 .exact nos hr
theorem DSound.mono{f:FuncId}{G G' : List AV->(AV->Prop)->Prop}(h:DSound P f G)(hm:∀args K,G' args K->G args K):DSound P f G':=
 λargs vals w I K h1 h2 h3 hG=>h args vals w I K h1 h2 h3 (hm args K hG)
theorem FSound.mono{f:FuncId}{z:Nat}{G G' : List AV->(List (List C)->Prop)->Prop}(h:FSound P f z G)(hm:∀args K,G' args K->G args K):FSound P f z G':=
 λargs vals w I K h1 h2 h3 hG=>h args vals w I K h1 h2 h3 (hm args K hG)
theorem xN:∀{l:List (Nat×FK)} {f:Nat} {k:FK},lookK l f=some k->(f,k)∈l
 | [],f,k,h=>nos h
 | (a,x)::r,f,k,h=>by
  simp only [lookK]at h;cases hb:Nat.beq f a with
  | true=>
   rw [hb]at h;cases h
   rw [beq_eq hb];exact List.mem_cons_self ..
  | false=>rw [hb]at h;exact List.mem_cons_of_mem _ (xN h)
theorem Vaz{N:Nums}{tE:Nat}(hf:∀p∈N.fr,Enters P p.1/\DSound P p.1 (fG tE p.2))(hcl:∀f∈N.clones,Enters P f/\FSound P f ((baseN N).z f) λargs K=>∃r,cloneE args=some r/\K r)
  (hpe:Enters P N.pair) (hp:ISound P N.pair λ_ args s K=>∃t r t',s=t.den/\pairE N.pq t args=some (r,t')/\K r t'.den):BaseOk P (baseN N):=by
 have hd:∀{f:Nat} {args:List AV} {r:AV},(baseN N).dat f args=some r->∃k,(f,k)∈N.fr/\fracE k args=some r:=by
  intro f args r h;simp only [baseN]at h;split at h
  .rename_i k e;exact⟨k,xN e,h⟩
  .exact nos h
 have hi:∀{f:Nat} {args:List AV} {t:T} {r:AV×T},(baseN N).inl f args t=some r->f=N.pair/\pairE N.pq t args=some r:=by
  intro f args t r h;simp only [baseN]at h;cases hb:Nat.beq f N.pair with
  | true=>rw [hb]at h;exact⟨beq_eq hb,h⟩
  | false=>rw [hb]at h;exact nos h
 have hc:∀{f:Nat} {args:List AV} {r:List (List C)},(baseN N).fresh f args=some r->f∈N.clones/\cloneE args=some r:=by
  intro f args r h;simp only [baseN]at h;cases hb:memN N.clones f with
  | true=>
   rw [hb]at h;unfold memN at hb;rw [List.any_eq_true]at hb;obtain⟨x,hx,e⟩:=hb;rw [beq_eq e];exact⟨hx,h⟩
  | false=>rw [hb]at h;exact nos h
 refine⟨λf args r h=>?_,λf args t r h=>?_,λf args r h=>?_,λf=>?_,λf=>?_,λf=>?_⟩
 .obtain⟨k,h1,h2⟩:=hd h;exact(hf _ h1).1
 .rw [(hi h).1];exact hpe
 .exact(hcl f (hc h).1).1
 .intro args vals w I K h1 h2 h3 ⟨r,h,hk⟩;obtain⟨k,g1,g2⟩:=hd h;exact(hf _ g1).2 args vals w I K h1 h2 h3 (vaH tE g2 hk)
 .intro E args vals s a w m I d K hs hargs ⟨t,r,t',e,h,hk⟩;obtain⟨rfl,h2⟩:=hi h;exact hp E args vals s a w m I d K hs hargs ⟨t,r,t',e,h2,hk⟩
 .intro args vals w I K h1 h2 h3 ⟨r,h,hk⟩;obtain⟨g1,g2⟩:=hc h;exact(hcl f g1).2 args vals w I K h1 h2 h3 ⟨r,g2,hk⟩
theorem Yav{tab:Nat->Option (Nat×AC×List RV)}{B:Base}(ht:TabOk P tab)(hB:BaseOk P B){f n:Nat}{b:Bool}(h:(lvE tab B n).dat f []=some (.one (.lit (.bool b)))) :
  Sound P f (.dat true λargs K=>args=[]/\K (.one (.lit (.bool b)))):=by
 have hL:=(zab ht hB n).1;refine⟨hL.en f _ _ h,⟨λhm h=>⟨h.1,hm _ h.2⟩,λh=>⟨_,h.2⟩,λh=>⟨h.1,λK hk=>hk.2⟩⟩,(hL.dat f).mono λargs K ⟨h1,h2⟩=>?_⟩;subst h1;exact⟨_,h,h2⟩
end Go.Abs
end
section
namespace Go.Abs
variable {P:Program} {E:Env} {s:S} {a:Act} {w:World} {m:M} {I:Nat->Prop} {F:Fence}
noncomputable section
def nrmE(p:Option (Ex×T)):Option T:=obind p λp=>@Ex.rec (λ_=>Option T) (some p.2) (λ_=>none) none p.1
def retE(p:Option (Ex×T)):Option T:=obind p λp=>@Ex.rec (λ_=>Option T) none (λ_=>none) (some p.2) p.1
def hdX(x:List Tr):Option (Tr×List Tr):=@List.rec Tr (λ_=>Option (Tr×List Tr)) none (λv x _=>some (v,x)) x
def isTrue:AV->Bool
 | .one (.lit (.bool b))=>b
 | _=>false
def cloOf:AV->Option (Nat×C)
 | .one (.clo f [c])=>some (f,c)
 | _=>none
theorem qq{p:Option (Ex×T)}{t:T}(h:nrmE p=some t):p=some (.nrm,t):=by
 obtain⟨⟨e,t1⟩,rfl,h⟩:=Qa h;cases e with
 | nrm=>cases (show some t1=some t from h);rfl
 | exit i=>exact nos h
 | ret=>exact nos h
theorem VaJ{p:Option (Ex×T)}{t:T}(h:retE p=some t):p=some (.ret,t):=by
 obtain⟨⟨e,t1⟩,rfl,h⟩:=Qa h;cases e with
 | ret=>cases (show some t1=some t from h);rfl
 | exit i=>exact nos h
 | nrm=>exact nos h
theorem Q9{x x' : List Tr}{v:Tr}(h:hdX x=some (v,x')):x=v::x':=by
 cases x with
 | nil=>exact nos h
 | cons v x=>cases (show some (v,x)=some (_,x') from h);rfl
theorem qaB{a:AV}(h:isTrue a=true):a=.one (.lit (.bool true)):=by
 unfold isTrue at h;split at h
 .rw [h]
 .exact Bool.noConfusion h
structure Pcs where
 r0:AC
 r1:AC
 cn1:AC
 r2:AC
 r3:AC
 r45:AC
 cn6:AC
 r5:AC
 r7:AC
 b0:Nat
 b1:Nat
 b2:Nat
 b3:Nat
 l1:List AO
 l2:List AO
 d:Nat
 g:Nat
 j:Nat
 p:Nat
 q:Nat
def Pcs.X(c:Pcs):AC:=(.seq c.r1 (.seq c.cn1 (.seq (.block c.b1 (.seq c.r2 (.seq c.r3 (.block c.b2 (.loop (.seq c.r45 (.seq (.block c.b3 (.seq (.ops false (c.l1++⟨some c.d,some (c.g,true),.callv (.t c.j) [.t c.p,.t c.q]⟩::c.l2)) c.cn6)) c.r5))))))) c.r7)))
def Pcs.all(c:Pcs):AC:=.seq c.r0 (.block c.b0 (.loop c.X))
def preRun(L:Lv)(n:Nat)(c:Pcs)(p1 p2:Nat)(aA:AC)(t0:T):Option (AV×T):=
 obind (nrmE (codeE L n c.r0 t0)) λt1=>obind (nrmE (codeE L n c.X t1)) λt2=>obind (nrmE (codeE L n c.X t2)) λt3=>obind (nrmE (codeE L n c.r1 t3)) λt4=>obind (nrmE (codeE L n c.cn1 t4)) λt5=>
 obind (nrmE (codeE L n c.r2 t5)) λt6=>obind (nrmE (codeE L n c.r3 t6)) λt7=>obind (nrmE (codeE L n c.r45 t7)) λt8=>obind (aosE L false c.l1 t8) λt9=>guardE (isTrue (t9.get c.g)) (obind (hdX t9.x) λp=>
 obind (nrmE (codeE L n aA (((T.mk p.1 (t9.v::t9.x) t9.h t9.n).put (some p1) (t9.get c.p)).put (some p2) (t9.get c.q)))) λu2=>some (t9.get c.j,u2))
def postRun(L:Lv)(n:Nat)(c:Pcs)(u3:T):Option T:=
 obind (hdX u3.x) λp=>obind (aosE L false c.l2 ((T.mk p.1 p.2 u3.h u3.n).put (some c.d) (.one (.lit (.bool false))))) λt10=>retE (codeE L n c.cn6 t10)
theorem XaP{L:Lv}{n N p1 p2 l:Nat}{c:Pcs}{aA:AC}{cB:Code}{t0 t11 u2 u3:T}(h1:preRun L n c p1 p2 aA t0=some (.one (.lit (.func (.yield l) #[] #[])),u2))(hB:Walks (Fence.wide.inRound l) P N cB u2 .ret u3)(h2:postRun L n c u3=some t11) :
  Once P L n N p1 p2 aA cB c.r0 c.r1 c.cn1 c.r2 c.r3 c.r45 c.cn6 c.r5 c.r7 c.b1 c.b2 c.b3 c.l1 c.l2 c.d c.g c.j c.p c.q l t0 t11:=by
 unfold preRun at h1;obtain⟨t1,e1,h1⟩:=Qa h1;obtain⟨t2,e2,h1⟩:=Qa h1;obtain⟨t3,e3,h1⟩:=Qa h1;obtain⟨t4,e4,h1⟩:=Qa h1;obtain⟨t5,e5,h1⟩:=Qa h1;obtain⟨t6,e6,h1⟩:=Qa h1;obtain⟨t7,e7,h1⟩:=Qa h1;obtain⟨t8,e8,h1⟩:=Qa h1;obtain⟨t9,e9,h1⟩:=Qa h1;obtain⟨hg,h1⟩:=Za h1;obtain⟨⟨v,x⟩,e10,h1⟩:=Qa h1;obtain⟨u,e11,h1⟩:=Qa h1;simp only [Option.some.injEq,Prod.mk.injEq]at h1;obtain⟨hj,rfl⟩:=h1;unfold postRun at h2;obtain⟨⟨v4,x4⟩,f1,h2⟩:=Qa h2;obtain⟨t10,f2,h2⟩:=Qa h2;exact⟨t1,t2,t3,t4,t5,t6,t7,t8,t9,t10,u,u3,v,v4,x,x4,c.X,rfl,qq e1,qq e2,qq e3,qq e4,qq e5,qq e6,qq e7,qq e8,e9,qaB hg,Q9 e10,hj,qq e11,hB,Q9 f1,f2,VaJ h2⟩
def noPin(h:List (Nat×HB)):Bool:=h.all λp=>Nat.blt p.1 pinA
theorem vae:∀{h:List (Nat×HB)},noPin h=true->∀r,pinA<=r->(hget h r).blk=none
 | [],_,r,_=>rfl
 | (k,b)::h,hp,r,hr=>by
  unfold noPin at hp;rw [List.all_cons,Bool.and_eq_true]at hp;rw [kd];have hk:=Vb hp.1;by_cases e:r=k
  .subst e;exact absurd hr (Nat.not_le.2 hk)
  .rw [if_neg e];exact vae (h:=h) hp.2 r hr
def endRun(once:Bool)(L:Lv)(n:Nat)(a2:AC)(rv:List RV)(i:T):Option (AV×T):=
 obind (hdX i.x) λp=>obind (sel once (some (T.mk p.1 p.2 i.h i.n)) (retE (codeE L n a2 (T.mk p.1 p.2 i.h i.n)))) λs4=>obind (rawE s4 rv) λlr=>obind (hdX s4.x) λq=>guardE (noPin s4.h) (some (rnV (swp (swaps s4.h (lows s4.h) s4.n)) (resOf lr),(T.mk q.1 q.2 s4.h s4.n).move (swaps s4.h (lows s4.h) s4.n)))
def begRun(L:Lv)(n:Nat)(a0 a1:AC)(g:Nat)(args:List AV)(t:T):Option ((Nat×C)×T):=
 obind (nrmE (codeE L n a0 (T.mk (argT args 0 .e) (t.v::t.x) t.h t.n))) λs1=>obind (nrmE (codeE L n a1 s1)) λs2=>obind (cloOf (s2.get g)) λf=>some (f,s2)
def itS(s2:T)(cap:C)(l:Nat):T:=T.mk (argT [.one (.lit (.func (.yield l) #[] #[])),.one cap] 0 .e) (s2.v::s2.x) s2.h s2.n
def PqOk(P:Program)(f:Nat)(q:PQ):Prop:=
 ∀(v:Tr) (x:List Tr) (E:Env) (vals:List Value) (a:Act) (w:World) (m:M) (I:Nat->Prop) (K:AV->S->Prop),Sim E (T.mk v x q.h q.n).den a w m I->RAs m I w.heap q.args vals->K q.r (T.mk (mvT q.mv v) (mvX q.mv x) q.h' q.n').den->
  Calls P f ⟨vals⟩ w λe w'=>∃v' r s' m' I',e=.returned v'/\K r s'/\RA m' I' w'.heap r v'/\Sim E s' a w' m' I'
theorem xz{f:Nat}:∀{l:List PQ},(∀q∈l,PqOk P f q)->ISound P f λ_ args s K=>∃t r t',s=t.den/\pairE l t args=some (r,t')/\K r t'.den
 | [],_=>λE args vals s a w m I d K hs hargs ⟨t,r,t',e,h,hk⟩=>nos h
 | q::l,hl=>by
  intro E args vals s a w m I d K hs hargs ⟨t,r,t',e,h,hk⟩;simp only [pairE]at h;rw [Yj]at h;split at h
  .rename_i hb;simp only [Bool.and_eq_true]at hb;have e1:=beq_eq hb.1.1;have e2:=Jaw hb.1.2;have e3:=yaO hb.2;simp only [Option.some.injEq,Prod.mk.injEq]at h;obtain⟨rfl,rfl⟩:=h;subst e e2;have et:t=T.mk t.v t.x q.h q.n:=by rw [<-e1,<-e3]
   rw [et]at hs;exact hl q (List.mem_cons_self ..) t.v t.x E vals a w m I K hs hargs hk
  .exact xz (λq hq=>hl q (List.mem_cons_of_mem _ hq)) E args vals s a w m I d K hs hargs ⟨t,r,t',e,h,hk⟩
theorem Ua6{L:Lv}(hL:LvOk P L){f fi b g p1 p2 N Ni n:Nat}{fn fni:Func}{c0 c1 cA cB c2 ci:Code}{a0 a1 aA a2:AC}{rv:List RV}(hc:PairCode P f fi b g p1 p2 N Ni fn fni c0 c1 cA cB c2 ci a0 a1 aA a2 rv){once:Bool}{q:PQ}(hlen:q.args.length<=N)
  {cap:C} (hcap:cap≠.lit (.agg ⟨[]⟩)) {s2:Tr->List Tr->T} {i1:Tr->List Tr->Nat->T} (hb:∀v x,begRun L n a0 a1 g q.args (T.mk v x q.h q.n)=some ((fi,cap),s2 v x)) (hit:∀v x,Iter once P N p1 p2 cA cB ci Ni (itS (s2 v x) cap) (i1 v x))
  (he:∀v x l,endRun once L n a2 rv (i1 v x l)=some (q.r,T.mk (mvT q.mv v) (mvX q.mv x) q.h' q.n')):PqOk P f q:=by
 intro v x E vals a w m I K hs hargs hK;have hb:=hb v x;unfold begRun at hb;obtain⟨s1,e1,hb⟩:=Qa hb;obtain⟨s,e2,hb⟩:=Qa hb;obtain⟨⟨f',c'⟩,e3,hb⟩:=Qa hb;simp only [Option.some.injEq,Prod.mk.injEq]at hb;obtain⟨⟨rfl,rfl⟩,rfl⟩:=hb;have hg:(s2 v x).get g=.one (.clo f' [c']):=by
  unfold cloOf at e3;split at e3
  .rename_i e;cases e3;exact e
  .exact nos e3
 refine jai hL hc (hit v x) hlen (qq e1) (qq e2) hg hcap (λl=>rfl) (λl=>?_) hs hargs hK;have he:=he v x l;unfold endRun at he;obtain⟨⟨v3,x3⟩,g1,he⟩:=Qa he;obtain⟨s4,g2,he⟩:=Qa he;obtain⟨lr,g3,he⟩:=Qa he;obtain⟨⟨v5,x5⟩,g4,he⟩:=Qa he;obtain⟨g5,he⟩:=Za he;simp only [Option.some.injEq,Prod.mk.injEq]at he;refine⟨v3,x3,s4,lr,v5,x5,Q9 g1,?_,g3,Q9 g4,vae g5,he.1,he.2⟩;cases once with
 | true=>cases (show some _=some s4 from g2);exact .inl ⟨rfl,rfl⟩
 | false=>exact .inr ⟨rfl,VaJ g2⟩
end
end Go.Abs
end
