/-
  Parts of the proof, merged: ArgG, BurQ, BurJ, PoseM, PoseN, BurH, BurI, BurK, CoupH, CoupJ.
-/
import Derived.Test.YtneiiodebbmcaaaGreatDoorM11
set_option linter.unusedVariables false
set_option linter.unusedSimpArgs false
set_option maxRecDepth 100000
section
namespace Go.Abs
open Go.Num
variable {H:Type} {enc:TypeId×Value->H} {bulk:DataW H->Nat} {P:Program} {w:World} {α:Type}
theorem QaE{t u:TypeId}{s:Nat}{e:α->List C}{ok:Nat->α->Prop}(B:Bk bulk)(ht:P.underlying t=some (.array 4 u))(hs:P.cellsOf u=s)(hz:P.cellsOf t=4*s)
  (mono:∀n n' a,n<=n'->ok n a->ok n' a) (h:Opens enc bulk P w u e ok):Opens enc bulk P w t (λa:α×α×α×α=>e a.1++(e a.2.1++(e a.2.2.1++e a.2.2.2))) (λn a=>ok n a.1/\ok n a.2.1/\ok n a.2.2.1/\ok n a.2.2.2):=by
 intro fuel cs x hx;obtain⟨xs,m,rfl,rfl,hlen,hxl,hget⟩:=DataW.trod_array ht hx;rw [hs]at hget;match xs,hxl with
 | [x0,x1,x2,x3],_=>
  obtain⟨a0,k0,r0⟩:=h m _ x0 (hget 0 (by omega))
  obtain⟨a1,k1,r1⟩:=h m _ x1 (hget 1 (by omega))
  obtain⟨a2,k2,r2⟩:=h m _ x2 (hget 2 (by omega))
  obtain⟨a3,k3,r3⟩:=h m _ x3 (hget 3 (by omega))
  rw [Nat.zero_mul,List.drop_zero]at r0;rw [Nat.one_mul]at r1;have e0:cs=cs.take s++((cs.drop s).take s++((cs.drop (2*s)).take s++(cs.drop (3*s)).take s)):=by
   have h1:(cs.drop (3*s)).take s=cs.drop (3*s):=List.take_of_length_le (by rw [List.length_drop,hlen,hz];omega)
   have h2:cs.drop (2*s)=(cs.drop s).drop s:=by rw [List.drop_drop];congr 1;omega
   have h3:cs.drop (3*s)=((cs.drop s).drop s).drop s:=by rw [List.drop_drop,List.drop_drop];congr 1;omega
   rw [h1,h2,h3,List.take_append_drop,List.take_append_drop,List.take_append_drop]
  have b:∀y∈[x0,x1,x2,x3],bulk y.1<=bulk (.agg ([x0,x1,x2,x3].map (·.1))):=λy hy=>B.ag _ _ (List.mem_map.2 ⟨y,hy,rfl⟩);refine⟨(a0,a1,a2,a3),⟨mono _ _ _ (b x0 (by simp)) k0,mono _ _ _ (b x1 (by simp)) k1,mono _ _ _ (b x2 (by simp)) k2,mono _ _ _ (b x3 (by simp)) k3⟩,?_⟩
  rw [e0];exact r0.append (r1.append (r2.append r3))
structure P4T (P:Program) (t:TypeId):Prop where
 ex:∃u,P.underlying t=some (.array 4 u)/\P.cellsOf u=10/\P.cellsOf t=40/\PsT P u
def okP4(n:Nat)(t:P4):Prop:=WL4 t/\okPs n (l4 t)
theorem qbc{t:TypeId}(B:Bk bulk)(h:P4T P t):Opens enc bulk P w t p4C okP4:=by
 obtain⟨u,ht,hc,hz,hu⟩:=h.ex;have:=QaE (enc:=enc) (w:=w) (s:=10) B ht hc (by omega) vaj (xbb (enc:=enc) (w:=w) B hu)
 refine this.imp λn x h=>⟨⟨h.1.1,h.2.1.1,h.2.2.1.1,h.2.2.2.1⟩,λp hp=>?_⟩;rcases Xbk.1 hp with rfl | rfl | rfl | rfl
 .exact h.1
 .exact h.2.1
 .exact h.2.2.1
 .exact h.2.2.2
end Go.Abs
end
section
namespace Go.Num
def addT(a b:TnQ):TnQ:=
 if a.2=true then (if b.2=true then (0,false) else if b.1=0 then (0,true) else (-1 / b.1,false))
 else if b.2=true then (if a.1=0 then (0,true) else (-1 / a.1,false))
 else if 1-a.1*b.1=0 then (0,true) else ((a.1+b.1) / (1-a.1*b.1),false)
theorem kba{x:Rat}(h:x≠0):x*x⁻¹=1:=Rat.mul_inv_cancel x h
theorem cs_f(t:Rat):∃i,(1+t*t)*i=1/\cosQ (t,false)=(1-t*t)*i/\sinQ (t,false)=(t+t)*i:=by
 refine⟨(1+t*t)⁻¹,kba (qa2 t),?_,?_⟩
 .unfold cosQ;rw [if_neg (by simp),Rat.div_def]
 .unfold sinQ;rw [if_neg (by simp),Rat.div_def]
theorem cs_h(t:Rat):cosQ (t,true) = -1/\sinQ (t,true)=0:=⟨rfl,rfl⟩
theorem ybj{y:Rat}(h:y≠0):cosQ (-1 / y,false) = -cosQ (y,false)/\sinQ (-1 / y,false) = -sinQ (y,false):=by
 obtain⟨i,h1,h2,h3⟩:=cs_f (-1 / y);obtain⟨j,g1,g2,g3⟩:=cs_f y;rw [h2,h3,g2,g3];rw [Rat.div_def]at h1 ⊢;have hy:=kba h;obtain⟨q,hq⟩:∃q,y⁻¹=q:=⟨_,rfl⟩;rw [hq]at hy h1 ⊢;have e:i=y*y*j:=by
  have:(1 + -1*q*(-1*q))*(y*y*j)=1:=by grind
  grind
 constructor <;> grind
theorem ybB(a b:TnQ):cosQ (addT a b)=cosQ a*cosQ b-sinQ a*sinQ b/\sinQ (addT a b)=sinQ a*cosQ b+cosQ a*sinQ b:=by
 obtain⟨x,ha⟩:=a;obtain⟨y,hb⟩:=b;obtain⟨z1,z2⟩:cosQ ((0:Rat),false)=1/\sinQ ((0:Rat),false)=0:=by decide +kernel
 unfold addT;simp only;cases ha with
 | true=>
  obtain⟨c1,s1⟩:=cs_h x;rw [if_pos rfl,c1,s1];cases hb with
  | true=>
   obtain⟨c2,s2⟩:=cs_h y;rw [if_pos rfl,c2,s2,z1,z2];constructor <;> grind
  | false=>
   rw [if_neg (by decide)]
   by_cases h:y=0
   .subst h;obtain⟨c2,s2⟩:=cs_h 0;rw [if_pos rfl,c2,s2,z1,z2];constructor <;> grind
   .rw [if_neg h];obtain⟨e1,e2⟩:=ybj h;rw [e1,e2];constructor <;> grind
 | false=>
  rw [if_neg (by decide)]
  cases hb with
  | true=>
   obtain⟨c1,s1⟩:=cs_h y;rw [if_pos rfl,c1,s1];by_cases h:x=0
   .subst h;obtain⟨c2,s2⟩:=cs_h 0;rw [if_pos rfl,c2,s2,z1,z2];constructor <;> grind
   .rw [if_neg h];obtain⟨e1,e2⟩:=ybj h;rw [e1,e2];constructor <;> grind
  | false=>
   rw [if_neg (by decide)]
   obtain⟨i,h1,h2,h3⟩:=cs_f x;obtain⟨k,g1,g2,g3⟩:=cs_f y;rw [h2,h3,g2,g3];by_cases h:1-x*y=0
   .rw [if_pos h];obtain⟨c2,s2⟩:=cs_h 0;rw [c2,s2];constructor <;> grind
   .rw [if_neg h];obtain⟨j,f1,f2,f3⟩:=cs_f ((x+y) / (1-x*y));rw [f2,f3];rw [Rat.div_def]at f1 ⊢;have hd:=kba h;obtain⟨q,hq⟩:∃q,(1-x*y)⁻¹=q:=⟨_,rfl⟩;rw [hq]at hd f1 ⊢;have e:j=(1-x*y)*(1-x*y)*i*k:=by
     have e1:(1+(x+y)*q*((x+y)*q))*((1-x*y)*(1-x*y))=(1+x*x)*(1+y*y):=by
      have:(1+(x+y)*q*((x+y)*q))*((1-x*y)*(1-x*y))=(1-x*y)*(1-x*y)+(x+y)*(x+y)*((1-x*y)*q)*((1-x*y)*q):=by grind
      rw [this,hd];grind
     have e2:(1+(x+y)*q*((x+y)*q))*((1-x*y)*(1-x*y)*i*k)=1:=by
      have:(1+(x+y)*q*((x+y)*q))*((1-x*y)*(1-x*y)*i*k)=(1+(x+y)*q*((x+y)*q))*((1-x*y)*(1-x*y))*(i*k):=by grind
      rw [this,e1];have:(1+x*x)*(1+y*y)*(i*k)=((1+x*x)*i)*((1+y*y)*k):=by grind
      rw [this,h1,g1];grind
     generalize (1-x*y)*(1-x*y)*i*k=u at e2 ⊢;generalize (1+(x+y)*q*((x+y)*q))=v at e2 f1;have:j=j*(v*u):=by rw [e2];grind
     rw [this];have:j*(v*u)=(v*j)*u:=by grind
     rw [this,f1];grind
    constructor
    .have e1:(1-(x+y)*q*((x+y)*q))*j=((1-x*y)*(1-x*y)-(x+y)*(x+y)*((1-x*y)*q)*((1-x*y)*q))*(i*k):=by rw [e];grind
     rw [e1,hd];grind
    .have e1:((x+y)*q+(x+y)*q)*j=((x+y)+(x+y))*((1-x*y)*q)*(1-x*y)*(i*k):=by rw [e];grind
     rw [e1,hd];grind
def thenQ(p q:PsQ):PsQ:=(addT p.1 q.1,appQ q p.2)
def btwQ(p q:PsQ):PsQ:=thenQ (invQ p) q
theorem Xbc(p q:PsQ)(x:V2):appQ (thenQ p q) x=appQ q (appQ p x):=by
 obtain⟨h1,h2⟩:=ybB p.1 q.1;unfold thenQ appQ rotQ addQ;simp only;rw [h1,h2];exact Prod.ext (by simp only;grind) (by simp only;grind)
theorem vbo(p:PsQ)(x:V2):appQ (invQ p) (appQ p x)=x:=by
 have h:=qbe p.1;unfold appQ invQ rotQ addQ negQ;simp only [Wbd,Ja9];exact Prod.ext (by simp only;grind) (by simp only;grind)
def fixQ(p:PsQ):V2:=
 (((1-cosQ p.1)*p.2.1-sinQ p.1*p.2.2) / (2*(1-cosQ p.1)),((1-cosQ p.1)*p.2.2+sinQ p.1*p.2.1) / (2*(1-cosQ p.1)))
def zeroT(t:TnQ):Bool:=!t.2 && decide (t.1=0)
theorem kbj{t:TnQ}(h:zeroT t=false):1-cosQ t≠0:=by
 obtain⟨x,hb⟩:=t;cases hb with
 | true=>obtain⟨c,_⟩:=cs_h x;rw [c];decide +kernel
 | false=>
  obtain⟨i,h1,h2,_⟩:=cs_f x;have hx:x≠0:=by simpa [zeroT] using h
  rw [h2];intro e;have e1:(1+x*x)*i-(1-x*x)*i=0:=by rw [h1];exact e
  have e2:2*(x*x)*i=0:=by grind
  have hi:i≠0:=by rintro rfl;rw [Rat.mul_zero]at h1;exact absurd h1 (by decide)
  have h2x:x*x≠0:=λhh=>by rcases Rat.mul_eq_zero.1 hh with hh | hh <;> exact hx hh
  rcases Rat.mul_eq_zero.1 e2 with hh | hh
  .rcases Rat.mul_eq_zero.1 hh with hh | hh
   .exact absurd hh (by decide)
   .exact h2x hh
  .exact hi hh
theorem kby{p:PsQ}(h:zeroT p.1=false):appQ p (fixQ p)=fixQ p:=by
 have hk:=kbj h;have h1:=qbe p.1;have h2:2*(1-cosQ p.1)≠0:=λe=>by
  rcases Rat.mul_eq_zero.1 e with e | e
  .exact absurd e (by decide)
  .exact hk e
 have hi:=kba h2;unfold fixQ appQ rotQ addQ;simp only [Rat.div_def];obtain⟨q,hq⟩:∃q,(2*(1-cosQ p.1))⁻¹=q:=⟨_,rfl⟩;rw [hq]at hi ⊢;generalize cosQ p.1=c at *
 generalize sinQ p.1=s at *
 generalize p.2.1=X at *
 generalize p.2.2=Y at *
 have hs:s*s=(1-c)*(1+c):=by grind
 exact Prod.ext (by simp only;grind) (by simp only;grind)
theorem Qbs{p q:PsQ}(h:zeroT (btwQ p q).1=false):appQ (invQ p) (fixQ (btwQ p q))=appQ (invQ q) (fixQ (btwQ p q)):=by
 have e:=kby h;have e1:appQ q (appQ (invQ p) (fixQ (btwQ p q)))=fixQ (btwQ p q):=by rw [<-Xbc];exact e
 have e2:=vbo q (appQ (invQ p) (fixQ (btwQ p q)));rw [e1]at e2;exact e2.symm
theorem YaL(a b:TnQ):rz (addT a b).1<=6*rz a.1+6*rz b.1+40:=by
 have h0:=rz_0;have h1:=rz_1;have hn:=JZ;have a1:=VB (-1) a.1;have a2:=VB (-1) b.1;have a3:=Yb a.1 b.1;have a4:=jp 1 (a.1*b.1);have a5:=Ql a.1 b.1;have a6:=VB (a.1+b.1) (1-a.1*b.1);unfold addT;split
 .split
  .simp only;omega
  .split
   .simp only;omega
   .simp only;omega
 .split
  .split
   .simp only;omega
   .simp only;omega
  .split
   .simp only;omega
   .simp only;omega
end Go.Num
end
section
namespace Go.Num
open Go.Abs
theorem QaT{t:Tn}(h:tchk t=0)(hh:t.2=true):rv t.1=0:=by
 unfold tchk at h;split at h
 .rename_i h1;by_cases e:rv t.1=0
  .exact e
  .exact absurd ⟨hh,e⟩ h1.2
 .contradiction
theorem UbE{t:Tn}(h:tchk t=0):vldR t.1=true:=by
 unfold tchk at h;split at h
 .rename_i h1;exact h1.1
 .contradiction
theorem jbn{a b:TnQ}:(addT a b).2=true->(addT a b).1=0:=by
 unfold addT;split
 .split
  .intro h;exact absurd h (by simp)
  .split
   .intro _;rfl
   .intro h;exact absurd h (by simp)
 .split
  .split
   .intro _;rfl
   .intro h;exact absurd h (by simp)
  .split
   .intro _;rfl
   .intro h;exact absurd h (by simp)
theorem Qa9{p q:Ps}(h1:pvld p=true)(h2:pvld q=true):pvld (pcan (btwQ (pv p) (pv q)))=true:=by
 refine ZL _ ?_;unfold tchk;rw [if_pos];refine⟨wl _,λh=>?_⟩;have e:rv (pcan (btwQ (pv p) (pv q))).1.1=(btwQ (pv p) (pv q)).1.1:=yb _;rw [e]at h;exact h.2 (jbn h.1)
theorem WbG{p q:Ps}(w1:WLP p)(w2:WLP q)(h1:pl p<=1000)(h2:pl q<=1000):pl (pcan (btwQ (pv p) (pv q)))<=1000000:=by
 obtain⟨a1,a2⟩:=qA w1 h1;obtain⟨b1,b2⟩:=qA w2 h2;have i1:=Zac (backQ (pv p).1) (negQ (pv p).2);have i2:=wau (pv p).2;have i3:rz (backQ (pv p).1).1=rz (pv p).1.1:=Xz _;have i4:(invQ (pv p)).2=rotQ (backQ (pv p).1) (negQ (pv p).2):=rfl;have t:=YaL (invQ (pv p)).1 (pv q).1;have t2:(invQ (pv p)).1=backQ (pv p).1:=rfl;have u:=zaJ (pv q) (invQ (pv p)).2;rw [t2]at t;rw [i4]at u;have e:pl (pcan (btwQ (pv p) (pv q)))=max (rz (addT (backQ (pv p).1) (pv q).1).1) (max (rz (appQ (pv q) (rotQ (backQ (pv p).1) (negQ (pv p).2))).1) (rz (appQ (pv q) (rotQ (backQ (pv p).1) (negQ (pv p).2))).2)):=rfl;have e2:zq (appQ (pv q) (rotQ (backQ (pv p).1) (negQ (pv p).2)))=max (rz (appQ (pv q) (rotQ (backQ (pv p).1) (negQ (pv p).2))).1) (rz (appQ (pv q) (rotQ (backQ (pv p).1) (negQ (pv p).2))).2):=rfl;rw [e,<-e2];refine Nat.max_le.2 ⟨by omega,by omega⟩
theorem qbJ{a b:TnQ}(h:b.2=true)(h2:a.2=false):addT a b=addT b a:=by
 unfold addT;rw [h,h2];rfl
end Go.Num
namespace Go.Abs
open Go.Num
variable {P:Program} {Γ:Nat->Spec} {L:List (Nat×Spec)}
def t2A(p:Tn×Tn):AV:=.one (.slice [tC p.1,tC p.2])
theorem kaT(x y:Tn×Tn)(h:t2A x=t2A y):x=y:=by
 simp only [t2A,AV.one.injEq,C.slice.injEq,List.cons.injEq,and_true]at h;exact Prod.ext (ya4 _ _ (congrArg AV.agg h.1)) (ya4 _ _ (congrArg AV.agg h.2))
def onT2(k:Tn×Tn->Prop)(a:AV):Prop:=onE t2A (λt=>(WLR t.1.1/\WLR t.2.1)/\k t) a
@[congr] theorem JbT {k:Tn×Tn->Prop} {a a' : AV} (h:a=a'):onT2 k a=onT2 k a':=by subst h;rfl
theorem jbH{β:Type}{T:Tn×Tn->(β->Prop)->Prop}(h:∀x,GoodT (T x)){a:AV}:GoodT λK=>onT2 (λx=>T x K) a:=
 jI (e:=t2A) (T:=λt K=>(WLR t.1.1/\WLR t.2.1)/\T t K) kaT λt=>GoodT.and (c:=WLR t.1.1/\WLR t.2.1) (T:=T t) λ_=>h t
theorem Vbj(k:Tn×Tn->Prop)(x y:R)(b c:Bool):onT2 k (.one (.slice [[cb x,cn x,cd x,.lit (.bool b)],[cb y,cn y,cd y,.lit (.bool c)]]))=((WLR x/\WLR y)/\k ((x,b),(y,c))):=
 qn kaT (λt=>(WLR t.1.1/\WLR t.2.1)/\k t) ((x,b),(y,c))
attribute [go_sem,go_sem ↓] Vbj
theorem t2l0:((0:Int)<((2:Nat):Int))=True:=eq_true (by decide)
theorem t2l1:((1:Int)<((2:Nat):Int))=True:=eq_true (by decide)
theorem t2l2:(((2:Nat):Int)<((2:Nat):Int))=False:=eq_false (by decide)
theorem qbu(K:List C->Prop)(a b:List C):getE K [a,b] 0=K a:=by simp [getE]
theorem ybu(K:List C->Prop)(a b:List C):getE K [a,b] 1=K b:=by simp [getE]
def Vz(tE:Nat)(l:List AV)(K:AV->Prop):Prop:=
 match l with
 | [a]=>onT2 (λt=>rl t.1.1<=100000000/\rl t.2.1<=100000000/\tchk t.1=0/\tchk t.2=0/\K (.one (.lit .nilIface))) a
 | _=>False
theorem wao(tE:Nat)(a:AV)(K:AV->Prop):Vz tE [a] K=(onT2 (λt=>rl t.1.1<=100000000/\rl t.2.1<=100000000/\tchk t.1=0/\tchk t.2=0/\K (.one (.lit .nilIface))) a):=propext Iff.rfl
@[congr] theorem vbM (tE:Nat) {K:AV->Prop} {l l' : List AV} (h:l=l'):Vz tE l K=Vz tE l' K:=by subst h;rfl
attribute [go_sem,go_sem ↓] wao
theorem xaH(tE:Nat):Good (Vz tE):=Wa λas=>by
 unfold Vz;split
 .exact(jbH λ_=>(.and λ_=>(.and λ_=>(.and λ_=>(.and λ_=>(.ret _))))))
 .exact .of λK hk=>hk.elim
def qs(l:List AV)(K:AV->Prop):Prop:=
 match l with
 | []=>K (tQ (0,true))
 | _=>False
theorem kax(K:AV->Prop):qs [] K=(K (tQ (0,true))):=propext Iff.rfl
@[congr] theorem jbK {K:AV->Prop} {l l' : List AV} (h:l=l'):qs l K=qs l' K:=by subst h;rfl
attribute [go_sem,go_sem ↓] kax
theorem XaF:Good qs:=Wa λas=>by
 unfold qs;split
 .exact(.ret _)
 .exact .of λK hk=>hk.elim
def Ww(r:Bool)(l:List AV)(K:AV->Prop):Prop:=
 match l with
 | [a,b]=>onT (λt=>onT (λu=>(r=true∨t.2=true∨u.2=false)/\rl t.1<=1000000/\rl u.1<=1000000/\tchk t=0/\tchk u=0/\K (tQ (addT (tv t) (tv u)))) b) a
 | _=>False
theorem ZaW(r:Bool)(a b:AV)(K:AV->Prop):Ww r [a,b] K=(onT (λt=>onT (λu=>(r=true∨t.2=true∨u.2=false)/\rl t.1<=1000000/\rl u.1<=1000000/\tchk t=0/\tchk u=0/\K (tQ (addT (tv t) (tv u)))) b) a):=propext Iff.rfl
@[congr] theorem kbR (r:Bool) {K:AV->Prop} {l l' : List AV} (h:l=l'):Ww r l K=Ww r l' K:=by subst h;rfl
attribute [go_sem,go_sem ↓] ZaW
theorem YaJ(r:Bool):Good (Ww r):=Wa λas=>by
 unfold Ww;split
 .exact(wH λ_=>(wH λ_=>(.and λ_=>(.and λ_=>(.and λ_=>(.and λ_=>(.and λ_=>(.ret _))))))))
 .exact .of λK hk=>hk.elim
def vE(l:List AV)(K:AV->Prop):Prop:=
 match l with
 | [a,b]=>onT (λt=>onT (λu=>rl t.1<=1000000/\rl u.1<=1000000/\tchk t=0/\tchk u=0/\K (.tup [tQ (addT (tv t) (tv u)),.one (.lit .nilIface)])) b) a
 | _=>False
theorem kaL(a b:AV)(K:AV->Prop):vE [a,b] K=(onT (λt=>onT (λu=>rl t.1<=1000000/\rl u.1<=1000000/\tchk t=0/\tchk u=0/\K (.tup [tQ (addT (tv t) (tv u)),.one (.lit .nilIface)])) b) a):=propext Iff.rfl
@[congr] theorem xbQ {K:AV->Prop} {l l' : List AV} (h:l=l'):vE l K=vE l' K:=by subst h;rfl
attribute [go_sem,go_sem ↓] kaL
theorem zaO:Good vE:=Wa λas=>by
 unfold vE;split
 .exact(wH λ_=>(wH λ_=>(.and λ_=>(.and λ_=>(.and λ_=>(.and λ_=>(.ret _)))))))
 .exact .of λK hk=>hk.elim
def ux(l:List AV)(K:AV->Prop):Prop:=
 match l with
 | [a,b]=>onPo (λp=>onPo (λq=>pl p<=100000/\pl q<=100000/\pvld p=true/\pvld q=true/\K (.tup [psQ (thenQ (pv p) (pv q)),.one (.lit .nilIface)])) b) a
 | _=>False
theorem Var(a b:AV)(K:AV->Prop):ux [a,b] K=(onPo (λp=>onPo (λq=>pl p<=100000/\pl q<=100000/\pvld p=true/\pvld q=true/\K (.tup [psQ (thenQ (pv p) (pv q)),.one (.lit .nilIface)])) b) a):=propext Iff.rfl
@[congr] theorem WbL {K:AV->Prop} {l l' : List AV} (h:l=l'):ux l K=ux l' K:=by subst h;rfl
attribute [go_sem,go_sem ↓] Var
theorem xaD:Good ux:=Wa λas=>by
 unfold ux;split
 .exact(JA λ_=>(JA λ_=>(.and λ_=>(.and λ_=>(.and λ_=>(.and λ_=>(.ret _)))))))
 .exact .of λK hk=>hk.elim
def vG(l:List AV)(K:AV->Prop):Prop:=
 match l with
 | [a,b]=>onPo (λp=>onPo (λq=>pl p<=1000/\pl q<=1000/\pvld p=true/\pvld q=true/\K (.tup [psQ (btwQ (pv p) (pv q)),.one (.lit .nilIface)])) b) a
 | _=>False
theorem waV(a b:AV)(K:AV->Prop):vG [a,b] K=(onPo (λp=>onPo (λq=>pl p<=1000/\pl q<=1000/\pvld p=true/\pvld q=true/\K (.tup [psQ (btwQ (pv p) (pv q)),.one (.lit .nilIface)])) b) a):=propext Iff.rfl
@[congr] theorem wbX {K:AV->Prop} {l l' : List AV} (h:l=l'):vG l K=vG l' K:=by subst h;rfl
attribute [go_sem,go_sem ↓] waV
theorem kaX:Good vG:=Wa λas=>by
 unfold vG;split
 .exact(JA λ_=>(JA λ_=>(.and λ_=>(.and λ_=>(.and λ_=>(.and λ_=>(.ret _)))))))
 .exact .of λK hk=>hk.elim
def YE(tE:Nat)(l:List AV)(K:AV->Prop):Prop:=
 match l with
 | [a]=>onPo (λp=>pl p<=1000000/\pvld p=true/\K (.tup [pQ (if zeroT (pv p).1=true then (0,0) else fixQ (pv p)),errV tE (if zeroT (pv p).1=true then 8 else 0)])) a
 | _=>False
theorem ya5(tE:Nat)(a:AV)(K:AV->Prop):YE tE [a] K=(onPo (λp=>pl p<=1000000/\pvld p=true/\K (.tup [pQ (if zeroT (pv p).1=true then (0,0) else fixQ (pv p)),errV tE (if zeroT (pv p).1=true then 8 else 0)])) a):=propext Iff.rfl
@[congr] theorem kbX (tE:Nat) {K:AV->Prop} {l l' : List AV} (h:l=l'):YE tE l K=YE tE l' K:=by subst h;rfl
attribute [go_sem,go_sem ↓] ya5
theorem uaV(tE:Nat):Good (YE tE):=Wa λas=>by
 unfold YE;split
 .exact(JA λ_=>(.and λ_=>(.and λ_=>(.ret _))))
 .exact .of λK hk=>hk.elim
def Wy(tE:Nat)(l:List AV)(K:AV->Prop):Prop:=
 match l with
 | [a,b]=>onPo (λp=>onPo (λq=>pl p<=1000/\pl q<=1000/\pvld p=true/\pvld q=true/\K (.tup [pQ (if zeroT (btwQ (pv p) (pv q)).1=true then (0,0) else fixQ (btwQ (pv p) (pv q))),errV tE (if zeroT (btwQ (pv p) (pv q)).1=true then 8 else 0)])) b) a
 | _=>False
theorem zat(tE:Nat)(a b:AV)(K:AV->Prop):Wy tE [a,b] K=(onPo (λp=>onPo (λq=>pl p<=1000/\pl q<=1000/\pvld p=true/\pvld q=true/\K (.tup [pQ (if zeroT (btwQ (pv p) (pv q)).1=true then (0,0) else fixQ (btwQ (pv p) (pv q))),errV tE (if zeroT (btwQ (pv p) (pv q)).1=true then 8 else 0)])) b) a):=propext Iff.rfl
@[congr] theorem VbL (tE:Nat) {K:AV->Prop} {l l' : List AV} (h:l=l'):Wy tE l K=Wy tE l' K:=by subst h;rfl
attribute [go_sem,go_sem ↓] zat
theorem kaG(tE:Nat):Good (Wy tE):=Wa λas=>by
 unfold Wy;split
 .exact(JA λ_=>(JA λ_=>(.and λ_=>(.and λ_=>(.and λ_=>(.and λ_=>(.ret _)))))))
 .exact .of λK hk=>hk.elim
def Wo(f0:Nat):AC:=(.seq (.ops false [.m 2 (.c (.one (.lit .nilIface)))])
 (.fg [0] (.seq (.seq (.ops false [.m 6 (.t 0),.u 7 (.len (.t 6)),.m 8 (.i 0)])
 (.fg [6,7,8] (.block 0 (.loop (.seq (.ops false [.u 9 (.bin .lss (.t 8) (.t 7))])
 (.fg [6,7,8,9] (.seq (.cond (.t 9) .skip (.exit 0))
 (.fg [6,7,8] (.seq (.block 1 (.seq (.ops false [.u 10 (.idx 4 (.t 6) (.t 8)),.u 11 (.ld none 4 true (.t 10)),.u 4 (.alloc [(.lit (.bool false)),.emp,.emp,(.lit (.bool false))]),.n (.st none 4 (.t 4) (.t 11))])
 (.fg [4,6,7,8] (.seq (.ops false [.u 12 (.ld none 4 true (.t 4)),.u 13 (.call f0 [(.t 12)]),.m 5 (.t 13)])
 (.fg [5,6,7,8] (.seq (.ops false [.m 14 (.t 5),.u 15 (.binn .neq (.t 14) (.c (.one (.lit .nilIface))))])
 (.fg [5,6,7,8,15] (.cond (.t 15) (.seq (.ops false [.m 16 (.t 5),.m 2 (.t 16)])
 .ret) .skip))))))))
 (.fg [6,7,8] (.ops false [.u 17 (.bin .add (.t 8) (.i 1)),.m 8 (.t 17)])))))))))))
 (.fg [] (.seq (.ops false [.m 2 (.c (.one (.lit .nilIface)))])
 .ret)))))
def YA:AC:=(.seq (.ops false [.u 0 (.alloc [(.lit (.bool false)),.emp,.emp,(.lit (.bool false))])])
 (.fg [0] (.seq (.ops false [.u 1 (.build [.z [(.lit (.bool false)),.emp,.emp],.x 1 .tr]),.n (.st none 4 (.t 0) (.t 1))])
 .ret)))
def qg(f0 f1 f2 f3 f4 f5 f6 f7:Nat):AC:=(.seq (.ops false [.u 2 (.box 4 (.t 0)),.u 3 (.box 4 (.t 1)),.u 4 (.alloc [(.lit (.bool false)),.emp,.emp,(.lit (.bool false))])])
 (.fg [2,3,4] (.seq (.block 0 (.seq (.ops false [.u 7 (.fa 3 (.t 2)),.u 8 (.ld none 1 false (.t 7)),.m 9 (.t 8),.w 10 9 true (.fa 3 (.t 3)),.w 11 9 true (.ld none 1 false (.t 10)),.u 12 (.pick (.t 9) (.t 11) .fa),.m 6 (.t 12)])
 (.fg [2,3,4,6] (.cond (.t 6) (.seq (.ops false [.u 13 (.build [.z [(.lit (.bool false)),.emp,.emp,(.lit (.bool false))]]),.n (.st none 4 (.t 4) (.t 13))])
 .ret) (.seq (.ops false [.u 15 (.fa 3 (.t 3)),.u 16 (.ld none 1 false (.t 15)),.m 14 (.t 16)])
 (.fg [2,3,4,14] (.cond (.t 14) (.seq (.ops false [.u 17 (.ld none 4 true (.t 3)),.u 18 (.ld none 4 true (.t 2)),.u 19 (.call f0 [(.t 17),(.t 18)]),.n (.st none 4 (.t 4) (.t 19))])
 .ret) (.seq (.ops false [.u 21 (.fa 3 (.t 2)),.u 22 (.ld none 1 false (.t 21)),.m 23 (.t 22),.w 24 23 true (.fa 0 (.t 3)),.w 25 23 true (.ld none 3 true (.t 24)),.w 26 23 true (.call f1 [(.t 25)]),.w 27 23 true (.bin .eql (.t 26) (.i 0)),.u 28 (.pick (.t 23) (.t 27) .fa),.m 20 (.t 28)])
 (.fg [2,3,4,20] (.cond (.t 20) (.seq (.ops false [.u 29 (.ld none 4 true (.t 2)),.n (.st none 4 (.t 4) (.t 29))])
 .ret) (.seq (.ops false [.u 31 (.fa 3 (.t 2)),.u 32 (.ld none 1 false (.t 31)),.m 30 (.t 32)])
 (.fg [2,3,4,30] (.cond (.t 30) (.seq (.ops true [.u 33 (.call f2 [(.i (-1))]),.u 34 (.fa 0 (.t 3)),.u 35 (.ld none 3 true (.t 34)),.u 36 (.call f3 [(.t 33),(.t 35)]),.u 37 (.build [.x 3 (.t 36),.z [(.lit (.bool false))]]),.n (.st none 4 (.t 4) (.t 37))])
 .ret) .skip)))))))))))))
 (.fg [2,3,4] (.seq (.ops true [.u 38 (.call f2 [(.i 1)]),.u 39 (.fa 0 (.t 2)),.u 40 (.ld none 3 true (.t 39)),.u 41 (.fa 0 (.t 3)),.u 42 (.ld none 3 true (.t 41)),.u 43 (.call f4 [(.t 40),(.t 42)]),.u 44 (.call f5 [(.t 38),(.t 43)]),.u 5 (.alloc [(.lit (.bool false)),.emp,.emp]),.n (.st none 3 (.t 5) (.t 44))])
 (.fg [2,3,4,5] (.seq (.seq (.ops false [.u 45 (.ld none 3 true (.t 5)),.u 46 (.call f1 [(.t 45)]),.u 47 (.bin .eql (.t 46) (.i 0))])
 (.fg [2,3,4,5,47] (.cond (.t 47) (.seq (.ops false [.u 48 (.call f6 []),.n (.st none 4 (.t 4) (.t 48))])
 .ret) .skip)))
 (.fg [2,3,4,5] (.seq (.ops true [.u 49 (.fa 0 (.t 2)),.u 50 (.ld none 3 true (.t 49)),.u 51 (.fa 0 (.t 3)),.u 52 (.ld none 3 true (.t 51)),.u 53 (.call f7 [(.t 50),(.t 52)]),.u 54 (.ld none 3 true (.t 5)),.u 55 (.call f3 [(.t 53),(.t 54)]),.u 56 (.build [.x 3 (.t 55),.z [(.lit (.bool false))]]),.n (.st none 4 (.t 4) (.t 56))])
 .ret)))))))))
def yD(f0 f1:Nat):AC:=(.seq (.ops false [.u 2 (.box 4 (.t 0)),.u 3 (.box 4 (.t 1)),.u 4 (.alloc [(.lit (.bool false)),.emp,.emp,(.lit (.bool false))]),.m 5 (.c (.one (.lit .nilIface)))])
 (.fg [2,3,4] (.seq (.seq (.ops false [.u 7 (.ld none 4 true (.t 2)),.u 8 (.ld none 4 true (.t 3)),.u 9 (.row 4 [[.x 4 (.t 7)],[.x 4 (.t 8)]]),.u 10 (.call f0 [(.t 9)]),.m 6 (.t 10)])
 (.fg [2,3,4,6] (.seq (.ops false [.m 11 (.t 6),.u 12 (.binn .neq (.t 11) (.c (.one (.lit .nilIface))))])
 (.fg [2,3,4,6,12] (.cond (.t 12) (.seq (.ops false [.u 13 (.build [.z [(.lit (.bool false)),.emp,.emp,(.lit (.bool false))]]),.m 14 (.t 6),.n (.st none 4 (.t 4) (.t 13)),.m 5 (.t 14)])
 .ret) .skip)))))
 (.fg [2,3,4] (.seq (.ops false [.u 15 (.ld none 4 true (.t 2)),.u 16 (.ld none 4 true (.t 3)),.u 17 (.call f1 [(.t 15),(.t 16)]),.n (.st none 4 (.t 4) (.t 17)),.m 5 (.c (.one (.lit .nilIface)))])
 .ret)))))
def ZB(f0 f1 f2 tE:Nat):AC:=(.seq (.ops false [.u 2 (.box 10 (.t 0)),.u 3 (.box 10 (.t 1)),.u 4 (.alloc [(.lit (.bool false)),.emp,.emp,(.lit (.bool false)),(.lit (.bool false)),.emp,.emp,(.lit (.bool false)),.emp,.emp]),.m 5 (.c (.one (.lit .nilIface)))])
 (.fg [2,3,4] (.seq (.seq (.ops false [.u 9 (.ld none 10 true (.t 2)),.u 10 (.call f0 [(.t 9)]),.u 11 (.un .not (.t 10)),.m 12 (.t 11),.w 13 12 false (.ld none 10 true (.t 3)),.w 14 12 false (.call f0 [(.t 13)]),.w 15 12 false (.un .not (.t 14)),.u 16 (.pick (.t 12) .tr (.t 15))])
 (.fg [2,3,4,16] (.cond (.t 16) (.seq (.ops false [.u 17 (.build [.z [(.lit (.bool false)),.emp,.emp,(.lit (.bool false)),(.lit (.bool false)),.emp,.emp,(.lit (.bool false)),.emp,.emp]]),.u 18 (.iface tE (.i 2)),.n (.st none 10 (.t 4) (.t 17)),.m 5 (.t 18)])
 .ret) .skip)))
 (.fg [2,3,4] (.seq (.ops false [.u 20 (.fa 0 (.t 2)),.u 21 (.ld none 4 true (.t 20)),.u 22 (.fa 0 (.t 3)),.u 23 (.ld none 4 true (.t 22)),.u 24 (.call f1 [(.t 21),(.t 23)]),.m 19 (.t 24),.u 25 (.ext 0 (.t 19)),.u 26 (.ext 1 (.t 19)),.u 6 (.alloc [(.lit (.bool false)),.emp,.emp,(.lit (.bool false))]),.n (.st none 4 (.t 6) (.t 25)),.m 7 (.t 26)])
 (.fg [2,3,4,6,7] (.seq (.seq (.ops false [.m 27 (.t 7),.u 28 (.binn .neq (.t 27) (.c (.one (.lit .nilIface))))])
 (.fg [2,3,4,6,7,28] (.cond (.t 28) (.seq (.ops false [.u 29 (.build [.z [(.lit (.bool false)),.emp,.emp,(.lit (.bool false)),(.lit (.bool false)),.emp,.emp,(.lit (.bool false)),.emp,.emp]]),.m 30 (.t 7),.n (.st none 10 (.t 4) (.t 29)),.m 5 (.t 30)])
 .ret) .skip)))
 (.fg [2,3,4,6] (.seq (.ops false [.u 32 (.ld none 10 true (.t 3)),.u 33 (.fa 4 (.t 2)),.u 34 (.ld none 6 true (.t 33)),.u 35 (.call f2 [(.t 32),(.t 34)]),.m 31 (.t 35),.u 36 (.ext 0 (.t 31)),.u 37 (.ext 1 (.t 31)),.u 8 (.alloc [(.lit (.bool false)),.emp,.emp,(.lit (.bool false)),.emp,.emp]),.n (.st none 6 (.t 8) (.t 36)),.m 7 (.t 37)])
 (.fg [4,6,7,8] (.seq (.seq (.ops false [.m 38 (.t 7),.u 39 (.binn .neq (.t 38) (.c (.one (.lit .nilIface))))])
 (.fg [4,6,7,8,39] (.cond (.t 39) (.seq (.ops false [.u 40 (.build [.z [(.lit (.bool false)),.emp,.emp,(.lit (.bool false)),(.lit (.bool false)),.emp,.emp,(.lit (.bool false)),.emp,.emp]]),.m 41 (.t 7),.n (.st none 10 (.t 4) (.t 40)),.m 5 (.t 41)])
 .ret) .skip)))
 (.fg [4,6,8] (.seq (.ops false [.u 42 (.ld none 4 true (.t 6)),.u 43 (.ld none 6 true (.t 8)),.u 44 (.build [.x 4 (.t 42),.x 6 (.t 43)]),.n (.st none 10 (.t 4) (.t 44)),.m 5 (.c (.one (.lit .nilIface)))])
 .ret)))))))))))))
def Zs(f0 f1 f2 tE:Nat):AC:=(.seq (.ops false [.u 2 (.box 10 (.t 0)),.u 3 (.box 10 (.t 1)),.u 4 (.alloc [(.lit (.bool false)),.emp,.emp,(.lit (.bool false)),(.lit (.bool false)),.emp,.emp,(.lit (.bool false)),.emp,.emp]),.m 5 (.c (.one (.lit .nilIface)))])
 (.fg [2,3,4] (.seq (.seq (.ops false [.u 8 (.ld none 10 true (.t 2)),.u 9 (.call f0 [(.t 8)]),.u 10 (.un .not (.t 9)),.m 11 (.t 10),.w 12 11 false (.ld none 10 true (.t 3)),.w 13 11 false (.call f0 [(.t 12)]),.w 14 11 false (.un .not (.t 13)),.u 15 (.pick (.t 11) .tr (.t 14))])
 (.fg [2,3,4,15] (.cond (.t 15) (.seq (.ops false [.u 16 (.build [.z [(.lit (.bool false)),.emp,.emp,(.lit (.bool false)),(.lit (.bool false)),.emp,.emp,(.lit (.bool false)),.emp,.emp]]),.u 17 (.iface tE (.i 2)),.n (.st none 10 (.t 4) (.t 16)),.m 5 (.t 17)])
 .ret) .skip)))
 (.fg [2,3,4] (.seq (.ops false [.u 19 (.ld none 10 true (.t 2)),.u 20 (.call f1 [(.t 19)]),.m 18 (.t 20),.u 21 (.ext 0 (.t 18)),.u 22 (.ext 1 (.t 18)),.u 6 (.alloc [(.lit (.bool false)),.emp,.emp,(.lit (.bool false)),(.lit (.bool false)),.emp,.emp,(.lit (.bool false)),.emp,.emp]),.n (.st none 10 (.t 6) (.t 21)),.m 7 (.t 22)])
 (.fg [3,4,6,7] (.seq (.seq (.ops false [.m 23 (.t 7),.u 24 (.binn .neq (.t 23) (.c (.one (.lit .nilIface))))])
 (.fg [3,4,6,7,24] (.cond (.t 24) (.seq (.ops false [.u 25 (.build [.z [(.lit (.bool false)),.emp,.emp,(.lit (.bool false)),(.lit (.bool false)),.emp,.emp,(.lit (.bool false)),.emp,.emp]]),.m 26 (.t 7),.n (.st none 10 (.t 4) (.t 25)),.m 5 (.t 26)])
 .ret) .skip)))
 (.fg [3,4,6] (.seq (.ops false [.u 27 (.ld none 10 true (.t 6)),.u 28 (.ld none 10 true (.t 3)),.u 29 (.call f2 [(.t 27),(.t 28)]),.u 30 (.ext 0 (.t 29)),.u 31 (.ext 1 (.t 29)),.n (.st none 10 (.t 4) (.t 30)),.m 5 (.t 31)])
 .ret)))))))))
def Vm(f0 f1 f2 f3 f4 f5 f6 f7 tE:Nat):AC:=(.seq (.ops false [.u 1 (.box 10 (.t 0)),.u 2 (.alloc [(.lit (.bool false)),.emp,.emp,(.lit (.bool false)),.emp,.emp]),.m 3 (.c (.one (.lit .nilIface)))])
 (.fg [1,2] (.seq (.seq (.ops false [.u 11 (.ld none 10 true (.t 1)),.u 12 (.call f0 [(.t 11)]),.u 13 (.un .not (.t 12))])
 (.fg [1,2,13] (.cond (.t 13) (.seq (.ops false [.u 14 (.build [.z [(.lit (.bool false)),.emp,.emp,(.lit (.bool false)),.emp,.emp]]),.u 15 (.iface tE (.i 2)),.n (.st none 6 (.t 2) (.t 14)),.m 3 (.t 15)])
 .ret) .skip)))
 (.fg [1,2] (.seq (.seq (.ops false [.u 16 (.fa 0 (.t 1)),.u 17 (.fa 3 (.t 16)),.u 18 (.ld none 1 false (.t 17)),.u 19 (.un .not (.t 18)),.m 20 (.t 19),.w 21 20 true (.fa 0 (.t 1)),.w 22 20 true (.fa 0 (.t 21)),.w 23 20 true (.ld none 3 true (.t 22)),.w 24 20 true (.call f1 [(.t 23)]),.w 25 20 true (.bin .eql (.t 24) (.i 0)),.u 26 (.pick (.t 20) (.t 25) .fa)])
 (.fg [1,2,26] (.cond (.t 26) (.seq (.ops false [.u 27 (.build [.z [(.lit (.bool false)),.emp,.emp,(.lit (.bool false)),.emp,.emp]]),.u 28 (.iface tE (.i 8)),.n (.st none 6 (.t 2) (.t 27)),.m 3 (.t 28)])
 .ret) .skip)))
 (.fg [1,2] (.seq (.ops false [.u 30 (.fa 0 (.t 1)),.u 31 (.ld none 4 true (.t 30)),.u 32 (.call f2 [(.t 31)]),.m 29 (.t 32),.u 33 (.ext 0 (.t 29)),.u 34 (.ext 1 (.t 29)),.u 35 (.ext 2 (.t 29)),.u 4 (.alloc [(.lit (.bool false)),.emp,.emp]),.u 5 (.alloc [(.lit (.bool false)),.emp,.emp]),.n (.st none 3 (.t 4) (.t 33)),.n (.st none 3 (.t 5) (.t 34)),.m 6 (.t 35)])
 (.fg [1,2,4,5,6] (.seq (.seq (.ops false [.m 36 (.t 6),.u 37 (.binn .neq (.t 36) (.c (.one (.lit .nilIface))))])
 (.fg [1,2,4,5,6,37] (.cond (.t 37) (.seq (.ops false [.u 38 (.build [.z [(.lit (.bool false)),.emp,.emp,(.lit (.bool false)),.emp,.emp]]),.m 39 (.t 6),.n (.st none 6 (.t 2) (.t 38)),.m 3 (.t 39)])
 .ret) .skip)))
 (.fg [1,2,4,5] (.seq (.ops true [.u 40 (.call f3 [(.i 1)]),.u 41 (.ld none 3 true (.t 4)),.u 42 (.call f4 [(.t 40),(.t 41)]),.u 7 (.alloc [(.lit (.bool false)),.emp,.emp]),.n (.st none 3 (.t 7) (.t 42))])
 (.fg [1,2,5,7] (.seq (.ops true [.u 43 (.call f3 [(.i 2)]),.u 44 (.ld none 3 true (.t 7)),.u 45 (.call f5 [(.t 43),(.t 44)]),.u 8 (.alloc [(.lit (.bool false)),.emp,.emp]),.n (.st none 3 (.t 8) (.t 45))])
 (.fg [1,2,5,7,8] (.seq (.ops true [.u 47 (.ld none 3 true (.t 7)),.u 48 (.fa 4 (.t 1)),.u 49 (.fa 0 (.t 48)),.u 50 (.ld none 3 true (.t 49)),.u 51 (.call f5 [(.t 47),(.t 50)]),.u 52 (.ld none 3 true (.t 5)),.u 53 (.fa 4 (.t 1)),.u 54 (.fa 3 (.t 53)),.u 55 (.ld none 3 true (.t 54)),.u 56 (.call f5 [(.t 52),(.t 55)]),.u 57 (.call f4 [(.t 51),(.t 56)]),.u 58 (.ld none 3 true (.t 8)),.u 59 (.call f6 [(.t 57),(.t 58)]),.m 46 (.t 59),.u 60 (.ext 0 (.t 46)),.u 61 (.ext 1 (.t 46)),.u 9 (.alloc [(.lit (.bool false)),.emp,.emp]),.n (.st none 3 (.t 9) (.t 60)),.m 6 (.t 61)])
 (.fg [1,2,5,6,7,8,9] (.seq (.seq (.ops false [.m 62 (.t 6),.u 63 (.binn .neq (.t 62) (.c (.one (.lit .nilIface))))])
 (.fg [1,2,5,6,7,8,9,63] (.cond (.t 63) (.seq (.ops false [.u 64 (.build [.z [(.lit (.bool false)),.emp,.emp,(.lit (.bool false)),.emp,.emp]]),.m 65 (.t 6),.n (.st none 6 (.t 2) (.t 64)),.m 3 (.t 65)])
 .ret) .skip)))
 (.fg [1,2,5,7,8,9] (.seq (.ops true [.u 67 (.ld none 3 true (.t 7)),.u 68 (.fa 4 (.t 1)),.u 69 (.fa 3 (.t 68)),.u 70 (.ld none 3 true (.t 69)),.u 71 (.call f5 [(.t 67),(.t 70)]),.u 72 (.ld none 3 true (.t 5)),.u 73 (.fa 4 (.t 1)),.u 74 (.fa 0 (.t 73)),.u 75 (.ld none 3 true (.t 74)),.u 76 (.call f5 [(.t 72),(.t 75)]),.u 77 (.call f7 [(.t 71),(.t 76)]),.u 78 (.ld none 3 true (.t 8)),.u 79 (.call f6 [(.t 77),(.t 78)]),.m 66 (.t 79),.u 80 (.ext 0 (.t 66)),.u 81 (.ext 1 (.t 66)),.u 10 (.alloc [(.lit (.bool false)),.emp,.emp]),.n (.st none 3 (.t 10) (.t 80)),.m 6 (.t 81)])
 (.fg [2,6,9,10] (.seq (.ops false [.u 82 (.ld none 3 true (.t 9)),.u 83 (.ld none 3 true (.t 10)),.u 84 (.build [.x 3 (.t 82),.x 3 (.t 83)]),.m 85 (.t 6),.n (.st none 6 (.t 2) (.t 84)),.m 3 (.t 85)])
 .ret)))))))))))))))))))))
def yz(f0 f1:Nat):AC:=(.seq (.ops false [.u 2 (.box 10 (.t 0)),.u 3 (.box 10 (.t 1)),.u 4 (.alloc [(.lit (.bool false)),.emp,.emp,(.lit (.bool false)),.emp,.emp]),.m 5 (.c (.one (.lit .nilIface)))])
 (.fg [2,3,4] (.seq (.ops false [.u 9 (.ld none 10 true (.t 2)),.u 10 (.ld none 10 true (.t 3)),.u 11 (.call f0 [(.t 9),(.t 10)]),.m 8 (.t 11),.u 12 (.ext 0 (.t 8)),.u 13 (.ext 1 (.t 8)),.u 6 (.alloc [(.lit (.bool false)),.emp,.emp,(.lit (.bool false)),(.lit (.bool false)),.emp,.emp,(.lit (.bool false)),.emp,.emp]),.n (.st none 10 (.t 6) (.t 12)),.m 7 (.t 13)])
 (.fg [4,6,7] (.seq (.seq (.ops false [.m 14 (.t 7),.u 15 (.binn .neq (.t 14) (.c (.one (.lit .nilIface))))])
 (.fg [4,6,7,15] (.cond (.t 15) (.seq (.ops false [.u 16 (.build [.z [(.lit (.bool false)),.emp,.emp,(.lit (.bool false)),.emp,.emp]]),.m 17 (.t 7),.n (.st none 6 (.t 4) (.t 16)),.m 5 (.t 17)])
 .ret) .skip)))
 (.fg [4,6] (.seq (.ops false [.u 18 (.ld none 10 true (.t 6)),.u 19 (.call f1 [(.t 18)]),.u 20 (.ext 0 (.t 19)),.u 21 (.ext 1 (.t 19)),.n (.st none 6 (.t 4) (.t 20)),.m 5 (.t 21)])
 .ret)))))))
theorem Vak(hΓ:Holds P Γ){f fk tE:Nat}(hk:Γ fk=.dat false (jh tE))(hc:check P f=some (18,(Wo fk).strip,[.tmp 2])):Sound P f (.dat false (Vz tE)):=by
 refine ka hc (xaH tE) hΓ (λargs K hcl hfi hG=>?_);match args,hG with
 | [a],hG=>
  obtain⟨t,rfl,⟨w1,w2⟩,l1,l2,v1,v2,hK⟩:=hG;refine⟨by simp,?_⟩
  obtain⟨x,y⟩:=t;have e0:=Vb tE;simp only [go_sem,Wo,t2A];repeat first | refine Ja (by omega) ?_ | refine Ja (by assumption) ?_ | refine Ja rfl ?_ | refine Ja ⟨rfl,by omega⟩ ?_ | refine Ja ⟨rfl,by omega,by omega⟩ ?_ | intro _
  refine Ya (λk:Nat=>⟨mkV [(6,.one (.slice [tC x,tC y])),(7,.one (.lit (.int .i64 ((2:Nat):Int)))),(8,.one (.lit (.int .i64 k)))],mkH []⟩) (λk=>k<=2) (λk=>2-k) 0 ?_ ?_ ?_
  .exact ja (by simp [okS,okV,okC,okL,okH,okB,okE,Qa,va,qa,Va,wsA,ws]) trivial
  .exact Nat.zero_le _
  .intro k hk2;by_cases h0:k=0
   .subst h0;simp only [go_sem,t2l0,qbu,hk,tC,vb,v1,e0];repeat first | refine Ja (by omega) ?_ | refine Ja (by assumption) ?_ | refine Ja rfl ?_ | refine Ja ⟨rfl,by omega⟩ ?_ | refine Ja ⟨rfl,by omega,by omega⟩ ?_ | intro _
    exact⟨1,ja (by simp [okS,okV,okC,okL,okH,okB,okE,Qa,va,qa,Va,wsA,ws,tC]) trivial,by omega,by omega⟩
   by_cases h1:k=1
   .subst h1;simp only [go_sem,t2l1,ybu,hk,tC,vb,v2,e0];repeat first | refine Ja (by omega) ?_ | refine Ja (by assumption) ?_ | refine Ja rfl ?_ | refine Ja ⟨rfl,by omega⟩ ?_ | refine Ja ⟨rfl,by omega,by omega⟩ ?_ | intro _
    exact⟨2,ja (by simp [okS,okV,okC,okL,okH,okB,okE,Qa,va,qa,Va,wsA,ws,tC]) trivial,by omega,by omega⟩
   have h2:k=2:=by omega
   subst h2;simp only [go_sem,t2l2];exact hK
theorem Yak(hΓ:Holds P Γ){f:Nat}(hc:check P f=some (2,YA.strip,[.cell 0 4 true])):Sound P f (.dat false qs):=by
 refine ka hc XaF hΓ (λargs K hcl hfi hG=>?_);match args,hG with
 | [],hK=>
  refine⟨by simp,?_⟩
  simp only [qs,qM,kb]at hK;simp only [go_sem,YA];exact hK
theorem WN{r:Bool}(hΓ:Holds P Γ){f fs fo fv fm fb fh fa:Nat}(hr:r=true->Γ f=.dat false (Ww false))(hs:Γ fs=.dat true Vf)(ho:Γ fo=.dat false ZA)(hv:Γ fv=.dat false Ju)(hm:Γ fm=.dat false jl)(hb:Γ fb=.dat false Jp)(hh:Γ fh=.dat false qs)(ha:Γ fa=.dat false yl)(hc:check P f=some (57,(qg f fs fo fv fm fb fh fa).strip,[.cell 4 4 true])):Sound P f (.dat false (Ww r)):=by
 refine ka hc (YaJ r) hΓ (λargs K hcl hfi hG=>?_);match args,hG with
 | [a,b],hG=>
  obtain⟨t,rfl,wt,u,rfl,wu,hor,lt,lu,vt,vu,hK⟩:=hG;refine⟨by simp,?_⟩
  obtain⟨x,p⟩:=t;obtain⟨y,q⟩:=u;simp only at wt wu hor lt lu;have hz1:=QaT vt;have kx:=UbE vt;simp only at hz1 kx;have zx:=vg wt;have zy:=vg wu;have lx4:rl x<=4294967296:=Nat.le_trans lt (by decide)
  have ly4:rl y<=4294967296:=Nat.le_trans lu (by decide)
  have i1:((1:Int):Rat)=1:=rfl;have im:(((-1):Int):Rat) = -1:=rfl;have etx:tv (x,p)=(rv x,p):=rfl;have ety:tv (y,q)=(rv y,q):=rfl;rw [etx,ety]at hK;cases p with
  | true=>
   cases q with
   | true=>
    have e:addT (rv x,true) (rv y,true)=(0,false):=rfl;rw [e,qM,kb]at hK;simp only [go_sem,qg,tA,tC];exact hK
   | false=>
    by_cases h0:rv y=0
    .have e:addT (rv x,true) (rv y,false)=(0,true):=by unfold addT;rw [if_pos rfl,if_neg (by simp),if_pos h0]
     have ex:rcan 0=x:=by
      have hzz:rv x=0:=QaT vt rfl;rw [<-hzz];exact zE wt kx
     rw [e,qM]at hK;simp only [ex]at hK;have d0:=decide_eq_true h0;simp only [go_sem,qg,tA,tC,hs,Qj,d0];repeat first | refine Ja (by omega) ?_ | refine Ja (by assumption) ?_ | refine Ja rfl ?_ | refine Ja ⟨rfl,by omega⟩ ?_ | refine Ja ⟨rfl,by omega,by omega⟩ ?_ | intro _
     exact hK
    .have e:addT (rv x,true) (rv y,false)=(-1 / rv y,false):=by unfold addT;rw [if_pos rfl,if_neg (by simp),if_neg h0]
     rw [e,qM]at hK;have d0:=decide_eq_false h0;have n1:rz (-1)<=1073741824:=Nat.le_trans JZ (by decide)
     simp only [go_sem,qg,tA,tC,hs,Qj,d0,ho,hv,im,yb];repeat first | refine Ja (by omega) ?_ | refine Ja (by assumption) ?_ | refine Ja rfl ?_ | refine Ja ⟨rfl,by omega⟩ ?_ | refine Ja ⟨rfl,by omega,by omega⟩ ?_ | intro _
     exact hK
  | false=>
   cases q with
   | true=>
    have hr' : r=true:=by
     rcases hor with h | h | h
     .exact h
     .exact absurd h (by decide)
     .exact absurd h (by decide)
    have er:=hr hr';rw [qbJ rfl rfl]at hK;simp only [go_sem,qg,tA,tC,er,etx,ety];repeat first | refine Ja (by omega) ?_ | refine Ja (by assumption) ?_ | refine Ja rfl ?_ | refine Ja ⟨rfl,by omega⟩ ?_ | refine Ja ⟨rfl,by omega,by omega⟩ ?_ | intro _
    refine⟨by simp,?_⟩
    repeat first | refine Ja (by omega) ?_ | refine Ja (by assumption) ?_ | refine Ja rfl ?_ | refine Ja ⟨rfl,by omega⟩ ?_ | refine Ja ⟨rfl,by omega,by omega⟩ ?_ | intro _
    exact hK
   | false=>
    have m1:=Yb (rv x) (rv y);have m2:=jp 1 (rv x*rv y);have m3:=Ql (rv x) (rv y);have z1:=rz_1;by_cases h0:1-rv x*rv y=0
    .have e:addT (rv x,false) (rv y,false)=(0,true):=by unfold addT;rw [if_neg (by simp),if_neg (by simp),if_pos h0]
     rw [e,qM]at hK;have d0:decide ((1:Rat)-rv x*rv y=0)=true:=decide_eq_true h0;simp only [go_sem,qg,tA,tC,hs,Qj,d0,ho,hm,hb,hh,i1,yb];repeat first | refine Ja (by omega) ?_ | refine Ja (by assumption) ?_ | refine Ja rfl ?_ | refine Ja ⟨rfl,by omega⟩ ?_ | refine Ja ⟨rfl,by omega,by omega⟩ ?_ | intro _
     exact hK
    .have e:addT (rv x,false) (rv y,false)=((rv x+rv y) / (1-rv x*rv y),false):=by unfold addT;rw [if_neg (by simp),if_neg (by simp),if_neg h0]
     rw [e,qM]at hK;have d0:decide ((1:Rat)-rv x*rv y=0)=false:=decide_eq_false h0;simp only [go_sem,qg,tA,tC,hs,Qj,d0,ho,hm,hb,ha,hv,i1,yb];repeat first | refine Ja (by omega) ?_ | refine Ja (by assumption) ?_ | refine Ja rfl ?_ | refine Ja ⟨rfl,by omega⟩ ?_ | refine Ja ⟨rfl,by omega,by omega⟩ ?_ | intro _
     exact hK
theorem jaH(hΓ:Holds P (Gl L)){f fs fo fv fm fb fh fa:Nat}(n1:fs≠f)(n2:fo≠f)(n3:fv≠f)(n4:fm≠f)(n5:fb≠f)(n6:fh≠f)(n7:fa≠f)(hs:Gl L fs=.dat true Vf)(ho:Gl L fo=.dat false ZA)(hv:Gl L fv=.dat false Ju)(hm:Gl L fm=.dat false jl)(hb:Gl L fb=.dat false Jp)(hh:Gl L fh=.dat false qs)(ha:Gl L fa=.dat false yl)(hc:check P f=some (57,(qg f fs fo fv fm fb fh fa).strip,[.cell 4 4 true])):Sound P f (.dat false (Ww true)):=by
 have h0:=WN (r:=false) hΓ (λh=>absurd h (by decide)) hs ho hv hm hb hh ha hc
 have h1:Holds P (Gl ((f,.dat false (Ww false))::L)):=Za hΓ h0;have e:∀k,k≠f->Gl ((f,Spec.dat false (Ww false))::L) k=Gl L k:=λk hk=>if_neg hk;refine WN (r:=true) h1 (λ_=>?_) ?_ ?_ ?_ ?_ ?_ ?_ ?_ hc
 .exact if_pos rfl
 .rw [e _ n1];exact hs
 .rw [e _ n2];exact ho
 .rw [e _ n3];exact hv
 .rw [e _ n4];exact hm
 .rw [e _ n5];exact hb
 .rw [e _ n6];exact hh
 .rw [e _ n7];exact ha
theorem UaC(hΓ:Holds P Γ){f fk fa tE:Nat}(hk:Γ fk=.dat false (Vz tE))(ha:Γ fa=.dat false (Ww true))(hc:check P f=some (18,(yD fk fa).strip,[.cell 4 4 true,.tmp 5])):Sound P f (.dat false vE):=by
 refine ka hc zaO hΓ (λargs K hcl hfi hG=>?_);match args,hG with
 | [a,b],hG=>
  obtain⟨t,rfl,wt,u,rfl,wu,lt,lu,vt,vu,hK⟩:=hG;refine⟨by simp,?_⟩
  obtain⟨x,p⟩:=t;obtain⟨y,q⟩:=u;simp only at wt wu lt lu;rw [qM]at hK;have l1:rl x<=100000000:=Nat.le_trans lt (by decide)
  have l2:rl y<=100000000:=Nat.le_trans lu (by decide)
  simp only [go_sem,yD,tA,tC,hk,ha,true_or,true_and];refine⟨⟨wt,wu⟩,?_⟩;repeat first | refine Ja (by omega) ?_ | refine Ja (by assumption) ?_ | refine Ja rfl ?_ | refine Ja ⟨rfl,by omega⟩ ?_ | refine Ja ⟨rfl,by omega,by omega⟩ ?_ | intro _
  exact hK
theorem Yaf(hΓ:Holds P Γ){f fv ft fp tE:Nat}(hv:Γ fv=.dat true Wm)(ht' : Γ ft=.dat false vE)(hp' : Γ fp=.dat false (XC tE))(hc:check P f=some (45,(ZB fv ft fp tE).strip,[.cell 4 10 true,.tmp 5])):Sound P f (.dat false ux):=by
 refine ka hc xaD hΓ (λargs K hcl hfi hG=>?_);match args,hG with
 | [a,b],hG=>
  obtain⟨p,rfl,wp,q,rfl,wq,lp,lq,vp,vq,hK⟩:=hG;refine⟨by simp,?_⟩
  obtain⟨t1,a1⟩:=U7 vp;obtain⟨t2,a2⟩:=U7 vq;have lp1:pl p<=100000000:=Nat.le_trans lp (by decide)
  have lq1:pl q<=100000000:=Nat.le_trans lq (by decide)
  have lq2:pl q<=1000000:=Nat.le_trans lq (by decide)
  have x1:rl p.1.1<=1000000:=Nat.le_trans (Nat.le_max_left _ _) (Nat.le_trans lp (by decide))
  have x2:rl q.1.1<=1000000:=Nat.le_trans (Nat.le_max_left _ _) (Nat.le_trans lq (by decide))
  have x3:al p.2<=1000000:=Nat.le_trans (Nat.le_max_right _ _) (Nat.le_trans lp (by decide))
  have w1:=wp.1;have w2:=wp.2;have w3:=wq.1;have w4:=wq.2;have hok:aok q p.2=true:=by unfold aok;rw [vq,a1];rfl
  have e7:(if aok q p.2=true then appQ (pv q) (av p.2) else (0,0))=appQ (pv q) (av p.2):=if_pos hok
  have e9:errV tE (if aok q p.2=true then 0 else 2)=.one (.lit .nilIface):=by rw [if_pos hok];exact Vb tE
  have eth:thenQ (pv p) (pv q)=(addT (tv p.1) (tv q.1),appQ (pv q) (av p.2)):=rfl;rw [eth,VQ]at hK;simp only [go_sem,ZB,hv,ht',hp',poA,pC,vp,vq,vb,e7,e9,qM];repeat first | refine Ja (by omega) ?_ | refine Ja (by assumption) ?_ | refine Ja rfl ?_ | refine Ja ⟨rfl,by omega⟩ ?_ | refine Ja ⟨rfl,by omega,by omega⟩ ?_ | intro _
  exact hK
theorem WaC(hΓ:Holds P Γ){f fv fi ft tE:Nat}(hv:Γ fv=.dat true Wm)(hi:Γ fi=.dat false (uC tE))(ht' : Γ ft=.dat false ux)(hc:check P f=some (32,(Zs fv fi ft tE).strip,[.cell 4 10 true,.tmp 5])):Sound P f (.dat false vG):=by
 refine ka hc kaX hΓ (λargs K hcl hfi hG=>?_);match args,hG with
 | [a,b],hG=>
  obtain⟨p,rfl,wp,q,rfl,wq,lp,lq,vp,vq,hK⟩:=hG;refine⟨by simp,?_⟩
  have lp1:pl p<=100000000:=Nat.le_trans lp (by decide)
  have lp2:pl p<=1000000:=Nat.le_trans lp (by decide)
  have lq1:pl q<=100000000:=Nat.le_trans lq (by decide)
  have lq2:pl q<=100000:=Nat.le_trans lq (by decide)
  have vi:pvld (pcan (invQ (pv p)))=true:=waB vp;obtain⟨wi,li⟩:=Zbk (b:=1000) ⟨wp,lp⟩;have ei:pcan (invQ (pv p))=((rcan (invQ (pv p)).1.1,(invQ (pv p)).1.2),(rcan (invQ (pv p)).2.1,rcan (invQ (pv p)).2.2)):=rfl;have li2:pl (pcan (invQ (pv p)))<=100000:=Nat.le_trans li (by decide)
  have epv:pv (pcan (invQ (pv p)))=invQ (pv p):=xK _;have eb:btwQ (pv p) (pv q)=thenQ (invQ (pv p)) (pv q):=rfl;have e7:(if pvld p=true then invQ (pv p) else ((0,false),(0,0)))=invQ (pv p):=if_pos vp
  have e9:errV tE (if pvld p=true then 0 else 2)=.one (.lit .nilIface):=by rw [if_pos vp];exact Vb tE
  rw [ei]at vi wi li2 epv;rw [eb]at hK;have w1:=wp.1;have w2:=wp.2;have w3:=wq.1;have w4:=wq.2;simp only [go_sem,Zs,hv,hi,ht',poA,pC,vp,vq,vb,Vb tE,VQ,epv];repeat first | refine Ja (by omega) ?_ | refine Ja (by assumption) ?_ | refine Ja rfl ?_ | refine Ja ⟨rfl,by omega⟩ ?_ | refine Ja ⟨rfl,by omega,by omega⟩ ?_ | intro _
  exact hK
theorem jaI(hΓ:Holds P Γ){f fv fs fd fo fb fm fq fa tE:Nat}(hv:Γ fv=.dat true Wm)(hs:Γ fs=.dat true Vf)(hd:Γ fd=.dat false (qB tE))(ho:Γ fo=.dat false ZA)(hb:Γ fb=.dat false Jp)(hm:Γ fm=.dat false jl)(hq:Γ fq=.dat false (yt tE))(ha:Γ fa=.dat false yl)(hc:check P f=some (86,(Vm fv fs fd fo fb fm fq fa tE).strip,[.cell 2 6 true,.tmp 3])):Sound P f (.dat false (YE tE)):=by
 refine ka hc (uaV tE) hΓ (λargs K hcl hfi hG=>?_);match args,hG with
 | [a],hG=>
  obtain⟨p,rfl,wp,lp,vp,hK⟩:=hG;refine⟨by simp,?_⟩
  obtain⟨t1,a1⟩:=U7 vp;have lp1:pl p<=100000000:=Nat.le_trans lp (by decide)
  have x1:rl p.1.1<=10000000:=Nat.le_trans (Nat.le_max_left _ _) (Nat.le_trans lp (by decide))
  have x1' : rl p.1.1<=4294967296:=Nat.le_trans x1 (by decide)
  have w1:=wp.1;have w2:=wp.2;have w3:=w2.1;have w4:=w2.2;have x3:al p.2<=1000000:=Nat.le_trans (Nat.le_max_right _ _) (Nat.le_trans lp (by decide))
  have x4:rl p.2.1<=1000000:=Nat.le_trans (Nat.le_max_left _ _) x3;have x5:rl p.2.2<=1000000:=Nat.le_trans (Nat.le_max_right _ _) x3;have x6:rl p.2.1<=4294967296:=Nat.le_trans x4 (by decide)
  have x7:rl p.2.2<=4294967296:=Nat.le_trans x5 (by decide)
  have ez:zeroT (pv p).1=(!p.1.2 && decide (rv p.1.1=0)):=rfl;have i1:((1:Int):Rat)=1:=rfl;have i2:((2:Int):Rat)=2:=rfl;have e0:=Vb tE;cases hz:zeroT (pv p).1 with
  | true=>
   rw [hz,if_pos rfl,if_pos rfl,vc tE (by decide),yY]at hK
   simp only [kb]at hK;rw [ez]at hz;simp only [Bool.and_eq_true,Bool.not_eq_true',decide_eq_true_eq]at hz;have hz2:=decide_eq_true hz.2;have hp1:((p.1.1,false),p.2)=p:=by rw [<-hz.1]
   have hp2:(p.1.1,false)=p.1:=by rw [<-hz.1]
   simp only [go_sem,Vm,hv,hs,poA,pC,hz.1,hp1,hp2,vp,vb,Qj,hz2,Bool.not_false];repeat first | refine Ja (by omega) ?_ | refine Ja (by assumption) ?_ | refine Ja rfl ?_ | refine Ja ⟨rfl,by omega⟩ ?_ | refine Ja ⟨rfl,by omega,by omega⟩ ?_ | intro _
   exact hK
  | false=>
   have hk:=kbj hz;have h2:2*(1-cosQ (pv p).1)≠0:=λe=>by
    rcases Rat.mul_eq_zero.1 e with e | e
    .exact absurd e (by decide)
    .exact hk e
   rw [hz,if_neg (by decide),if_neg (by decide),e0,yY]at hK
   unfold fixQ at hK;have z1:=vg w1;have z2:=vg w3;have z3:=vg w4;have c1:=wK (pv p).1;have s1:=uL (pv p).1;have ec:(if tchk p.1=0 then cosQ (tv p.1) else 0)=cosQ (pv p).1:=if_pos t1
   have es:(if tchk p.1=0 then sinQ (tv p.1) else 0)=sinQ (pv p).1:=if_pos t1
   have et:(pv p).1.1=rv p.1.1:=rfl;have ex:(pv p).2.1=rv p.2.1:=rfl;have ey:(pv p).2.2=rv p.2.2:=rfl;rw [et]at c1 s1;rw [ex,ey]at hK;obtain⟨c,hcc⟩:∃c,cosQ (pv p).1=c:=⟨_,rfl⟩;obtain⟨s,hss⟩:∃s,sinQ (pv p).1=s:=⟨_,rfl⟩;have ecv:cosQ (tv p.1)=c:=hcc;have esv:sinQ (tv p.1)=s:=hss;rw [hcc]at ec c1 h2 hK;rw [hss]at es s1 hK;obtain⟨X,hX⟩:∃X,rv p.2.1=X:=⟨_,rfl⟩;obtain⟨Y,hY⟩:∃Y,rv p.2.2=Y:=⟨_,rfl⟩;rw [hX]at z2 hK;rw [hY]at z3 hK;have r1:=rz_1;have r2:=rz_2;have bk:=jp 1 c;obtain⟨k,hkk⟩:∃k,1-c=k:=⟨_,rfl⟩;rw [hkk]at bk h2 hK;have bd:=Yb 2 k;have b1:=Yb k X;have b2:=Yb s Y;have b3:=jp (k*X) (s*Y);have b4:=Yb k Y;have b5:=Yb s X;have b6:=Ql (k*Y) (s*X);have y1:rz c<=4294967296:=by omega
   have y2:rz k<=4294967296:=by omega
   have y3:rz s<=4294967296:=by omega
   have y4:rz (k*X)<=4294967296:=by omega
   have y5:rz (s*Y)<=4294967296:=by omega
   have y6:rz (k*X-s*Y)<=4294967296:=by omega
   have y7:rz (k*Y)<=4294967296:=by omega
   have y8:rz (s*X)<=4294967296:=by omega
   have y9:rz (k*Y+s*X)<=4294967296:=by omega
   have y10:rz (2*k)<=4294967296:=by omega
   have y11:rz 1<=4294967296:=by omega
   have y12:rz 2<=4294967296:=by omega
   have ed:(if 2*k=0 then 8 else 0)=0:=if_neg h2
   rw [ez]at hz;cases hh:p.1.2 with
   | true=>
    have hp1:((p.1.1,true),p.2)=p:=by rw [<-hh]
    have hp2:(p.1.1,true)=p.1:=by rw [<-hh]
    simp only [go_sem,Vm,hv,hs,hd,ho,hb,hm,hq,ha,poA,pC,hp1,hp2,vp,hh,vb,Bool.not_true,i1,i2,yb,ecv,esv,t1,e0,hX,hY,hkk,ed];repeat first | refine Ja (by with_reducible assumption) ?_ | refine Ja (Nat.le_trans (by with_reducible assumption) (by decide)) ?_ | refine Ja (by decide) ?_
    exact hK
   | false=>
    rw [hh,Bool.not_false,Bool.true_and]at hz;have hp1:((p.1.1,false),p.2)=p:=by rw [<-hh]
    have hp2:(p.1.1,false)=p.1:=by rw [<-hh]
    simp only [go_sem,Vm,hv,hs,hd,ho,hb,hm,hq,ha,poA,pC,hp1,hp2,vp,hh,vb,Bool.not_false,Qj,hz,i1,i2,yb,ecv,esv,t1,e0,hX,hY,hkk,ed];repeat first | refine Ja (by with_reducible assumption) ?_ | refine Ja (Nat.le_trans (by with_reducible assumption) (by decide)) ?_ | refine Ja (by decide) ?_
    exact hK
theorem yal(hΓ:Holds P Γ){f fb ff tE:Nat}(hb:Γ fb=.dat false vG)(hf:Γ ff=.dat false (YE tE))(hc:check P f=some (22,(yz fb ff).strip,[.cell 4 6 true,.tmp 5])):Sound P f (.dat false (Wy tE)):=by
 refine ka hc (kaG tE) hΓ (λargs K hcl hfi hG=>?_);match args,hG with
 | [a,b],hG=>
  obtain⟨p,rfl,wp,q,rfl,wq,lp,lq,vp,vq,hK⟩:=hG;refine⟨by simp,?_⟩
  have vi:=Qa9 vp vq;have wi:WLP (pcan (btwQ (pv p) (pv q))):=kak _;have li:=WbG wp wq lp lq;have epv:pv (pcan (btwQ (pv p) (pv q)))=btwQ (pv p) (pv q):=xK _;have ei:pcan (btwQ (pv p) (pv q))=((rcan (btwQ (pv p) (pv q)).1.1,(btwQ (pv p) (pv q)).1.2),(rcan (btwQ (pv p) (pv q)).2.1,rcan (btwQ (pv p) (pv q)).2.2)):=rfl;rw [ei]at vi wi li epv;have w1:=wp.1;have w2:=wp.2;have w3:=wq.1;have w4:=wq.2;obtain⟨B,hB⟩:∃B,btwQ (pv p) (pv q)=B:=⟨_,rfl⟩;rw [hB]at vi wi li epv hK;rw [yY]at hK;simp only [go_sem,yz,hb,hf,poA,pC,vp,vq,vb,VQ,hB,epv,yY];repeat first | refine Ja (by omega) ?_ | refine Ja (by assumption) ?_ | refine Ja rfl ?_ | refine Ja ⟨rfl,by omega⟩ ?_ | refine Ja ⟨rfl,by omega,by omega⟩ ?_ | intro _
  exact hK
end Go.Abs
end
section
namespace Go.Num
open Go.Abs
end Go.Num
namespace Go.Abs
open Go.Num
variable {P:Program} {Γ:Nat->Spec}
def z6:List C:=[.lit (.bool false),.emp,.emp,.lit (.bool false),.emp,.emp]
def q6(x:V2):List C:=[cb (rcan x.1),cn (rcan x.1),cd (rcan x.1),cb (rcan x.2),cn (rcan x.2),cd (rcan x.2)]
def jL(l:List AV)(K:AV->Prop):Prop:=
 match l with
 | [a,b]=>onP3 (λt=>onA (λm=>okPs 1048576 (l3 t)/\al m<=1048576/\K (.one (.lit (.bool true)))) b) a
 | _=>False
theorem vU(a b:AV)(K:AV->Prop):jL [a,b] K=(onP3 (λt=>onA (λm=>okPs 1048576 (l3 t)/\al m<=1048576/\K (.one (.lit (.bool true)))) b) a):=propext Iff.rfl
@[congr] theorem jbw {K:AV->Prop} {l l' : List AV} (h:l=l'):jL l K=jL l' K:=by subst h;rfl
attribute [go_sem,go_sem ↓] vU
end Go.Abs
end
section
namespace Go.Num
open Go.Abs
end Go.Num
namespace Go.Abs
open Go.Num
variable {P:Program} {Γ:Nat->Spec}
def uN(l:List AV)(K:AV->Prop):Prop:=
 match l with
 | [a,b,c]=>onP3 (λt=>onA (λm=>onA (λo=>okPs 1048576 (l3 t)/\al m<=1048576/\al o<=1048576/\K (.one (.lit (.bool true)))) c) b) a
 | _=>False
theorem QS(a b c:AV)(K:AV->Prop):uN [a,b,c] K=(onP3 (λt=>onA (λm=>onA (λo=>okPs 1048576 (l3 t)/\al m<=1048576/\al o<=1048576/\K (.one (.lit (.bool true)))) c) b) a):=propext Iff.rfl
@[congr] theorem Jbv {K:AV->Prop} {l l' : List AV} (h:l=l'):uN l K=uN l' K:=by subst h;rfl
attribute [go_sem,go_sem ↓] QS
end Go.Abs
end
section
namespace Go.Num
open Go.Abs
theorem xbq{t:P4}(h:(l4 t).all pvld=true):fourC (l4 t)=0/\plchk (l4 t)=0:=by
 have f:=xai (l:=l4 t) rfl h;refine⟨f,?_⟩;unfold fourC at f;split at f
 .rename_i h1;exact absurd f h1
 .rename_i h1;omega
end Go.Num
namespace Go.Abs
open Go.Num
variable {P:Program} {Γ:Nat->Spec}
def jH(l:List AV)(K:AV->Prop):Prop:=
 match l with
 | [a,b]=>onP4 (λt=>onA (λm=>okPs 1048576 (l4 t)/\al m<=1048576/\K (.one (.lit (.bool true)))) b) a
 | _=>False
theorem UN(a b:AV)(K:AV->Prop):jH [a,b] K=(onP4 (λt=>onA (λm=>okPs 1048576 (l4 t)/\al m<=1048576/\K (.one (.lit (.bool true)))) b) a):=propext Iff.rfl
@[congr] theorem zbs {K:AV->Prop} {l l' : List AV} (h:l=l'):jH l K=jH l' K:=by subst h;rfl
attribute [go_sem,go_sem ↓] UN
end Go.Abs
end
section
namespace Go.Num
open Go.Abs
def t3(t:P4):P3:=(t.1,t.2.1,t.2.2.1)
end Go.Num
namespace Go.Abs
open Go.Num
variable {P:Program} {Γ:Nat->Spec}
theorem len4p(a b c d:Ps):(∀e∈[pC a,pC b,pC c,pC d],e.length=10)=True:=eq_true λe he=>by
 simp only [List.mem_cons,List.not_mem_nil,or_false]at he;rcases he with rfl | rfl | rfl | rfl <;> exact xj _
def vO(l:List AV)(K:AV->Prop):Prop:=
 match l with
 | [a,b]=>onP4 (λt=>onA (λm=>okPs 1048576 (l4 t)/\al m<=1048576/\K (.one (.lit (.bool true)))) b) a
 | _=>False
theorem vQ(a b:AV)(K:AV->Prop):vO [a,b] K=(onP4 (λt=>onA (λm=>okPs 1048576 (l4 t)/\al m<=1048576/\K (.one (.lit (.bool true)))) b) a):=propext Iff.rfl
@[congr] theorem ubv {K:AV->Prop} {l l' : List AV} (h:l=l'):vO l K=vO l' K:=by subst h;rfl
attribute [go_sem,go_sem ↓] vQ
end Go.Abs
end
section
namespace Go.Num
open Go.Abs
theorem Zbu{t:P4}{x:V2}{i k:Nat}(h1:i<k)(h2:k<4)(h:appQ (invQ (pv ((l4 t).getD i p0))) x=appQ (invQ (pv ((l4 t).getD k p0))) x):dtL (invL (l4 t)) x=0:=by
 show detQ (appQ (pv (pcan (invQ (pv t.1)))) x) (appQ (pv (pcan (invQ (pv t.2.1)))) x) (appQ (pv (pcan (invQ (pv t.2.2.1)))) x) (appQ (pv (pcan (invQ (pv t.2.2.2)))) x)=0;rw [xK,xK,xK,xK];have hi:i=0∨i=1∨i=2:=by omega
 have hk:k=1∨k=2∨k=3:=by omega
 rcases hi with rfl | rfl | rfl <;> rcases hk with rfl | rfl | rfl <;> first | (exfalso;omega) | skip
 .have e:appQ (invQ (pv t.1)) x=appQ (invQ (pv t.2.1)) x:=h;rw [e];exact zbz _ _ _
 .have e:appQ (invQ (pv t.1)) x=appQ (invQ (pv t.2.2.1)) x:=h;rw [e];exact wbD _ _ _
 .have e:appQ (invQ (pv t.1)) x=appQ (invQ (pv t.2.2.2)) x:=h;rw [e];exact JbE _ _ _
 .have e:appQ (invQ (pv t.2.1)) x=appQ (invQ (pv t.2.2.1)) x:=h;rw [e];exact ZbF _ _ _
 .have e:appQ (invQ (pv t.2.1)) x=appQ (invQ (pv t.2.2.2)) x:=h;rw [e];exact Jbz _ _ _
 .have e:appQ (invQ (pv t.2.2.1)) x=appQ (invQ (pv t.2.2.2)) x:=h;rw [e];exact xbw _ _ _
theorem psk2{p:Ps}(h:okP 2 p):rz (pv p).1.1<=2/\zq (pv p).2<=2:=
 ⟨Nat.le_trans (vg h.1.1) (Nat.le_trans (Nat.le_max_left _ _) h.2),Nat.le_trans (QW h.1.2) (Nat.le_trans (Nat.le_max_right _ _) h.2)⟩
theorem JbI{p q:Ps}(w1:okP 2 p)(w2:okP 2 q):zq (fixQ (btwQ (pv p) (pv q)))<=10000:=by
 obtain⟨a1,a2⟩:=psk2 w1;obtain⟨b1,b2⟩:=psk2 w2;have i1:=Zac (backQ (pv p).1) (negQ (pv p).2);have i2:=wau (pv p).2;have i3:rz (backQ (pv p).1).1=rz (pv p).1.1:=Xz _;have i4:(invQ (pv p)).2=rotQ (backQ (pv p).1) (negQ (pv p).2):=rfl;have t:=YaL (invQ (pv p)).1 (pv q).1;have t2:(invQ (pv p)).1=backQ (pv p).1:=rfl;have u:=zaJ (pv q) (invQ (pv p)).2;rw [t2]at t;rw [i4]at u;have eB:btwQ (pv p) (pv q)=(addT (backQ (pv p).1) (pv q).1,appQ (pv q) (rotQ (backQ (pv p).1) (negQ (pv p).2))):=rfl;rw [eB];obtain⟨T,hT⟩:∃T,addT (backQ (pv p).1) (pv q).1=T:=⟨_,rfl⟩;obtain⟨A,hA⟩:∃A,appQ (pv q) (rotQ (backQ (pv p).1) (negQ (pv p).2))=A:=⟨_,rfl⟩;rw [hT]at t ⊢;rw [hA]at u ⊢;have c:=wK T;have s:=uL T;have h1:=rz_1;have h2:=rz_2;have k:=jp 1 (cosQ T);have m1:=Yb (1-cosQ T) A.1;have m2:=Yb (sinQ T) A.2;have m3:=jp ((1-cosQ T)*A.1) (sinQ T*A.2);have m4:=Yb 2 (1-cosQ T);have m5:=VB ((1-cosQ T)*A.1-sinQ T*A.2) (2*(1-cosQ T));have n1:=Yb (1-cosQ T) A.2;have n2:=Yb (sinQ T) A.1;have n3:=Ql ((1-cosQ T)*A.2) (sinQ T*A.1);have n5:=VB ((1-cosQ T)*A.2+sinQ T*A.1) (2*(1-cosQ T));have z:zq A=max (rz A.1) (rz A.2):=rfl;have y1:rz A.1<=zq A:=Nat.le_max_left _ _;have y2:rz A.2<=zq A:=Nat.le_max_right _ _;show max (rz (fixQ (T,A)).1) (rz (fixQ (T,A)).2)<=10000;unfold fixQ;simp only;refine Nat.max_le.2 ⟨by omega,by omega⟩
end Go.Num
namespace Go.Abs
open Go.Num
variable {P:Program} {Γ:Nat->Spec}
def jm(l:List AV)(K:AV->Prop):Prop:=
 match l with
 | [a]=>onP4 (λt=>okPs 1048576 (l4 t)/\K (.one (.lit (.bool true)))) a
 | _=>False
theorem jT(a:AV)(K:AV->Prop):jm [a] K=(onP4 (λt=>okPs 1048576 (l4 t)/\K (.one (.lit (.bool true)))) a):=propext Iff.rfl
@[congr] theorem Vbv {K:AV->Prop} {l l' : List AV} (h:l=l'):jm l K=jm l' K:=by subst h;rfl
attribute [go_sem,go_sem ↓] jT
theorem Y8:Good jm:=Wa λas=>by
 unfold jm;split
 .exact(Qbj λ_=>(.and λ_=>(.ret _)))
 .exact .of λK hk=>hk.elim
def jc(f0 f1 f2 f3 f4 f5:Nat):AC:=(.seq (.ops false [.u 1 (.box 40 (.t 0)),.m 2 .fa])
 (.fg [1] (.fz [1] (.seq (.seq (.ops false [.u 13 (.call f0 []),.u 14 (.un .not (.t 13)),.m 15 (.t 14),.w 16 15 false (.ld none 40 true (.t 1)),.w 17 15 false (.call f1 [(.t 16)]),.w 18 15 false (.un .not (.t 17)),.u 19 (.pick (.t 15) .tr (.t 18))])
 (.fg [1,19] (.cond (.t 19) (.seq (.ops false [.u 20 (.call f0 []),.m 2 (.t 20)])
 .ret) .skip)))
 (.fg [1] (.seq (.ops false [.u 22 (.rsl 10 4 (.t 1)),.u 23 (.call f2 [(.t 22)]),.m 21 (.t 23),.u 24 (.ext 0 (.t 21)),.u 25 (.ext 1 (.t 21)),.m 3 (.t 24),.m 4 (.t 25)])
 (.fg [1,3,4] (.seq (.seq (.ops false [.m 26 (.t 4),.u 27 (.binn .neq (.t 26) (.c (.one (.lit .nilIface))))])
 (.fg [1,3,27] (.cond (.t 27) (.seq (.ops false [.m 2 .fa])
 .ret) .skip)))
 (.fg [1,3] (.seq (.seq (.ops false [.u 28 (.ld none 40 true (.t 1)),.m 29 (.i 0)])
 (.fg [1,3,28,29] (.block 0 (.loop (.seq (.ops false [.u 30 (.bin .lss (.t 29) (.i 4))])
 (.fg [1,3,28,29,30] (.seq (.cond (.t 30) .skip (.exit 0))
 (.fg [1,3,28,29] (.seq (.block 1 (.seq (.ops false [.m 31 (.t 29),.u 32 (.aix 10 true 4 (.t 28) (.t 29)),.u 6 (.alloc [(.lit (.bool false)),.emp,.emp,(.lit (.bool false)),(.lit (.bool false)),.emp,.emp,(.lit (.bool false)),.emp,.emp]),.m 5 (.t 31),.n (.st none 10 (.t 6) (.t 32))])
 (.fg [1,3,5,6,28,29] (.seq (.ops false [.m 33 (.t 5),.u 34 (.bin .add (.t 33) (.i 1)),.u 35 (.rsb 10 4 (.t 1) (some (.t 34)) none),.u 36 (.len (.t 35)),.m 37 (.i 0)])
 (.fg [1,3,6,28,29,35,36,37] (.block 2 (.loop (.seq (.ops false [.u 38 (.bin .lss (.t 37) (.t 36))])
 (.fg [1,3,6,28,29,35,36,37,38] (.seq (.cond (.t 38) .skip (.exit 2))
 (.fg [1,3,6,28,29,35,36,37] (.seq (.block 3 (.seq (.ops false [.u 39 (.idx 10 (.t 35) (.t 37)),.u 40 (.ld none 10 true (.t 39)),.u 8 (.alloc [(.lit (.bool false)),.emp,.emp,(.lit (.bool false)),(.lit (.bool false)),.emp,.emp,(.lit (.bool false)),.emp,.emp]),.n (.st none 10 (.t 8) (.t 40))])
 (.fg [1,3,6,8,28,29,35,36,37] (.seq (.ops false [.u 42 (.ld none 10 true (.t 6)),.u 43 (.ld none 10 true (.t 8)),.u 44 (.call f3 [(.t 42),(.t 43)]),.m 41 (.t 44),.u 45 (.ext 0 (.t 41)),.u 46 (.ext 1 (.t 41)),.u 9 (.alloc [(.lit (.bool false)),.emp,.emp,(.lit (.bool false)),.emp,.emp]),.n (.st none 6 (.t 9) (.t 45)),.m 10 (.t 46)])
 (.fg [1,3,6,9,10,28,29,35,36,37] (.seq (.seq (.ops false [.m 47 (.t 10),.u 48 (.binn .neq (.t 47) (.c (.one (.lit .nilIface))))])
 (.fg [1,3,6,9,28,29,35,36,37,48] (.cond (.t 48) (.exit 3) .skip)))
 (.fg [1,3,6,9,28,29,35,36,37] (.seq (.ops false [.m 50 (.t 3),.u 51 (.fa 0 (.t 9)),.u 52 (.ld none 3 true (.t 51)),.u 53 (.fa 3 (.t 9)),.u 54 (.ld none 3 true (.t 53)),.u 55 (.call f4 [(.t 50),(.t 52),(.t 54)]),.m 49 (.t 55),.u 56 (.ext 0 (.t 49)),.u 57 (.ext 1 (.t 49)),.u 11 (.alloc [(.lit (.bool false)),.emp,.emp]),.n (.st none 3 (.t 11) (.t 56)),.m 12 (.t 57)])
 (.fg [1,3,6,11,12,28,29,35,36,37] (.seq (.ops false [.m 58 (.t 12),.u 59 (.binn .neq (.t 58) (.c (.one (.lit .nilIface)))),.m 60 (.t 59),.w 61 60 false (.ld none 3 true (.t 11)),.w 62 60 false (.call f5 [(.t 61)]),.w 63 60 false (.bin .neq (.t 62) (.i 0)),.u 64 (.pick (.t 60) .tr (.t 63))])
 (.fg [1,3,6,28,29,35,36,37,64] (.cond (.t 64) (.seq (.ops false [.m 2 .fa])
 .ret) .skip))))))))))))
 (.fg [1,3,6,28,29,35,36,37] (.ops false [.u 65 (.bin .add (.t 37) (.i 1)),.m 37 (.t 65)]))))))))))))))
 (.fg [1,3,28,29] (.ops false [.u 66 (.bin .add (.t 29) (.i 1)),.m 29 (.t 66)])))))))))))
 (.fg [] (.seq (.ops false [.m 2 .tr])
 .ret))))))))))))
set_option maxHeartbeats 0 in
theorem zY(hΓ:Holds P Γ){f fw f4 fn fp fe fg tE:Nat}(hw:Γ fw=.dat true Xy)(h4:Γ f4=.dat true Yz)(hn:Γ fn=.dat false (qF tE))(hp:Γ fp=.dat false (Wy tE))(he:Γ fe=.dat false (yv tE))(hg:Γ fg=.dat true Vf)(hc:check P f=some (67,(jc fw f4 fn fp fe fg).strip,[.tmp 2])):Sound P f (.dat true jm):=by
 refine ka hc Y8 hΓ (λargs K hcl hfi hG=>?_);match args,hG with
 | [a],hG=>
  obtain⟨t,rfl,hwt,hok,hK⟩:=hG;refine⟨by simp,?_⟩
  have hwl:=jbD hwt;cases hsl:((l4 t).all pvld && (decide ((l4 t).length<=20) && (l4 t).all sP)) with
  | false=>
   simp only [go_sem,jc,hw,h4,hsl];repeat first | refine Ja (by omega) ?_ | refine Ja (by assumption) ?_ | refine Ja rfl ?_ | refine Ja ⟨rfl,by omega⟩ ?_ | refine Ja ⟨rfl,by omega,by omega⟩ ?_ | intro _
   exact hK
  | true=>
   have hsl2:=hsl;simp only [Bool.and_eq_true,decide_eq_true_eq]at hsl2;obtain⟨hvl,_,hsP⟩:=hsl2;have o2l:=Ya9 hwl hsP;have ok3:=Xj o2l (by decide:2<=90)
   obtain⟨f0,p0'⟩:=xbq hvl;have e0:=Vb tE;obtain⟨pn,hevn⟩:=U8 (va3 ok3) (Uav f0);have cn:chkB (mcs (cnL (l4 t)))=0:=WE pn.canon;have j0:∀t'∈mcs (cnL (l4 t)),WLM t':=QA pn.canon.ins;have j1:∀t'∈mcs (cnL (l4 t)),rl t'.2.2<=1000000000:=qI (N:=1000000000) (Nat.le_trans pn.size (by decide))
   have j2:sz (cnL (l4 t))<=100000000:=Nat.le_trans pn.size (by decide:_<=100000000)
   have b2:bres 0 (cnL (l4 t))=mcs (cnL (l4 t)):=wB _;have hev:∀x:V2,ev (cnL (l4 t)) x.1 x.2=dtL (invL (l4 t)) x:=hevn;obtain⟨N,hN⟩:∃N,cnL (l4 t)=N:=⟨_,rfl⟩;rw [hN]at cn j0 j1 j2 b2 hev;simp only [go_sem,jc,hw,h4,hn,hsl,f0,e0,b2,hN];repeat first | refine Ja (by omega) ?_ | refine Ja (by assumption) ?_ | refine Ja rfl ?_ | refine Ja ⟨rfl,by omega⟩ ?_ | refine Ja ⟨rfl,by omega,by omega⟩ ?_ | intro _
   refine Ya (λk:Nat=>⟨mkV [(1,.one (.ref (p4C t))),(3,.one (.slice ((mcs N).map mC))),(28,.agg (p4C t)),(29,.one (.lit (.int .i64 k)))],mkH []⟩) (λk=>k<=4) (λk=>4-k) 0 ?_ ?_ ?_
   .exact ja (by simp [okS,okV,okC,okL,okH,okB,okE,Qa,va,qa,Va,wsA,ws];exact .inl (Yr t)) trivial
   .exact Nat.zero_le _
   .rintro k hk;by_cases hlt:k<4
    case neg=>
     have hlt' : ¬((k:Nat):Int)<4:=by omega
     simp only [go_sem,hlt'];exact hK
    have hl4:(l4 t).length=4:=rfl;obtain⟨p,hpp⟩:∃p,(l4 t).getD k p0=p:=⟨_,rfl⟩;have hp0:=UB (by rw [hl4];exact hlt) hpp
    have hmp:=List.mem_of_getElem? hp0;obtain⟨wp,lp⟩:=o2l p hmp;have vp:=List.all_eq_true.1 hvl p hmp;have hlt' : ((k:Nat):Int)<4:=by omega
    have ek:((p4C t).drop (k*10)).take 10=pC p:=by rw [ybx t k hlt,hpp]
    have el:10<=40-k*10:=by omega
    obtain⟨R,hR⟩:∃R,(l4 t).drop (k+1)=R:=⟨_,rfl⟩;have rowk:List.take (4-(k+1)) (List.drop k [pC t.2.1,pC t.2.2.1,pC t.2.2.2])=R.map pC:=by
     rw [<-hR];have e:[pC t.2.1,pC t.2.2.1,pC t.2.2.2]=((l4 t).drop 1).map pC:=rfl;rw [e,<-List.map_drop,List.drop_drop,Nat.add_comm 1 k];refine List.take_of_length_le ?_;rw [List.length_map,List.length_drop,hl4];omega
    have lR:R.length=4-(k+1):=by rw [<-hR,List.length_drop,hl4]
    have lR2:R.length<=9223372036854775807:=by omega
    have k1:((k+1:Nat):Int)<=9223372036854775807:=by omega
    have k2:k<=3:=by omega
    have k3:k*10<=40:=by omega
    simp only [go_sem,hlt',ek,List.length_drop,len4p,rowk,List.length_map];repeat first | refine Ja (by omega) ?_ | refine Ja (by assumption) ?_ | refine Ja rfl ?_ | refine Ja ⟨rfl,by omega⟩ ?_ | refine Ja ⟨rfl,by omega,by omega⟩ ?_ | intro _
    refine Ya (λj:Nat=>⟨mkV [(1,.one (.ref (p4C t))),(3,.one (.slice ((mcs N).map mC))),(6,.one (.ptr 6 1 0 0)),(28,.agg (p4C t)),(29,.one (.lit (.int .i64 k))),(35,.one (.slice (R.map pC))),(36,.one (.lit (.int .i64 R.length))),(37,.one (.lit (.int .i64 j)))],mkH [(6,⟨1,some ⟨[pC p],10,true⟩⟩)]⟩) (λj=>j<=R.length) (λj=>R.length-j) 0 ?_ ?_ ?_
    .exact ja (by simp [okS,okV,okC,okL,okH,okB,okE,Qa,va,qa,Va,wsA,ws];exact .inl (Yr t)) ⟨Zbo (l':=[p]) rfl,trivial⟩
    .exact Nat.zero_le _
    .rintro j hj;by_cases hjl:j<R.length
     case neg=>
      simp only [go_sem,hjl];exact⟨k1,k+1,ja (by simp [okS,okV,okC,okL,okH,okB,okE,Qa,va,qa,Va,wsA,ws];exact .inl (Yr t)) trivial,by omega,by omega⟩
     have hq:∃q,R.getD j p0=q/\R[j]?=some q:=by
      obtain⟨q,hq⟩:∃q,R.getD j p0=q:=⟨_,rfl⟩;exact⟨q,hq,UB hjl hq⟩
     obtain⟨q,hq1,hq0⟩:=hq;have hq4:(l4 t)[k+1+j]?=some q:=by rw [<-hR,List.getElem?_drop]at hq0;exact hq0
     have hmq:=List.mem_of_getElem? hq4;obtain⟨wq,lq⟩:=o2l q hmq;have vq:=List.all_eq_true.1 hvl q hmq;have lp3:pl p<=1000:=Nat.le_trans lp (by decide)
     have lq3:pl q<=1000:=Nat.le_trans lq (by decide)
     cases hz:zeroT (btwQ (pv p) (pv q)).1 with
     | true=>
      have e1:(if true=true then ((0,0):V2) else fixQ (btwQ (pv p) (pv q)))=(0,0):=if_pos rfl
      have e2:errV tE (if true=true then 8 else 0)=.one (.lit (.iface tE (.int .i64 8))):=by rw [if_pos rfl];exact vc tE (by decide)
      simp only [go_sem,hjl,hq1,hp,zal,vb,vp,vq,hz,vc tE (by decide:8≠0)]
      repeat first | refine Ja (by omega) ?_ | refine Ja (by assumption) ?_ | refine Ja rfl ?_ | refine Ja ⟨rfl,by omega⟩ ?_ | refine Ja ⟨rfl,by omega,by omega⟩ ?_ | intro _
      exact⟨j+1,ja (by simp [okS,okV,okC,okL,okH,okB,okE,Qa,va,qa,Va,wsA,ws];exact .inl (Yr t)) ⟨Zbo (l':=[p]) rfl,trivial⟩,by omega,by omega⟩
     | false=>
      have hpe:=Qbs hz;have hzf:=JbI ⟨wp,lp⟩ ⟨wq,lq⟩;obtain⟨X,hX⟩:∃X,fixQ (btwQ (pv p) (pv q))=X:=⟨_,rfl⟩;rw [hX]at hpe hzf;have lk:k+1+j<4:=by
       have:=(List.getElem?_eq_some_iff.1 hq4).1;rw [hl4]at this;exact this
      have hd0:dtL (invL (l4 t)) X=0:=Zbu (i:=k) (k:=k+1+j) (by omega) lk (by
       rw [hpp,List.getD_eq_getElem?_getD,hq4];exact hpe)
      have i5:ev N X.1 X.2=0:=by rw [hev,hd0]
      have z0:rz 0<=4294967296:=Nat.le_trans (Nat.le_of_eq rz_0) (by decide)
      have lX1:rz X.1<=10000:=Nat.le_trans (Nat.le_max_left _ _) hzf;have lX2:rz X.2<=10000:=Nat.le_trans (Nat.le_max_right _ _) hzf;have dq:decide ((0:Rat)=0)=true:=rfl;simp only [go_sem,hjl,hq1,hp,he,hg,zal,vb,vp,vq,hz,e0,hX,VD,cn,yb,i5,Uy,Qj,dq];repeat first | refine Ja (by omega) ?_ | refine Ja (by assumption) ?_ | refine Ja rfl ?_ | refine Ja ⟨rfl,by omega⟩ ?_ | refine Ja ⟨rfl,by omega,by omega⟩ ?_ | intro _
      exact⟨⟨by omega,j+1,ja (by simp [okS,okV,okC,okL,okH,okB,okE,Qa,va,qa,Va,wsA,ws];exact .inl (Yr t)) ⟨Zbo (l':=[p]) rfl,trivial⟩,by omega,by omega⟩,λh=>absurd trivial h⟩
end Go.Abs
end
section
namespace Go.Num
open Go.Abs
end Go.Num
namespace Go.Abs
open Go.Num
variable {P:Program} {Γ:Nat->Spec}
def VK(l:List AV)(K:AV->Prop):Prop:=
 match l with
 | [c,p]=>onCp (λc=>onA (λp=>cl c<=1048576/\al p<=1048576/\K (.one (.lit (.bool true)))) p) c
 | _=>False
theorem uS(c p:AV)(K:AV->Prop):VK [c,p] K=(onCp (λc=>onA (λp=>cl c<=1048576/\al p<=1048576/\K (.one (.lit (.bool true)))) p) c):=propext Iff.rfl
@[congr] theorem xbv {K:AV->Prop} {l l' : List AV} (h:l=l'):VK l K=VK l' K:=by subst h;rfl
attribute [go_sem,go_sem ↓] uS
end Go.Abs
end
section
namespace Go.Num
open Go.Abs
def clsC(c:Cp)(a b:Arc):Cp:=(c.1,c.2.1,rcan (sqQ (subQ (av a) (av c.1))),rcan (sqQ (subQ (av b) (av a))),rcan (sqQ (subQ (av b) (av c.2.1))),c.2.2.2.2.2.1,c.2.2.2.2.2.2)
end Go.Num
namespace Go.Abs
open Go.Num
variable {P:Program} {Γ:Nat->Spec}
def vaO(l:List AV)(K:AV->Prop):Prop:=
 match l with
 | [c]=>onCp (λc=>cl c<=100000000/\K (.one (.lit (.int .i64 (cchk c:Nat))))) c
 | _=>False
theorem ua4(c:AV)(K:AV->Prop):vaO [c] K=(onCp (λc=>cl c<=100000000/\K (.one (.lit (.int .i64 (cchk c:Nat))))) c):=propext Iff.rfl
@[congr] theorem ubV {K:AV->Prop} {l l' : List AV} (h:l=l'):vaO l K=vaO l' K:=by subst h;rfl
attribute [go_sem,go_sem ↓] ua4
def JaN(l:List AV)(K:AV->Prop):Prop:=
 match l with
 | [c,a,b]=>onCp (λc=>onA (λa=>onA (λb=>cl c<=10000/\al a<=10000/\al b<=10000/\K (.tup [cpA (clsC c a b),.one (.lit (.bool (decide (cchk (clsC c a b)=0))))])) b) a) c
 | _=>False
theorem waP(c a b:AV)(K:AV->Prop):JaN [c,a,b] K=(onCp (λc=>onA (λa=>onA (λb=>cl c<=10000/\al a<=10000/\al b<=10000/\K (.tup [cpA (clsC c a b),.one (.lit (.bool (decide (cchk (clsC c a b)=0))))])) b) a) c):=propext Iff.rfl
@[congr] theorem WbV {K:AV->Prop} {l l' : List AV} (h:l=l'):JaN l K=JaN l' K:=by subst h;rfl
attribute [go_sem,go_sem ↓] waP
end Go.Abs
end
