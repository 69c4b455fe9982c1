/-
  Parts of the proof, merged: CoupB, CoupC, BurP, BurA, PoseL, BurB, CoupD, BurC, BurS, AbsZ, BurT, BipD.
-/
import Derived.Test.YthoibmokhnoccaaGreatDoorM9
set_option linter.unusedVariables false
set_option linter.unusedSimpArgs false
set_option maxRecDepth 100000
section
namespace Go.Num
open Go.Abs
end Go.Num
namespace Go.Abs
open Go.Num
variable {P:Program} {Γ:Nat->Spec}
end Go.Abs
end
section
namespace Go.Num
open Go.Abs
end Go.Num
namespace Go.Abs
open Go.Num
variable {P:Program} {Γ:Nat->Spec}
end Go.Abs
end
section
namespace Go.Num
abbrev Rw:=BQ×BQ×BQ
def RB(s n:Nat)(a:Rw):Prop:=PB 2 s a.1/\PB 1 n a.2.1/\PB 1 n a.2.2
end Go.Num
end
section
namespace Go.Num
open Go.Abs
end Go.Num
namespace Go.Abs
open Go.Num
variable {P:Program} {Γ:Nat->Spec}
def onRw(k:Rw->Prop)(a:AV):Prop:=∃p q r,a=.agg [bC p,bC q,bC r]/\(Canon p/\Canon q/\Canon r)/\k (p,q,r)
@[congr] theorem Vbv{k:Rw->Prop}{a a'}(h:a=a'):onRw k a=onRw k a':=by subst h;rfl
theorem Qbn(k:Rw->Prop)(p q r:BQ):onRw k (.agg [bC p,bC q,bC r])=((Canon p/\Canon q/\Canon r)/\k (p,q,r)):=by
 refine propext ⟨λ⟨x,y,z,h,h1,h2⟩=>?_,λh=>⟨p,q,r,rfl,h⟩⟩;simp only [AV.agg.injEq,List.cons.injEq,and_true]at h;obtain⟨e1,e2,e3⟩:=h;have:=XK e1;have:=XK e2;have:=XK e3
 subst_vars;exact⟨h1,h2⟩
theorem ja4(k:Rw->Prop)(p q r:BQ):onRw k (.agg [.slice ((mcs p).map mC),.slice ((mcs q).map mC),.slice ((mcs r).map mC)])=((Canon p/\Canon q/\Canon r)/\k (p,q,r)):=Qbn k p q r
attribute [go_sem,go_sem ↓] ja4
end Go.Abs
end
section
namespace Go.Num
open Go.Abs
abbrev P3:=Ps×Ps×Ps
def WL3(t:P3):Prop:=WLP t.1/\WLP t.2.1/\WLP t.2.2
def l3(t:P3):List Ps:=[t.1,t.2.1,t.2.2]
end Go.Num
namespace Go.Abs
open Go.Num
variable {P:Program} {Γ:Nat->Spec}
def p3C(t:P3):List C:=pC t.1++pC t.2.1++pC t.2.2
def p3A(t:P3):AV:=.agg (p3C t)
def onP3(k:P3->Prop)(a:AV):Prop:=onE p3A (λt=>WL3 t/\k t) a
@[congr] theorem zbu{k:P3->Prop}{a a'}(h:a=a'):onP3 k a=onP3 k a':=by subst h;rfl
theorem JaS(t:P3):CleanL (p3C t):=by
 intro c hc;simp only [p3C,List.mem_append]at hc;rcases hc with(hc | hc) | hc
 .exact zF _ c hc
 .exact zF _ c hc
 .exact zF _ c hc
theorem jaN(t:P3):(p3C t).length=30:=by simp [p3C,wE]
theorem jak(t:P3):(p3C t).drop 0=p3C t:=rfl
theorem UaP(t:P3):(p3C t).take 30=p3C t:=List.take_of_length_le (by rw [jaN];decide)
theorem zbn(t:P3):(p3C t).take 10=pC t.1:=by unfold p3C;rw [List.append_assoc,List.take_left' (wE _)]
theorem Ybk(t:P3):(p3C t).drop 10=pC t.2.1++pC t.2.2:=by unfold p3C;rw [List.append_assoc,List.drop_left' (wE _)]
theorem Jbo(t:P3):((p3C t).drop 10).take 10=pC t.2.1:=by rw [Ybk,List.take_left' (wE _)]
theorem Ubn(t:P3):(((p3C t).drop 10).drop 10).take 10=pC t.2.2:=by rw [Ybk,List.drop_left' (wE _),List.take_of_length_le (by rw [wE];decide)]
theorem wa2(t:P3)(r:List (List C)):datQ 0 0 (some ⟨p3C t::r,30,true⟩)=.ref (p3C t):=wI [] _ _ _ _ _ ⟨Nat.zero_le _,JaS t⟩
theorem QaZ(k:List Ps->Prop)(p q r:Ps):onPs k (.one (.slice [pC p,pC q,pC r]))=((∀x∈l3 (p,q,r),WLP x)/\k (l3 (p,q,r))):=QaM k (l3 (p,q,r))
theorem ka4(t:P3):p3A t=.agg (p3C t):=eq_of_heq (HEq.refl _)
attribute [go_sem,go_sem ↓] QaZ jaN jak UaP zbn Jbo Ubn wa2 ka4
end Go.Abs
end
section
namespace Go.Num
open Go.Abs
end Go.Num
namespace Go.Abs
open Go.Num
variable {P:Program} {Γ:Nat->Spec}
theorem gE1y(K:List C->Prop)(e0 e1:List C)(r:List (List C)):getE K (e0::e1::r) 1=K e1:=by simp [getE]
theorem gE2y(K:List C->Prop)(e0 e1 e2:List C)(r:List (List C)):getE K (e0::e1::e2::r) 2=K e2:=by simp [getE]
theorem gE3y(K:List C->Prop)(e0 e1 e2 e3:List C)(r:List (List C)):getE K (e0::e1::e2::e3::r) 3=K e3:=by simp [getE]
attribute [go_sem,go_sem ↓] gE1y gE2y gE3y
end Go.Abs
end
section
namespace Go.Num
open Go.Abs
theorem zR(x:Rat):decide (ordQ x 0=0)=decide (x=0):=by rw [decide_eq_decide];exact Jj
theorem XT(x:Rat):(ordQ x 0=0)=(x=0):=propext Jj
instance decH(c:CpR)(a b:V2):Decidable (hldQ c a b):=inferInstanceAs (Decidable (_/\_/\_))
end Go.Num
namespace Go.Abs
open Go.Num
variable {P:Program} {Γ:Nat->Spec}
end Go.Abs
end
section
namespace Go.Num
open Go.Abs
end Go.Num
namespace Go.Abs
open Go.Num
variable {P:Program} {Γ:Nat->Spec}
end Go.Abs
end
section
namespace Go.Num
open Go.Abs
def kxM(b:Bool)(t:MQ):Int:=if b=true then t.1 else t.2.1
def nxM(b:Bool)(t:MQ):Int:=if b=true then t.2.1 else t.1
def fxT(b:Bool)(c:Rat)(k:Nat)(t:MQ):Rat:=if kxM b t=k then t.2.2*pw c (nxM b t).toNat else 0
def fxB(b:Bool)(c:Rat)(k:Nat):BQ->Rat
 | []=>0
 | t::l=>fxT b c k t+fxB b c k l
theorem QaT(b:Bool)(c:Rat)(k:Nat)(l:BQ)(t:MQ):fxB b c k (l++[t])=fxB b c k l+fxT b c k t:=by
 induction l with
 | nil=>simp only [List.nil_append,fxB];rw [Rat.zero_add,Rat.add_zero]
 | cons u l ih=>simp only [List.cons_append,fxB,ih];rw [Rat.add_assoc]
def fixL(b:Bool)(c:Rat)(p:BQ):List Rat:=(List.range 25).map λk=>fxB b c k p
def trimL:List Rat->List Rat
 | []=>[]
 | x::l=>if trimL l=[] then (if x=0 then [] else [x]) else x::trimL l
theorem Za1:∀{l:List Rat},(∀x∈l,x=0)->trimL l=[]
 | [],_=>rfl
 | x::l,h=>by
  simp only [trimL];rw [if_pos (Za1 λy hy=>h y (List.mem_cons_of_mem _ hy)),if_pos (h x (by simp))]
theorem Jt:∀{l:List Rat} {n:Nat},n<=l.length->(∀i,n<=i->l.getD i 0=0)->(n=0∨l.getD (n-1) 0≠0)->trimL l=l.take n
 | l,0,_,h,_=>by
  rw [List.take_zero];refine Za1 λx hx=>?_;obtain⟨i,hi⟩:=List.getElem?_of_mem hx;have:=h i (Nat.zero_le _);rw [List.getD_eq_getElem?_getD,hi]at this;exact this
 | [],n+1,hn,_,_=>by simp at hn
 | x::l,n+1,hn,h,h2=>by
  simp only [List.length_cons]at hn;have h' : ∀i,n<=i->l.getD i 0=0:=λi hi=>by
   have:=h (i+1) (by omega)
   simpa using this
  rw [List.take_succ_cons];cases n with
  | zero=>
   have h0:=Jt (l:=l) (Nat.zero_le _) h' (.inl rfl);rw [List.take_zero]at h0;have hx:x≠0:=by
    rcases h2 with h2 | h2
    .contradiction
    .simpa using h2
   simp only [trimL,h0,List.take_zero];rw [if_pos trivial,if_neg hx]
  | succ n=>
   have h2' : n+1=0∨l.getD (n+1-1) 0≠0:=by
    rcases h2 with h2 | h2
    .omega
    .refine .inr ?_;have:n+1+1-1=n+1:=rfl;rw [this]at h2;simpa using h2
   have h0:=Jt (l:=l) (by omega) h' h2'
   have hne:l.take (n+1)≠[]:=by
    intro e;have:=congrArg List.length e;rw [List.length_take]at this;simp only [List.length_nil]at this;omega
   simp only [trimL,h0];rw [if_neg hne]
theorem qaF(l:List Rat):∃n,n<=l.length/\trimL l=l.take n/\∀i,n<=i->l.getD i 0=0:=by
 induction l with
 | nil=>exact⟨0,Nat.le_refl _,rfl,λi _=>by simp⟩
 | cons x l ih=>
  obtain⟨n,h1,h2,h3⟩:=ih;simp only [trimL];by_cases h:trimL l=[]
  .rw [if_pos h];have hz:∀i,l.getD i 0=0:=λi=>by
    rcases Nat.lt_or_ge i n with hi | hi
    .have:(l.take n).length=0:=by rw [<-h2,h];rfl
     rw [List.length_take]at this;omega
    .exact h3 i hi
   by_cases hx:x=0
   .rw [if_pos hx];refine⟨0,Nat.zero_le _,by simp,λi _=>?_⟩
    cases i with
    | zero=>simpa using hx
    | succ i=>simpa using hz i
   .rw [if_neg hx];refine⟨1,by simp,by simp,λi hi=>?_⟩
    cases i with
    | zero=>omega
    | succ i=>simpa using hz i
  .rw [if_neg h];refine⟨n+1,by simp;omega,by rw [h2,List.take_succ_cons],λi hi=>?_⟩
   cases i with
   | zero=>omega
   | succ i=>simpa using h3 i (by omega)
theorem qaV(b:Bool)(c:Rat)(k:Nat):∀{p:BQ},InQ p->rz (fxB b c k p)<=sz p+p.length*(24*(rz c+2)+8)+2
 | [],_=>by have:=rz_0;simp only [fxB];omega
 | t::p,hi=>by
  have hi':=Qe.1 hi;have ih:=qaV b c k hi'.2;have h1:=qB (fxT b c k t) (fxB b c k p);have h2:rz (fxT b c k t)<=rz t.2.2+24*(rz c+2)+4:=by
   unfold fxT;split
   .have a1:=ve t.2.2 (pw c (nxM b t).toNat);have a2:=wC c (nxM b t).toNat;have a3:(nxM b t).toNat<=24:=by
     obtain⟨i0,i1,i2⟩:=hi'.1;unfold nxM;split <;> omega
    have a4:=Nat.mul_le_mul_right (rz c+2) a3;omega
   .have:=rz_0;omega
  simp only [fxB,sz,List.length_cons];rw [Nat.add_mul];omega
end Go.Num
end
section
namespace Go.Abs
variable {Γ:Nat->Spec} {body:AC} {Q:Ex->S->Prop} {s:S}
def LL(Γ:Nat->Spec)(body:AC)(Q:Ex->S->Prop):Nat->S->Prop
 | 0,_=>False
 | n+1,s=>LL Γ body Q n s∨∃s0,Weak s s0/\wpA Γ body (Ex.seq (LL Γ body Q n) Q) s0
theorem Qah:∀{n:Nat} {s:S},LL Γ body Q n s↔∃y:Nat×S,Weak s y.2/\wpA Γ body (Ex.seq (LL Γ body Q y.1) Q) y.2/\y.1<n
 | 0,s=>⟨λh=>h.elim,λ⟨y,_,_,h⟩=>absurd h (Nat.not_lt_zero _)⟩
 | n+1,s=>by
  constructor
  .intro h;rcases h with h | ⟨s0,h1,h2⟩
   .obtain⟨y,h1,h2,h3⟩:=Qah.1 h;exact⟨y,h1,h2,by omega⟩
   .exact⟨(n,s0),h1,h2,Nat.lt_succ_self _⟩
  .rintro⟨⟨m,s0⟩,h1,h2,h3⟩;rcases Nat.lt_or_ge m n with h | h
   .exact .inl (Qah.2 ⟨(m,s0),h1,h2,h⟩)
   .have:m=n:=by simp only at h3;omega
    subst this;exact .inr ⟨s0,h1,h2⟩
theorem Ybe{n:Nat}(h:LL Γ body Q n s):wpA Γ (.loop body) Q s:=by
 obtain⟨y,h1,h2,_⟩:=Qah.1 h;refine⟨Nat×S,(·.2),λy=>wpA Γ body (Ex.seq (LL Γ body Q y.1) Q) y.2,(·.1),y,h1,h2,λx hx=>?_⟩;have e:LL Γ body Q x.1=λs'=>∃y:Nat×S,Weak s' y.2/\wpA Γ body (Ex.seq (LL Γ body Q y.1) Q) y.2/\y.1<x.1:=funext λs=>propext Qah;have hx' : wpA Γ body (Ex.seq (LL Γ body Q x.1) Q) x.2:=hx;rw [e]at hx';exact hx'
def UnAt(Γ:Nat->Spec)(body:AC)(Q:Ex->S->Prop)(n:Nat)(s:S)(t:Tok (Γ,body,Q,n)):Prop:=LL Γ body Q n s
theorem Uah(n:Nat)(s0:S)(h0:Weak s s0)(h:wpA Γ body (Ex.seq (λs'=>UnAt Γ body Q n s' .mk) Q) s0){t:Tok (Γ,body,Q)}:LoopAt Γ body Q s t:=
 Ybe (n:=n+1) (.inr ⟨s0,h0,h⟩)
theorem zaf{n:Nat}(s0:S)(h0:Weak s s0)(h:wpA Γ body (Ex.seq (λs'=>UnAt Γ body Q n s' .mk) Q) s0){t:Tok (Γ,body,Q,n+1)}:UnAt Γ body Q (n+1) s t:=
 .inr ⟨s0,h0,h⟩
def kpH(k:List (Nat×HB))(bs:List Nat):List (Nat×HB):=bs.map λr=>(r,mkH k r)
theorem Zbj(k:List (Nat×HB))(r:Nat)(bs:List Nat):kpH k (r::bs)=(r,mkH k r)::kpH k bs:=rfl
theorem Vbp(k:List (Nat×HB)):kpH k []=[]:=rfl
theorem jaW{c:C}{l:List C}:CleanL (c::l)=(Clean c/\CleanL l):=propext ⟨λh=>⟨h c (by simp),λx hx=>h x (by simp [hx])⟩,λh x hx=>by
 rcases List.mem_cons.1 hx with rfl | hx
 .exact h.1
 .exact h.2 x hx⟩
theorem VaT:CleanL []=True:=eq_true λc hc=>by simp at hc
theorem jaY{e:List C}{l:List (List C)}:CleanR (e::l)=(CleanL e/\CleanR l):=propext ⟨λh=>⟨h e (by simp),λx hx=>h x (by simp [hx])⟩,λh x hx=>by
 rcases List.mem_cons.1 hx with rfl | hx
 .exact h.1
 .exact h.2 x hx⟩
theorem xaU:CleanR []=True:=eq_true λc hc=>by simp at hc
theorem QaY{h h' : Nat->HB}{b:Option Blk}:(match b with | none=>True | some b=>CleanR b.es)->okB h h' b b:=by
 intro hb;cases b with
 | none=>trivial
 | some b=>exact⟨⟨rfl,rfl⟩,.inl ⟨rfl,hb⟩⟩
def cleanK:List (Nat×HB)->Prop
 | []=>True
 | x::r=>(match x.2.blk with | none=>True | some b=>CleanR b.es)/\cleanK r
theorem J1{k:List (Nat×HB)}:∀{bs:List Nat},cleanK (kpH k bs)->okH (mkH k) (mkH (kpH k bs)) (kpH k bs):=by
 have this:∀(h' : Nat->HB) (bs:List Nat),cleanK (kpH k bs)->okH (mkH k) h' (kpH k bs):=by
  intro h' bs
  induction bs with
  | nil=>intro _;trivial
  | cons r bs ih=>intro h;exact⟨QaY h.1,ih h.2⟩
 intro bs h;exact this _ _ h
theorem ZaI{n:Nat}{l:List (Nat×AV)}{k:List (Nat×HB)}(ks bs:List Nat)(hh:okS (mkH k) (mkH (kpH k bs)) (mkV l) (keepV l ks)/\cleanK (kpH k bs))
  (h:wpA Γ body (Ex.seq (λs'=>UnAt Γ body Q n s' .mk) Q) ⟨mkV (keepV l ks),mkH (kpH k bs)⟩) {t:Tok (Γ,body,Q,n+1)}:UnAt Γ body Q (n+1) ⟨mkV l,mkH k⟩ t:=
 zaf _ (za hh.1 (J1 hh.2)) h
theorem JaY(n:Nat){l:List (Nat×AV)}{k:List (Nat×HB)}(ks bs:List Nat)(hh:okS (mkH k) (mkH (kpH k bs)) (mkV l) (keepV l ks)/\cleanK (kpH k bs))
  (h:wpA Γ body (Ex.seq (λs'=>UnAt Γ body Q n s' .mk) Q) ⟨mkV (keepV l ks),mkH (kpH k bs)⟩) {t:Tok (Γ,body,Q)}:LoopAt Γ body Q ⟨mkV l,mkH k⟩ t:=
 Uah n _ (za hh.1 (J1 hh.2)) h
theorem WC.trans{ρ σ:Nat->Nat}{h h1 h2:Nat->HB}{c1 c2:C}(y:WC σ h1 h2 c1 c2):∀{c:C},WC ρ h h1 c c1->WC (λr=>ρ (σ r)) h h2 c c2:=by
 induction y with
 | any c=>exact λ_=>.any _
 | lit v=>intro c x;cases x;exact .lit v
 | slice es=>
  intro c x;cases x with
  | slice=>exact .slice es
  | es=>exact .es
  | fs=>exact .fs es
 | full es=>intro c x;cases x;exact .full es
 | emp=>intro c x;cases x;exact .emp
 | es=>intro c x;cases x;exact .es
 | fs es=>intro c x;cases x;exact .fs es
 | ref cs=>intro c x;cases x;exact .ref cs
 | own r z off len hne=>intro c x;cases x;exact .own (ρ:=λr=>ρ (σ r)) r z off len hne
 | ptr r i off hne=>intro c x;cases x;exact .ptr (ρ:=λr=>ρ (σ r)) r i off hne
 | clo f l l' hl _ ih=>
  intro c x;cases x with
  | clo _ l0 _ hl0 h0=>
   refine .clo f l0 l' (hl0.trans hl) λi c c' hc hc'=>?_;have hlt:i<l.length:=by rw [<-hl0];exact(List.getElem?_eq_some_iff.1 hc).1
   exact ih i _ c' (List.getElem?_eq_getElem hlt) hc' (h0 i c _ hc (List.getElem?_eq_getElem hlt))
theorem Weak.trans{s s1 s2:S}(x:Weak s s1)(y:Weak s1 s2):Weak s s2:=by
 obtain⟨ρ,x⟩:=x;obtain⟨σ,y⟩:=y;refine⟨λr=>ρ (σ r),λt=>?_,λr=>?_,λr r' e=>y.inj _ _ (x.inj _ _ e),λr hr=>?_⟩
 .have h1:=x.v t;have h2:=y.v t;generalize s.v t=a at h1;generalize s1.v t=a1 at h1 h2;generalize s2.v t=a2 at h2;cases h2 with
  | any=>exact .any _
  | one c c' hc=>cases h1 with | one c0 _ hc0=>exact .one _ _ (hc.trans hc0)
  | agg l l' hl hc=>
   cases h1 with
   | agg l0 _ hl0 hc0=>
    refine .agg _ _ (hl0.trans hl) λi c c' h1 h2=>?_;have hlt:i<l.length:=by rw [<-hl0];exact(List.getElem?_eq_some_iff.1 h1).1
    exact(hc i _ c' (List.getElem?_eq_getElem hlt) h2).trans (hc0 i c _ h1 (List.getElem?_eq_getElem hlt))
 .rcases y.h r with e | ⟨b,b',g1,g2,g3,g4,g5,g6⟩
  .exact .inl e
  .rcases x.h (σ r) with e | ⟨a,a',k1,k2,k3,k4,k5,k6⟩
   .rw [e]at g1;simp at g1
   .rw [g1]at k2;simp only [Option.some.injEq]at k2;subst k2;refine .inr ⟨a,b',k1,g2,g3.trans k3,g4.trans k4,k5.trans g5,λi e e' h1 h2=>?_⟩;have hlt:i<b.es.length:=by rw [<-k5];exact(List.getElem?_eq_some_iff.1 h1).1
    obtain⟨p1,p2⟩:=k6 i e _ h1 (List.getElem?_eq_getElem hlt);obtain⟨q1,q2⟩:=g6 i _ e' (List.getElem?_eq_getElem hlt) h2;refine⟨p1.trans q1,λj c c' m1 m2=>?_⟩;have hlt2:j<(b.es[i]).length:=by rw [<-p1];exact(List.getElem?_eq_some_iff.1 m1).1
    exact(q2 j _ c' (List.getElem?_eq_getElem hlt2) m2).trans (p2 j c _ m1 (List.getElem?_eq_getElem hlt2))
 .show ρ (σ r)=r;rw [y.pin r hr,x.pin r hr]
def sw(a b r:Nat):Nat:=if r=a then b else if r=b then a else r
theorem qae(a b r:Nat):sw a b (sw a b r)=r:=by
 unfold sw;by_cases h1:r=a
 .subst h1;by_cases h2:b=r
  .simp [h2]
  .simp [h2]
 .by_cases h2:r=b
  .subst h2;simp [h1]
  .simp [h1,h2]
def swC(a b:Nat):C->C
 | .own r ver z off len=>.own (sw a b r) ver z off len
 | .ptr r ver i off=>.ptr (sw a b r) ver i off
 | .clo _ _=>.any
 | c=>c
def swA(a b:Nat):AV->AV
 | .one c=>.one (swC a b c)
 | .agg l=>.agg (l.map (swC a b))
 | _=>.any
def swB(a b:Nat)(x:HB):HB:=⟨x.ver,x.blk.map λy=>⟨y.es.map λe=>e.map (swC a b),y.z,y.live⟩⟩
def swS(a b:Nat)(s:S):S:=⟨λt=>swA a b (s.v t),λr=>swB a b (s.h (sw a b r))⟩
theorem Xa3{a b r:Nat}{h:Nat->HB}(hne:(h r).blk≠none):(swB a b (h (sw a b (sw a b r)))).blk≠none:=by
 rw [qae];unfold swB;cases hb:(h r).blk with
 | none=>exact(hne hb).elim
 | some b=>simp
theorem kaC{a b:Nat}{h:Nat->HB}{c:C}(x:WC id h h c c):WC (sw a b) h (λr=>swB a b (h (sw a b r))) c (swC a b c):=by
 have go:∀c' : C,WC id h h c c'->c' = c->WC (sw a b) h (λr=>swB a b (h (sw a b r))) c (swC a b c):=by
  intro c' y e;cases y with
  | any c0=>subst e;exact .any _
  | lit v=>exact .lit v
  | slice es=>exact .slice es
  | full es=>exact .full es
  | emp=>exact .emp
  | es=>cases e
  | fs es=>cases e
  | ref cs=>exact .ref cs
  | own r z off len hne=>
   have:=WC.own (ρ:=sw a b) (h:=h) (h':=λr=>swB a b (h (sw a b r))) (sw a b r) z off len (Xa3 hne);simp only [qae]at this;exact this
  | ptr r i off hne=>
   have:=WC.ptr (ρ:=sw a b) (h:=h) (h':=λr=>swB a b (h (sw a b r))) (sw a b r) i off (Xa3 hne);simp only [qae]at this;exact this
  | clo f l l' hl _=>exact .any _
 exact go c x rfl
theorem Xa6{a b:Nat}(ha:a<pinA)(hb:b<pinA){s:S}(hv:∀t,WA id s.h s.h (s.v t) (s.v t))(hh:∀r,WB id s.h s.h r):Weak s (swS a b s):=by
 refine⟨sw a b,λt=>?_,λr=>?_,λr r' e=>?_,λr hr=>?_⟩
 .have h1:=hv t;show WA (sw a b) s.h _ (s.v t) (swA a b (s.v t));generalize s.v t=x at h1;cases x with
  | any=>exact .any _
  | tup l=>exact .any _
  | one c=>cases h1 with | one _ _ h=>exact .one _ _ (kaC h)
  | agg l=>
   cases h1 with
   | agg _ _ _ h=>
    refine .agg _ _ (by rw [List.length_map]) λi c c' h1 h2=>?_
    rw [List.getElem?_map,h1]at h2;simp only [Option.map_some,Option.some.injEq]at h2;subst h2;exact kaC (h i c c h1 h1)
 .show WB (sw a b) s.h _ r;unfold WB;cases hb:(s.h (sw a b r)).blk with
  | none=>left;show(swB a b (s.h (sw a b r))).blk=none;unfold swB;rw [hb];rfl
  | some x=>
   right;refine⟨x,⟨x.es.map λe=>e.map (swC a b),x.z,x.live⟩,rfl,by show(swB a b (s.h (sw a b r))).blk=_;unfold swB;rw [hb];rfl,rfl,rfl,by simp,λi e e' h1 h2=>?_⟩
   simp only [List.getElem?_map,h1,Option.map_some,Option.some.injEq]at h2;subst h2;refine⟨by simp,λj c c' h3 h4=>?_⟩
   rw [List.getElem?_map,h3]at h4;simp only [Option.map_some,Option.some.injEq]at h4;subst h4;rcases hh (sw a b r) with g | ⟨y,y',g1,g2,_,_,_,g6⟩
   .rw [hb]at g;simp at g
   .simp only [id]at g1;rw [hb]at g1 g2;simp only [Option.some.injEq]at g1 g2;subst g1;subst g2;exact kaC ((g6 i e e h1 h1).2 j c c h3 h3)
 .have:=congrArg (sw a b) e
  rwa [qae,qae]at this
 .unfold sw;rw [if_neg (by omega),if_neg (by omega)]
theorem WC.self{ρ:Nat->Nat}{h h' : Nat->HB}{c c' : C}(x:WC ρ h h' c c'):WC id h' h' c' c':=by
 induction x with
 | any c=>exact .any _
 | lit v=>exact .lit v
 | slice es=>exact .slice es
 | full es=>exact .full es
 | emp=>exact .emp
 | es=>exact .slice []
 | fs es=>exact .slice es
 | ref cs=>exact .ref cs
 | own r z off len hne=>exact .own (ρ:=id) r z off len hne
 | ptr r i off hne=>exact .ptr (ρ:=id) r i off hne
 | clo f l l' hl _ ih=>
  refine .clo f l' l' rfl λi c c' h1 h2=>?_;rw [h1]at h2;simp only [Option.some.injEq]at h2;subst h2;have hlt:i<l.length:=by rw [hl];exact(List.getElem?_eq_some_iff.1 h1).1
  exact ih i _ c (List.getElem?_eq_getElem hlt) h1
theorem WeakR.selfV{ρ:Nat->Nat}{s s' : S}(x:WeakR ρ s s')(t:Nat):WA id s'.h s'.h (s'.v t) (s'.v t):=by
 have h1:=x.v t;generalize s.v t=a at h1;generalize s'.v t=a' at h1;cases h1 with
 | any=>exact .any _
 | one c c' h=>exact .one _ _ h.self
 | agg l l' hl h=>
  refine .agg _ _ rfl λi c c' h1 h2=>?_;rw [h1]at h2;simp only [Option.some.injEq]at h2;subst h2;have hlt:i<l.length:=by rw [hl];exact(List.getElem?_eq_some_iff.1 h1).1
  exact(h i _ c (List.getElem?_eq_getElem hlt) h1).self
theorem WeakR.selfH{ρ:Nat->Nat}{s s' : S}(x:WeakR ρ s s')(r:Nat):WB id s'.h s'.h r:=by
 rcases x.h r with e | ⟨b,b',g1,g2,g3,g4,g5,g6⟩
 .exact .inl e
 .refine .inr ⟨b',b',g2,g2,rfl,rfl,rfl,λi e e' h1 h2=>?_⟩;rw [h1]at h2;simp only [Option.some.injEq]at h2;subst h2;refine⟨rfl,λj c c' h3 h4=>?_⟩;rw [h3]at h4;simp only [Option.some.injEq]at h4;subst h4;have hlt:i<b.es.length:=by rw [g5];exact(List.getElem?_eq_some_iff.1 h1).1
  obtain⟨p1,p2⟩:=g6 i _ e (List.getElem?_eq_getElem hlt) h1;have hlt2:j<(b.es[i]).length:=by rw [p1];exact(List.getElem?_eq_some_iff.1 h3).1
  exact(p2 j _ c (List.getElem?_eq_getElem hlt2) h3).self
def swL(a b:Nat)(l:List (Nat×AV)):List (Nat×AV):=l.map λx=>(x.1,swA a b x.2)
def swK(a b:Nat)(k:List (Nat×HB)):List (Nat×HB):=k.map λx=>(sw a b x.1,swB a b x.2)
theorem XaZ(a b:Nat):∀(l:List (Nat×AV)) (t:Nat),mkV (swL a b l) t=swA a b (mkV l t)
 | [],t=>rfl
 | x::l,t=>by
  have ih:=XaZ a b l t;simp only [swL,mkV,List.map_cons,find]at ih ⊢;split
  .rfl
  .exact ih
theorem uai(a b:Nat):∀(k:List (Nat×HB)) (r:Nat),mkH (swK a b k) r=swB a b (mkH k (sw a b r))
 | [],r=>rfl
 | x::k,r=>by
  have ih:=uai a b k r;simp only [swK,mkH,List.map_cons,find]at ih ⊢;by_cases e:r=sw a b x.1
  .rw [if_pos e,if_pos (by rw [e,qae])]
  .rw [if_neg e,if_neg (λh=>e (by rw [<-h,qae]))]
   exact ih
theorem zaj{a b:Nat}(ha:a<pinA/\b<pinA){v:Nat->AV}{h:Nat->HB}{l:List (Nat×AV)}{k:List (Nat×HB)}(hh:okS h (mkH k) v l/\okH h (mkH k) k):Weak ⟨v,h⟩ ⟨mkV (swL a b l),mkH (swK a b k)⟩:=by
 have w:=V6 hh.1 hh.2;have e:swS a b ⟨mkV l,mkH k⟩=⟨mkV (swL a b l),mkH (swK a b k)⟩:=by
  unfold swS;congr 1
  .funext t;exact(XaZ a b l t).symm
  .funext r;exact(uai a b k r).symm
 rw [<-e];exact Weak.trans ⟨id,w⟩ (Xa6 ha.1 ha.2 w.selfV w.selfH)
theorem va4(v:Value):nrmC (.lit v)=.lit v:=eq_of_heq (HEq.refl _)
theorem ya1(es:List (List C)):nrmC (.slice es)=.slice es:=eq_of_heq (HEq.refl _)
theorem UaZ:nrmC .emp=.slice []:=eq_of_heq (HEq.refl _)
theorem yaE(e:List C)(l:List (List C)):nrmR (e::l)=e.map nrmC::nrmR l:=eq_of_heq (HEq.refl _)
theorem Ua4:nrmR []=[]:=eq_of_heq (HEq.refl _)
attribute [go_sem,go_sem ↓] va4 ya1 UaZ yaE Ua4
attribute [go_sem] Zbj Vbp okS okV okC cleanK jaW VaT jaY xaU QG VK
attribute [go_sem ↓] Zbj Vbp
theorem qaK(a b t:Nat)(v:AV)(l:List (Nat×AV)):swL a b ((t,v)::l)=(t,swA a b v)::swL a b l:=eq_of_heq (HEq.refl _)
theorem VaN(a b:Nat):swL a b []=[]:=eq_of_heq (HEq.refl _)
theorem XR(a b r:Nat)(v:HB)(k:List (Nat×HB)):swK a b ((r,v)::k)=(sw a b r,swB a b v)::swK a b k:=eq_of_heq (HEq.refl _)
theorem Qay(a b:Nat):swK a b []=[]:=eq_of_heq (HEq.refl _)
theorem waB(a b r:Nat):sw a b r=if r=a then b else if r=b then a else r:=eq_of_heq (HEq.refl _)
theorem UaM(a b:Nat)(c:C):swA a b (.one c)=.one (swC a b c):=eq_of_heq (HEq.refl _)
theorem xbv(a b:Nat)(l:List C):swA a b (.agg l)=.agg (l.map (swC a b)):=eq_of_heq (HEq.refl _)
theorem Qbv(a b:Nat):swA a b .any=.any:=eq_of_heq (HEq.refl _)
theorem Qae(a b r ver z off len:Nat):swC a b (.own r ver z off len)=.own (sw a b r) ver z off len:=eq_of_heq (HEq.refl _)
theorem ZaJ(a b r ver i off:Nat):swC a b (.ptr r ver i off)=.ptr (sw a b r) ver i off:=eq_of_heq (HEq.refl _)
theorem WaQ(a b:Nat)(v:Value):swC a b (.lit v)=.lit v:=eq_of_heq (HEq.refl _)
theorem QaB(a b:Nat)(es:List (List C)):swC a b (.slice es)=.slice es:=eq_of_heq (HEq.refl _)
theorem qbk(a b:Nat)(es:List (List C)):swC a b (.full es)=.full es:=eq_of_heq (HEq.refl _)
theorem Ybs(a b:Nat):swC a b .emp=.emp:=eq_of_heq (HEq.refl _)
theorem jbu(a b:Nat)(cs:List C):swC a b (.ref cs)=.ref cs:=eq_of_heq (HEq.refl _)
theorem Zbw(a b:Nat):swC a b .any=.any:=eq_of_heq (HEq.refl _)
def swR(a b:Nat)(es:List (List C)):List (List C):=es.map λe=>e.map (swC a b)
theorem Jbt(a b:Nat)(e:List C)(es:List (List C)):swR a b (e::es)=e.map (swC a b)::swR a b es:=eq_of_heq (HEq.refl _)
theorem Ybu(a b:Nat):swR a b []=[]:=eq_of_heq (HEq.refl _)
theorem qbs(a b ver z:Nat)(es:List (List C))(live:Bool):swB a b ⟨ver,some ⟨es,z,live⟩⟩=⟨ver,some ⟨swR a b es,z,live⟩⟩:=eq_of_heq (HEq.refl _)
theorem Xbs(a b ver:Nat):swB a b ⟨ver,none⟩=⟨ver,none⟩:=eq_of_heq (HEq.refl _)
theorem kaF(r ver z off len:Nat):Clean (.own r ver z off len)=False:=eq_false λh=>by cases h
theorem JaE(r ver i off:Nat):Clean (.ptr r ver i off)=False:=eq_false λh=>by cases h
attribute [go_sem] qaK VaN XR Qay waB UaM xbv Qbv Qae ZaJ WaQ QaB qbk Ybs jbu Zbw Jbt Ybu qbs Xbs kaF JaE
end Go.Abs
end
section
namespace Go.Num
open Go.Abs
theorem qaI(b:Bool)(c:Rat)(p:BQ):(fixL b c p).length=25:=by unfold fixL;rw [List.length_map,List.length_range]
theorem JS(b:Bool)(c:Rat)(p:BQ){j:Nat}(h:j<25):((fixL b c p).map rcan).getD j (rcan 0)=rcan (fxB b c j p):=by
 unfold fixL;rw [List.getD_eq_getElem?_getD,List.getElem?_map,List.getElem?_map,List.getElem?_range h];rfl
theorem YE(b:Bool)(c:Rat)(p:BQ)(t:MQ){j:Nat}(h:kxM b t=j):(fixL b c p).set j (fxB b c j p+t.2.2*pw c (nxM b t).toNat)=fixL b c (p++[t]):=by
 apply List.ext_getElem?;intro i;rw [List.getElem?_set];unfold fixL;simp only [List.length_map,List.length_range,List.getElem?_map];by_cases hi:i<25
 .rw [List.getElem?_range hi];simp only [Option.map_some,QaT];unfold fxT;by_cases e:j=i
  .subst e;rw [if_pos rfl,if_pos hi,if_pos h]
  .rw [if_neg e,if_neg (by rw [h];omega),Rat.add_zero]
 .rw [List.getElem?_eq_none (by rw [List.length_range];omega),Option.map_none,Option.map_none]
  by_cases e:j=i
  .rw [if_pos e,if_neg (by omega)]
  .rw [if_neg e]
theorem Xbj(b:Bool)(c:Rat):(fixL b c []).map rcan=List.replicate 25 (rcan 0):=by
 unfold fixL fxB;rw [List.map_map];rfl
theorem jaG:∀{l:List Rat} {m:Nat},(∀i,m<=i->l.getD i 0=0)->(trimL l).length<=m
 | [],_,_=>Nat.zero_le _
 | x::l,0,h=>by
  rw [Jt (n:=0) (Nat.zero_le _) h (.inl rfl)];exact Nat.zero_le _
 | x::l,m+1,h=>by
  have ih:=jaG (l:=l) (m:=m) λi hi=>by have:=h (i+1) (by omega);simpa using this
  simp only [trimL];split
  .split
   .exact Nat.zero_le _
   .simp
  .simp only [List.length_cons];omega
end Go.Num
namespace Go.Abs
open Go.Num
variable {P:Program} {Γ:Nat->Spec}
theorem UC{h h' : Nat->HB}:∀n:Nat,okE h h' (List.replicate n [.lit (.bool false),.emp,.emp]) ((List.replicate n (rcan 0)).map rC)
 | 0=>trivial
 | n+1=>by
  rw [List.replicate_succ,List.replicate_succ,List.map_cons,Ye];refine⟨?_,by rw [<-Ye];exact UC n⟩
  simp [rC,cb,cn,cd,okL,okC,ws]
theorem Q5(L:List R)(i:Nat)(x:R):(L.map rC).set i [cb x,cn x,cd x]=(L.set i x).map rC:=by rw [List.map_set];rfl
theorem xbp(L:List R):nrmR (L.map rC)=L.map rC:=by
 unfold nrmR;rw [List.map_map];exact List.map_congr_left λx _=>rfl
theorem kbe(a b:List (List C)):nrmR (a++b)=nrmR a++nrmR b:=by unfold nrmR;rw [List.map_append]
theorem kaK:∀n:Nat,nrmR (List.replicate n [.lit (.bool false),.emp,.emp])=(List.replicate n (rcan 0)).map rC
 | 0=>rfl
 | n+1=>by
  rw [List.replicate_succ,List.replicate_succ,List.map_cons,yaE,kaK n,Ye];rfl
def jk:q_F:=q_c1 λa K=>onRs (λl=>okRs 4000000000 l/\l.length<=1000/\K (((trimL (l.map rv)).map rcan).map rC)) a
theorem Jaz:Good jk:=q_g1 λ_=>(jW λ_=>(.and λ_=>(.and λ_=>(.ret _))))
def uN(tE:Nat):q_T:=q_c3 λp b c K=>onMs (λp=>asBool (λb=>onR (λc=>(∀t∈p,rl t.2.2<=1000000000)/\rl c<=10000/\sz (p.map mv)<=100000000/\K (.tup [.one (.slice ((if chkB p=0 then (trimL (fixL b (rv c) (p.map mv))).map rcan else []).map rC)),errV tE (chkB p)])) c) b) p
theorem UaK(tE:Nat):Good (uN tE):=q_g3 λ_ _ _=>(Ve λ_=>(Qo (λ_=>(xk λ_=>(.and λ_=>(.and λ_=>(.and λ_=>(.ret _)))))) _))
attribute [go_sem] jk uN
def xq(f0 f1:Nat):AC:=(.o [.m 2 (.c (.one .emp))] [0] (.o [.m 3 (.c (.one .emp))] [0,3] (.f (.o [.M 6 0,.Z 7 6,.N 8 0] [3,6,7,8] (.block 0 (.loop (.o [.B 9 .lss 8 7] [3,6,7,8,9] (.f (.cond (.t 9) .skip (.exit 0)) [3,6,7,8] (.f (.block 1 (.o [.J 10 3 6 8,.L 11 3 10,.G 5 [.z,.emp,.emp],.S 3 5 11] [3,5,6,7,8] (.p [.M 12 3,.L 13 3 5,.u 14 (.build [.z [.z,.emp,.emp]]),.D 15 f0 13 14,.u 16 (.row 3 [[.x 3 (.t 15)]]),.u 17 (.app 3 (.t 12) (.t 16)),.M 3 17]))) [3,6,7,8] (.p [.I 18 .add 8 1,.M 8 18]))))))) [3] (.f (.block 2 (.loop (.f (.o [.M 19 3,.Z 20 19,.I 21 .gtr 20 0,.M 22 21,.V 23 22 true 3,.V 24 22 true 3,.w 25 22 true (.len (.t 24)),.w 26 22 true (.bin .sub (.t 25) (.i 1)),.w 27 22 true (.idx 3 (.t 23) (.t 26)),.U 28 22 true 3 true 27,.W 29 22 true f1 28,.w 30 22 true (.bin .eql (.t 29) (.i 0)),.P 31 22 30] [3,31] (.cond (.t 31) .skip (.exit 2))) [3] (.block 3 (.p [.M 32 3,.M 33 3,.Z 34 33,.I 35 .sub 34 1,.u 36 (.sl 3 (.t 32) none (some (.t 35))),.M 3 36]))))) [3] (.seq (.p [.M 37 3,.M 2 37]) .ret)))))
def Jo(f0 f1 f2 f3 f4:Nat):AC:=(.o [.K 5 3 2,.m 6 (.c (.one .emp)),.m 7 (.c (.one (.lit .nilIface)))] [0,1,5] (.f (.o [.M 16 0,.H 17 f0 16,.M 8 17] [0,1,5,8] (.o [.M 18 8,.R 19 18] [0,1,5,8,19] (.cond (.t 19) (.seq (.p [.M 20 8,.m 6 (.c (.one .emp)),.M 7 20]) .ret) .skip))) [0,1,5] (.o [.u 21 (.mk 3 [.z,.emp,.emp] (.i 25) (.i 25)),.M 9 21] [0,1,5,9] (.f (.o [.M 22 0,.Z 23 22,.N 24 0] [1,5,9,22,23,24] (.block 0 (.loop (.o [.B 25 .lss 24 23] [1,5,9,22,23,24,25] (.f (.cond (.t 25) .skip (.exit 0)) [1,5,9,22,23,24] (.f (.block 1 (.o [.J 26 5 22 24,.L 27 5 26,.G 11 [(.lit (.int .i64 0)),(.lit (.int .i64 0)),.z,.emp,.emp],.S 5 11 27] [1,5,9,11,22,23,24] (.f (.y [.A 28 1 11,.F 29 1 28,.A 30 0 11,.F 31 1 30,.M 12 29,.M 13 31]) [1,5,9,11,12,13,22,23,24] (.f (.o [.M 32 1] [1,5,9,11,12,13,22,23,24,32] (.cond (.t 32) (.y [.A 33 0 11,.F 34 1 33,.A 35 1 11,.F 36 1 35,.M 12 34,.M 13 36]) .skip)) [1,5,9,11,12,13,22,23,24] (.o [.L 38 3 5,.M 39 13,.D 40 f1 38 39,.M 37 40,.X 41 0 37,.X 42 1 37,.G 14 [.z,.emp,.emp],.S 3 14 41,.M 15 42] [1,5,9,11,12,14,15,22,23,24] (.f (.o [.M 43 15,.R 44 43] [1,5,9,11,12,14,15,22,23,24,44] (.cond (.t 44) (.seq (.p [.M 45 15,.m 6 (.c (.one .emp)),.M 7 45]) .ret) .skip)) [1,5,9,11,12,14,22,23,24] (.y [.M 46 9,.M 47 12,.M 48 9,.M 49 12,.J 50 3 48 49,.L 51 3 50,.A 52 2 11,.L 53 3 52,.L 54 3 14,.D 55 f2 53 54,.D 56 f3 51 55,.J 57 3 46 47,.S 3 57 56]))))))) [1,5,9,22,23,24] (.p [.I 58 .add 24 1,.M 24 58]))))))) [9] (.seq (.p [.M 59 9,.u 60 (.callf f4 [(.t 59)]),.M 6 60,.m 7 (.c (.one (.lit .nilIface)))]) .ret)))))
theorem xH(hΓ:Holds P Γ){f fa fs:Nat}(ha:Γ fa=.dat false kk)(hs:Γ fs=.dat true Zk)(hc:check P f=some (38,(xq fa fs).strip,[.tmp 2])):Sound P f (.fresh 3 jk):=by
 refine Xt hc Jaz hΓ (λargs K hcl hfi hG=>?_);match args,hG with
 | [a],hG=>
  obtain⟨l,rfl,hwl,hok,hlen,hK⟩:=hG;refine⟨by simp,?_⟩
  obtain⟨M,hM⟩:∃M,(l.map rv).map rcan=M:=⟨_,rfl⟩;have lM:M.length=l.length:=by rw [<-hM,List.length_map,List.length_map]
  simp only [go_sem,xq];intro _;refine ja (λk:Nat=>if k=0 then ⟨mkV [(3,.one .emp),(6,rsA l),(7,.one (.lit (.int .i64 l.length))),(8,.one (.lit (.int .i64 k)))],mkH []⟩ else ⟨mkV [(3,.one (.own 17 1 3 0 k)),(6,rsA l),(7,.one (.lit (.int .i64 l.length))),(8,.one (.lit (.int .i64 k)))],mkH [(17,⟨1,some ⟨(M.take k).map rC,3,true⟩⟩)]⟩) (λk=>k<=l.length) (λk=>l.length-k) 0 ?_ ?_ ?_
  .exact za (by simp [bitvec_to_nat,rsA]) trivial
  .exact Nat.zero_le _
  .intro k hk;by_cases hlt:k<l.length
   .obtain⟨x,hx⟩:∃x,l.getD k (rcan 0)=x:=⟨_,rfl⟩;have hx0:=qS hlt hx;obtain⟨hx1,hx2⟩:=hok x (List.mem_of_getElem? hx0);have rx:=qm hx1;have rz0:=rz_0;have hMk:M[k]?=some (rcan (rv x)):=by rw [<-hM,List.getElem?_map,List.getElem?_map,hx0];rfl
    have hMt:M.take (k+1)=M.take k++[rcan (rv x)]:=by rw [List.take_add_one,hMk];rfl
    have hMl:(M.take k).length=k:=by rw [List.length_take,lM];omega
    have f3:∀e:List C,e∈[[cb (rcan (rv x)),cn (rcan (rv x)),cd (rcan (rv x))]]->e.length=3:=λe he=>by rw [List.mem_singleton.1 he];rfl
    have ht:((M.take k).map rC).take k=(M.take k).map rC:=List.take_of_length_le (by rw [List.length_map,hMl];exact Nat.le_refl _)
    by_cases hk0:k=0
    .subst hk0;simp only [go_sem,hlt,hx,ha,Xf,qc,Rat.add_zero];repeat first | refine q_Wk ?_ | intro _
     refine⟨1,?_,by omega,by omega⟩
     rw [if_neg (by decide)]
     exact za (by simp [bitvec_to_nat,rsA]) ⟨qC (by rw [hMt];rfl),trivial⟩
    .simp only [go_sem,hlt,hx,ha,Xf,qc,Rat.add_zero,hk0,List.length_map,hMl,ht];repeat first | refine q_Wk ?_ | intro _
     refine⟨k+1,?_,by omega,by omega⟩
     rw [if_neg (by omega)]
     exact za (by simp [bitvec_to_nat,rsA]) ⟨qC (by rw [hMt,List.map_append];rfl),trivial⟩
   .have ek:k=l.length:=by omega
    subst ek;have hMM:M.take l.length=M:=List.take_of_length_le (by omega)
    by_cases hl0:l.length=0
    .have hl1:l=[]:=List.length_eq_zero_iff.1 hl0;subst hl1;simp only [go_sem,hlt,List.length_nil];refine Uah 0 ⟨mkV [(3,.one .emp)],mkH []⟩ ?_ ?_
     .exact za (by simp [bitvec_to_nat]) trivial
     .simp only [go_sem,Int.lt_irrefl,decide_false];exact hK
    .simp only [go_sem,hlt,hl0,hMM];refine ja (λn:Nat=>⟨mkV [(3,.one (.own 17 1 3 0 n))],mkH [(17,⟨1,some ⟨M.map rC,3,true⟩⟩)]⟩) (λn=>n<=M.length/\∀i,n<=i->(l.map rv).getD i 0=0) (λn=>n) l.length ?_ ?_ ?_
     .exact za (by simp [bitvec_to_nat]) ⟨qC rfl,trivial⟩
     .exact⟨by omega,λi hi=>by rw [List.getD_eq_getElem?_getD,List.getElem?_eq_none (by rw [List.length_map];exact hi)];rfl⟩
     .rintro n ⟨hn,hz⟩;have hlv:(l.map rv).length=M.length:=by rw [lM,List.length_map]
      match n,hn,hz with
      | 0,hn,hz=>
       rw [Jt (n:=0) (Nat.zero_le _) hz (.inl rfl)]at hK;simp only [go_sem,Int.lt_irrefl,decide_false];repeat first | refine q_Wk ?_ | intro _
       exact hK
      | m+1,hn,hz=>
       obtain⟨q,hq⟩:∃q,(l.map rv).getD m 0=q:=⟨_,rfl⟩;have hml:m<l.length:=by omega
       have hMq:M.getD m (rcan 0)=rcan q:=by
        rw [<-hM,<-hq,List.getD_eq_getElem?_getD,List.getD_eq_getElem?_getD,List.getElem?_map];rw [List.getElem?_map,List.getElem?_eq_getElem hml];rfl
       have rq:rz q<=4294967296:=by
        have h1:l[m]?=some l[m]:=List.getElem?_eq_getElem hml;have h2:=hok l[m] (List.mem_of_getElem? h1);have h3:=qm h2.1;have h4:rv l[m]=q:=by rw [<-hq,List.getD_eq_getElem?_getD,List.getElem?_map,h1];rfl
        rw [h4]at h3;have:=h2.2;omega
       have em:((m+1:Nat):Int)-1=(m:Int):=by omega
       have e0:(0:Int)<((m+1:Nat):Int):=by omega
       have n64:((m+1:Nat):Int)<=9223372036854775807:=by omega
       have mM:m<M.length:=by omega
       have rz0:=rz_0;by_cases hq0:q=0
       .simp only [go_sem,em,e0,decide_true,hs,hMq,Xf,qc,zR,XT,hq0,Int.toNat_natCast,Nat.zero_add];repeat first | refine q_Wk ?_ | intro _
        exact⟨m,za (by simp [bitvec_to_nat]) ⟨qC rfl,trivial⟩,⟨by omega,λi hi=>by
         by_cases e:i=m
         .subst e;rw [hq];exact hq0
         .exact hz i (by omega)⟩,by omega⟩
       .rw [Jt (n:=m+1) (by omega) hz (.inr (by rw [Nat.add_sub_cancel,hq];exact hq0))]at hK
        simp only [go_sem,em,e0,decide_true,hs,hMq,Xf,qc,zR,XT,hq0,decide_false,Int.toNat_natCast,Nat.zero_add];rw [List.map_take,hM]at hK;repeat first | refine q_Wk ?_ | intro _
        exact hK
set_option maxHeartbeats 1000000 in
theorem Jax(hΓ:Holds P Γ){f fk fp fm fa ft tE:Nat}(hk:Γ fk=.dat false (ko tE))(hp:Γ fp=.dat false (WI tE))(hm:Γ fm=.dat false Zj)(ha:Γ fa=.dat false kk)(htr:Γ ft=.fresh 3 jk)(hc:check P f=some (61,(Jo fk fp fm fa ft).strip,[.tmp 6,.tmp 7])):Sound P f (.dat false (uN tE)):=by
 refine Qa hc (UaK tE) hΓ (λargs K hcl hfi hG=>?_);match args,hG with
 | [a0,a1,a2],hG=>
  obtain⟨p,rfl,hwp,hG1⟩:=hG;obtain⟨b,rfl,hG2⟩:=xh hG1;obtain⟨c,rfl,hwc,hrp,hrc,hsz,hK⟩:=hG2;refine⟨by simp,?_⟩
  have hrp' : ∀t∈p,rl t.2.2<=4294967296:=λt ht=>Nat.le_trans (hrp t ht) (by decide)
  by_cases h0:chkB p=0
  case neg=>
   have e1:=ue tE h0;rw [if_neg h0,e1]at hK;simp only [go_sem,Jo,hk,rA,e1];repeat first | refine q_Wk ?_ | intro _
   exact hK
  have e0:=Xd tE;rw [if_pos h0,h0,e0]at hK;obtain⟨i1,j1,l1⟩:=qk h0 hwp;simp only [go_sem,Jo,hk,rA,h0,e0];repeat first | refine q_Wk ?_ | intro _
  refine ja (λk:Nat=>⟨mkV [(1,.one (.lit (.bool b))),(5,.one (.ptr 5 1 0 0)),(9,.one (.own 21 1 3 0 25)),(22,msA p),(23,.one (.lit (.int .i64 p.length))),(24,.one (.lit (.int .i64 k)))],mkH [(5,⟨1,some ⟨[[cb c,cn c,cd c]],3,true⟩⟩),(21,⟨1,some ⟨((fixL b (rv c) ((p.take k).map mv)).map rcan).map rC,3,true⟩⟩)]⟩) (λk=>k<=p.length) (λk=>p.length-k) 0 ?_ ?_ ?_
  .exact za (by simp [bitvec_to_nat,msA,ms]) ⟨Yc,⟨⟨rfl,rfl⟩,.inr (by rw [List.take_zero,List.map_nil,Xbj];exact UC 25)⟩,trivial⟩
  .exact Nat.zero_le _
  .intro k hk2;have hsP:sz ((p.take k).map mv)<=100000000:=by
    have w2:=Uo (p.map mv) k;rw [<-List.map_take]at w2;omega
   have inP:InQ ((p.take k).map mv):=λu hu=>by
    obtain⟨v,hv,rfl⟩:=List.mem_map.1 hu;exact i1 v (List.mem_of_mem_take hv)
   have lP:((p.take k).map mv).length<=325:=by rw [List.length_map,List.length_take];omega
   have z1:=qm hwc;have bF:∀j,rz (fxB b (rv c) j ((p.take k).map mv))<=1000000000:=λj=>by
    have w1:=qaV b (rv c) j inP;have w3:=Nat.mul_le_mul lP (show 24*(rz (rv c)+2)+8<=24*10002+8 by omega)
    omega
   have lF:((fixL b (rv c) ((p.take k).map mv)).map rcan).length=25:=by rw [List.length_map,qaI]
   by_cases hlt:k<p.length
   .obtain⟨t,ht⟩:∃t,p.getD k mo0=t:=⟨_,rfl⟩;have ht0:=getDm hlt ht;have htm:=List.mem_of_getElem? ht0;obtain⟨t1,t2,t3⟩:=i1 t htm;have hwt:=(hwp t htm).2.2;have hrt:=hrp t htm;have z3:=qm hwt;obtain⟨X,hX⟩:=Int.eq_ofNat_of_zero_le t1;obtain⟨Y,hY⟩:=Int.eq_ofNat_of_zero_le t2;have hsnoc:(p.take (k+1)).map mv=(p.take k).map mv++[mv t]:=by rw [List.take_add_one,ht0];simp
    have e1:=Xd tE;cases b with
    | false=>
     have hg:=JS false (rv c) ((p.take k).map mv) (j:=Y) (by omega)
     have hst:=YE false (rv c) ((p.take k).map mv) (mv t) (j:=Y) hY;have en:(nxM false (mv t)).toNat=X:=by show t.1.toNat=X;omega
     rw [en,<-hsnoc]at hst;have ev2:(mv t).2.2=rv t.2.2:=rfl;rw [ev2]at hst;have z4:=wC (rv c) X;have z5:X*(rz (rv c)+2)<=24*(rz (rv c)+2):=Nat.mul_le_mul_right _ (by omega)
     have z6:=ve (rv t.2.2) (pw (rv c) X);have bY:=bF Y;obtain⟨v,hv⟩:∃v,fxB false (rv c) Y ((p.take k).map mv)=v:=⟨_,rfl⟩;rw [hv]at hg hst bY;obtain⟨F,hF⟩:∃F,(fixL false (rv c) ((p.take k).map mv)).map rcan=F:=⟨_,rfl⟩;rw [hF]at hg lF;simp only [go_sem,hlt,ht,hp,hm,ha,mC,hX,hY,e1,qc,rQ,hF,hg,Xf,lF,Int.toNat_natCast,Nat.zero_add];repeat first | refine q_Wk ?_ | intro _
     refine⟨k+1,?_,by omega,by omega⟩
     rw [<-hst,List.map_set,hF];exact za (by simp [bitvec_to_nat,msA,ms]) ⟨Yc,qC (by rw [Q5]),trivial⟩
    | true=>
     have hg:=JS true (rv c) ((p.take k).map mv) (j:=X) (by omega)
     have hst:=YE true (rv c) ((p.take k).map mv) (mv t) (j:=X) hX;have en:(nxM true (mv t)).toNat=Y:=by show t.2.1.toNat=Y;omega
     rw [en,<-hsnoc]at hst;have ev2:(mv t).2.2=rv t.2.2:=rfl;rw [ev2]at hst;have z4:=wC (rv c) Y;have z5:Y*(rz (rv c)+2)<=24*(rz (rv c)+2):=Nat.mul_le_mul_right _ (by omega)
     have z6:=ve (rv t.2.2) (pw (rv c) Y);have bY:=bF X;obtain⟨v,hv⟩:∃v,fxB true (rv c) X ((p.take k).map mv)=v:=⟨_,rfl⟩;rw [hv]at hg hst bY;obtain⟨F,hF⟩:∃F,(fixL true (rv c) ((p.take k).map mv)).map rcan=F:=⟨_,rfl⟩;rw [hF]at hg lF;simp only [go_sem,hlt,ht,hp,hm,ha,mC,hX,hY,e1,qc,rQ,hF,hg,Xf,lF,Int.toNat_natCast,Nat.zero_add];repeat first | refine q_Wk ?_ | intro _
     refine⟨k+1,?_,by omega,by omega⟩
     rw [<-hst,List.map_set,hF];exact za (by simp [bitvec_to_nat,msA,ms]) ⟨Yc,qC (by rw [Q5]),trivial⟩
   .have ek:p.take k=p:=List.take_of_length_le (by omega)
    rw [ek]at bF lF ⊢;have hFv:((fixL b (rv c) (p.map mv)).map rcan).map rv=fixL b (rv c) (p.map mv):=by
     rw [List.map_map];have:rv ∘ rcan=id:=funext λx=>qc x;rw [this,List.map_id]
    have oF:okRs 4000000000 ((fixL b (rv c) (p.map mv)).map rcan):=λx hx=>by
     obtain⟨y,hy,rfl⟩:=List.mem_map.1 hx;unfold fixL at hy;obtain⟨j,hj,rfl⟩:=List.mem_map.1 hy;exact⟨xj _,Nat.le_trans (bF j) (by decide)⟩
    have wF:∀x∈(fixL b (rv c) (p.map mv)).map rcan,WLR x:=λx hx=>(oF x hx).1;obtain⟨F,hF⟩:∃F,(fixL b (rv c) (p.map mv)).map rcan=F:=⟨_,rfl⟩;rw [hF]at hFv oF wF lF;have ht:(F.map rC).take 25=F.map rC:=List.take_of_length_le (by rw [List.length_map,lF];exact Nat.le_refl _)
    simp only [go_sem,hlt,htr,hF,List.length_map,lF,ht,hFv];exact⟨wF,oF,hK⟩
end Go.Abs
end
section
namespace Go.Num
def sumN(f:Nat->Rat):Nat->Rat
 | 0=>0
 | n+1=>sumN f n+f n
theorem wm{f g:Nat->Rat}:∀{n:Nat},(∀k,k<n->f k=g k)->sumN f n=sumN g n
 | 0,_=>rfl
 | n+1,h=>by
  simp only [sumN];rw [wm λk hk=>h k (by omega),h n (by omega)]
theorem yF(f g:Nat->Rat):∀n:Nat,sumN (λk=>f k+g k) n=sumN f n+sumN g n
 | 0=>by simp only [sumN];grind
 | n+1=>by have:=yF f g n;simp only [sumN,this];grind
theorem Ux(c:Rat)(f:Nat->Rat):∀n:Nat,sumN (λk=>c*f k) n=c*sumN f n
 | 0=>by simp only [sumN];grind
 | n+1=>by have:=Ux c f n;simp only [sumN,this];grind
theorem xJ{f:Nat->Rat}:∀{n:Nat},(∀k,k<n->f k=0)->sumN f n=0
 | 0,_=>rfl
 | n+1,h=>by simp only [sumN];rw [xJ λk hk=>h k (by omega),h n (by omega)];grind
theorem zN(f:Nat->Rat):∀n:Nat,sumN f (n+1)=f 0+sumN (λk=>f (k+1)) n
 | 0=>by simp only [sumN];grind
 | n+1=>by have:=zN f n;simp only [sumN]at this ⊢;rw [this];grind
theorem J2{F:Nat->Nat->Rat}(h:∀l k,l<k->F l (k-1) = -F k l):∀n:Nat,sumN (λk=>sumN (λl=>F k l) n) (n+1)=0
 | 0=>by simp only [sumN];grind
 | n+1=>by
  have ih:=J2 h n;have e:sumN (λk=>sumN (λl=>F k l) (n+1)) (n+1)=sumN (λk=>sumN (λl=>F k l) n) (n+1)+sumN (λk=>F k n) (n+1):=by
   rw [<-yF];rfl
  have e2:sumN (λk=>F k n) (n+1)=sumN (λk=>(-1)*F (n+1) k) (n+1):=wm λk hk=>by
   have:=h k (n+1) hk;rw [Nat.add_sub_cancel]at this;rw [this];grind
  show sumN (λk=>sumN (λl=>F k l) (n+1)) (n+1)+sumN (λl=>F (n+1) l) (n+1)=0;rw [e,ih,e2,Ux];have e3:sumN (λk=>F (n+1) k) (n+1)=sumN (F (n+1)) (n+1):=rfl;grind
def sk(k j:Nat):Nat:=if j<k then j else j+1
theorem xbs{l k:Nat}(h:l<k)(j:Nat):sk k (sk l j)=sk l (sk (k-1) j):=by unfold sk;split <;> split <;> split <;> (try split) <;> omega
theorem Qbf{k l:Nat}(h:l<k):sk k l=l:=if_pos h
theorem qbi{k l:Nat}(h:k<=l):sk k l=l+1:=if_neg (by omega)
def sgn(k:Nat):Rat:=if k % 2=1 then -1 else 1
theorem UaR(k:Nat):sgn (k+1) = -sgn k:=by unfold sgn;split <;> split <;> first | omega | grind
abbrev MxQ:=Nat->Nat->Rat
def dt:Nat->MxQ->Rat
 | 0,_=>1
 | n+1,A=>sumN (λk=>sgn k*(A 0 k*dt n λi j=>A (i+1) (sk k j))) (n+1)
theorem uaw{k j n:Nat}(h:j<n):sk k j<n+1:=by unfold sk;split <;> omega
theorem Xq:∀{n:Nat} {A B:MxQ},(∀i j,i<n->j<n->A i j=B i j)->dt n A=dt n B
 | 0,_,_,_=>rfl
 | n+1,A,B,h=>by
  simp only [dt];refine wm λk hk=>?_;rw [h 0 k (by omega) hk,Xq λi j hi hj=>h (i+1) (sk k j) (by omega) (uaw hj)]
def rowS(A:MxQ)(p:Nat)(r:Nat->Rat):MxQ:=λi j=>if i=p then r j else A i j
theorem wbg(A:MxQ)(p:Nat)(r:Nat->Rat)(k:Nat):(λi j=>rowS A (p+1) r (i+1) (sk k j))=rowS (λi j=>A (i+1) (sk k j)) p λj=>r (sk k j):=by
 funext i j;unfold rowS
 by_cases e:i=p
 .rw [if_pos (by omega),if_pos e]
 .rw [if_neg (by omega),if_neg e]
theorem ubo(A:MxQ)(r:Nat->Rat)(k:Nat):(λi j=>rowS A 0 r (i+1) (sk k j))=λi j=>A (i+1) (sk k j):=by
 funext i j;unfold rowS;rw [if_neg (by omega)]
theorem Waa:∀{n p:Nat} (_:p<n) (A:MxQ) (u v:Nat->Rat) (c:Rat),dt n (rowS A p λj=>u j+c*v j)=dt n (rowS A p u)+c*dt n (rowS A p v)
 | n+1,0,_,A,u,v,c=>by
  simp only [dt,ubo];rw [<-Ux,<-yF];refine wm λk hk=>?_;simp only [rowS,if_true];grind
 | n+1,p+1,h,A,u,v,c=>by
  simp only [dt,wbg];rw [<-Ux,<-yF];refine wm λk hk=>?_;rw [Waa (by omega) (λi j=>A (i+1) (sk k j)) (λj=>u (sk k j)) (λj=>v (sk k j)) c]
  have e:∀w,rowS A (p+1) w 0 k=A 0 k:=λw=>if_neg (by omega)
  simp only [e];grind
theorem Va5:∀{n p:Nat} (_:p+1<n) {A:MxQ},(∀j,A p j=A (p+1) j)->dt n A=0
 | n+2,0,_,A,h=>by
  have e:dt (n+2) A=sumN (λk=>sumN (λl=>sgn k*(A 0 k*(sgn l*(A 1 (sk k l)*dt n λi j=>A (i+2) (sk k (sk l j)))))) (n+1)) (n+2):=by
   show sumN _ (n+2)=_;refine wm λk hk=>?_;simp only [dt];rw [<-Ux,<-Ux]
  rw [e];refine J2 (λl k hlk=>?_) (n+1);have e1:sk l (k-1)=k:=by rw [qbi (by omega)];omega
  have e2:(λi j=>A (i+2) (sk l (sk (k-1) j)))=λi j=>A (i+2) (sk k (sk l j)):=by funext i j;rw [xbs hlk]
  have e3:sgn k = -sgn (k-1):=by rw [<-UaR];congr 1;omega
  rw [e1,e2,Qbf hlk,e3,<-h k,<-h l];grind
 | n+1,p+1,hp,A,h=>by
  simp only [dt];refine xJ λk hk=>?_;rw [Va5 (n:=n) (p:=p) (by omega) λj=>h (sk k j)]
  grind
def rsw(p q:Nat)(A:MxQ):MxQ:=λi=>if i=p then A q else if i=q then A p else A i
theorem qR{n p:Nat}(hp:p+1<n)(A:MxQ):dt n (rsw p (p+1) A) = -dt n A:=by
 have two:∀u v w z:Nat->Rat,dt n (rowS (rowS A p λj=>u j+1*v j) (p+1) λj=>w j+1*z j)=dt n (rowS (rowS A p u) (p+1) w)+dt n (rowS (rowS A p v) (p+1) w)+dt n (rowS (rowS A p u) (p+1) z)+dt n (rowS (rowS A p v) (p+1) z):=by
  intro u v w z;have co:∀a b:Nat->Rat,rowS (rowS A p a) (p+1) b=rowS (rowS A (p+1) b) p a:=by
   intro a b;funext i j;unfold rowS;by_cases e:i=p
   .rw [if_neg (by omega),if_pos e,if_pos e]
   .rw [if_neg e,if_neg e]
  rw [Waa hp,co,co,Waa (by omega),Waa (by omega),co,co,co,co]
  grind
 have eq0:∀u:Nat->Rat,dt n (rowS (rowS A p u) (p+1) u)=0:=λu=>Va5 hp λj=>by
  unfold rowS;rw [if_neg (by omega),if_pos rfl,if_pos rfl]
 have h:=two (A p) (A (p+1)) (A p) (A (p+1));rw [eq0,eq0,eq0]at h;have e1:rowS (rowS A p (A p)) (p+1) (A (p+1))=A:=by
  funext i j;unfold rowS
  split
  .rename_i e;rw [e]
  .split
   .rename_i e;rw [e]
   .rfl
 have e2:rowS (rowS A p (A (p+1))) (p+1) (A p)=rsw p (p+1) A:=by
  funext i j;unfold rowS rsw
  by_cases a:i=p
  .rw [if_neg (by omega),if_pos a,if_pos a]
  .rw [if_neg a,if_neg a];by_cases b:i=p+1
   .rw [if_pos b,if_pos b]
   .rw [if_neg b,if_neg b]
 rw [e1,e2]at h;grind
theorem wbl:∀{n p d:Nat} (_:p+d+1<n) (A:MxQ),dt n (rsw p (p+d+1) A) = -dt n A
 | n,p,0,h,A=>qR h A
 | n,p,d+1,h,A=>by
  have e:rsw p (p+(d+1)+1) A=rsw (p+d+1) (p+d+1+1) (rsw p (p+d+1) (rsw (p+d+1) (p+d+1+1) A)):=by
   funext i;unfold rsw
   by_cases a:i=p
   .subst a;simp only [if_true];rw [if_neg (by omega),if_neg (by omega)] <;> rfl
   .by_cases b:i=p+d+1
    .subst b;rw [if_neg a,if_neg (by omega),if_pos rfl,if_neg (by omega),if_neg (by omega),if_neg (by omega),if_pos rfl]
    .by_cases c:i=p+d+1+1
     .subst c;rw [if_neg a,if_pos (by omega),if_neg b,if_pos rfl,if_neg (by omega),if_pos rfl,if_neg (by omega),if_neg (by omega)]
     .rw [if_neg a,if_neg (by omega),if_neg b,if_neg c,if_neg a,if_neg b,if_neg b,if_neg c]
  rw [e,qR (by omega),wbl (by omega),qR (by omega)]
  grind
theorem ZaQ{n p q:Nat}(h:p<q)(hq:q<n)(A:MxQ):dt n (rsw p q A) = -dt n A:=by
 obtain⟨d,rfl⟩:∃d,q=p+d+1:=⟨q-p-1,by omega⟩
 exact wbl hq A
theorem kbp{n p q:Nat}(h:p<q)(hq:q<n){A:MxQ}(he:∀j,A p j=A q j):dt n A=0:=by
 have h1:=ZaQ h hq A;have e:rsw p q A=A:=by
  funext i;unfold rsw
  split
  .rename_i e;rw [e];funext j;exact(he j).symm
  .split
   .rename_i e;rw [e];funext j;exact he j
   .rfl
 rw [e]at h1;grind
theorem YaG{n p q:Nat}(h:p<q)(hq:q<n)(A:MxQ)(c:Rat):dt n (rowS A q λj=>A q j+c*A p j)=dt n A:=by
 rw [Waa hq,kbp (A:=rowS A q (A p)) h hq λj=>by unfold rowS;rw [if_neg (by omega),if_pos rfl]]
 have e:rowS A q (A q)=A:=by
  funext i j;unfold rowS
  split
  .rename_i e;rw [e]
  .rfl
 rw [e];grind
mutual
theorem W5:∀{n:Nat} {A:MxQ},(∀i,1<=i->i<n+1->A i 0=0)->dt (n+1) A=A 0 0*dt n λi j=>A (i+1) (j+1)
 | n,A,h=>by
  simp only [dt];rw [zN,xJ (n:=n) λk hk=>?_]
  .have e:(λi j=>A (i+1) (sk 0 j))=λi j=>A (i+1) (j+1):=rfl;rw [e];have:sgn 0=1:=rfl;rw [this];grind
  .match n,hk,h with
   | n+1,hk,h=>
    rw [WaP (n:=n) λi hi=>?_]
    .grind
    .show A (i+1) (sk (k+1) 0)=0;rw [Qbf (by omega)]
     exact h (i+1) (by omega) (by omega)
theorem WaP:∀{n:Nat} {A:MxQ},(∀i,i<n+1->A i 0=0)->dt (n+1) A=0
 | n,A,h=>by
  rw [W5 λi h1 h2=>h i h2,h 0 (by omega)];grind
end
end Go.Num
namespace Go.Num
theorem waM{n:Nat}(A:MxQ)(f:Nat->Rat):∀{t:Nat},t<n->dt n (λi j=>if 1<=i/\i<=t then A i j+f i*A 0 j else A i j)=dt n A
 | 0,_=>Xq λi j _ _=>if_neg (by omega)
 | t+1,h=>by
  rw [<-waM A f (t:=t) (by omega)]
  rw [<-YaG (p:=0) (q:=t+1) (by omega) h (λi j=>if 1<=i/\i<=t then A i j+f i*A 0 j else A i j) (f (t+1))]
  refine Xq λi j _ _=>?_;unfold rowS;by_cases e:i=t+1
  .subst e;rw [if_pos (by omega),if_pos rfl]
   simp only;rw [if_neg (by omega),if_neg (by omega)]
  .rw [if_neg e];simp only;by_cases e2:1<=i/\i<=t
   .rw [if_pos (by omega),if_pos e2]
   .rw [if_neg (by omega),if_neg e2]
def elm(A:MxQ):MxQ:=λi j=>A (i+1) (j+1)-A (i+1) 0 / A 0 0*A 0 (j+1)
theorem kaV{n:Nat}{A:MxQ}(h:A 0 0≠0):dt (n+1) A=A 0 0*dt n (elm A):=by
 rw [<-waM A (λi=>-(A i 0 / A 0 0)) (t:=n) (by omega),W5 λi h1 h2=>?_]
 .simp only [Nat.le_add_left,true_and];rw [if_neg (by omega)]
  congr 1;refine Xq λi j hi hj=>?_;rw [if_pos (by omega)]
  unfold elm;grind
 .rw [if_pos (by omega)]
  have:A i 0 / A 0 0*A 0 0=A i 0:=Rat.div_mul_cancel h;grind
def piv(A:MxQ)(c:Nat):Nat->Nat->Nat
 | 0,t=>t
 | k+1,t=>if A t c=0 then piv A c k (t+1) else t
theorem Ya0(A:MxQ)(c:Nat):∀k t:Nat,t<=piv A c k t/\piv A c k t<=t+k/\(∀i,t<=i->i<piv A c k t->A i c=0)/\(piv A c k t<t+k->A (piv A c k t) c≠0)
 | 0,t=>⟨Nat.le_refl _,Nat.le_refl _,λi h1 h2=>by simp only [piv]at h2;omega,λh=>by simp only [piv]at h;omega⟩
 | k+1,t=>by
  obtain⟨h1,h2,h3,h4⟩:=Ya0 A c k (t+1);simp only [piv];split
  .rename_i e;refine⟨by omega,by omega,λi a b=>?_,λa=>h4 (by omega)⟩
   by_cases g:i=t
   .rw [g];exact e
   .exact h3 i (by omega) b
  .rename_i e;exact⟨Nat.le_refl _,by omega,λi a b=>by omega,λ_=>e⟩
def elC(c:Nat)(A:MxQ):MxQ:=λi j=>if c<i/\c<=j then A i j-A i c / A c c*A c j else A i j
def gd(n:Nat):Nat->Rat->MxQ->Rat
 | 0,out,_=>out
 | k+1,out,A=>
  let c:=n-(k+1)
  let p:=piv A c (k+1) c
  if p=n then 0 else gd n k ((if p=c then out else -out)*A p c) (elC c (rsw c p A))
theorem ZaS{n:Nat}:∀{k:Nat} {out:Rat} {A:MxQ},k<=n->gd n k out A=out*dt k λi j=>A (n-k+i) (n-k+j)
 | 0,out,A,_=>by simp only [gd,dt];grind
 | k+1,out,A,hk=>by
  simp only [gd];obtain⟨c,hc⟩:∃c,n-(k+1)=c:=⟨_,rfl⟩;rw [hc];obtain⟨p1,p2,p3,p4⟩:=Ya0 A c (k+1) c;generalize piv A c (k+1) c=p at p1 p2 p3 p4 ⊢;by_cases hp:p=n
  .rw [if_pos hp,WaP λi hi=>?_]
   .grind
   .exact p3 (c+i) (by omega) (by omega)
  .rw [if_neg hp,ZaS (by omega)]
   have e1:n-k=c+1:=by omega
   have h0:=p4 (by omega)
   have e2:dt k (λi j=>elC c (rsw c p A) (n-k+i) (n-k+j))=dt k (elm λi j=>rsw c p A (c+i) (c+j)):=Xq λi j hi hj=>by
    rw [e1];unfold elC elm;rw [if_pos (by omega)]
    simp only [Nat.add_zero,Nat.add_assoc,Nat.add_comm 1]
   have hr:rsw c p A (c+0) (c+0)=A p c:=by unfold rsw;rw [Nat.add_zero,if_pos rfl]
   have e3:=kaV (n:=k) (A:=λi j=>rsw c p A (c+i) (c+j)) (by rw [hr];exact h0)
   rw [e2];by_cases e:p=c
   .subst e;rw [if_pos rfl];have e4:rsw p p A=A:=by
     funext i;unfold rsw
     by_cases e:i=p
     .rw [if_pos e,e]
     .rw [if_neg e,if_neg e]
    rw [e4]at e3 ⊢;rw [e3];grind
   .rw [if_neg e];have e5:=ZaQ (n:=k+1) (p:=0) (q:=p-c) (by omega) (by omega) λi j=>A (c+i) (c+j)
    have e6:rsw 0 (p-c) (λi j=>A (c+i) (c+j))=λi j=>rsw c p A (c+i) (c+j):=by
     funext i;unfold rsw
     by_cases a:i=0
     .have e7:c+(p-c)=p:=by omega
      rw [if_pos a];funext j;rw [if_pos (by omega)];show A (c+(p-c)) (c+j)=A p (c+j);rw [e7]
     .rw [if_neg a];by_cases b:i=p-c
      .rw [if_pos b];funext j;rw [if_neg (by omega),if_pos (by omega)];first | done | rfl
      .rw [if_neg b];funext j;rw [if_neg (by omega),if_neg (by omega)]
    rw [e6,e3]at e5;simp only [hr]at e5 ⊢;grind
end Go.Num
end
