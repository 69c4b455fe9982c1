/-
  Parts of the proof, merged: ArgE, PolyA, PolyB, PolyP, PolyQ, PolyC, PolyD, PolyR, PolyE, PolyF, PolyG, PolyH, PolyI, CoupP, CoupQ.
-/
import Derived.Test.YtneiiodebbmcaaaGreatDoorM8
import Derived.OpenShut
set_option linter.unusedVariables false
set_option linter.unusedSimpArgs false
set_option maxRecDepth 100000
section
namespace Go.Abs
open Go.Num
variable {H:Type} {enc:TypeId×Value->H} {bulk:DataW H->Nat} {P:Program} {w:World} {α:Type}
structure P3T (P:Program) (t:TypeId):Prop where
 ex:∃u,P.underlying t=some (.array 3 u)/\P.cellsOf u=10/\P.cellsOf t=30/\PsT P u
end Go.Abs
end
section
namespace Go.Num
open Go.Abs
abbrev Mo:=Int×Int×R
def i64r(n:Int):Prop:=-9223372036854775808<=n/\n<9223372036854775808
def WLM(t:Mo):Prop:=i64r t.1/\i64r t.2.1/\WLR t.2.2
def inM(t:Mo):Prop:=0<=t.1/\0<=t.2.1/\t.1+t.2.1<=24
def okM(t:Mo):Prop:=WLM t/\inM t
def okMs(l:List Mo):Prop:=∀x∈l,okM x
def mo0:Mo:=(0,0,(false,[],[]))
def tri:Nat->Nat
 | 0=>0
 | n+1=>tri n+(n+1)
theorem XaT{a b:Nat}(h:a<=b):tri a<=tri b:=by
 induction b with
 | zero=>rw [Nat.le_zero.1 h];exact Nat.le_refl _
 | succ b ih=>
  rcases Nat.lt_or_ge b a with h1 | h1
  .rw [show a=b+1 by omega];exact Nat.le_refl _
  .have:=ih h1;show tri a<=tri b+(b+1);omega
theorem Zbv{a b:Nat}(h:a<b):tri a+a<tri b:=by
 have h1:=XaT (a:=a+1) (b:=b) h;have h2:tri (a+1)=tri a+(a+1):=rfl;omega
def kM(t:Mo):Nat:=tri (t.1+t.2.1).toNat+t.1.toNat
def ordK(a b:Nat):Int:=if a<b then -1 else if b<a then 1 else 0
theorem YS(a b:Nat):(ordK a b<0)=(a<b):=by
 unfold ordK;refine propext ⟨λh=>?_,λh=>by rw [if_pos h];decide⟩
 by_cases h1:a<b
 .exact h1
 .rw [if_neg h1]at h;by_cases h2:b<a
  .rw [if_pos h2]at h;exact absurd h (by decide)
  .rw [if_neg h2]at h;exact absurd h (by decide)
theorem zbg(a b:Nat):(ordK a b=0)=(a=b):=by
 unfold ordK;refine propext ⟨λh=>?_,λh=>by rw [if_neg (by omega),if_neg (by omega)]⟩
 by_cases h1:a<b
 .rw [if_pos h1]at h;exact absurd h (by decide)
 .rw [if_neg h1]at h;by_cases h2:b<a
  .rw [if_pos h2]at h;exact absurd h (by decide)
  .omega
theorem qaX(a b:Nat):(0<=ordK a b)=(b<=a):=by
 have h:=YS a b;refine propext ⟨λh1=>?_,λh1=>?_⟩
 .have:¬a<b:=by rw [<-h];omega
  omega
 .have:¬ordK a b<0:=by rw [h];omega
  omega
theorem qbf{s t:Mo}(hs:inM s)(ht:inM t):kM s<kM t↔s.1+s.2.1<t.1+t.2.1∨(s.1+s.2.1=t.1+t.2.1/\s.1<t.1):=by
 obtain⟨a1,a2,a3⟩:=hs;obtain⟨b1,b2,b3⟩:=ht;unfold kM;rcases Int.lt_trichotomy (s.1+s.2.1) (t.1+t.2.1) with h | h | h
 .have:=Zbv (a:=(s.1+s.2.1).toNat) (b:=(t.1+t.2.1).toNat) (by omega)
  exact⟨λ_=>.inl h,λ_=>by omega⟩
 .rw [h];exact⟨λh1=>.inr ⟨rfl,by omega⟩,λh1=>by omega⟩
 .have:=Zbv (a:=(t.1+t.2.1).toNat) (b:=(s.1+s.2.1).toNat) (by omega)
  exact⟨λh1=>by omega,λh1=>by omega⟩
theorem kcc{s t:Mo}(hs:inM s)(ht:inM t):kM s=kM t↔s.1=t.1/\s.2.1=t.2.1:=by
 have h1:=qbf hs ht;have h2:=qbf ht hs;constructor
 .intro e;have n1:¬kM s<kM t:=by omega
  have n2:¬kM t<kM s:=by omega
  rw [h1]at n1;rw [h2]at n2;omega
 .intro e;have n1:¬kM s<kM t:=by rw [h1];omega
  have n2:¬kM t<kM s:=by rw [h2];omega
  omega
theorem Ycf{s:Mo}(hs:inM s):kM s<325:=by
 obtain⟨a1,a2,a3⟩:=hs;have h:=XaT (a:=(s.1+s.2.1).toNat) (b:=24) (by omega)
 have h24:tri 24=300:=rfl;unfold kM;omega
theorem waJ{l:List Mo}(h:okMs l){i:Nat}(hi:i<l.length):okM (l.getD i mo0):=by
 rw [List.getD_eq_getElem?_getD,List.getElem?_eq_getElem hi];exact h _ (List.getElem_mem hi)
theorem Vk{l m:List Mo}:okMs (l++m)↔okMs l/\okMs m:=by
 unfold okMs;simp only [List.mem_append];exact⟨λh=>⟨λx hx=>h x (.inl hx),λx hx=>h x (.inr hx)⟩,λh x hx=>hx.elim (h.1 x) (h.2 x)⟩
theorem kR{l m:List Mo}(p:l.Perm m)(h:okMs l):okMs m:=λx hx=>h x (p.mem_iff.2 hx)
def je(l:List Mo):Prop:=l.Pairwise λx y=>kM x<=kM y
theorem Q0{x:Mo}{v:List Mo}(h:je v)(hx:∀y∈v,kM x<kM y):je (x::v):=
 List.pairwise_cons.2 ⟨λy hy=>Nat.le_of_lt (hx y hy),h⟩
theorem vbj{x y:Mo}{u v:List Mo}(h:je (u++[y]++v))(hyx:kM y<=kM x)(hx:∀y∈v,kM x<kM y):je (u++[y]++x::v):=by
 unfold je at *
 obtain⟨h1,h2,h3⟩:=List.pairwise_append.1 h;refine List.pairwise_append.2 ⟨h1,Q0 h2 hx,λa ha b hb=>?_⟩;have hay:kM a<=kM x:=by
  obtain⟨_,_,h6⟩:=List.pairwise_append.1 h1;rcases List.mem_append.1 ha with ha | ha
  .exact Nat.le_trans (h6 a ha y (by simp)) hyx
  .rw [List.mem_singleton]at ha;subst ha;exact hyx
 rcases List.mem_cons.1 hb with rfl | hb
 .exact hay
 .exact h3 a ha b hb
end Go.Num
namespace Go.Abs
open Go.Num
def mC(t:Mo):List C:=[.lit (.int .i64 t.1),.lit (.int .i64 t.2.1),cb t.2.2,cn t.2.2,cd t.2.2]
def mA(t:Mo):AV:=.agg (mC t)
theorem vby{x y:Mo}(h:mC x=mC y):x=y:=by
 simp only [mC,List.cons.injEq,and_true,C.lit.injEq,Value.int.injEq,true_and]at h;obtain⟨h1,h2,h3,h4,h5⟩:=h;have e1:=Yt x.2.2 y.2.2 (by simp only [rA];rw [h3,h4,h5])
 exact Prod.ext h1 (Prod.ext h2 e1)
theorem Xbe(x y:Mo)(h:mA x=mA y):x=y:=vby (by simpa [mA] using h)
def ms(l:List Mo):C:=.slice (l.map mC)
def msA(l:List Mo):AV:=.one (ms l)
theorem uq{x y:List Mo}(h:x.map mC=y.map mC):x=y:=List.map_inj_right (λ_ _=>vby) |>.1 h
theorem Ja2(x y:List Mo)(h:msA x=msA y):x=y:=by
 simp only [msA,ms,AV.one.injEq,C.slice.injEq]at h;exact uq h
def onM(k:Mo->Prop)(a:AV):Prop:=onE mA (λx=>WLM x/\k x) a
@[congr] theorem Wci{k:Mo->Prop}{a a'}(h:a=a'):onM k a=onM k a':=by subst h;rfl
theorem VbU(k:Mo->Prop)(x:Mo):onM k (.agg (mC x))=(WLM x/\k x):=Zq Xbe (λx=>WLM x/\k x) x
theorem WbT(k:Mo->Prop)(i j:Int)(x:R):onM k (.agg [.lit (.int .i64 i),.lit (.int .i64 j),cb x,cn x,cd x])=(WLM (i,j,x)/\k (i,j,x)):=Zq Xbe (λx=>WLM x/\k x) (i,j,x)
theorem qbg{β:Type}{T:Mo->(β->Prop)->Prop}(h:∀x,GoodT (T x)){a:AV}:GoodT λK=>onM (λx=>T x K) a:=
 ZJ (e:=mA) (T:=λx K=>WLM x/\T x K) Xbe λx=>GoodT.and (c:=WLM x) (T:=T x) λ_=>h x
def onMx(k:List Mo->Prop)(a:AV):Prop:=∃l,(a=.one (ms l)∨a=.one (.full (l.map mC))∨(a=.one .emp/\l=[]))/\(∀x∈l,WLM x)/\k l
@[congr] theorem kca{k:List Mo->Prop}{a a'}(h:a=a'):onMx k a=onMx k a':=by subst h;rfl
theorem xaC(k:List Mo->Prop)(l:List Mo):onMx k (.one (.slice (l.map mC)))=((∀x∈l,WLM x)/\k l):=by
 refine propext ⟨λ⟨x,h,h1,h2⟩=>?_,λh=>⟨l,.inl rfl,h⟩⟩;rcases h with h | h | h
 .have:=Ja2 l x h;subst this;exact⟨h1,h2⟩
 .simp at h
 .simp at h
theorem ja6(k:List Mo->Prop)(l:List Mo):onMx k (.one (.full (l.map mC)))=((∀x∈l,WLM x)/\k l):=by
 refine propext ⟨λ⟨x,h,h1,h2⟩=>?_,λh=>⟨l,.inr (.inl rfl),h⟩⟩;rcases h with h | h | h
 .simp [ms]at h
 .have:=uq (x:=l) (y:=x) (by simpa using h);subst this;exact⟨h1,h2⟩
 .simp at h
theorem Zbc(k:List Mo->Prop):onMx k (.one .emp)=k []:=by
 refine propext ⟨λ⟨x,h,h1,h2⟩=>?_,λh=>⟨[],.inr (.inr ⟨rfl,rfl⟩),by simp,h⟩⟩
 rcases h with h | h | h
 .simp [ms]at h
 .simp at h
 .obtain⟨_,rfl⟩:=h;exact h2
theorem XaL(k:List Mo->Prop):onMx k (.one (.slice []))=k []:=by
 have:=xaC k [];simp only [List.map_nil,List.not_mem_nil,false_implies,implies_true,true_and]at this;exact this
theorem jbR{β:Type}{T:List Mo->(β->Prop)->Prop}(h:∀l,GoodT (T l)){a:AV}:GoodT λK=>onMx (λl=>T l K) a:=
 .of λK hx=>by
  obtain⟨l,ha,hw,hk⟩:=hx;rcases ha with ha | ha | ⟨ha,rfl⟩
  .have:(λK=>onMx (λl=>T l K) a)=λK=>(∀x∈l,WLM x)/\T l K:=funext λK=>by rw [ha];exact xaC _ l
   rw [this];exact .and λ_=>h l
  .have:(λK=>onMx (λl=>T l K) a)=λK=>(∀x∈l,WLM x)/\T l K:=funext λK=>by rw [ha];exact ja6 _ l
   rw [this];exact .and λ_=>h l
  .have:(λK=>onMx (λl=>T l K) a)=T []:=funext λK=>by rw [ha];exact Zbc _
   rw [this];exact h []
theorem xaY(K:List C->Prop)(l:List Mo)(i:Nat):getE K (l.map mC) i=(i<l.length/\K (mC (l.getD i mo0))):=by
 simp only [getE,List.length_map,List.getElem?_map];refine propext ⟨λh=>⟨h.1,h.2 _ (by simp [h.1,List.getD_eq_getElem?_getD])⟩,λh=>⟨h.1,λe he=>?_⟩⟩
 simp [h.1]at he;subst he;have:=h.2;simpa [List.getD_eq_getElem?_getD,h.1] using this
theorem qbp(x:Mo):Jd (mC x):=by
 intro c hc;simp only [mC,List.mem_cons,List.not_mem_nil,or_false]at hc;rcases hc with rfl | rfl | rfl | rfl | rfl
 .exact .lit _
 .exact .lit _
 .exact of_eq_true (qn _)
 .exact of_eq_true (Um _)
 .exact of_eq_true (vn _)
theorem Wh(l:List Mo):jc (l.map mC)=True:=eq_true λe he c hc=>by
 obtain⟨x,_,rfl⟩:=List.mem_map.1 he;exact qbp x c hc
theorem YH(l:List Mo):Clean (.slice (l.map mC))=True:=eq_true (.slice _ (of_eq_true (Wh l)))
theorem ybr(x:Mo):(mC x).length=5:=eq_of_heq (HEq.refl _)
theorem vbz(l:List Mo):(∀e∈l.map mC,e.length=5)=True:=eq_true λe he=>by
 obtain⟨x,_,rfl⟩:=List.mem_map.1 he;rfl
theorem QbR(l:List Mo)(n:Nat)(i j:Int)(x:R):(l.map mC).set n [.lit (.int .i64 i),.lit (.int .i64 j),cb x,cn x,cd x]=(l.set n (i,j,x)).map mC:=by
 rw [List.map_set];rfl
theorem ubE(l:List Mo)(i:Nat)(x:Mo):(l.map mC).set i (mC x)=(l.set i x).map mC:=by rw [List.map_set]
theorem kbt(h:Nat->HB)(x:Mo):(mC x).map (datC h)=mC x:=eq_of_heq (HEq.refl _)
theorem Vbv(x:Mo):(mC x).flatMap ownC=[]:=eq_of_heq (HEq.refl _)
theorem jbK(l:List Mo)(n:Nat):(l.map mC).take n=(l.take n).map mC:=by rw [List.map_take]
theorem QbJ(l:List Mo)(n:Nat):(l.map mC).drop n=(l.drop n).map mC:=by rw [List.map_drop]
theorem WbB(l m:List Mo):l.map mC++m.map mC=(l++m).map mC:=by rw [List.map_append]
theorem qbx(l:List Mo):msA l=.one (.slice (l.map mC)):=eq_of_heq (HEq.refl _)
theorem ZbR(l:List Mo):ms l=.slice (l.map mC):=eq_of_heq (HEq.refl _)
theorem ZbN(x:Mo):mA x=.agg (mC x):=eq_of_heq (HEq.refl _)
theorem Jm{h' : Nat->HB}{k v v' z:Nat}{b:Bool}{es:List (List C)}{l' : List Mo}{r:List (Nat×HB)}(e:es=l'.map mC):okH (mkH ((k,⟨v,some ⟨es,z,b⟩⟩)::r)) h' [(k,⟨v',some ⟨l'.map mC,z,b⟩⟩)]:=by
 subst e;have:jc (l'.map mC):=of_eq_true (Wh l');simp [okH,qa,okB,this]
theorem vg{h h' : Nat->HB}{z:Nat}{b:Bool}{es:List (List C)}{l' : List Mo}(e:es=l'.map mC):okB h h' (some ⟨es,z,b⟩) (some ⟨l'.map mC,z,b⟩):=by
 subst e;exact⟨⟨rfl,rfl⟩,.inl ⟨rfl,of_eq_true (Wh l')⟩⟩
attribute [go_sem] VbU WbT xaC ja6 Zbc XaL xaY Wh YH ybr vbz kbt Vbv QbR ubE jbK QbJ WbB qbx ZbR ZbN
attribute [go_sem ↓] VbU WbT xaC ja6 Zbc XaL xaY Wh YH ybr vbz kbt Vbv qbx ZbR ZbN
def XC(l:List AV)(K:AV->Prop):Prop:=
 match l with
 | [a,b]=>onM (λx=>onM (λy=>inM x/\inM y/\K (.one (.lit (.int .i64 (ordK (kM x) (kM y)))))) b) a
 | _=>False
theorem Ya1 a b K:XC [a,b] K=(onM (λx=>onM (λy=>inM x/\inM y/\K (.one (.lit (.int .i64 (ordK (kM x) (kM y)))))) b) a):=propext Iff.rfl
@[congr] theorem wcb{K}{l l'}(h:l=l'):XC l K=XC l' K:=by subst h;rfl
attribute [go_sem,go_sem ↓] Ya1
theorem Wbe:Good XC:=Wa λas=>by
 unfold XC;split
 .exact(qbg λ_=>(qbg λ_=>(.and λ_=>(.and λ_=>(.ret _)))))
 .exact .of λK hk=>hk.elim
end Go.Abs
end
section
namespace Go.Abs
open Go.Num
variable {P:Program} {Γ:Nat->Spec}
def jN(fc:Nat)(d:Option Nat)(args:List AV)(h:Nat->HB)(K:AV->(Nat->HB)->Prop):Prop:=
 match args with
 | [.one (.own r ver 5 0 len),.one (.lit (.int .i64 a)),.one (.lit (.int .i64 b)),c]=>∃(pre seg post:List Mo),c=fnV fc/\a=pre.length/\b=(pre.length+seg.length:Nat)/\len<=pre.length+seg.length+post.length/\pre.length+seg.length<=len/\len<=68719476736/\
   h r=⟨ver,some ⟨(pre++seg++post).map mC,5,true⟩⟩/\okMs seg/\
   ∀seg' : List Mo,seg.Perm seg'->je seg'->K (.tup []) (upd h r ⟨ver,some ⟨(pre++seg'++post).map mC,5,true⟩⟩)
 | _=>False
@[congr] theorem vcc {fc:Nat} {d:Option Nat} {l l' : List AV} {h h' : Nat->HB} {K:AV->(Nat->HB)->Prop} (e1:l=l') (e2:h=h'):jN fc d l h K=jN fc d l' h' K:=by subst e1;subst e2;rfl
def kB(fc m:Nat)(d:Option Nat)(args:List AV)(h:Nat->HB)(K:AV->(Nat->HB)->Prop):Prop:=
 match args with
 | [.one (.own r ver 5 0 len),c]=>∃(l post:List Mo),c=fnV fc/\len=l.length/\len<=m/\h r=⟨ver,some ⟨(l++post).map mC,5,true⟩⟩/\okMs l/\
   ∀l' : List Mo,l.Perm l'->je l'->K (.tup []) (upd h r ⟨ver,some ⟨(l'++post).map mC,5,true⟩⟩)
 | _=>False
@[congr] theorem Jb5 {fc m:Nat} {d:Option Nat} {l l' : List AV} {h h' : Nat->HB} {K:AV->(Nat->HB)->Prop} (e1:l=l') (e2:h=h'):kB fc m d l h K=kB fc m d l' h' K:=by subst e1;subst e2;rfl
def UG(fc m:Nat)(d:Option Nat)(args:List AV)(h:Nat->HB)(K:AV->(Nat->HB)->Prop):Prop:=
 match args with
 | [.one (.own r ver 5 0 len),.one (.lit (.int .i64 n)),c]=>n=len/\kB fc m d [.one (.own r ver 5 0 len),c] h K
 | _=>False
@[congr] theorem Yb5 {fc m:Nat} {d:Option Nat} {l l' : List AV} {h h' : Nat->HB} {K:AV->(Nat->HB)->Prop} (e1:l=l') (e2:h=h'):UG fc m d l h K=UG fc m d l' h' K:=by subst e1;subst e2;rfl
def qu(l:List AV)(K:List (List C)->Prop):Prop:=
 match l with
 | [a]=>onMx (λl=>l.length<=68719476736/\K (l.map mC)) a
 | _=>False
theorem qae a K:qu [a] K=(onMx (λl=>l.length<=68719476736/\K (l.map mC)) a):=propext Iff.rfl
@[congr] theorem VbT{K}{l l'}(h:l=l'):qu l K=qu l' K:=by subst h;rfl
attribute [go_sem,go_sem ↓] qae
theorem Qao:Good qu:=Wa λas=>by
 unfold qu;split
 .exact(jbR λ_=>(.and λ_=>(.ret _)))
 .exact .of λK hk=>hk.elim
def zg:AC:=(.o [.m 2 (.c (.one .emp))] [0] (.f (.o [.M 3 0,.u 4 (.snil false (.t 3))] [0,4] (.cond (.t 4) (.seq (.p [.m 2 (.c (.one .emp))]) .ret) .skip)) [0] (.seq (.p [.m 5 (.c (.one .emp)),.M 6 0,.u 7 (.app0 5 (.t 5) (.t 6)),.M 2 7]) .ret)))
def zf(f0:Nat):AC:=(.p [.M 4 0,.M 5 0,.Z 6 5,.M 7 1,.E 8 f0 4 6 7])
def vf(f0 f1:Nat):AC:=(.o [.N 6 20] [0,1,2,6] (.o [.M 10 6,.N 7 0,.M 8 10] [0,1,2,6,7,8] (.f (.block 0 (.loop (.f (.o [.M 11 8,.M 12 1,.B 13 .leq 11 12] [0,1,2,6,7,8,13] (.cond (.t 13) .skip (.exit 0))) [0,1,2,6,7,8] (.block 1 (.o [.M 14 0,.M 15 7,.M 16 8,.M 17 2,.u 18 (.call f0 [(.t 14),(.t 15),(.t 16),(.t 17)])] [0,1,2,6,8] (.o [.M 19 8,.M 7 19] [0,1,2,6,7,8] (.p [.M 20 8,.M 21 6,.B 22 .add 20 21,.M 8 22]))))))) [0,1,2,6,7] (.o [.M 23 0,.M 24 7,.M 25 1,.M 26 2,.u 27 (.call f0 [(.t 23),(.t 24),(.t 25),(.t 26)])] [0,1,2,6] (.block 2 (.loop (.f (.o [.M 28 6,.M 29 1,.B 30 .lss 28 29] [0,1,2,6,30] (.cond (.t 30) .skip (.exit 2))) [0,1,2,6] (.block 3 (.o [.M 31 6,.u 32 (.bin .mul (.i 2) (.t 31)),.N 7 0,.M 8 32] [0,1,2,6,7,8] (.f (.block 4 (.loop (.f (.o [.M 33 8,.M 34 1,.B 35 .leq 33 34] [0,1,2,6,7,8,35] (.cond (.t 35) .skip (.exit 4))) [0,1,2,6,7,8] (.block 5 (.o [.M 36 0,.M 37 7,.M 38 7,.M 39 6,.B 40 .add 38 39,.M 41 8,.M 42 2,.u 43 (.call f1 [(.t 36),(.t 37),(.t 40),(.t 41),(.t 42)])] [0,1,2,6,8] (.o [.M 44 8,.M 7 44] [0,1,2,6,7,8] (.p [.M 45 8,.M 46 6,.u 47 (.bin .mul (.i 2) (.t 46)),.B 48 .add 45 47,.M 8 48]))))))) [0,1,2,6,7] (.f (.o [.M 49 7,.M 50 6,.B 51 .add 49 50,.M 9 51] [0,1,2,6,7,9] (.o [.M 52 9,.M 53 1,.B 54 .lss 52 53] [0,1,2,6,7,9,54] (.cond (.t 54) (.p [.M 55 0,.M 56 7,.M 57 9,.M 58 1,.M 59 2,.u 60 (.call f1 [(.t 55),(.t 56),(.t 57),(.t 58),(.t 59)])]) .skip))) [0,1,2,6] (.p [.M 61 6,.I 62 .mul 61 2,.M 6 62]))))))))))))
def ud:AC:=(.o [.M 10 1,.I 11 .add 10 1,.M 8 11] [0,1,2,3,8] (.block 0 (.loop (.f (.o [.M 12 8,.M 13 2,.B 14 .lss 12 13] [0,1,2,3,8,14] (.cond (.t 14) .skip (.exit 0))) [0,1,2,3,8] (.f (.block 1 (.o [.M 17 8,.M 9 17] [0,1,2,3,8,9] (.block 2 (.loop (.f (.f (.y [.M 18 9,.M 19 1,.B 20 .gtr 18 19,.M 21 20,.V 22 21 true 3,.V 23 21 true 0,.V 24 21 true 9,.w 25 21 true (.idx 5 (.t 23) (.t 24)),.U 26 21 true 5 true 25,.V 27 21 true 0,.V 28 21 true 9,.w 29 21 true (.bin .sub (.t 28) (.i 1)),.w 30 21 true (.idx 5 (.t 27) (.t 29)),.U 31 21 true 5 true 30,.w 32 21 true (.callv (.t 22) [(.t 26),(.t 31)]),.w 33 21 true (.bin .lss (.t 32) (.i 0)),.P 34 21 33]) [0,1,2,3,8,9,34] (.cond (.t 34) .skip (.exit 2))) [0,1,2,3,8,9] (.f (.block 3 (.y [.M 37 0,.M 38 9,.M 39 0,.M 40 9,.I 41 .sub 40 1,.M 42 0,.M 43 9,.I 44 .sub 43 1,.J 45 5 42 44,.L 46 5 45,.M 47 0,.M 48 9,.J 49 5 47 48,.L 50 5 49,.J 51 5 37 38,.S 5 51 46,.J 52 5 39 41,.S 5 52 50])) [0,1,2,3,8,9] (.p [.M 35 9,.I 36 .sub 35 1,.M 9 36]))))))) [0,1,2,3,8] (.p [.M 15 8,.I 16 .add 15 1,.M 8 16]))))))
theorem Zaf(hΓ:Xa P Γ){f:Nat}(hc:check P f=some (8,zg.strip,[.tmp 2])):ua P f (.fresh 5 qu):=by
 refine xq hc Qao hΓ (λargs K hcl hfi hG=>?_);match args,hG with
 | [a],hG=>
  obtain⟨l,ha,hl,hlen,hK⟩:=hG;refine⟨by simp,?_⟩
  rcases ha with rfl | rfl | ⟨rfl,h0⟩
  .simp only [go_sem,zg,ms];exact⟨λh=>by rw [h]at hK;exact hK,hlen,hK⟩
  .simp only [go_sem,zg,ms];exact⟨λh=>by rw [h]at hK;exact hK,hlen,hK⟩
  .subst h0;simp only [go_sem,zg,ms];exact⟨hK,by simp,hK⟩
theorem waP(hΓ:Xa P Γ){f fc:Nat}(hcm:Γ fc=.dat true XC)(hc:check P f=some (53,ud.strip,[])):ua P f (.own (jN fc)):=by
 refine xh hc hΓ (λd args h K hG=>?_);unfold jN at hG;split at hG
 case h_2=>exact hG.elim
 rename_i r ver len a b c;obtain⟨pre,seg,post,rfl,rfl,rfl,hlen,hlen2,hroom,hr,hok,hK⟩:=hG;obtain⟨T,hT⟩:∃T,T=pre.length+seg.length+post.length:=⟨_,rfl⟩;refine⟨[r],[⟨(pre++seg++post).map mC,5,true⟩],[.one (.own 1048576 ver 5 0 len),.one (.lit (.int .i64 pre.length)),.one (.lit (.int .i64 (pre.length+seg.length:Nat))),fnV fc],by simp,rfl,?_,?_,?_,λhfi=>⟨by simp,?_⟩⟩
 .intro i r' b h1 h2;cases i with
  | zero=>simp only [List.getElem?_cons_zero,Option.some.injEq]at h1 h2;subst h1 h2;exact⟨by rw [hr],rfl,of_eq_true (Wh _)⟩
  | succ i=>simp at h1
 .simp [exA,exC,exB,Wc,pinA,fnV]
 .intro a ha;simp only [List.mem_cons,List.not_mem_nil,or_false]at ha;rcases ha with rfl | rfl | rfl | rfl
  .simp [pasA,pasC,pasB,Wc,pinA]
  .exact .lit _
  .exact .lit _
  .exact .lit _
 simp only [go_sem,ud,hr,fnV];refine⟨by omega,?_⟩
 refine Ya (λp:Nat×List Mo=>⟨mkV [(0,.one (.own 1048576 ver 5 0 len)),(1,.one (.lit (.int .i64 pre.length))),(2,.one (.lit (.int .i64 (pre.length+seg.length:Nat)))),(3,.one (.lit (.func (.func fc) ⟨[]⟩ ⟨[]⟩))),(8,.one (.lit (.int .i64 (pre.length+p.1:Nat))))],mkH [(1048576,⟨ver,some ⟨(pre++p.2++post).map mC,5,true⟩⟩)]⟩)
  (λp=>1<=p.1/\(p.1<=seg.length∨p.1=1)/\seg.Perm p.2/\je (p.2.take p.1)) (λp=>seg.length-p.1) (1,seg) ?_ ?_ ?_
 .exact Qa (by simp [okS,okV,okC,okL,okH,okB,okE,ja,Ja,qa,Va,wsA,ws]) (Jm rfl)
 .refine⟨Nat.le_refl _,.inr rfl,List.Perm.refl _,?_⟩;simp only;rcases seg with _ | ⟨x,l⟩
  .exact List.Pairwise.nil
  .simp [je]
 .rintro⟨i,s⟩ ⟨hi1,hi,hp,hs⟩;simp only at hi1 hi hp hs;have hsl:=hp.length_eq;simp only [go_sem,hr];refine⟨λhlt=>?_,λhge=>?_⟩
  .have his:i<s.length:=by omega
   refine Ya (λp:List Mo×Mo×List Mo×List Mo=>⟨mkV [(0,.one (.own 1048576 ver 5 0 len)),(1,.one (.lit (.int .i64 pre.length))),(2,.one (.lit (.int .i64 (pre.length+seg.length:Nat)))),(3,.one (.lit (.func (.func fc) ⟨[]⟩ ⟨[]⟩))),(8,.one (.lit (.int .i64 (pre.length+i:Nat)))),(9,.one (.lit (.int .i64 (pre.length+p.1.length:Nat))))],mkH [(1048576,⟨ver,some ⟨(pre++(p.1++p.2.1::(p.2.2.1++p.2.2.2))++post).map mC,5,true⟩⟩)]⟩)
    (λp=>p.1.length+p.2.2.1.length=i/\seg.Perm (p.1++p.2.1::(p.2.2.1++p.2.2.2))/\je (p.1++p.2.2.1)/\∀y∈p.2.2.1,kM p.2.1<kM y) (λp=>p.1.length) (s.take i,s.getD i mo0,[],s.drop (i+1)) ?_ ?_ ?_
   .have e:s.take i++s.getD i mo0::([]++s.drop (i+1))=s:=by
     rw [List.getD_eq_getElem?_getD,List.getElem?_eq_getElem his,Option.getD_some,List.nil_append,List.getElem_cons_drop,List.take_append_drop]
    exact Qa (by simp [okS,okV,okC,okL,okH,okB,okE,ja,Ja,qa,Va,wsA,ws];omega) (Jm (by simp only [e]))
   .have e:s.take i++s.getD i mo0::([]++s.drop (i+1))=s:=by
     rw [List.getD_eq_getElem?_getD,List.getElem?_eq_getElem his,Option.getD_some,List.nil_append,List.getElem_cons_drop,List.take_append_drop]
    exact⟨by simp;omega,by simp only [e];exact hp,by simpa using hs,by simp⟩
   .rintro⟨u,x,v,w⟩ ⟨hiu,hpu,hsu,hxv⟩;simp only at hiu hpu hsu hxv;have hul:=hpu.length_eq;simp only [List.length_append,List.length_cons]at hul;have hok2:=kR hpu hok;rcases List.eq_nil_or_concat u with rfl | ⟨u',y,rfl⟩
    .simp only [go_sem,hr,hcm,Nat.add_zero,Nat.lt_irrefl];refine⟨by omega,(i+1,x::(v++w)),Qa (by simp [okS,okV,okC,okL,okH,okB,okE,ja,Ja,qa,Va,wsA,ws];omega) (Jm rfl),⟨by simp only;omega,.inl (by simp only;omega),hpu,?_⟩,by simp only;omega⟩
     simp only [List.length_nil,Nat.zero_add]at hiu;simp only [List.take_succ_cons];rw [<-hiu,List.take_left];exact Q0 hsu hxv
    .rw [List.concat_eq_append]at *
     obtain⟨k,hk⟩:∃k,k=pre.length+u'.length:=⟨_,rfl⟩;have hL:(pre++(u'++[y]++x::(v++w))++post).length=T:=by
      simp only [List.length_append,List.length_cons]at *;omega
     have gx:=gmid pre (u'++[y]) (v++w) post x mo0;have gy:=gmid1 pre u' (v++w) post x y mo0;have sw:=smid pre u' (v++w) post x y;have e0:pre.length+(u'++[y]).length=k+1:=by simp;omega
     have ek:((k+1:Nat):Int)-1=(k:Int):=by omega
     rw [e0]at gx;rw [<-hk]at gy sw;have hkl:k+1<len:=by
      simp only [List.length_append,List.length_cons]at hL hul;simp only [List.length_append]at e0;omega
     have hkT:k+1<T:=by omega
     have ox:=hok2 x (by simp)
     have oy:=hok2 y (by simp)
     have hpk:pre.length<k+1:=by omega
     simp only [go_sem,hr,hcm,e0,ek,hL,gx,gy,sw,List.length_set,hkl,hpk,hkT,Nat.lt_of_succ_lt hkl,Nat.lt_of_succ_lt hkT,ox.1,oy.1,ox.2,oy.2,YS];refine⟨by omega,λhxy=>⟨by omega,by omega,by omega,(u',x,y::v,w),Qa (by simp [okS,okV,okC,okL,okH,okB,okE,ja,Ja,qa,Va,wsA,ws];omega) (Jm (by simp)),⟨by simp only [List.length_cons];simp at hiu;omega,?_,by simpa using hsu,?_⟩,by simp⟩,λhxy=>⟨by omega,(i+1,u'++[y]++x::(v++w)),Qa (by simp [okS,okV,okC,okL,okH,okB,okE,ja,Ja,qa,Va,wsA,ws];omega) (Jm rfl),⟨by simp only;omega,.inl (by simp only;omega),hpu,?_⟩,by simp only;omega⟩⟩
     .simp only;refine hpu.trans ?_;have e1:u'++[y]++x::(v++w)=u'++(y::x::(v++w)):=by simp
      have e2:u'++x::(y::v++w)=u'++(x::y::(v++w)):=by simp
      rw [e1,e2];exact List.Perm.append_left _ (List.Perm.swap _ _ _)
     .intro z hz;rcases List.mem_cons.1 hz with rfl | hz
      .exact hxy
      .exact hxv z hz
     .simp only;have e:(u'++[y]++x::(v++w)).take (i+1)=u'++[y]++x::v:=by
       have:u'++[y]++x::(v++w)=(u'++[y]++x::v)++w:=by simp
       rw [this,<-hiu];have h2:(u'++[y]).length+v.length+1=(u'++[y]++x::v).length:=by simp;omega
       rw [h2,List.take_left]
      rw [e];exact vbj hsu (Nat.not_lt.1 hxy) hxv
  .have e:s.take i=s:=List.take_of_length_le (by omega)
   rw [e]at hs;exact hK s hp hs
theorem Uas(hΓ:Xa P Γ){f fs fc m:Nat}(hs:Γ fs=.own (UG fc m))(hc:check P f=some (9,(zf fs).strip,[])):ua P f (.own (kB fc m)):=by
 refine xh hc hΓ (λd args h K hG=>?_);unfold kB at hG;split at hG
 case h_2=>exact hG.elim
 rename_i r ver len c;obtain⟨l,post,rfl,rfl,hlen,hr,hok,hK⟩:=hG;refine⟨[r],[⟨(l++post).map mC,5,true⟩],[.one (.own 1048576 ver 5 0 l.length),fnV fc],by simp,rfl,?_,?_,?_,λhfi=>⟨by simp,?_⟩⟩
 .intro i r' b h1 h2;cases i with
  | zero=>simp only [List.getElem?_cons_zero,Option.some.injEq]at h1 h2;subst h1 h2;exact⟨by rw [hr],rfl,of_eq_true (Wh _)⟩
  | succ i=>simp at h1
 .simp [exA,exC,exB,Wc,pinA,fnV]
 .intro a ha;simp only [List.mem_cons,List.not_mem_nil,or_false]at ha;rcases ha with rfl | rfl
  .simp [pasA,pasC,pasB,Wc,pinA]
  .exact .lit _
 simp only [go_sem,zf,hr,fnV,hs];refine λ_=>?_;simp only [UG,kB];refine⟨by simp,l,post,rfl,rfl,hlen,by simp [qa],hok,λl' h1 h2=>?_⟩
 simp only [go_sem,hr];exact hK l' h1 h2
end Go.Abs
end
section
namespace Go.Num
abbrev MQ:=Int×Int×Rat
abbrev BQ:=List MQ
def mv(t:Mo):MQ:=(t.1,t.2.1,rv t.2.2)
def mcan(t:MQ):Mo:=(t.1,t.2.1,rcan t.2.2)
theorem UbS(t:MQ):mv (mcan t)=t:=by unfold mv mcan;simp only [Vb]
def kq(t:MQ):Nat:=tri (t.1+t.2.1).toNat+t.1.toNat
def inQ(t:MQ):Prop:=0<=t.1/\0<=t.2.1/\t.1+t.2.1<=24
theorem jbU{t:Mo}(h:inM t):inQ (mv t):=h
theorem Xcg{s t:MQ}(hs:inQ s)(ht:inQ t):kq s<kq t↔s.1+s.2.1<t.1+t.2.1∨(s.1+s.2.1=t.1+t.2.1/\s.1<t.1):=qbf (s:=mcan s) (t:=mcan t) hs ht
theorem xbp{s t:MQ}(hs:inQ s)(ht:inQ t):kq s=kq t↔s.1=t.1/\s.2.1=t.2.1:=kcc (s:=mcan s) (t:=mcan t) hs ht
theorem ucc{s:MQ}(hs:inQ s):kq s<325:=Ycf (s:=mcan s) hs
def pw(x:Rat):Nat->Rat
 | 0=>1
 | n+1=>pw x n*x
theorem Ybb(x:Rat)(m n:Nat):pw x (m+n)=pw x m*pw x n:=by
 induction n with
 | zero=>simp only [pw,Nat.add_zero,Rat.mul_one]
 | succ n ih=>rw [<-Nat.add_assoc];simp only [pw];rw [ih,Rat.mul_assoc]
theorem Wam(x:Rat)(n:Nat):rz (pw x n)<=n*(rz x+2)+2:=by
 induction n with
 | zero=>have:=rz_1;simp only [pw];omega
 | succ n ih=>have:=Zc (pw x n) x;simp only [pw];rw [Nat.add_mul];omega
def cf:BQ->Int->Int->Rat
 | [],_,_=>0
 | t::l,i,j=>(if t.1=i/\t.2.1=j then t.2.2 else 0)+cf l i j
def mev(t:MQ)(x y:Rat):Rat:=t.2.2*(pw x t.1.toNat*pw y t.2.1.toNat)
def ev:BQ->Rat->Rat->Rat
 | [],_,_=>0
 | t::l,x,y=>mev t x y+ev l x y
def sz:BQ->Nat
 | []=>0
 | t::l=>rz t.2.2+2+sz l
theorem Ys(l m:BQ)(i j:Int):cf (l++m) i j=cf l i j+cf m i j:=by
 induction l with
 | nil=>simp only [List.nil_append,cf,Rat.zero_add]
 | cons t l ih=>simp only [List.cons_append,cf,ih,Rat.add_assoc]
theorem Ur(l m:BQ)(x y:Rat):ev (l++m) x y=ev l x y+ev m x y:=by
 induction l with
 | nil=>simp only [List.nil_append,ev,Rat.zero_add]
 | cons t l ih=>simp only [List.cons_append,ev,ih,Rat.add_assoc]
theorem Xj(l m:BQ):sz (l++m)=sz l+sz m:=by
 induction l with
 | nil=>simp only [List.nil_append,sz,Nat.zero_add]
 | cons t l ih=>simp only [List.cons_append,sz,ih,Nat.add_assoc]
theorem qbH{l m:BQ}(p:l.Perm m)(i j:Int):cf l i j=cf m i j:=by
 induction p with
 | nil=>rfl
 | cons t _ ih=>simp only [cf,ih]
 | swap s t l=>simp only [cf];grind
 | trans _ _ h1 h2=>rw [h1,h2]
theorem qbI{l m:BQ}(p:l.Perm m):sz l=sz m:=by
 induction p with
 | nil=>rfl
 | cons t _ ih=>simp only [sz,ih]
 | swap s t l=>simp only [sz];omega
 | trans _ _ h1 h2=>rw [h1,h2]
theorem Qbf{l:BQ}{i j:Int}(h:∀t∈l,¬(t.1=i/\t.2.1=j)):cf l i j=0:=by
 induction l with
 | nil=>rfl
 | cons t l ih=>
  simp only [cf];rw [if_neg (h t (by simp)),ih λu hu=>h u (by simp [hu]),Rat.zero_add]
def ins(t:MQ):BQ->BQ
 | []=>[t]
 | u::p=>if kq t<kq u then t::u::p else if kq t=kq u then (u.1,u.2.1,u.2.2+t.2.2)::p else u::ins t p
def nfo(l:BQ):BQ:=l.foldr ins []
def nz(t:MQ):Bool:=decide (t.2.2≠0)
def nf(l:BQ):BQ:=(nfo l).filter nz
def StrM(l:BQ):Prop:=l.Pairwise λx y=>kq x<kq y
def InQ(l:BQ):Prop:=∀t∈l,inQ t
structure Canon (p:BQ):Prop where
 str:StrM p
 ins:InQ p
 nz:∀t∈p,t.2.2≠0
theorem Yf{t:MQ}{l:BQ}:InQ (t::l)↔inQ t/\InQ l:=by unfold InQ;simp only [List.mem_cons,forall_eq_or_imp]
theorem yf{l m:BQ}:InQ (l++m)↔InQ l/\InQ m:=by
 unfold InQ;simp only [List.mem_append];exact⟨λh=>⟨λx hx=>h x (.inl hx),λx hx=>h x (.inr hx)⟩,λh x hx=>hx.elim (h.1 x) (h.2 x)⟩
theorem Zbl{l m:BQ}(p:l.Perm m)(h:InQ l):InQ m:=λx hx=>h x (p.mem_iff.2 hx)
theorem Waq{t u:MQ}{p:BQ}(h:u∈ins t p):(u.1=t.1/\u.2.1=t.2.1)∨∃v∈p,u.1=v.1/\u.2.1=v.2.1:=by
 induction p with
 | nil=>simp only [ins,List.mem_singleton]at h;subst h;exact .inl ⟨rfl,rfl⟩
 | cons w p ih=>
  simp only [ins]at h;split at h
  .rcases List.mem_cons.1 h with rfl | h
   .exact .inl ⟨rfl,rfl⟩
   .exact .inr ⟨u,h,rfl,rfl⟩
  .split at h
   .rcases List.mem_cons.1 h with rfl | h
    .exact .inr ⟨w,by simp,rfl,rfl⟩
    .exact .inr ⟨u,by simp [h],rfl,rfl⟩
   .rcases List.mem_cons.1 h with rfl | h
    .exact .inr ⟨u,by simp,rfl,rfl⟩
    .rcases ih h with h | ⟨v,hv,h⟩
     .exact .inl h
     .exact .inr ⟨v,by simp [hv],h⟩
theorem kq_c{s t:MQ}(h:s.1=t.1/\s.2.1=t.2.1):kq s=kq t:=by unfold kq;rw [h.1,h.2]
theorem ZbZ{s t:MQ}(h:s.1=t.1/\s.2.1=t.2.1)(ht:inQ t):inQ s:=by unfold inQ at *;rw [h.1,h.2];exact ht
theorem YbX{t:MQ}{p:BQ}(ht:inQ t)(hp:InQ p):InQ (ins t p):=λu hu=>by
 rcases Waq hu with h | ⟨v,hv,h⟩
 .exact ZbZ h ht
 .exact ZbZ h (hp v hv)
theorem VbB{t:MQ}{p:BQ}(hp:StrM p):StrM (ins t p):=by
 induction p with
 | nil=>simp only [ins];exact List.pairwise_singleton _ _
 | cons w p ih=>
  obtain⟨h1,h2⟩:=List.pairwise_cons.1 hp;simp only [ins];split
  .rename_i hlt;refine List.pairwise_cons.2 ⟨λu hu=>?_,hp⟩;rcases List.mem_cons.1 hu with rfl | hu
   .exact hlt
   .exact Nat.lt_trans hlt (h1 u hu)
  .split
   .exact List.pairwise_cons.2 ⟨λu hu=>h1 u hu,h2⟩
   .rename_i hlt hne;refine List.pairwise_cons.2 ⟨λu hu=>?_,ih h2⟩;rcases Waq hu with h | ⟨v,hv,h⟩
    .rw [kq_c h];omega
    .rw [kq_c h];exact h1 v hv
theorem kbT{t:MQ}{p:BQ}(ht:inQ t)(hp:InQ p)(i j:Int):cf (ins t p) i j=cf (t::p) i j:=by
 induction p with
 | nil=>rfl
 | cons w p ih=>
  obtain⟨hw,hp⟩:=Yf.1 hp;simp only [ins];split
  .rfl
  .split
   .rename_i _ e;obtain⟨e1,e2⟩:=(xbp ht hw).1 e;simp only [cf,e1,e2];split
    .grind
    .grind
   .simp only [cf,ih hp];grind
theorem xb0{t:MQ}{p:BQ}(ht:inQ t)(hp:InQ p)(x y:Rat):ev (ins t p) x y=ev (t::p) x y:=by
 induction p with
 | nil=>rfl
 | cons w p ih=>
  obtain⟨hw,hp⟩:=Yf.1 hp;simp only [ins];split
  .rfl
  .split
   .rename_i _ e;obtain⟨e1,e2⟩:=(xbp ht hw).1 e;simp only [ev,mev,e1,e2];grind
   .simp only [ev,ih hp];grind
theorem VbZ(t:MQ)(p:BQ):sz (ins t p)<=sz (t::p):=by
 induction p with
 | nil=>exact Nat.le_refl _
 | cons w p ih=>
  simp only [ins];split
  .exact Nat.le_refl _
  .split
   .have:=km w.2.2 t.2.2;simp only [sz];omega
   .simp only [sz]at ih ⊢;omega
theorem qbk{l:BQ}(h:InQ l):InQ (nfo l):=by
 induction l with
 | nil=>exact h
 | cons t l ih=>obtain⟨h1,h2⟩:=Yf.1 h;exact YbX h1 (ih h2)
theorem VbG(l:BQ):StrM (nfo l):=by
 induction l with
 | nil=>exact List.Pairwise.nil
 | cons t l ih=>exact VbB ih
theorem ZbU{l:BQ}(h:InQ l)(i j:Int):cf (nfo l) i j=cf l i j:=by
 induction l with
 | nil=>rfl
 | cons t l ih=>
  obtain⟨h1,h2⟩:=Yf.1 h;show cf (ins t (nfo l)) i j=_;rw [kbT h1 (qbk h2)];simp only [cf,ih h2]
theorem XbT{l:BQ}(h:InQ l)(x y:Rat):ev (nfo l) x y=ev l x y:=by
 induction l with
 | nil=>rfl
 | cons t l ih=>
  obtain⟨h1,h2⟩:=Yf.1 h;show ev (ins t (nfo l)) x y=_;rw [xb0 h1 (qbk h2)];simp only [ev,ih h2]
theorem xbY(l:BQ):sz (nfo l)<=sz l:=by
 induction l with
 | nil=>exact Nat.le_refl _
 | cons t l ih=>
  have:=VbZ t (nfo l);show sz (ins t (nfo l))<=_;simp only [sz]at this ⊢;omega
theorem Xbx(p:BQ)(i j:Int):cf (p.filter nz) i j=cf p i j:=by
 induction p with
 | nil=>rfl
 | cons t p ih=>
  by_cases h:t.2.2=0
  .rw [List.filter_cons_of_neg (by simp [nz,h]),ih]
   simp only [cf,h];grind
  .rw [List.filter_cons_of_pos (by simp [nz,h])]
   simp only [cf,ih]
theorem ZbW(p:BQ)(x y:Rat):ev (p.filter nz) x y=ev p x y:=by
 induction p with
 | nil=>rfl
 | cons t p ih=>
  by_cases h:t.2.2=0
  .rw [List.filter_cons_of_neg (by simp [nz,h]),ih]
   simp only [ev,mev,h];grind
  .rw [List.filter_cons_of_pos (by simp [nz,h])]
   simp only [ev,ih]
theorem kbN(p:BQ):sz (p.filter nz)<=sz p:=by
 induction p with
 | nil=>exact Nat.le_refl _
 | cons t p ih=>
  by_cases h:t.2.2=0
  .rw [List.filter_cons_of_neg (by simp [nz,h])]
   simp only [sz];omega
  .rw [List.filter_cons_of_pos (by simp [nz,h])]
   simp only [sz];omega
theorem Qae{p:BQ}(hs:StrM p)(hi:InQ p):Canon (p.filter nz):=
 ⟨List.Pairwise.filter _ hs,λt ht=>hi t (List.mem_filter.1 ht).1,λt ht=>by
  have:=(List.mem_filter.1 ht).2;simpa [nz] using this⟩
theorem Wp{l:BQ}(h:InQ l):Canon (nf l):=Qae (VbG l) (qbk h)
theorem Qcb{l:BQ}(h:InQ l)(i j:Int):cf (nf l) i j=cf l i j:=by unfold nf;rw [Xbx,ZbU h]
theorem Ua4{l:BQ}(h:InQ l)(x y:Rat):ev (nf l) x y=ev l x y:=by unfold nf;rw [ZbW,XbT h]
theorem UaQ(l:BQ):sz (nf l)<=sz l:=Nat.le_trans (kbN _) (xbY l)
theorem jx{p:BQ}(hp:InQ p){t:MQ}(ht:inQ t)(h:∀u∈p,kq t<kq u):cf p t.1 t.2.1=0:=Qbf λu hu e=>by
 have:=h u hu;rw [kq_c e]at this;omega
theorem XP:∀{p q:BQ},Canon p->Canon q->(∀i j,cf p i j=cf q i j)->p=q
 | [],[],_,_,_=>rfl
 | [],t::q,_,hq,h=>by
  obtain⟨h1,h2⟩:=List.pairwise_cons.1 hq.str;obtain⟨h3,h4⟩:=Yf.1 hq.ins;have:=h t.1 t.2.1;simp only [cf,and_self,if_true]at this;rw [jx h4 h3 h1,Rat.add_zero]at this;exact absurd this.symm (hq.nz t (by simp))
 | t::p,[],hp,_,h=>by
  obtain⟨h1,h2⟩:=List.pairwise_cons.1 hp.str;obtain⟨h3,h4⟩:=Yf.1 hp.ins;have:=h t.1 t.2.1;simp only [cf,and_self,if_true]at this;rw [jx h4 h3 h1,Rat.add_zero]at this;exact absurd this (hp.nz t (by simp))
 | s::p,t::q,hp,hq,h=>by
  obtain⟨a1,a2⟩:=List.pairwise_cons.1 hp.str;obtain⟨a3,a4⟩:=Yf.1 hp.ins;obtain⟨b1,b2⟩:=List.pairwise_cons.1 hq.str;obtain⟨b3,b4⟩:=Yf.1 hq.ins;have hs:=h s.1 s.2.1;have ht:=h t.1 t.2.1;rcases Nat.lt_trichotomy (kq s) (kq t) with hk | hk | hk
  .exfalso;have e:cf (t::q) s.1 s.2.1=0:=jx hq.ins a3 λu hu=>by
    rcases List.mem_cons.1 hu with rfl | hu
    .exact hk
    .exact Nat.lt_trans hk (b1 u hu)
   rw [e]at hs;simp only [cf,and_self,if_true]at hs;rw [jx a4 a3 a1,Rat.add_zero]at hs;exact hp.nz s (by simp) hs
  .obtain⟨e1,e2⟩:=(xbp a3 b3).1 hk;simp only [cf,and_self,if_true,e1,e2]at ht;have z1:cf p t.1 t.2.1=0:=by rw [<-e1,<-e2];exact jx a4 a3 a1
   rw [jx b4 b3 b1,z1,Rat.add_zero,Rat.add_zero]at ht;have est:s=t:=Prod.ext e1 (Prod.ext e2 ht);subst est;rw [XP (p:=p) (q:=q) ⟨a2,a4,λu hu=>hp.nz u (by simp [hu])⟩ ⟨b2,b4,λu hu=>hq.nz u (by simp [hu])⟩ λi j=>by
    have:=h i j;simp only [cf]at this;grind]
  .exfalso;have e:cf (s::p) t.1 t.2.1=0:=jx hp.ins b3 λu hu=>by
    rcases List.mem_cons.1 hu with rfl | hu
    .exact hk
    .exact Nat.lt_trans hk (a1 u hu)
   rw [e]at ht;simp only [cf,and_self,if_true]at ht;rw [jx b4 b3 b1,Rat.add_zero]at ht;exact hq.nz t (by simp) ht.symm
theorem vb8{p l:BQ}(hp:Canon p)(hl:InQ l)(h:∀i j,cf p i j=cf l i j):p=nf l:=
 XP hp (Wp hl) λi j=>by rw [Qcb hl];exact h i j
theorem Yat:∀{p:BQ} {a N:Nat},StrM p->(∀t∈p,a<=kq t/\kq t<N)->p.length<=N-a
 | [],_,_,_,_=>Nat.zero_le _
 | t::p,a,N,hs,h=>by
  obtain⟨h1,h2⟩:=List.pairwise_cons.1 hs;have ht:=h t (by simp)
  have:=Yat (p:=p) (a:=kq t+1) (N:=N) h2 λu hu=>⟨h1 u hu,(h u (by simp [hu])).2⟩
  simp only [List.length_cons];omega
theorem VF{p:BQ}(h:Canon p):p.length<=325:=Yat (a:=0) h.str λt ht=>⟨Nat.zero_le _,ucc (h.ins t ht)⟩
def Deg(d:Nat)(p:BQ):Prop:=∀t∈p,t.1+t.2.1<=d
theorem jH{p:BQ}(h:Canon p){d:Nat}(hd:Deg d p):p.length<=tri (d+1):=Yat (a:=0) h.str λt ht=>⟨Nat.zero_le _,by
 have h1:=hd t ht;obtain⟨a1,a2,a3⟩:=h.ins t ht;have h2:=XaT (a:=(t.1+t.2.1).toNat) (b:=d) (by omega)
 show kq t<tri d+(d+1);unfold kq;omega⟩
theorem WbL{t:MQ}{p:BQ}{d:Nat}(ht:t.1+t.2.1<=d)(hp:Deg d p):Deg d (ins t p):=λu hu=>by
 rcases Waq hu with⟨h1,h2⟩ | ⟨v,hv,h1,h2⟩
 .rw [h1,h2];exact ht
 .rw [h1,h2];exact hp v hv
theorem XZ{l:BQ}{d:Nat}(h:Deg d l):Deg d (nf l):=by
 intro t ht;have:Deg d (nfo l):=by
  clear ht
  induction l with
  | nil=>exact h
  | cons u l ih=>exact WbL (h u (by simp)) (ih λv hv=>h v (by simp [hv]))
 exact this t (List.mem_filter.1 ht).1
theorem jY{l m:BQ}{d:Nat}(hl:Deg d l)(hm:Deg d m):Deg d (l++m):=λt ht=>(List.mem_append.1 ht).elim (hl t) (hm t)
theorem Qbm{l:BQ}{d e:Nat}(hl:Deg d l)(h:d<=e):Deg e l:=λt ht=>by have:=hl t ht;omega
def sclL(c:Rat)(p:BQ):BQ:=p.map λt=>(t.1,t.2.1,c*t.2.2)
def mulT(a b:MQ):MQ:=(a.1+b.1,a.2.1+b.2.1,a.2.2*b.2.2)
def mulL(p q:BQ):BQ:=p.flatMap λa=>q.map λb=>mulT a b
theorem W6{c:Rat}{p:BQ}(h:InQ p):InQ (sclL c p):=λt ht=>by
 obtain⟨u,hu,rfl⟩:=List.mem_map.1 ht;exact h u hu
theorem Jbm{c:Rat}{p:BQ}{d:Nat}(h:Deg d p):Deg d (sclL c p):=λt ht=>by
 obtain⟨u,hu,rfl⟩:=List.mem_map.1 ht;exact h u hu
theorem uba(c:Rat)(p:BQ)(x y:Rat):ev (sclL c p) x y=c*ev p x y:=by
 induction p with
 | nil=>simp only [sclL,List.map_nil,ev,Rat.mul_zero]
 | cons t p ih=>
  have e:sclL c (t::p)=(t.1,t.2.1,c*t.2.2)::sclL c p:=rfl;rw [e];simp only [ev,mev,ih];grind
theorem zbG(c:Rat)(p:BQ)(i j:Int):cf (sclL c p) i j=c*cf p i j:=by
 induction p with
 | nil=>simp only [sclL,List.map_nil,cf,Rat.mul_zero]
 | cons t p ih=>
  have e:sclL c (t::p)=(t.1,t.2.1,c*t.2.2)::sclL c p:=rfl;rw [e];simp only [cf,ih];grind
theorem waa(q:BQ):mulL [] q=[]:=rfl
theorem jI(a:MQ)(p q:BQ):mulL (a::p) q=(q.map λb=>mulT a b)++mulL p q:=by unfold mulL;rw [List.flatMap_cons]
theorem uav{p q:BQ}{d e:Nat}(hp:InQ p)(hq:InQ q)(hd:Deg d p)(he:Deg e q)(h:d+e<=24):InQ (mulL p q):=λt ht=>by
 obtain⟨a,ha,hb⟩:=List.mem_flatMap.1 ht;obtain⟨b,hb',rfl⟩:=List.mem_map.1 hb;have h1:=hp a ha;have h2:=hq b hb';have h3:=hd a ha;have h4:=he b hb';unfold inQ mulT at *
 simp only;omega
theorem ubq{p q:BQ}{d e:Nat}(hd:Deg d p)(he:Deg e q):Deg (d+e) (mulL p q):=λt ht=>by
 obtain⟨a,ha,hb⟩:=List.mem_flatMap.1 ht;obtain⟨b,hb',rfl⟩:=List.mem_map.1 hb;have h3:=hd a ha;have h4:=he b hb';unfold mulT;simp only;omega
theorem wbC{a:MQ}(ha:inQ a){q:BQ}(hq:InQ q)(x y:Rat):ev (q.map λb=>mulT a b) x y=mev a x y*ev q x y:=by
 induction q with
 | nil=>simp only [List.map_nil,ev,Rat.mul_zero]
 | cons b q ih=>
  obtain⟨hb,hq⟩:=Yf.1 hq;simp only [List.map_cons,ev,ih hq];have e1:(a.1+b.1).toNat=a.1.toNat+b.1.toNat:=by unfold inQ at *;omega
  have e2:(a.2.1+b.2.1).toNat=a.2.1.toNat+b.2.1.toNat:=by unfold inQ at *;omega
  unfold mev mulT;simp only [e1,e2,Ybb];grind
theorem vbL{p q:BQ}(hp:InQ p)(hq:InQ q)(x y:Rat):ev (mulL p q) x y=ev p x y*ev q x y:=by
 induction p with
 | nil=>simp only [waa,ev,Rat.zero_mul]
 | cons a p ih=>
  obtain⟨ha,hp⟩:=Yf.1 hp;rw [jI,Ur,wbC ha hq,ih hp];simp only [ev];grind
theorem ubK(a:MQ)(q:BQ):sz (q.map λb=>mulT a b)<=q.length*(rz a.2.2+2)+sz q:=by
 induction q with
 | nil=>exact Nat.zero_le _
 | cons b q ih=>
  have:=Zc a.2.2 b.2.2;simp only [List.map_cons,List.length_cons,Nat.add_mul,sz,mulT]at ih ⊢;omega
theorem xa1(p q:BQ):sz (mulL p q)<=q.length*sz p+p.length*sz q:=by
 induction p with
 | nil=>exact Nat.zero_le _
 | cons a p ih=>
  have:=ubK a q;rw [jI,Xj];simp only [sz,List.length_cons,Nat.mul_add,Nat.add_mul]at *;omega
theorem Zbo(p q:BQ):(mulL p q).length=p.length*q.length:=by
 induction p with
 | nil=>simp [waa]
 | cons a p ih=>rw [jI,List.length_append,ih,List.length_map,List.length_cons,Nat.add_mul,Nat.one_mul,Nat.add_comm]
def addB(p q:BQ):BQ:=nf (p++q)
def subB(p q:BQ):BQ:=nf (p++sclL (-1) q)
def mulB(p q:BQ):BQ:=nf (mulL p q)
def sclB(c:Rat)(p:BQ):BQ:=nf (sclL c p)
end Go.Num
end
section
namespace Go.Num
instance(t:Mo):Decidable (inM t):=by unfold inM;infer_instance
def badO(o:Option Mo)(t:Mo):Bool:=
 match o with
 | none=>false
 | some s=>decide (kM t<=kM s)
def chkT(o:Option Mo)(t:Mo):Nat:=if ¬inM t then 3 else if vldR t.2.2=false then 2 else if rv t.2.2=0 then 8 else if badO o t=true then 12 else 0
def chkG:Option Mo->List Mo->Nat
 | _,[]=>0
 | o,t::l=>if chkT o t≠0 then chkT o t else chkG (some t) l
def chkB(l:List Mo):Nat:=if 325<l.length then 4 else chkG none l
def mcs(p:BQ):List Mo:=p.map mcan
theorem qH(p:BQ):(mcs p).map mv=p:=by
 unfold mcs;rw [List.map_map];have:mv ∘ mcan=id:=funext λt=>UbS t;rw [this,List.map_id]
theorem XbD{t:MQ}(h:inQ t):inM (mcan t):=h
theorem yau{t:MQ}(h:inQ t):WLM (mcan t):=by
 obtain⟨h1,h2,h3⟩:=h;refine⟨?_,?_,Zp _⟩
 .unfold i64r mcan;simp only;omega
 .unfold i64r mcan;simp only;omega
theorem Jbq{p:BQ}(h:InQ p):okMs (mcs p):=λt ht=>by
 obtain⟨u,hu,rfl⟩:=List.mem_map.1 ht;exact⟨yau (h u hu),XbD (h u hu)⟩
theorem uy{p:BQ}(h:InQ p):∀t∈mcs p,WLM t:=λt ht=>(Jbq h t ht).1
theorem WY:∀{p:BQ} (o:Option Mo),(∀s,o=some s->∀t∈p,kM s<kq t)->Canon p->chkG o (mcs p)=0
 | [],_,_,_=>rfl
 | t::p,o,ho,h=>by
  obtain⟨a1,a2⟩:=List.pairwise_cons.1 h.str;obtain⟨a3,a4⟩:=Yf.1 h.ins;have e:chkT o (mcan t)=0:=by
   unfold chkT;have n1:inM (mcan t):=a3;have n2:vldR (mcan t).2.2=true:=Qp _;have n3:rv (mcan t).2.2≠0:=by
    have:rv (mcan t).2.2=t.2.2:=Vb _;rw [this];exact h.nz t (by simp)
   rw [if_neg (by simp [n1]),if_neg (by simp [n2]),if_neg n3]
   have:badO o (mcan t)=false:=by
    unfold badO;cases o with
    | none=>rfl
    | some s=>
     have:=ho s rfl t (by simp)
     have e:kM (mcan t)=kq t:=rfl;simp only [e,decide_eq_false_iff_not];omega
   rw [if_neg (by simp [this])]
  have e2:mcs (t::p)=mcan t::mcs p:=rfl;rw [e2,chkG,if_neg (by simp [e])]
  refine WY (some (mcan t)) (λs hs u hu=>?_) ⟨a2,a4,λu hu=>h.nz u (by simp [hu])⟩
  obtain rfl:mcan t=s:=by simpa using hs
  exact a1 u hu
theorem WH{p:BQ}(h:Canon p):chkB (mcs p)=0:=by
 unfold chkB;have:=VF h;rw [if_neg (by unfold mcs;rw [List.length_map];omega)]
 exact WY none (λs hs=>by simp at hs) h
theorem wbT{o:Option Mo}{t:Mo}(h:chkT o t=0):inM t/\vldR t.2.2=true/\rv t.2.2≠0/\badO o t=false:=by
 unfold chkT at h;split at h
 .contradiction
 .rename_i h1;split at h
  .contradiction
  .rename_i h2;split at h
   .contradiction
   .rename_i h3;split at h
    .contradiction
    .rename_i h4;exact⟨by simpa using h1,by simpa using h2,h3,by simpa using h4⟩
theorem ybg{o:Option Mo}{t:Mo}{l:List Mo}(h:chkG o (t::l)=0):chkT o t=0/\chkG (some t) l=0:=by
 rw [chkG]at h;split at h
 .rename_i h1;exact absurd h h1
 .rename_i h1;exact⟨by simpa using h1,h⟩
theorem VbE{t:Mo}(hw:WLR t.2.2)(hv:vldR t.2.2=true):mcan (mv t)=t:=by
 have:=Vw hw hv;unfold mcan mv;simp only [this]
theorem Zbk:∀{l:List Mo} {o:Option Mo},chkG o l=0->(∀t∈l,WLM t)->Canon (l.map mv)/\mcs (l.map mv)=l/\∀s,o=some s->∀t∈l,kM s<kM t
 | [],o,_,_=>⟨⟨List.Pairwise.nil,λt ht=>by simp at ht,λt ht=>by simp at ht⟩,rfl,λs _ t ht=>by simp at ht⟩
 | t::l,o,h,hw=>by
  obtain⟨h1,h2⟩:=ybg h;obtain⟨a1,a2,a3,a4⟩:=wbT h1;obtain⟨b1,b2,b3⟩:=Zbk h2 λu hu=>hw u (by simp [hu])
  have b4:=b3 t rfl;refine⟨⟨List.pairwise_cons.2 ⟨λu hu=>?_,b1.str⟩,Yf.2 ⟨a1,b1.ins⟩,λu hu=>?_⟩,?_,λs hs u hu=>?_⟩
  .obtain⟨v,hv,rfl⟩:=List.mem_map.1 hu;exact b4 v hv
  .rcases List.mem_cons.1 hu with rfl | hu
   .exact a3
   .exact b1.nz u hu
  .have e:mcs ((t::l).map mv)=mcan (mv t)::mcs (l.map mv):=rfl;rw [e,b2,VbE (hw t (by simp)).2.2 a2]
  .subst hs;have hst:kM s<kM t:=by
    unfold badO at a4;simp only [decide_eq_false_iff_not]at a4;omega
   rcases List.mem_cons.1 hu with rfl | hu
   .exact hst
   .exact Nat.lt_trans hst (b4 u hu)
theorem JbA{l:List Mo}(h:chkB l=0):l.length<=325/\chkG none l=0:=by
 unfold chkB at h;split at h
 .contradiction
 .exact⟨by omega,h⟩
theorem xG{l:List Mo}(h:chkB l=0)(hw:∀t∈l,WLM t):Canon (l.map mv)/\mcs (l.map mv)=l:=by
 obtain⟨h1,h2,_⟩:=Zbk (JbA h).2 hw;exact⟨h1,h2⟩
def degB(p:BQ):Int:=match p.getLast? with
 | none=>-1
 | some t=>t.1+t.2.1
structure PB (d s:Nat) (p:BQ):Prop where
 canon:Canon p
 deg:Deg d p
 size:sz p<=s
theorem PB.mono{d s d' s' : Nat}{p:BQ}(h:PB d s p)(hd:d<=d')(hs:s<=s'):PB d' s' p:=⟨h.canon,Qbm h.deg hd,Nat.le_trans h.size hs⟩
theorem PB.add{d s s' : Nat}{p q:BQ}(h:PB d s p)(h' : PB d s' q):PB d (s+s') (addB p q):=
 ⟨Wp (yf.2 ⟨h.canon.ins,h'.canon.ins⟩),XZ (jY h.deg h'.deg),by
  have:=UaQ (p++q);rw [Xj]at this;have h1:=h.size;have h2:=h'.size;unfold addB;omega⟩
theorem uY(p:BQ):sz (sclL (-1) p)=sz p:=by
 induction p with
 | nil=>rfl
 | cons t p ih=>
  have e:sclL (-1) (t::p)=(t.1,t.2.1,-1*t.2.2)::sclL (-1) p:=rfl;have e2:(-1:Rat)*t.2.2 = -t.2.2:=by grind
  rw [e];simp only [sz,ih,e2,qA]
theorem PB.sub{d s s' : Nat}{p q:BQ}(h:PB d s p)(h' : PB d s' q):PB d (s+s') (subB p q):=
 ⟨Wp (yf.2 ⟨h.canon.ins,W6 h'.canon.ins⟩),XZ (jY h.deg (Jbm h'.deg)),by
  have:=UaQ (p++sclL (-1) q);rw [Xj,uY]at this;have h1:=h.size;have h2:=h'.size;unfold subB;omega⟩
theorem PB.len{d s:Nat}{p:BQ}(h:PB d s p):p.length<=tri (d+1):=jH h.canon h.deg
theorem PB.mul{d s d' s' : Nat}{p q:BQ}(h:PB d s p)(h' : PB d' s' q)(hd:d+d'<=24):PB (d+d') (tri (d' + 1)*s+tri (d+1)*s') (mulB p q):=
 ⟨Wp (uav h.canon.ins h'.canon.ins h.deg h'.deg hd),XZ (ubq h.deg h'.deg),by
  have h1:=UaQ (mulL p q);have h2:=xa1 p q;have h3:=Nat.mul_le_mul h'.len h.size;have h4:=Nat.mul_le_mul h.len h'.size;unfold mulB;omega⟩
theorem Qbu{d s s' : Nat}{p q:BQ}(h:PB d s p)(h' : PB d s' q)(x y:Rat):ev (addB p q) x y=ev p x y+ev q x y:=by
 unfold addB;rw [Ua4 (yf.2 ⟨h.canon.ins,h'.canon.ins⟩),Ur]
theorem wan{d s s' : Nat}{p q:BQ}(h:PB d s p)(h' : PB d s' q)(x y:Rat):ev (subB p q) x y=ev p x y-ev q x y:=by
 unfold subB;rw [Ua4 (yf.2 ⟨h.canon.ins,W6 h'.canon.ins⟩),Ur,uba];grind
theorem JU{d s d' s' : Nat}{p q:BQ}(h:PB d s p)(h' : PB d' s' q)(hd:d+d'<=24)(x y:Rat):ev (mulB p q) x y=ev p x y*ev q x y:=by
 unfold mulB;rw [Ua4 (uav h.canon.ins h'.canon.ins h.deg h'.deg hd),vbL h.canon.ins h'.canon.ins]
def linB(b:Bool)(c:Rat):BQ:=nf [(if b then 0 else 1,if b then 1 else 0,1),(0,0,-c)]
def conB(c:Rat):BQ:=nf [(0,0,c)]
theorem PB.lin(b:Bool)(c:Rat):PB 1 (rz c+6) (linB b c):=by
 refine⟨Wp λt ht=>?_,XZ λt ht=>?_,?_⟩
 .simp only [List.mem_cons,List.not_mem_nil,or_false]at ht;rcases ht with rfl | rfl <;> cases b <;> simp [inQ]
 .simp only [List.mem_cons,List.not_mem_nil,or_false]at ht;rcases ht with rfl | rfl <;> cases b <;> simp
 .refine Nat.le_trans (UaQ _) ?_;have h1:=rz_1;have h2:=qA c;simp only [sz];omega
theorem PB.con(c:Rat):PB 0 (rz c+2) (conB c):=by
 refine⟨Wp λt ht=>?_,XZ λt ht=>?_,?_⟩
 .simp only [List.mem_singleton]at ht;subst ht;simp [inQ]
 .simp only [List.mem_singleton]at ht;subst ht;simp
 .refine Nat.le_trans (UaQ _) ?_;simp only [sz];omega
theorem JbS(c x y:Rat):ev (conB c) x y=c:=by
 unfold conB;rw [Ua4 λt ht=>?_]
 .simp [ev,mev,pw];grind
 .simp only [List.mem_singleton]at ht;subst ht;simp [inQ]
end Go.Num
end
section
namespace Go.Num
open Go.Abs
def ordZ(x y:Int):Int:=if x<y then -1 else if y<x then 1 else 0
theorem WbX{s t:Mo}(hs:inM s)(ht:inM t):(if ordZ (s.1+s.2.1) (t.1+t.2.1)≠0 then ordZ (s.1+s.2.1) (t.1+t.2.1) else ordZ s.1 t.1)=ordK (kM s) (kM t):=by
 have h1:=qbf hs ht;have h2:=qbf ht hs;unfold ordZ ordK;by_cases a1:s.1+s.2.1<t.1+t.2.1
 .rw [if_pos a1,if_pos (by decide),if_pos (h1.2 (.inl a1))]
 .rw [if_neg a1];by_cases a2:t.1+t.2.1<s.1+s.2.1
  .rw [if_pos a2,if_pos (by decide),if_neg (by rw [h1];omega),if_pos (h2.2 (.inl a2))]
  .rw [if_neg a2,if_neg (by decide)]
   by_cases a3:s.1<t.1
   .rw [if_pos a3,if_pos (h1.2 (.inr ⟨by omega,a3⟩))]
   .rw [if_neg a3];by_cases a4:t.1<s.1
    .rw [if_pos a4,if_neg (by rw [h1];omega),if_pos (h2.2 (.inr ⟨by omega,a4⟩))]
    .rw [if_neg a4,if_neg (by rw [h1];omega),if_neg (by rw [h2];omega)]
def nzM(t:Mo):Bool:=decide (rv t.2.2≠0)
theorem getDm{l:List Mo}{i:Nat}{x:Mo}(hi:i<l.length)(h:l.getD i mo0=x):l[i]?=some x:=by
 rw [List.getD_eq_getElem?_getD,List.getElem?_eq_getElem hi]at h;rw [List.getElem?_eq_getElem hi];simpa using h
end Go.Num
namespace Go.Abs
open Go.Num
variable {P:Program} {Γ:Nat->Spec}
def onI2(k:Int->Int->Prop)(a:AV):Prop:=∃x y,a=.one (.slice [[.lit (.int .i64 x)],[.lit (.int .i64 y)]])/\k x y
@[congr] theorem Vb6{k:Int->Int->Prop}{a a'}(h:a=a'):onI2 k a=onI2 k a':=by subst h;rfl
theorem Wbj(k:Int->Int->Prop)(x y:Int):onI2 k (.one (.slice [[.lit (.int .i64 x)],[.lit (.int .i64 y)]]))=k x y:=by
 refine propext ⟨λ⟨x',y',h,hk⟩=>?_,λh=>⟨x,y,rfl,h⟩⟩;simp only [AV.one.injEq,C.slice.injEq,List.cons.injEq,C.lit.injEq,Value.int.injEq,true_and,and_true]at h;obtain⟨rfl,rfl⟩:=h;exact hk
theorem Vbw{β:Type}{T:Int->Int->(β->Prop)->Prop}(h:∀x y,GoodT (T x y)){a:AV}:GoodT λK=>onI2 (λx y=>T x y K) a:=
 .of λK hx=>by
  obtain⟨x,y,rfl,hk⟩:=hx;have:(λK=>onI2 (λx y=>T x y K) (.one (.slice [[.lit (.int .i64 x)],[.lit (.int .i64 y)]])))=T x y:=funext λK=>Wbj _ x y;rw [this];exact h x y
attribute [go_sem,go_sem ↓] Wbj
def onMs(k:List Mo->Prop)(a:AV):Prop:=∃l,a=.one (ms l)/\(∀x∈l,WLM x)/\k l
@[congr] theorem Ycd{k:List Mo->Prop}{a a'}(h:a=a'):onMs k a=onMs k a':=by subst h;rfl
theorem ZW(k:List Mo->Prop)(l:List Mo):onMs k (.one (.slice (l.map mC)))=((∀x∈l,WLM x)/\k l):=by
 refine propext ⟨λ⟨x,h,h1,h2⟩=>?_,λh=>⟨l,rfl,h⟩⟩;have:=Ja2 l x h;subst this;exact⟨h1,h2⟩
theorem jaM(k:List Mo->Prop):onMs k (.one (.slice []))=k []:=by
 have:=ZW k [];simp only [List.map_nil,List.not_mem_nil,false_implies,implies_true,true_and]at this;exact this
theorem xt{β:Type}{T:List Mo->(β->Prop)->Prop}(h:∀l,GoodT (T l)){a:AV}:GoodT λK=>onMs (λl=>T l K) a:=
 .of λK hx=>by
  obtain⟨l,rfl,hw,hk⟩:=hx;have:(λK=>onMs (λl=>T l K) (.one (ms l)))=λK=>(∀x∈l,WLM x)/\T l K:=funext λK=>ZW _ l;rw [this];exact .and λ_=>h l
def onM2(k:List Mo->List Mo->Prop)(a:AV):Prop:=∃p q,a=.one (.slice [[ms p],[ms q]])/\((∀x∈p,WLM x)/\(∀x∈q,WLM x))/\k p q
@[congr] theorem Jcf{k:List Mo->List Mo->Prop}{a a'}(h:a=a'):onM2 k a=onM2 k a':=by subst h;rfl
theorem Ja6(k:List Mo->List Mo->Prop)(p q:List Mo):onM2 k (.one (.slice [[.slice (p.map mC)],[.slice (q.map mC)]]))=(((∀x∈p,WLM x)/\(∀x∈q,WLM x))/\k p q):=by
 refine propext ⟨λ⟨x,y,h,h1,h2⟩=>?_,λh=>⟨p,q,rfl,h⟩⟩;simp only [ms,AV.one.injEq,C.slice.injEq,List.cons.injEq,and_true]at h;obtain⟨e1,e2⟩:=h;have:=uq e1;have:=uq e2
 subst_vars;exact⟨h1,h2⟩
theorem Zbs{β:Type}{T:List Mo->List Mo->(β->Prop)->Prop}(h:∀p q,GoodT (T p q)){a:AV}:GoodT λK=>onM2 (λp q=>T p q K) a:=
 .of λK hx=>by
  obtain⟨p,q,rfl,hw,hk⟩:=hx;have:(λK=>onM2 (λp q=>T p q K) (.one (.slice [[ms p],[ms q]])))=λK=>((∀x∈p,WLM x)/\(∀x∈q,WLM x))/\T p q K:=funext λK=>Ja6 _ p q;rw [this];exact .and λ_=>h p q
attribute [go_sem,go_sem ↓] ZW jaM Ja6
def xK(l:List AV)(K:AV->Prop):Prop:=
 match l with
 | [a]=>asInt (λk n=>k=.i64/\K (.one (.lit (.bool false)))) a
 | _=>False
theorem jbc a K:xK [a] K=(asInt (λk n=>k=.i64/\K (.one (.lit (.bool false)))) a):=propext Iff.rfl
@[congr] theorem Zch{K}{l l'}(h:l=l'):xK l K=xK l' K:=by subst h;rfl
attribute [go_sem,go_sem ↓] jbc
theorem qa7:Good xK:=Wa λas=>by
 unfold xK;split
 .exact(Xd (λ_ _=>(.and λ_=>(.ret _))) _)
 .exact .of λK hk=>hk.elim
def YK(l:List AV)(K:AV->Prop):Prop:=
 match l with
 | [a,b]=>asInt (λk x=>asInt (λk' y=>k=.i64/\k' = .i64/\K (.one (.lit (.int .i64 (ordZ x y))))) b) a
 | _=>False
theorem jaX a b K:YK [a,b] K=(asInt (λk x=>asInt (λk' y=>k=.i64/\k' = .i64/\K (.one (.lit (.int .i64 (ordZ x y))))) b) a):=propext Iff.rfl
@[congr] theorem Xca{K}{l l'}(h:l=l'):YK l K=YK l' K:=by subst h;rfl
attribute [go_sem,go_sem ↓] jaX
theorem Wa1:Good YK:=Wa λas=>by
 unfold YK;split
 .repeat (first | exact .ret _ | exact .of (λK hk=>hk.elim) | (refine .and λ_=>?_) | (refine Zh λ_=>?_) | (refine Vbw λ_=>?_) | (refine xt λ_=>?_) | (refine Zbs λ_=>?_) | (refine Jj λ_=>?_) | (refine qbg λ_=>?_) | (refine Xd (λ_ _=>?_) _) | (refine yJ (λ_=>?_) _) | (refine ZJ ?_ ?_) | (intro _) | assumption)
 .exact .of λK hk=>hk.elim
def xal(l:List AV)(K:AV->Prop):Prop:=
 match l with
 | [a]=>onI2 (λx y=>K (.one (.lit (.int .i64 (if x≠0 then x else y))))) a
 | _=>False
theorem kbz a K:xal [a] K=onI2 (λx y=>K (.one (.lit (.int .i64 (if x≠0 then x else y))))) a:=propext Iff.rfl
@[congr] theorem Wch{K}{l l'}(h:l=l'):xal l K=xal l' K:=by subst h;rfl
attribute [go_sem,go_sem ↓] kbz
theorem jbm:Good xal:=Wa λas=>by
 unfold xal;split
 .exact Vbw λ_ _=>.ret _
 .exact .of λK hk=>hk.elim
def Wo(l:List AV)(K:AV->Prop):Prop:=
 match l with
 | [a]=>onM (λt=>K (.one (.lit (.bool (decide (inM t)))))) a
 | _=>False
theorem jZ a K:Wo [a] K=(onM (λt=>K (.one (.lit (.bool (decide (inM t)))))) a):=propext Iff.rfl
@[congr] theorem zbM{K}{l l'}(h:l=l'):Wo l K=Wo l' K:=by subst h;rfl
attribute [go_sem,go_sem ↓] jZ
theorem kan:Good Wo:=Wa λas=>by
 unfold Wo;split
 .exact(qbg λ_=>(.ret _))
 .exact .of λK hk=>hk.elim
def yI(l:List AV)(K:AV->Prop):Prop:=
 match l with
 | [a]=>onM (λt=>rl t.2.2<=4294967296/\K (.one (.lit (.bool (!nzM t))))) a
 | _=>False
theorem za4 a K:yI [a] K=(onM (λt=>rl t.2.2<=4294967296/\K (.one (.lit (.bool (!nzM t))))) a):=propext Iff.rfl
@[congr] theorem Jb9{K}{l l'}(h:l=l'):yI l K=yI l' K:=by subst h;rfl
attribute [go_sem,go_sem ↓] za4
theorem qaZ:Good yI:=Wa λas=>by
 unfold yI;split
 .exact(qbg λ_=>(.and λ_=>(.ret _)))
 .exact .of λK hk=>hk.elim
def Vy:AC:=(.o [.m 2 .fa] [0] (.seq (.p [.M 3 0,.M 4 0,.B 5 .neq 3 4,.M 2 5]) .ret))
def Xh(f0:Nat):AC:=(.o [.N 4 0] [0,1] (.o [.M 7 0,.H 8 f0 7,.M 5 8] [0,1,5] (.o [.M 9 1,.H 10 f0 9,.M 6 10] [0,1,5,6] (.f (.o [.M 11 5] [0,1,6,11] (.cond (.t 11) (.f (.o [.M 12 6] [12] (.cond (.t 12) (.seq (.p [.N 4 0]) .ret) .skip)) [] (.seq (.p [.N 4 (-1)]) .ret)) .skip)) [0,1,6] (.f (.o [.M 13 6] [0,1,13] (.cond (.t 13) (.seq (.p [.N 4 1]) .ret) .skip)) [0,1] (.f (.o [.M 14 0,.M 15 1,.B 16 .lss 14 15] [0,1,16] (.cond (.t 16) (.seq (.p [.N 4 (-1)]) .ret) .skip)) [0,1] (.f (.o [.M 17 0,.M 18 1,.B 19 .gtr 17 18] [19] (.cond (.t 19) (.seq (.p [.N 4 1]) .ret) .skip)) [] (.seq (.p [.N 4 0]) .ret))))))))
def WG:AC:=(.o [.N 2 0] [0] (.o [.N 3 0] [0,3] (.f (.o [.M 6 0,.Z 7 6,.N 8 0] [3,6,7,8] (.block 0 (.loop (.o [.B 9 .lss 8 7] [3,6,7,8,9] (.f (.cond (.t 9) .skip (.exit 0)) [3,6,7,8] (.f (.block 1 (.o [.J 10 1 6 8,.F 11 1 10,.M 5 11] [3,5,6,7,8] (.o [.M 12 5,.M 13 3,.B 14 .neq 12 13] [3,5,6,7,8,14] (.cond (.t 14) (.seq (.p [.M 15 5,.M 2 15]) .ret) .skip)))) [3,6,7,8] (.p [.I 16 .add 8 1,.M 8 16]))))))) [3] (.seq (.p [.M 17 3,.M 2 17]) .ret))))
def jt:AC:=(.o [.K 1 5 0,.m 2 .fa] [1] (.seq (.p [.A 3 0 1,.F 4 1 3,.I 5 .geq 4 0,.M 6 5,.T 7 6 true 1 1,.U 8 6 true 1 false 7,.w 9 6 true (.bin .geq (.t 8) (.i 0)),.P 10 6 9,.M 11 10,.T 12 11 true 0 1,.U 13 11 true 1 false 12,.w 14 11 true (.bin .leq (.t 13) (.i 24)),.P 15 11 14,.M 16 15,.T 17 16 true 1 1,.U 18 16 true 1 false 17,.w 19 16 true (.bin .leq (.t 18) (.i 24)),.P 20 16 19,.M 21 20,.T 22 21 true 0 1,.U 23 21 true 1 false 22,.T 24 21 true 1 1,.U 25 21 true 1 false 24,.w 26 21 true (.bin .add (.t 23) (.t 25)),.w 27 21 true (.bin .leq (.t 26) (.i 24)),.P 28 21 27,.M 2 28]) .ret))
def qw(f0 f1:Nat):AC:=(.o [.K 2 5 0,.K 3 5 1,.N 4 0] [2,3] (.seq (.y [.A 5 0 2,.F 6 1 5,.A 7 1 2,.F 8 1 7,.B 9 .add 6 8,.A 10 0 3,.F 11 1 10,.A 12 1 3,.F 13 1 12,.B 14 .add 11 13,.D 15 f0 9 14,.A 16 0 2,.F 17 1 16,.A 18 0 3,.F 19 1 18,.D 20 f0 17 19,.u 21 (.row 1 [[.x 1 (.t 15)],[.x 1 (.t 20)]]),.H 22 f1 21,.M 4 22]) .ret))
def Qw(f0:Nat):AC:=(.o [.K 1 5 0,.m 2 .fa] [1] (.seq (.p [.A 3 2 1,.L 4 3 3,.H 5 f0 4,.I 6 .eql 5 0,.M 2 6]) .ret))
theorem UV(K:List C->Prop)(a b:List C)(r:List (List C)):getE K (a::b::r) 1=K b:=by
 unfold getE;refine propext ⟨λh=>h.2 b rfl,λh=>⟨by simp,λe he=>?_⟩⟩
 simp only [List.getElem?_cons_succ,List.getElem?_cons_zero,Option.some.injEq]at he;subst he;exact h
theorem c02:(((0:Nat):Int)<2)=True:=eq_true (by decide)
theorem c12:(((1:Nat):Int)<2)=True:=eq_true (by decide)
theorem c22:(((2:Nat):Int)<2)=False:=eq_false (by decide)
theorem xaN(hΓ:Xa P Γ){f:Nat}(hc:check P f=some (6,Vy.strip,[.tmp 2])):ua P f (.dat true xK):=by
 refine ka hc qa7 hΓ (λargs K hcl hfi hG=>?_);match args,hG with
 | [a],hG=>
  obtain⟨k,n,rfl,rfl,hK⟩:=Yb hG;refine⟨by simp,?_⟩
  simp only [go_sem,Vy];simpa using hK
theorem WaQ(hΓ:Xa P Γ){f fn:Nat}(hn:Γ fn=.dat true xK)(hc:check P f=some (20,(Xh fn).strip,[.tmp 4])):ua P f (.dat true YK):=by
 refine ka hc Wa1 hΓ (λargs K hcl hfi hG=>?_);match args,hG with
 | [a,b],hG=>
  obtain⟨k,x,rfl,hG⟩:=Yb hG;obtain⟨k',y,rfl,rfl,rfl,hK⟩:=Yb hG;refine⟨by simp,?_⟩
  unfold ordZ at hK;by_cases h1:x<y
  .rw [if_pos h1]at hK;simp only [go_sem,Xh,hn,h1];exact hK
  .rw [if_neg h1]at hK;by_cases h2:y<x
   .rw [if_pos h2]at hK;simp only [go_sem,Xh,hn,h1,h2];exact hK
   .rw [if_neg h2]at hK;simp only [go_sem,Xh,hn,h1,h2];exact hK
theorem Ybi(hΓ:Xa P Γ){f:Nat}(hc:check P f=some (18,WG.strip,[.tmp 2])):ua P f (.dat true xal):=by
 refine ka hc jbm hΓ (λargs K hcl hfi hG=>?_);match args,hG with
 | [a],hG=>
  obtain⟨x,y,rfl,hK⟩:=hG;refine⟨by simp,?_⟩
  simp only [go_sem,WG];refine Ya (λk:Nat=>⟨mkV [(3,.one (.lit (.int .i64 0))),(6,.one (.slice [[.lit (.int .i64 x)],[.lit (.int .i64 y)]])),(7,.one (.lit (.int .i64 2))),(8,.one (.lit (.int .i64 k)))],mkH []⟩) (λk=>k<=2/\(0<k->x=0)/\(1<k->y=0)) (λk=>2-k) 0 ?_ ?_ ?_
  .exact Qa (by simp [okS,okV,okC,okL,okH,okB,okE,ja,Ja,qa,Va,wsA,ws]) trivial
  .exact⟨by decide,by omega,by omega⟩
  .rintro k ⟨hk,h1,h2⟩;have hk3:k=0∨k=1∨k=2:=by omega
   rcases hk3 with rfl | rfl | rfl
   .by_cases hx:x=0
    .subst hx;simp only [go_sem,c02];refine⟨by decide,1,Qa (by simp [okS,okV,okC,okL,okH,okB,okE,ja,Ja,qa,Va,wsA,ws]) trivial,⟨by omega,by omega⟩,by omega⟩
    .rw [if_pos hx]at hK;simp only [go_sem,c02,hx];exact hK
   .have hx:=h1 (by omega)
    subst hx;rw [if_neg (by simp)]at hK
    by_cases hy:y=0
    .subst hy;simp only [go_sem,c12,UV];refine⟨by decide,2,Qa (by simp [okS,okV,okC,okL,okH,okB,okE,ja,Ja,qa,Va,wsA,ws]) trivial,by omega,by omega⟩
    .simp only [go_sem,c12,UV,hy];exact hK
   .have hx:=h1 (by omega)
    have hy:=h2 (by omega)
    subst hx hy;simp only [go_sem,c22];simpa using hK
theorem Vaa(hΓ:Xa P Γ){f:Nat}(hc:check P f=some (29,jt.strip,[.tmp 2])):ua P f (.dat true Wo):=by
 refine ka hc kan hΓ (λargs K hcl hfi hG=>?_);match args,hG with
 | [a],hG=>
  obtain⟨t,rfl,⟨hw1,hw2,hw3⟩,hK⟩:=hG;refine⟨by simp,?_⟩
  unfold i64r at hw1 hw2;simp only [go_sem,jt,mC];have no:¬inM t->K (.one (.lit (.bool false))):=λh=>by rw [decide_eq_false h]at hK;exact hK
  refine⟨λa=>⟨λb=>⟨λc=>⟨λd=>⟨⟨by omega,by omega⟩,?_⟩,λd=>no ?_⟩,λc=>no ?_⟩,λb=>no ?_⟩,λa=>no ?_⟩
  .have e:decide (inM t)=decide (t.1+t.2.1<=24):=by
    unfold inM;simp [a,b]
   rw [e]at hK;exact hK
  all_goals
   unfold inM;omega
theorem Xae(hΓ:Xa P Γ){f fo fc:Nat}(ho:Γ fo=.dat true xal)(hcm:Γ fc=.dat true YK)(hc:check P f=some (23,(qw fc fo).strip,[.tmp 4])):ua P f (.dat true XC):=by
 refine ka hc Wbe hΓ (λargs K hcl hfi hG=>?_);match args,hG with
 | [a,b],hG=>
  obtain⟨s,rfl,hws,t,rfl,hwt,hs,ht,hK⟩:=hG;refine⟨by simp,?_⟩
  rw [<-WbX hs ht]at hK;obtain⟨s1,s2,s3⟩:=hs;obtain⟨t1,t2,t3⟩:=ht;simp only [go_sem,qw,ho,hcm,mC];repeat first | refine Wk ?_ | intro _
  exact hK
theorem xaS(hΓ:Xa P Γ){f fs:Nat}(hs:Γ fs=.dat true yn)(hc:check P f=some (7,(Qw fs).strip,[.tmp 2])):ua P f (.dat true yI):=by
 refine ka hc qaZ hΓ (λargs K hcl hfi hG=>?_);match args,hG with
 | [a],hG=>
  obtain⟨t,rfl,hw,hl,hK⟩:=hG;refine⟨by simp,?_⟩
  have e:(!nzM t)=decide (ordQ (rv t.2.2) 0=0):=by
   unfold nzM;by_cases h:rv t.2.2=0
   .rw [decide_eq_true (Xt.2 h)];simp [h]
   .rw [decide_eq_false (λh'=>h (Xt.1 h'))];simp [h]
  rw [e]at hK;simp only [go_sem,Qw,hs,mC];exact⟨hw.2.2,hl,hK⟩
end Go.Abs
end
section
namespace Go.Num
open Go.Abs
theorem vbR{l:List Mo}{k:Nat}{x:Mo}(hx:l[k]?=some x)(ha:(l.take k).all nzM=true)(hn:nzM x=false):(l.takeWhile nzM).length=k/\l.all nzM=false:=by
 induction l generalizing k with
 | nil=>simp at hx
 | cons y l ih=>
  cases k with
  | zero=>
   simp only [List.getElem?_cons_zero,Option.some.injEq]at hx;subst hx;simp [List.takeWhile_cons,hn]
  | succ k=>
   simp only [List.getElem?_cons_succ]at hx;simp only [List.take_succ_cons,List.all_cons,Bool.and_eq_true]at ha;obtain⟨h1,h2⟩:=ih hx ha.2;simp [List.takeWhile_cons,ha.1,h1,h2]
theorem uao{l:List Mo}(h:l.all nzM=true):l.filter nzM=l:=List.filter_eq_self.2 λx hx=>List.all_eq_true.1 h x hx
theorem J9{l:List Mo}{k:Nat}{x:Mo}(hx:l[k]?=some x):(l.take (k+1)).filter nzM=(l.take k).filter nzM++if nzM x=true then [x] else []:=by
 rw [List.take_add_one,hx,List.filter_append];cases h:nzM x <;> simp [h]
theorem allS{α:Type}{f:α->Bool}{l:List α}{k:Nat}{x:α}(hx:l[k]?=some x)(ha:(l.take k).all f=true)(hz:f x=true):(l.take (k+1)).all f=true:=by
 rw [List.take_add_one,hx,List.all_append,ha];simp [hz]
theorem xbK{l:List Mo}(h:l.all nzM≠true):(l.takeWhile nzM).length<l.length/\(l.take (l.takeWhile nzM).length).all nzM=true/\∃x,l[(l.takeWhile nzM).length]?=some x/\nzM x=false:=by
 induction l with
 | nil=>simp at h
 | cons y l ih=>
  cases hy:nzM y with
  | false=>simp [List.takeWhile_cons,hy]
  | true=>
   have h' : l.all nzM≠true:=by simpa [hy] using h
   obtain⟨h1,h2,x,h3,h4⟩:=ih h';simp only [List.takeWhile_cons,hy,if_true,List.length_cons,List.take_succ_cons,List.all_cons,Bool.true_and,List.getElem?_cons_succ];exact⟨by omega,h2,x,h3,h4⟩
end Go.Num
namespace Go.Abs
open Go.Num
variable {P:Program} {Γ:Nat->Spec}
def QL(fd:Nat)(l:List AV)(K:AV->Prop):Prop:=
 match l with
 | [a,c]=>onMs (λl=>c=fnV fd/\(∀t∈l,rl t.2.2<=4294967296)/\l.length<=68719476736/\K (.one (.lit (.int .i64 (if l.all nzM=true then -1 else ((l.takeWhile nzM).length:Nat)))))) a
 | _=>False
theorem kaV fd a c K:QL fd [a,c] K=(onMs (λl=>c=fnV fd/\(∀t∈l,rl t.2.2<=4294967296)/\l.length<=68719476736/\K (.one (.lit (.int .i64 (if l.all nzM=true then -1 else ((l.takeWhile nzM).length:Nat)))))) a):=propext Iff.rfl
@[congr] theorem Qb7 fd{K}{l l'}(h:l=l'):QL fd l K=QL fd l' K:=by subst h;rfl
attribute [go_sem,go_sem ↓] kaV
theorem WaY(fd:Nat):Good (QL fd):=Wa λas=>by
 unfold QL;split
 .exact(xt λ_=>(.and λ_=>(.and λ_=>(.and λ_=>(.ret _)))))
 .exact .of λK hk=>hk.elim
def vL(fd:Nat)(d:Option Nat)(args:List AV)(h:Nat->HB)(K:AV->(Nat->HB)->Prop):Prop:=
 match args with
 | [.one (.own r ver 5 0 len),c]=>∃l:List Mo,c=fnV fd/\len=l.length/\len<=1000000000/\h r=⟨ver,some ⟨l.map mC,5,true⟩⟩/\(∀t∈l,WLM t/\rl t.2.2<=4294967296)/\
   ∀es,K (.one (.own r ver 5 0 (l.filter nzM).length)) (upd h r ⟨ver,some ⟨(l.filter nzM).map mC++es,5,true⟩⟩)
 | [.one .emp,c]=>c=fnV fd/\K (.one (.slice [])) h
 | _=>False
@[congr] theorem Yb9 {fd:Nat} {d:Option Nat} {l l' : List AV} {h h' : Nat->HB} {K:AV->(Nat->HB)->Prop} (e1:l=l') (e2:h=h'):vL fd d l h K=vL fd d l' h' K:=by subst e1;subst e2;rfl
def ji:AC:=(.o [.N 4 0] [0,1] (.f (.o [.M 6 0,.Z 7 6,.N 8 0] [0,1,7,8] (.block 0 (.loop (.o [.B 9 .lss 8 7] [0,1,7,8,9] (.f (.cond (.t 9) .skip (.exit 0)) [0,1,7,8] (.f (.block 1 (.o [.M 10 8,.M 5 10] [0,1,5,7,8] (.o [.M 11 1,.M 12 0,.M 13 5,.J 14 5 12 13,.L 15 5 14,.u 16 (.callv (.t 11) [(.t 15)])] [0,1,5,7,8,16] (.cond (.t 16) (.seq (.p [.M 17 5,.M 4 17]) .ret) .skip)))) [0,1,7,8] (.p [.I 18 .add 8 1,.M 8 18]))))))) [] (.seq (.p [.N 4 (-1)]) .ret)))
def Ud(f0:Nat):AC:=(.o [.m 4 (.c (.one .emp))] [0,1] (.o [.M 8 0,.M 9 1,.D 10 f0 8 9,.M 5 10] [0,1,5] (.f (.o [.M 11 5,.I 12 .eql 11 (-1)] [0,1,5,12] (.cond (.t 12) (.seq (.p [.M 13 0,.M 4 13]) .ret) .skip)) [0,1,5] (.f (.o [.M 14 5,.I 15 .add 14 1,.M 6 15] [0,1,5,6] (.block 0 (.loop (.f (.o [.M 16 6,.M 17 0,.Z 18 17,.B 19 .lss 16 18] [0,1,5,6,19] (.cond (.t 19) .skip (.exit 0))) [0,1,5,6] (.f (.block 1 (.o [.M 22 0,.M 23 6,.J 24 5 22 23,.L 25 5 24,.G 7 [(.lit (.int .i64 0)),(.lit (.int .i64 0)),.z,.emp,.emp],.S 5 7 25] [0,1,5,6,7] (.o [.M 26 1,.L 27 5 7,.u 28 (.callv (.t 26) [(.t 27)]),.u 29 (.un .not (.t 28))] [0,1,5,6,7,29] (.cond (.t 29) (.o [.M 30 0,.M 31 5,.L 32 5 7,.J 33 5 30 31,.S 5 33 32] [0,1,5,6] (.p [.M 34 5,.I 35 .add 34 1,.M 5 35])) .skip)))) [0,1,5,6] (.p [.M 20 6,.I 21 .add 20 1,.M 6 21])))))) [0,5] (.o [.M 36 0,.M 37 5,.u 38 (.sl 5 (.t 36) (some (.t 37)) none),.n (.copy 5 (.t 38) (.c (.agg [(.lit (.int .i64 0)),(.lit (.int .i64 0)),.z,.emp,.emp])))] [0,5] (.seq (.p [.M 39 0,.M 40 5,.u 41 (.sl 5 (.t 39) none (some (.t 40))),.M 4 41]) .ret))))))
theorem vaR(hΓ:Xa P Γ){f fd:Nat}(hd:Γ fd=.dat true yI)(hc:check P f=some (19,ji.strip,[.tmp 4])):ua P f (.dat true (QL fd)):=by
 refine ka hc (WaY fd) hΓ (λargs K hcl hfi hG=>?_);match args,hG with
 | [a,c],hG=>
  obtain⟨l,rfl,hw,rfl,hl,hln,hK⟩:=hG;refine⟨by simp,?_⟩
  simp only [go_sem,ji,fnV];intro _;refine Ya (λk:Nat=>⟨mkV [(0,.one (ms l)),(1,.one (.lit (.func (.func fd) ⟨[]⟩ ⟨[]⟩))),(7,.one (.lit (.int .i64 l.length))),(8,.one (.lit (.int .i64 k)))],mkH []⟩) (λk=>k<=l.length/\(l.take k).all nzM=true) (λk=>l.length-k) 0 ?_ ?_ ?_
  .exact Qa (by simp [okS,okV,okC,okL,okH,okB,okE,ja,Ja,qa,Va,wsA,ws,ms]) trivial
  .exact⟨Nat.zero_le _,rfl⟩
  .rintro k ⟨hk,hall⟩;by_cases hlt:k<l.length
   .obtain⟨x,hx⟩:∃x,l.getD k mo0=x:=⟨_,rfl⟩;have hx0:=getDm hlt hx;have hxm:=List.mem_of_getElem? hx0;cases hz:nzM x with
    | true=>
     simp only [go_sem,hlt,hx,hd,fnV,hz];refine⟨hw x hxm,hl x hxm,by omega,k+1,Qa (by simp [okS,okV,okC,okL,okH,okB,okE,ja,Ja,qa,Va,wsA,ws,ms]) trivial,⟨by omega,allS hx0 hall hz⟩,by omega⟩
    | false=>
     obtain⟨e1,e2⟩:=vbR hx0 hall hz;rw [e1,e2]at hK;simp only [go_sem,hlt,hx,hd,fnV,hz];exact⟨hw x hxm,hl x hxm,by simpa using hK⟩
   .rw [List.take_of_length_le (by omega)]at hall
    rw [if_pos hall]at hK;simp only [go_sem,hlt];exact hK
theorem VaQ(hΓ:Xa P Γ){f fi fd:Nat}(hi:Γ fi=.dat true (QL fd))(hd:Γ fd=.dat true yI)(hc:check P f=some (42,(Ud fi).strip,[.tmp 4])):ua P f (.own (vL fd)):=by
 refine xh hc hΓ (λd args h K hG=>?_);unfold vL at hG;split at hG
 .rename_i r ver len c;obtain⟨l,rfl,rfl,hlen,hr,hok,hK⟩:=hG;refine⟨[r],[⟨l.map mC,5,true⟩],[.one (.own 1048576 ver 5 0 l.length),fnV fd],by simp,rfl,?_,?_,?_,λhfi=>⟨by simp,?_⟩⟩
  .intro i r' b h1 h2;cases i with
   | zero=>simp only [List.getElem?_cons_zero,Option.some.injEq]at h1 h2;subst h1 h2;exact⟨by rw [hr],rfl,of_eq_true (Wh _)⟩
   | succ i=>simp at h1
  .simp [exA,exC,exB,Wc,pinA,fnV]
  .intro a ha;simp only [List.mem_cons,List.not_mem_nil,or_false]at ha;rcases ha with rfl | rfl
   .simp [pasA,pasC,pasB,Wc,pinA]
   .exact .lit _
  have hW:∀x∈l,WLM x:=λx hx=>(hok x hx).1;have hL:∀x∈l,rl x.2.2<=4294967296:=λx hx=>(hok x hx).2;by_cases hall:l.all nzM=true
  .have hK':=hK [];rw [List.append_nil,uao hall]at hK';simp only [go_sem,Ud,hr,fnV,hi,hall];exact⟨hW,hL,by omega,hK'⟩
  .obtain⟨g1,g2,x,g3,g4⟩:=xbK hall;obtain⟨i0,hi0⟩:∃i0,(l.takeWhile nzM).length=i0:=⟨_,rfl⟩;rw [hi0]at g1 g2 g3;simp only [go_sem,Ud,hr,fnV,hi,hall,hi0];refine⟨hW,hL,by omega,by omega,?_⟩
   refine Ya (λp:Nat×List Mo=>⟨mkV [(0,.one (.own 1048576 ver 5 0 l.length)),(1,.one (.lit (.func (.func fd) ⟨[]⟩ ⟨[]⟩))),(5,.one (.lit (.int .i64 (((l.take p.1).filter nzM).length:Nat)))),(6,.one (.lit (.int .i64 p.1)))],mkH [(1048576,⟨ver,some ⟨p.2.map mC,5,true⟩⟩)]⟩)
    (λp=>i0<p.1/\p.1<=l.length/\((l.take p.1).filter nzM).length<p.1/\p.2.length=l.length/\p.2.take ((l.take p.1).filter nzM).length=(l.take p.1).filter nzM/\p.2.drop p.1=l.drop p.1) (λp=>l.length-p.1) (i0+1,l) ?_ ?_ ?_
   .have e:((l.take (i0+1)).filter nzM).length=i0:=by rw [J9 g3,uao g2,g4];simp;omega
    exact Qa (by simp only [okS,okV,okC,okL,okH,okB,okE,ja,Ja,qa,Va,wsA,ws,e];simp) (Jm rfl)
   .have e:(l.take (i0+1)).filter nzM=l.take i0:=by rw [J9 g3,uao g2,g4];simp
    have e2:(l.take i0).length=i0:=by rw [List.length_take];omega
    refine⟨by simp,by simp;omega,?_,rfl,?_,rfl⟩
    .simp only [e,e2];omega
    .simp only [e,e2]
   .rintro⟨j,B⟩ ⟨q1,q2,q3,q4,q5,q6⟩;simp only at q1 q2 q3 q4 q5 q6;obtain⟨n,hn⟩:∃n,((l.take j).filter nzM).length=n:=⟨_,rfl⟩;rw [hn]at q3 q5;by_cases hlt:j<l.length
    .obtain⟨y,hy⟩:∃y,l[j]?=some y:=⟨_,List.getElem?_eq_getElem hlt⟩;have hym:=List.mem_of_getElem? hy;have hBy:B[j]?=some y:=by
      have:=congrArg (λL=>L[0]?) q6;simp only [List.getElem?_drop,Nat.add_zero]at this;rw [this,hy]
     have hBy' : B.getD j mo0=y:=by rw [List.getD_eq_getElem?_getD,hBy];rfl
     have hjB:j<B.length:=by omega
     have hnB:n<B.length:=by omega
     have hft:=J9 hy;have hdr:B.drop (j+1)=l.drop (j+1):=by
      have:=congrArg (λL=>L.drop 1) q6;simpa [List.drop_drop] using this
     cases hz:nzM y with
     | true=>
      rw [hz,if_pos rfl]at hft;have hfl:((l.take (j+1)).filter nzM).length=n+1:=by rw [hft,List.length_append,hn];rfl
      simp only [go_sem,hlt,hn,hBy',hd,fnV,hz,hjB,hnB,q4];refine λ_=>⟨hW y hym,hL y hym,by omega,by omega,by omega,by omega,(j+1,B.set n y),Qa (by simp only [okS,okV,okC,okL,okH,okB,okE,ja,Ja,qa,Va,wsA,ws,hfl];simp) (Jm rfl),⟨by simp only;omega,by simp only;omega,by simp only;omega,by simp only;rw [List.length_set];exact q4,?_,?_⟩,by simp only;omega⟩
      .simp only;rw [hfl,hft,<-q5];rw [List.take_add_one,List.getElem?_set_self hnB,List.take_set_of_le (Nat.le_refl _)];rfl
      .simp only;rw [List.drop_set_of_lt (by omega),hdr]
     | false=>
      rw [hz,if_neg (by decide),List.append_nil]at hft
      simp only [go_sem,hlt,hn,hBy',hd,fnV,hz,hjB,q4];refine λ_=>⟨hW y hym,hL y hym,by omega,(j+1,B),Qa (by simp only [okS,okV,okC,okL,okH,okB,okE,ja,Ja,qa,Va,wsA,ws,hft,hn];simp) ⟨vg rfl,trivial⟩,⟨by simp only;omega,by simp only;omega,by simp only [hft,hn];omega,q4,?_,hdr⟩,by simp only;omega⟩
      simp only [hft,hn];exact q5
    .have ej:j=l.length:=by omega
     have et:l.take j=l:=by rw [ej];exact List.take_length
     rw [et]at hn q5;simp only [go_sem,hlt,et,hn,q4,hr];refine λ_=>⟨by omega,by omega,⟨by omega,by omega⟩,?_⟩
     rw [q5,<-hn];exact hK _
 .obtain⟨rfl,hK⟩:=hG;refine⟨[],[],[.one .emp,fnV fd],by simp,rfl,by simp,?_,?_,λhfi=>⟨by simp,?_⟩⟩
  .simp [exA,exC,exB,Wc,pinA,fnV]
  .intro a ha;simp only [List.mem_cons,List.not_mem_nil,or_false]at ha;rcases ha with rfl | rfl
   .exact .emp
   .exact .lit _
  have e0:(if ([]:List Mo).all nzM=true then (-1:Int) else ↑(List.takeWhile nzM ([]:List Mo)).length) = -1:=rfl
  simp only [go_sem,Ud,fnV,hi,e0];exact⟨by simp,hK⟩
 .exact hG.elim
end Go.Abs
end
section
namespace Go.Num
def hv:List Rat->Rat->Rat
 | [],_=>0
 | c::l,x=>c+x*hv l x
def dv(a:Rat):List Rat->List Rat
 | []=>[]
 | [_]=>[]
 | _::c::l=>hv (c::l) a::dv a (c::l)
theorem xbs(a:Rat):∀f:List Rat,(dv a f).length=f.length-1
 | []=>rfl
 | [_]=>rfl
 | _::c::l=>by
  have:=xbs a (c::l);simp only [dv,List.length_cons]at this ⊢;omega
theorem ZbY(a x:Rat):∀f:List Rat,hv f x=hv f a+(x-a)*hv (dv a f) x
 | []=>by simp only [hv,dv];grind
 | [c]=>by simp only [hv,dv];grind
 | b::c::l=>by
  have:=ZbY a x (c::l);have e1:hv (b::c::l) x=b+x*hv (c::l) x:=rfl;have e2:hv (b::c::l) a=b+a*hv (c::l) a:=rfl;have e3:hv (dv a (b::c::l)) x=hv (c::l) a+x*hv (dv a (c::l)) x:=rfl;rw [e1,e2,e3,this];generalize hv (c::l) a=u;generalize hv (dv a (c::l)) x=v;grind
theorem VaX(a:Rat):∀f:List Rat,hv f a=0->(∀c∈dv a f,c=0)->∀c∈f,c=0
 | [],_,_,c,hc=>by simp at hc
 | [b],h,_,c,hc=>by
  simp only [hv]at h;rw [List.mem_singleton]at hc;subst hc;grind
 | b::d::l,h,hz,c,hc=>by
  have h1:hv (d::l) a=0:=hz _ (by simp [dv])
  have h2:hv (b::d::l) a=b+a*hv (d::l) a:=rfl;rw [h2,h1]at h;rcases List.mem_cons.1 hc with rfl | hc
  .grind
  .exact VaX a (d::l) h1 (λc hc=>hz c (by simp [dv,hc])) c hc
theorem Wac:∀(n:Nat) (f:List Rat) (N:Nat),f.length<=n->(∀k:Nat,N<=k->hv f (k:Rat)=0)->∀c∈f,c=0
 | 0,f,N,hl,_,c,hc=>by
  rw [List.length_eq_zero_iff.1 (Nat.le_zero.1 hl)]at hc;simp at hc
 | n+1,f,N,hl,h,c,hc=>by
  refine VaX (N:Rat) f (h N (Nat.le_refl _)) (Wac n (dv (N:Rat) f) (N+1) (by rw [xbs];omega) λk hk=>?_) c hc
  have h1:=ZbY (N:Rat) (k:Rat) f;rw [h k (by omega),h N (Nat.le_refl _)]at h1
  have h2:((k:Rat)-(N:Rat))*hv (dv (N:Rat) f) (k:Rat)=0:=by grind
  rcases Rat.mul_eq_zero.1 h2 with h3 | h3
  .exfalso;have h4:(k:Rat)=(N:Rat):=by grind
   have h5:k=N:=by exact_mod_cast h4
   omega
  .exact h3
def rowN(f:Nat->Rat):Nat->Nat->List Rat
 | _,0=>[]
 | s,n+1=>f s::rowN f (s+1) n
theorem W4{f:Nat->Rat}{k:Nat}:∀{s n:Nat},s<=k->k<s+n->f k∈rowN f s n
 | s,0,h1,h2=>by omega
 | s,n+1,h1,h2=>by
  by_cases h:s=k
  .subst h;simp [rowN]
  .simp only [rowN,List.mem_cons];exact .inr (W4 (by omega) (by omega))
theorem xa7(f g:Nat->Rat)(x:Rat):∀s n:Nat,hv (rowN (λi=>f i+g i) s n) x=hv (rowN f s n) x+hv (rowN g s n) x
 | s,0=>by simp only [rowN,hv];grind
 | s,n+1=>by
  have:=xa7 f g x (s+1) n;simp only [rowN,hv,this];grind
theorem Xaq(x:Rat):∀s n:Nat,hv (rowN (λ_=>0) s n) x=0
 | s,0=>rfl
 | s,n+1=>by
  have:=Xaq x (s+1) n;simp only [rowN,hv,this];grind
theorem zbm(x:Rat)(n:Nat):pw x (n+1)=x*pw x n:=by simp only [pw];grind
theorem ua0(c x:Rat)(k:Nat):∀s n:Nat,hv (rowN (λi=>if k=i then c else 0) s n) x=if s<=k/\k<s+n then c*pw x (k-s) else 0
 | s,0=>by rw [if_neg (by omega)];rfl
 | s,n+1=>by
  have:=ua0 c x k (s+1) n;simp only [rowN,hv,this];by_cases h:k=s
  .rw [if_pos h,if_neg (by omega),if_pos (by omega),h,Nat.sub_self]
   simp only [pw];grind
  .rw [if_neg h];by_cases h2:s+1<=k/\k<s+1+n
   .rw [if_pos h2,if_pos (by omega)]
    have e:k-s=(k-(s+1))+1:=by omega
    rw [e,zbm];grind
   .rw [if_neg h2,if_neg (by omega)];grind
def evH(l:BQ)(x y:Rat):Rat:=hv (rowN (λi=>hv (rowN (λj=>cf l i j) 0 25) y) 0 25) x
theorem ubp{t:MQ}(ht:inQ t)(l:BQ)(x y:Rat):evH (t::l) x y=mev t x y+evH l x y:=by
 obtain⟨h1,h2,h3⟩:=ht;obtain⟨i0,hi⟩:∃i0:Nat,t.1=i0:=⟨t.1.toNat,by omega⟩
 obtain⟨j0,hj⟩:∃j0:Nat,t.2.1=j0:=⟨t.2.1.toNat,by omega⟩
 have e:∀i:Nat,hv (rowN (λj=>cf (t::l) i j) 0 25) y=(if i0=i then t.2.2*pw y j0 else 0)+hv (rowN (λj=>cf l i j) 0 25) y:=by
  intro i;have e1:(λj:Nat=>cf (t::l) i j)=λj:Nat=>(if j0=j then (if i0=i then t.2.2 else 0) else 0)+cf l i j:=by
   funext j
   simp only [cf];congr 1;rw [hi,hj];by_cases a:i0=i
   .by_cases b:j0=j
    .rw [if_pos (by omega),if_pos b,if_pos a]
    .rw [if_neg (by omega),if_neg b]
   .rw [if_neg (by omega),if_neg a];split <;> rfl
  rw [e1,xa7,ua0,if_pos (by omega),Nat.sub_zero]
  split
  .rfl
  .rw [Rat.zero_mul]
 unfold evH;rw [funext e,xa7,ua0,if_pos (by omega),Nat.sub_zero]
 congr 1;unfold mev;rw [hi,hj,Int.toNat_natCast,Int.toNat_natCast];grind
theorem ev_H{l:BQ}(h:InQ l)(x y:Rat):ev l x y=evH l x y:=by
 induction l with
 | nil=>
  unfold evH;have e:∀i:Nat,hv (rowN (λj=>cf [] i j) 0 25) y=0:=λi=>Xaq y 0 25;rw [funext e,Xaq];rfl
 | cons t l ih=>
  obtain⟨h1,h2⟩:=Yf.1 h;rw [ubp h1,<-ih h2];rfl
theorem vbU{l:BQ}(h:InQ l){i j:Int}(hn:i<0∨j<0∨24<i∨24<j):cf l i j=0:=Qbf λu hu e=>by
 obtain⟨a,b,c⟩:=h u hu;omega
theorem JbE{l:BQ}(h:InQ l)(hz:∀x y,ev l x y=0)(i j:Int):cf l i j=0:=by
 by_cases hn:i<0∨j<0∨24<i∨24<j
 .exact vbU h hn
 obtain⟨i0,rfl⟩:∃i0:Nat,i=i0:=⟨i.toNat,by omega⟩
 obtain⟨j0,rfl⟩:∃j0:Nat,j=j0:=⟨j.toNat,by omega⟩
 have h1:∀y,hv (rowN (λj=>cf l i0 j) 0 25) y=0:=λy=>
  Wac _ (rowN (λi=>hv (rowN (λj=>cf l i j) 0 25) y) 0 25) 0 (Nat.le_refl _) (λk _=>by
   have:=hz k y;rw [ev_H h]at this;exact this) _ (W4 (f:=λi:Nat=>hv (rowN (λj=>cf l i j) 0 25) y) (k:=i0) (by omega) (by omega))
 exact Wac _ (rowN (λj=>cf l i0 j) 0 25) 0 (Nat.le_refl _) (λk _=>h1 k) _ (W4 (f:=λj:Nat=>cf l i0 j) (k:=j0) (by omega) (by omega))
theorem UaI{l m:BQ}(hl:InQ l)(hm:InQ m)(h:∀x y,ev l x y=ev m x y)(i j:Int):cf l i j=cf m i j:=by
 have:=JbE (l:=l++sclL (-1) m) (yf.2 ⟨hl,W6 hm⟩) (λx y=>by rw [Ur,uba,h];grind) i j
 rw [Ys,zbG]at this;grind
theorem vO{p q:BQ}(hp:Canon p)(hq:Canon q)(h:∀x y,ev p x y=ev q x y):p=q:=
 XP hp hq (UaI hp.ins hq.ins h)
end Go.Num
end
section
namespace Go.Num
open Go.Abs
structure OutM (l:List Mo) (k:Nat) (o:BQ):Prop where
 str:StrM o
 ins:InQ o
 cf:∀i j,cf o i j=cf ((l.take k).map mv) i j
 sz:sz o<=sz ((l.take k).map mv)
 len:o.length<=k
 le:∀t∈o,∀x∈l.drop k,kq t<=kM x
theorem UJ(l:BQ)(k:Nat):sz (l.take k)<=sz l:=by
 have:=congrArg sz (List.take_append_drop k l);rw [Xj]at this;omega
theorem Jce(l:List Mo):OutM l 0 []:=⟨List.Pairwise.nil,λt ht=>by simp at ht,λi j=>rfl,Nat.le_refl _,Nat.le_refl _,λt ht=>by simp at ht⟩
theorem uT(t:MQ)(i j:Int):cf [t] i j=if t.1=i/\t.2.1=j then t.2.2 else 0:=by simp only [cf,Rat.add_zero]
theorem zS{l:List Mo}{k:Nat}{x:Mo}(hx:l[k]?=some x):(l.take (k+1)).map mv=(l.take k).map mv++[mv x]:=by
 rw [List.take_add_one,hx];simp
theorem VH{l:List Mo}{k:Nat}{x:Mo}(hx:l[k]?=some x):l.drop k=x::l.drop (k+1):=by
 obtain⟨h,rfl⟩:=List.getElem?_eq_some_iff.1 hx;exact List.drop_eq_getElem_cons h
theorem Xbb{l:List Mo}{k:Nat}{o:BQ}{x:Mo}(h:OutM l k o)(hs:je l)(hx:l[k]?=some x)(hi:inM x)(hn:∀t∈o,kq t<kM x):OutM l (k+1) (o++[mv x]):=by
 have hd:=VH hx;have hsd:je (x::l.drop (k+1)):=by rw [<-hd];exact List.Pairwise.drop hs
 obtain⟨s1,s2⟩:=List.pairwise_cons.1 hsd;refine⟨?_,yf.2 ⟨h.ins,λt ht=>by rw [List.mem_singleton.1 ht];exact hi⟩,λi j=>?_,?_,?_,?_⟩
 .refine List.pairwise_append.2 ⟨h.str,List.pairwise_singleton _ _,λa ha b hb=>?_⟩;rw [List.mem_singleton.1 hb];exact hn a ha
 .rw [zS hx,Ys,Ys,h.cf]
 .rw [zS hx,Xj,Xj];have:=h.sz;omega
 .rw [List.length_append];have:=h.len;simp;omega
 .intro t ht y hy;rcases List.mem_append.1 ht with ht | ht
  .exact h.le t ht y (by rw [hd];simp [hy])
  .rw [List.mem_singleton.1 ht];exact s1 y hy
theorem kbL{l:List Mo}{k:Nat}{o:BQ}{u:MQ}{x:Mo}(h:OutM l k (o++[u]))(hs:je l)(hx:l[k]?=some x)(hi:inM x)(hu:kq u=kM x):OutM l (k+1) (o++[(u.1,u.2.1,u.2.2+rv x.2.2)]):=by
 have hd:=VH hx;obtain⟨i1,i2⟩:=yf.1 h.ins;have hui:inQ u:=i2 u (by simp)
 obtain⟨e1,e2⟩:=(xbp hui (jbU hi)).1 hu;obtain⟨p1,p2,p3⟩:=List.pairwise_append.1 h.str;refine⟨?_,yf.2 ⟨i1,λt ht=>by rw [List.mem_singleton.1 ht];exact hui⟩,λi j=>?_,?_,?_,?_⟩
 .refine List.pairwise_append.2 ⟨p1,List.pairwise_singleton _ _,λa ha b hb=>?_⟩;rw [List.mem_singleton.1 hb];exact p3 a ha u (by simp)
 .have:=h.cf i j;rw [Ys,uT]at this;rw [zS hx,Ys,Ys,uT,uT,<-this];simp only [e1,e2];have e3:(mv x).2.2=rv x.2.2:=rfl;rw [e3];split <;> grind
 .rw [zS hx,Xj,Xj];have h1:=h.sz;rw [Xj]at h1;have h2:=km u.2.2 (rv x.2.2);have e3:(mv x).2.2=rv x.2.2:=rfl;simp only [sz,e3]at h1 ⊢;omega
 .have:=h.len;rw [List.length_append]at this ⊢;simp at this ⊢;omega
 .intro t ht y hy;rcases List.mem_append.1 ht with ht | ht
  .exact h.le t (by simp [ht]) y (by rw [hd];simp [hy])
  .rw [List.mem_singleton.1 ht];exact h.le u (by simp) y (by rw [hd];simp [hy])
theorem UF(p q:BQ):mcs (p++q)=mcs p++mcs q:=by unfold mcs;rw [List.map_append]
theorem wbF(o:BQ)(u:MQ)(c:Rat):(mcs (o++[u])).set o.length ((mcan u).1,(mcan u).2.1,rcan (rv (mcan u).2.2+c))=mcs (o++[(u.1,u.2.1,u.2.2+c)]):=by
 have e:rv (mcan u).2.2=u.2.2:=Vb _;rw [e,UF,UF,List.set_append_right _ _ (by unfold mcs;simp)]
 congr 1;unfold mcs;simp only [List.length_map,Nat.sub_self];rfl
theorem yaR(p:BQ):(mcs p).filter nzM=mcs (p.filter nz):=by
 unfold mcs;rw [List.filter_map];congr 1;refine List.filter_congr λt _=>?_;have e:rv (mcan t).2.2=t.2.2:=Vb _;simp only [Function.comp,nzM,nz,e]
theorem Ybn:∀{p:BQ} {t:MQ},t∈p->rz t.2.2<=sz p
 | u::p,t,h=>by
  simp only [sz];rcases List.mem_cons.1 h with rfl | h
  .omega
  .have:=Ybn h;omega
theorem kbJ{l l' : List Mo}{o:BQ}(h:OutM l' l'.length o)(hp:l.Perm l')(hi:∀x∈l,inM x):o.filter nz=nf (l.map mv):=by
 have hin:InQ (l.map mv):=λt ht=>by
  obtain⟨x,hx,rfl⟩:=List.mem_map.1 ht;exact hi x hx
 have hin' : InQ (l'.map mv):=Zbl (hp.map _) hin;have e:=h.cf;rw [List.take_length]at e;refine vb8 (Qae h.str h.ins) hin λi j=>?_;rw [Xbx,e,qbH (hp.map _)]
end Go.Num
namespace Go.Abs
open Go.Num
variable {P:Program} {Γ:Nat->Spec}
def QE(m:Nat)(l:List AV)(K:AV->Prop):Prop:=
 match l with
 | [a]=>onMs (λl=>(∀t∈l,inM t/\rl t.2.2<=4294967296)/\l.length<=m/\sz (l.map mv)<=1000000000/\K (.one (.slice ((mcs (nf (l.map mv))).map mC)))) a
 | _=>False
theorem va8 m a K:QE m [a] K=(onMs (λl=>(∀t∈l,inM t/\rl t.2.2<=4294967296)/\l.length<=m/\sz (l.map mv)<=1000000000/\K (.one (.slice ((mcs (nf (l.map mv))).map mC)))) a):=propext Iff.rfl
@[congr] theorem Qb6 m{K}{l l'}(h:l=l'):QE m l K=QE m l' K:=by subst h;rfl
attribute [go_sem,go_sem ↓] va8
theorem xaV(m:Nat):Good (QE m):=Wa λas=>by
 unfold QE;split
 .exact(xt λ_=>(.and λ_=>(.and λ_=>(.and λ_=>(.ret _)))))
 .exact .of λK hk=>hk.elim
def JC(f0 f1 f2 f3 f4 f5:Nat):AC:=(.o [.m 2 (.c (.one .emp))] [0] (.o [.M 7 0,.u 8 (.callf f0 [(.t 7)]),.M 0 8] [0] (.o [.M 9 0,.u 10 (.call f1 [(.t 9),(.c (.one (.lit (.func (.func f2) #[] #[]))))])] [0] (.o [.m 3 (.c (.one .emp))] [0,3] (.f (.o [.M 11 0,.Z 12 11,.N 13 0] [3,11,12,13] (.block 0 (.loop (.o [.B 14 .lss 13 12] [3,11,12,13,14] (.f (.cond (.t 14) .skip (.exit 0)) [3,11,12,13] (.f (.block 1 (.o [.J 15 5 11 13,.L 16 5 15,.G 5 [(.lit (.int .i64 0)),(.lit (.int .i64 0)),.z,.emp,.emp],.S 5 5 16] [3,5,11,12,13] (.f (.o [.M 17 3,.Z 18 17,.M 6 18] [3,5,6,11,12,13] (.f (.y [.M 19 6,.I 20 .gtr 19 0,.M 21 20,.V 22 21 true 3,.V 23 21 true 6,.w 24 21 true (.bin .sub (.t 23) (.i 1)),.w 25 21 true (.idx 5 (.t 22) (.t 24)),.U 26 21 true 5 true 25,.U 27 21 true 5 true 5,.Y 28 21 true f2 26 27,.w 29 21 true (.bin .eql (.t 28) (.i 0)),.P 30 21 29]) [3,5,6,11,12,13,30] (.cond (.t 30) (.seq (.y [.M 31 3,.M 32 6,.I 33 .sub 32 1,.M 34 3,.M 35 6,.I 36 .sub 35 1,.J 37 5 34 36,.A 38 2 37,.L 39 3 38,.A 40 2 5,.L 41 3 40,.D 42 f3 39 41,.J 43 5 31 33,.A 44 2 43,.S 3 44 42]) (.exit 1)) .skip))) [3,5,11,12,13] (.y [.M 45 3,.A 46 0 5,.F 47 1 46,.A 48 1 5,.F 49 1 48,.A 50 2 5,.L 51 3 50,.u 52 (.build [.z [.z,.emp,.emp]]),.D 53 f3 51 52,.u 54 (.build [.x 1 (.t 47),.x 1 (.t 49),.x 3 (.t 53)]),.u 55 (.row 5 [[.x 5 (.t 54)]]),.u 56 (.app 5 (.t 45) (.t 55)),.M 3 56])))) [3,11,12,13] (.p [.I 57 .add 13 1,.M 13 57]))))))) [3] (.seq (.p [.M 58 3,.u 59 (.call f4 [(.t 58),(.c (.one (.lit (.func (.func f5) #[] #[]))))]),.M 2 59]) .ret))))))
theorem UaR(hΓ:Xa P Γ){f fc fs fd fo fz fa m:Nat}(hm:m<=1000000000)(hcl:Γ fc=.fresh 5 qu)(hs:Γ fs=.own (kB fo m))(hd:Γ fd=.own (vL fz))(ho:Γ fo=.dat true XC)(ha:Γ fa=.dat false wl)(hc:check P f=some (60,(JC fc fs fo fa fd fz).strip,[.tmp 2])):ua P f (.dat false (QE m)):=by
 refine ka hc (xaV m) hΓ (λargs K hcl' hfi hG=>?_);match args,hG with
 | [a],hG=>
  obtain⟨l,rfl,hw,hok,hlm,hsz,hK⟩:=hG;refine⟨by simp,?_⟩
  have hin:∀x∈l,inM x:=λx hx=>(hok x hx).1;simp only [go_sem,JC,hcl,hs,fnV];refine⟨hw,by omega,?_⟩
  unfold kB;refine⟨l,[],rfl,rfl,hlm,by rw [List.append_nil];simp [qa],λx hx=>⟨hw x hx,hin x hx⟩,λl' hp hs'=>?_⟩
  have hll:=hp.length_eq;have hw' : ∀x∈l',WLM x:=λx hx=>hw x (hp.mem_iff.2 hx);have hin' : ∀x∈l',inM x:=λx hx=>hin x (hp.mem_iff.2 hx);have hrl' : ∀x∈l',rl x.2.2<=4294967296:=λx hx=>(hok x (hp.mem_iff.2 hx)).2;have hsz' : ∀k,sz ((l'.take k).map mv)<=1000000000:=λk=>by
   have h1:=UJ (l'.map mv) k;have h2:sz (l'.map mv)=sz (l.map mv):=by
    have:(l.map mv).Perm (l'.map mv):=hp.map _;exact(qbI this).symm
   rw [List.map_take];omega
  rw [List.append_nil];simp only [go_sem];intro _;refine Ya (λp:Nat×BQ×MQ=>if p.1=0 then ⟨mkV [(3,.one .emp),(11,.one (.own 8 1 5 0 l.length)),(12,.one (.lit (.int .i64 l.length))),(13,.one (.lit (.int .i64 p.1)))],mkH [(8,⟨1,some ⟨l'.map mC,5,true⟩⟩)]⟩
    else ⟨mkV [(3,.one (.own 56 1 5 0 (p.2.1.length+1))),(11,.one (.own 8 1 5 0 l.length)),(12,.one (.lit (.int .i64 l.length))),(13,.one (.lit (.int .i64 p.1)))],mkH [(8,⟨1,some ⟨l'.map mC,5,true⟩⟩),(56,⟨1,some ⟨(mcs (p.2.1++[p.2.2])).map mC,5,true⟩⟩)]⟩)
   (λp=>p.1<=l.length/\(p.1≠0->OutM l' p.1 (p.2.1++[p.2.2]))) (λp=>l.length-p.1) (0,[],(0,0,0)) ?_ ?_ ?_
  .exact Qa (by simp [okS,okV,okC,okL,okH,okB,okE,ja,Ja,qa,Va,wsA,ws]) ⟨vg rfl,trivial⟩
  .exact⟨Nat.zero_le _,λh=>absurd rfl h⟩
  .rintro⟨k,o,u⟩ ⟨hk,hinv⟩;simp only at hk hinv;by_cases hlt:k<l.length
   .obtain⟨x,hx⟩:∃x,l'.getD k mo0=x:=⟨_,rfl⟩;have hx0:=getDm (by omega) hx
    have hxm:=List.mem_of_getElem? hx0;have hlt' : k<l'.length:=by omega
    have rz0:=rz_0;by_cases hk0:k=0
    .subst hk0;have hO:=Xbb (Jce l') hs' hx0 (hin' x hxm) (λt ht=>by simp at ht)
     simp only [go_sem,hlt,hlt',hx,ha,mC,Int.lt_irrefl];refine⟨(hw' x hxm).2.2,hrl' x hxm,by omega,λe he=>by rw [List.mem_singleton.1 he];rfl,by omega,(1,[],mv x),?_,⟨by simp only;omega,λ_=>hO⟩,by simp only;omega⟩
     rw [if_neg (by simp)]
     refine Qa (by simp [okS,okV,okC,okL,okH,okB,okE,ja,Ja,qa,Va,wsA,ws]) ⟨vg rfl,vg ?_,trivial⟩
     simp [mcs,mcan,mv,mC,Rat.add_zero]
    .have hO:=hinv hk0;have hui:inM (mcan u):=hO.ins u (by simp)
     have hwu:WLM (mcan u):=yau hui;have hwu2:=hwu.2.2;have hwx:=hw' x hxm;have hwx2:=hwx.2.2;have hix:=hin' x hxm;have hrx:=hrl' x hxm;have hru:rl (mcan u).2.2<=4294967296:=by
      have h1:=hO.sz;have h2:=hsz' k;have h3:=Ybn (p:=o++[u]) (t:=u) (by simp)
      have h4:rl (mcan u).2.2=rz u.2.2:=rfl;omega
     have hol:(mcs (o++[u])).length=o.length+1:=by unfold mcs;simp
     have hgd:(mcs (o++[u])).getD o.length mo0=mcan u:=by
      rw [UF,List.getD_eq_getElem?_getD,List.getElem?_append_right (by unfold mcs;simp)]
      unfold mcs;simp
     have hn1:((o.length+1:Nat):Int)-1=(o.length:Int):=by omega
     have hn2:(0:Int)<((o.length+1:Nat):Int):=by omega
     by_cases hq:kq u=kM x
     .have hku:ordK (kM (mcan u)) (kM x)=0:=by rw [zbg];exact hq
      have hO':=kbL hO hs' hx0 (hin' x hxm) hq;simp only [go_sem,hlt,hlt',hx,ha,ho,hk0,mC,hol,hgd,hn1,hn2];repeat first | refine Wk ?_ | intro _
      refine⟨λ_=>?_,λh=>absurd hku h⟩;repeat first | refine Wk ?_ | intro _
      refine⟨(k+1,o,(u.1,u.2.1,u.2.2+rv x.2.2)),?_,⟨by simp only;omega,λ_=>hO'⟩,by simp only;omega⟩
      rw [if_neg (by simp)]
      exact Qa (by simp [okS,okV,okC,okL,okH,okB,okE,ja,Ja,qa,Va,wsA,ws]) ⟨vg rfl,vg (by rw [wbF]),trivial⟩
     .have hku:¬ordK (kM (mcan u)) (kM x)=0:=by rw [zbg];exact hq
      have hO':=Xbb hO hs' hx0 (hin' x hxm) (λt ht=>by
       obtain⟨p1,p2,p3⟩:=List.pairwise_append.1 hO.str;have h1:=hO.le u (by simp) x (by rw [VH hx0];simp)
       rcases List.mem_append.1 ht with ht | ht
       .have:=p3 t ht u (by simp)
        omega
       .rw [List.mem_singleton.1 ht];omega)
      simp only [go_sem,hlt,hlt',hx,ha,ho,hk0,mC,hol,hgd,hn1,hn2];repeat first | refine Wk ?_ | intro _
      refine⟨λh=>absurd h hku,λ_=>?_⟩;have hln:=hO.len;rw [List.length_append]at hln;simp only [List.length_cons,List.length_nil]at hln;refine⟨hwx2,hrx,by omega,λe he=>by rw [List.mem_singleton.1 he];rfl,by omega,by omega,(k+1,o++[u],mv x),?_,⟨by simp only;omega,λ_=>hO'⟩,by simp only;omega⟩
      rw [if_neg (by simp)]
      refine Qa (by simp [okS,okV,okC,okL,okH,okB,okE,ja,Ja,qa,Va,wsA,ws]) ⟨vg rfl,vg ?_,trivial⟩
      rw [UF (o++[u])];simp [mcs,mcan,mv,mC,Rat.add_zero]
   .have ek:k=l'.length:=by omega
    by_cases hk0:k=0
    .subst hk0;have hl0:l=[]:=List.length_eq_zero_iff.1 (by omega)
     subst hl0;have e0:nf (([]:List Mo).map mv)=[]:=rfl;rw [e0]at hK;simp only [go_sem,hlt,hd,fnV];unfold vL;exact⟨rfl,hK⟩
    .have hO:=hinv hk0;have hend:=kbJ (by rw [<-ek];exact hO) hp hin
     have hin2:=hO.ins;have h1:=hO.sz;have h2:=hsz' k;have hol:(mcs (o++[u])).length=o.length+1:=by unfold mcs;simp
     have hln:=hO.len;rw [List.length_append]at hln;simp only [List.length_cons,List.length_nil]at hln;simp only [go_sem,hlt,hk0,hd,fnV];unfold vL;refine⟨mcs (o++[u]),rfl,hol.symm,by omega,by simp [qa],λt ht=>?_,λes=>?_⟩
     .obtain⟨v,hv,rfl⟩:=List.mem_map.1 ht;refine⟨yau (hin2 v hv),?_⟩;have h3:=Ybn hv;have h4:rl (mcan v).2.2=rz v.2.2:=rfl;omega
     .rw [yaR,hend];simp only [go_sem];rw [if_pos (by simp),List.take_left' (by simp),uo _ (of_eq_true (Wh _))]
      exact hK
end Go.Abs
end
section
namespace Go.Num
open Go.Abs
def lastO(l:List Mo):Nat->Option Mo
 | 0=>none
 | k+1=>some (l.getD k mo0)
theorem qa9{l:List Mo}{k:Nat}{x:Mo}(o:Option Mo)(hx:l[k]?=some x):chkG o (l.drop k)=if chkT o x≠0 then chkT o x else chkG (some x) (l.drop (k+1)):=by
 rw [VH hx];rfl
def mkT(t:Mo):Nat:=if ¬inM t then 3 else if vldR t.2.2=false then 2 else 0
def mkG:List Mo->Nat
 | []=>0
 | t::l=>if mkT t≠0 then mkT t else mkG l
def mkC(l:List Mo):Nat:=if 325<l.length then 4 else mkG l
theorem Ybo{l:List Mo}{k:Nat}{x:Mo}(hx:l[k]?=some x):mkG (l.drop k)=if mkT x≠0 then mkT x else mkG (l.drop (k+1)):=by
 rw [VH hx];rfl
theorem zch{t:Mo}(h:mkT t=0):inM t/\vldR t.2.2=true:=by
 unfold mkT at h;split at h
 .contradiction
 .rename_i h1;split at h
  .contradiction
  .rename_i h2;exact⟨by simpa using h1,by simpa using h2⟩
theorem wbP:∀{l:List Mo},mkG l=0->∀t∈l,inM t/\vldR t.2.2=true
 | [],_,t,ht=>by simp at ht
 | u::l,h,t,ht=>by
  rw [mkG]at h;split at h
  .rename_i h1;exact absurd h h1
  .rename_i h1;rcases List.mem_cons.1 ht with rfl | ht
   .exact zch (by simpa using h1)
   .exact wbP h t ht
theorem ZE{l:List Mo}(h:chkB l=0)(hw:∀t∈l,WLM t):(∀t∈l,inM t)/\InQ (l.map mv)/\l.length<=325:=by
 obtain⟨h1,h2⟩:=xG h hw;refine⟨λt ht=>?_,h1.ins,(JbA h).1⟩;exact h1.ins (mv t) (List.mem_map.2 ⟨t,ht,rfl⟩)
def sclM(c:Rat)(l:List Mo):List Mo:=l.map λt=>(t.1,t.2.1,rcan (c*rv t.2.2))
theorem ka5(c:Rat)(l:List Mo):(sclM c l).map mv=sclL c (l.map mv):=by
 unfold sclM sclL;rw [List.map_map,List.map_map];refine List.map_congr_left λt _=>?_;simp only [Function.comp,mv,Vb]
theorem Vbj{c:Rat}{l:List Mo}{k:Nat}{x:Mo}(hx:l[k]?=some x):sclM c (l.take (k+1))=sclM c (l.take k)++[(x.1,x.2.1,rcan (c*rv x.2.2))]:=by
 unfold sclM;rw [List.take_add_one,hx];simp
theorem W9(c:Rat)(l:List Mo):(sclM c l).length=l.length:=List.length_map _
def degM(l:List Mo):Int:=match l.getLast? with
 | none=>-1
 | some t=>t.1+t.2.1
theorem kx(p:BQ):degM (mcs p)=degB p:=by
 unfold degM degB mcs;rw [List.getLast?_map];cases p.getLast? <;> rfl
def bres(c:Nat)(p:BQ):List Mo:=if c=0 then mcs p else []
theorem yC(p:BQ):bres 0 p=mcs p:=rfl
theorem wG{c:Nat}(h:c≠0)(p:BQ):bres c p=[]:=if_neg h
def chk2(p q:List Mo):Nat:=if chkB p≠0 then chkB p else chkB q
theorem Xaw{p q:List Mo}(h:chk2 p q=0):chkB p=0/\chkB q=0:=by
 unfold chk2 at h;split at h
 .rename_i h1;exact absurd h h1
 .rename_i h1;exact⟨by simpa using h1,h⟩
end Go.Num
namespace Go.Abs
open Go.Num
variable {P:Program} {Γ:Nat->Spec}
def yr(tE:Nat)(l:List AV)(K:AV->Prop):Prop:=
 match l with
 | [a]=>onMs (λl=>(∀t∈l,rl t.2.2<=4294967296)/\K (errV tE (chkB l))) a
 | _=>False
theorem Vah tE a K:yr tE [a] K=(onMs (λl=>(∀t∈l,rl t.2.2<=4294967296)/\K (errV tE (chkB l))) a):=propext Iff.rfl
@[congr] theorem xbN tE{K}{l l'}(h:l=l'):yr tE l K=yr tE l' K:=by subst h;rfl
attribute [go_sem,go_sem ↓] Vah
theorem yat(tE:Nat):Good (yr tE):=Wa λas=>by
 unfold yr;split
 .exact(xt λ_=>(.and λ_=>(.ret _)))
 .exact .of λK hk=>hk.elim
def Ym(tE:Nat)(l:List AV)(K:AV->Prop):Prop:=
 match l with
 | [a]=>onM2 (λp q=>(∀t∈p,rl t.2.2<=4294967296)/\(∀t∈q,rl t.2.2<=4294967296)/\K (errV tE (chk2 p q))) a
 | _=>False
theorem jV tE a K:Ym tE [a] K=onM2 (λp q=>(∀t∈p,rl t.2.2<=4294967296)/\(∀t∈q,rl t.2.2<=4294967296)/\K (errV tE (chk2 p q))) a:=propext Iff.rfl
@[congr] theorem vbM{tE}{K}{l l'}(h:l=l'):Ym tE l K=Ym tE l' K:=by subst h;rfl
attribute [go_sem,go_sem ↓] jV
theorem kag(tE:Nat):Good (Ym tE):=Wa λas=>by
 unfold Ym;split
 .exact Zbs λ_ _=>.and λ_=>.and λ_=>.ret _
 .exact .of λK hk=>hk.elim
def zN(l:List AV)(K:AV->Prop):Prop:=
 match l with
 | [a]=>onMs (λl=>(∀t∈l,inM t)/\l.length<=1000000/\K (.one (.lit (.int .i64 (degM l))))) a
 | _=>False
theorem yaX a K:zN [a] K=(onMs (λl=>(∀t∈l,inM t)/\l.length<=1000000/\K (.one (.lit (.int .i64 (degM l))))) a):=propext Iff.rfl
@[congr] theorem Jb7{K}{l l'}(h:l=l'):zN l K=zN l' K:=by subst h;rfl
attribute [go_sem,go_sem ↓] yaX
theorem XaS:Good zN:=Wa λas=>by
 unfold zN;split
 .exact(xt λ_=>(.and λ_=>(.and λ_=>(.ret _))))
 .exact .of λK hk=>hk.elim
def yL(l:List AV)(K:AV->Prop):Prop:=
 match l with
 | [a,c]=>onMs (λl=>onR (λx=>(∀t∈l,rl t.2.2<=1000000000)/\rl x<=1000000000/\l.length<=1000000/\K (.one (.slice ((sclM (rv x) l).map mC)))) c) a
 | _=>False
theorem JaY a c K:yL [a,c] K=(onMs (λl=>onR (λx=>(∀t∈l,rl t.2.2<=1000000000)/\rl x<=1000000000/\l.length<=1000000/\K (.one (.slice ((sclM (rv x) l).map mC)))) c) a):=propext Iff.rfl
@[congr] theorem Xcf{K}{l l'}(h:l=l'):yL l K=yL l' K:=by subst h;rfl
attribute [go_sem,go_sem ↓] JaY
theorem Ybc:Good yL:=Wa λas=>by
 unfold yL;split
 .exact(xt λ_=>(Jj λ_=>(.and λ_=>(.and λ_=>(.and λ_=>(.ret _))))))
 .exact .of λK hk=>hk.elim
def YD(tE:Nat)(l:List AV)(K:AV->Prop):Prop:=
 match l with
 | [a]=>onMs (λl=>(∀t∈l,rl t.2.2<=4294967296)/\sz (l.map mv)<=1000000000/\K (.tup [.one (.slice ((bres (mkC l) (nf (l.map mv))).map mC)),errV tE (mkC l)])) a
 | _=>False
theorem JaJ tE a K:YD tE [a] K=(onMs (λl=>(∀t∈l,rl t.2.2<=4294967296)/\sz (l.map mv)<=1000000000/\K (.tup [.one (.slice ((bres (mkC l) (nf (l.map mv))).map mC)),errV tE (mkC l)])) a):=propext Iff.rfl
@[congr] theorem jb4 tE{K}{l l'}(h:l=l'):YD tE l K=YD tE l' K:=by subst h;rfl
attribute [go_sem,go_sem ↓] JaJ
theorem QaN(tE:Nat):Good (YD tE):=Wa λas=>by
 unfold YD;split
 .exact(xt λ_=>(.and λ_=>(.and λ_=>(.ret _))))
 .exact .of λK hk=>hk.elim
def VL(tE:Nat)(l:List AV)(K:AV->Prop):Prop:=
 match l with
 | [a,b]=>onMs (λp=>onMs (λq=>(∀t∈p,rl t.2.2<=4294967296)/\(∀t∈q,rl t.2.2<=4294967296)/\sz (p.map mv)+sz (q.map mv)<=1000000000/\K (.tup [.one (.slice ((bres (chk2 p q) (addB (p.map mv) (q.map mv))).map mC)),errV tE (chk2 p q)])) b) a
 | _=>False
theorem Ua3 tE a b K:VL tE [a,b] K=(onMs (λp=>onMs (λq=>(∀t∈p,rl t.2.2<=4294967296)/\(∀t∈q,rl t.2.2<=4294967296)/\sz (p.map mv)+sz (q.map mv)<=1000000000/\K (.tup [.one (.slice ((bres (chk2 p q) (addB (p.map mv) (q.map mv))).map mC)),errV tE (chk2 p q)])) b) a):=propext Iff.rfl
@[congr] theorem Yce tE{K}{l l'}(h:l=l'):VL tE l K=VL tE l' K:=by subst h;rfl
attribute [go_sem,go_sem ↓] Ua3
theorem Za2(tE:Nat):Good (VL tE):=Wa λas=>by
 unfold VL;split
 .exact(xt λ_=>(xt λ_=>(.and λ_=>(.and λ_=>(.and λ_=>(.ret _))))))
 .exact .of λK hk=>hk.elim
def yK(tE:Nat)(l:List AV)(K:AV->Prop):Prop:=
 match l with
 | [a,b]=>onMs (λp=>onMs (λq=>(∀t∈p,rl t.2.2<=1000000000)/\(∀t∈q,rl t.2.2<=1000000000)/\sz (p.map mv)+sz (q.map mv)<=1000000000/\K (.tup [.one (.slice ((bres (chk2 p q) (subB (p.map mv) (q.map mv))).map mC)),errV tE (chk2 p q)])) b) a
 | _=>False
theorem xbj tE a b K:yK tE [a,b] K=(onMs (λp=>onMs (λq=>(∀t∈p,rl t.2.2<=1000000000)/\(∀t∈q,rl t.2.2<=1000000000)/\sz (p.map mv)+sz (q.map mv)<=1000000000/\K (.tup [.one (.slice ((bres (chk2 p q) (subB (p.map mv) (q.map mv))).map mC)),errV tE (chk2 p q)])) b) a):=propext Iff.rfl
@[congr] theorem Ycg tE{K}{l l'}(h:l=l'):yK tE l K=yK tE l' K:=by subst h;rfl
attribute [go_sem,go_sem ↓] xbj
theorem waX(tE:Nat):Good (yK tE):=Wa λas=>by
 unfold yK;split
 .exact(xt λ_=>(xt λ_=>(.and λ_=>(.and λ_=>(.and λ_=>(.ret _))))))
 .exact .of λK hk=>hk.elim
def U5(tE:Nat)(l:List AV)(K:AV->Prop):Prop:=
 match l with
 | [a,c]=>onMs (λp=>onR (λx=>(∀t∈p,rl t.2.2<=1000000000)/\rl x<=1000000/\sz (p.map mv)<=100000000/\K (.tup [.one (.slice ((bres (chkB p) (sclB (rv x) (p.map mv))).map mC)),errV tE (chkB p)])) c) a
 | _=>False
theorem Qaj tE a c K:U5 tE [a,c] K=(onMs (λp=>onR (λx=>(∀t∈p,rl t.2.2<=1000000000)/\rl x<=1000000/\sz (p.map mv)<=100000000/\K (.tup [.one (.slice ((bres (chkB p) (sclB (rv x) (p.map mv))).map mC)),errV tE (chkB p)])) c) a):=propext Iff.rfl
@[congr] theorem WbQ tE{K}{l l'}(h:l=l'):U5 tE l K=U5 tE l' K:=by subst h;rfl
attribute [go_sem,go_sem ↓] Qaj
def Vp(f0 f1 f2 f3 tE:Nat):AC:=(.o [.m 2 (.c (.one (.lit .nilIface)))] [0] (.f (.o [.M 5 0,.Z 6 5,.I 7 .gtr 6 325] [0,7] (.cond (.t 7) (.seq (.p [.u 8 (.iface tE (.i 4)),.M 2 8]) .ret) .skip)) [0] (.f (.o [.M 9 0,.Z 10 9,.N 11 0] [0,9,10,11] (.block 0 (.loop (.o [.B 12 .lss 11 10] [0,9,10,11,12] (.f (.cond (.t 12) .skip (.exit 0)) [0,9,10,11] (.f (.block 1 (.o [.M 13 11,.J 14 5 9 11,.L 15 5 14,.G 4 [(.lit (.int .i64 0)),(.lit (.int .i64 0)),.z,.emp,.emp],.M 3 13,.S 5 4 15] [0,3,4,9,10,11] (.block 2 (.o [.L 17 5 4,.H 18 f0 17,.u 19 (.un .not (.t 18)),.M 16 19] [0,3,4,9,10,11,16] (.cond (.t 16) (.seq (.p [.u 20 (.iface tE (.i 3)),.M 2 20]) .ret) (.o [.A 22 2 4,.L 23 3 22,.H 24 f1 23,.u 25 (.un .not (.t 24)),.M 21 25] [0,3,4,9,10,11,21] (.cond (.t 21) (.seq (.p [.u 26 (.iface tE (.i 2)),.M 2 26]) .ret) (.o [.A 28 2 4,.L 29 3 28,.H 30 f2 29,.I 31 .eql 30 0,.M 27 31] [0,3,4,9,10,11,27] (.cond (.t 27) (.seq (.p [.u 32 (.iface tE (.i 8)),.M 2 32]) .ret) (.f (.y [.M 34 3,.I 35 .gtr 34 0,.M 36 35,.V 37 36 true 0,.V 38 36 true 3,.w 39 36 true (.bin .sub (.t 38) (.i 1)),.w 40 36 true (.idx 5 (.t 37) (.t 39)),.U 41 36 true 5 true 40,.U 42 36 true 5 true 4,.Y 43 36 true f3 41 42,.w 44 36 true (.bin .geq (.t 43) (.i 0)),.P 45 36 44,.M 33 45]) [0,9,10,11,33] (.cond (.t 33) (.seq (.p [.u 46 (.iface tE (.i 12)),.M 2 46]) .ret) .skip))))))))))) [0,9,10,11] (.p [.I 47 .add 11 1,.M 11 47]))))))) [] (.seq (.p [.m 2 (.c (.one (.lit .nilIface)))]) .ret))))
def Qt(f0:Nat):AC:=(.o [.m 2 (.c (.one (.lit .nilIface)))] [0] (.f (.o [.M 6 0,.Z 7 6,.N 8 0] [6,7,8] (.block 0 (.loop (.o [.B 9 .lss 8 7] [6,7,8,9] (.f (.cond (.t 9) .skip (.exit 0)) [6,7,8] (.f (.block 1 (.o [.J 10 1 6 8,.F 11 1 10,.M 4 11] [4,6,7,8] (.o [.M 12 4,.H 13 f0 12,.M 5 13] [5,6,7,8] (.o [.M 14 5,.R 15 14] [5,6,7,8,15] (.cond (.t 15) (.seq (.p [.M 16 5,.M 2 16]) .ret) .skip))))) [6,7,8] (.p [.I 17 .add 8 1,.M 8 17]))))))) [] (.seq (.p [.m 2 (.c (.one (.lit .nilIface)))]) .ret)))
def Zn:AC:=(.o [.N 2 0] [0] (.f (.o [.M 3 0,.Z 4 3,.I 5 .eql 4 0] [0,5] (.cond (.t 5) (.seq (.p [.N 2 (-1)]) .ret) .skip)) [0] (.seq (.y [.M 6 0,.M 7 0,.Z 8 7,.I 9 .sub 8 1,.J 10 5 6 9,.A 11 0 10,.F 12 1 11,.M 13 0,.M 14 0,.Z 15 14,.I 16 .sub 15 1,.J 17 5 13 16,.A 18 1 17,.F 19 1 18,.B 20 .add 12 19,.M 2 20]) .ret)))
def Yv(f0:Nat):AC:=(.o [.K 3 3 1,.m 4 (.c (.one .emp))] [0,3] (.o [.m 5 (.c (.one .emp))] [0,3,5] (.f (.o [.M 8 0,.Z 9 8,.N 10 0] [3,5,8,9,10] (.block 0 (.loop (.o [.B 11 .lss 10 9] [3,5,8,9,10,11] (.f (.cond (.t 11) .skip (.exit 0)) [3,5,8,9,10] (.f (.block 1 (.o [.J 12 5 8 10,.L 13 5 12,.G 7 [(.lit (.int .i64 0)),(.lit (.int .i64 0)),.z,.emp,.emp],.S 5 7 13] [3,5,7,8,9,10] (.y [.M 14 5,.A 15 0 7,.F 16 1 15,.A 17 1 7,.F 18 1 17,.L 19 3 3,.A 20 2 7,.L 21 3 20,.D 22 f0 19 21,.u 23 (.build [.x 1 (.t 16),.x 1 (.t 18),.x 3 (.t 22)]),.u 24 (.row 5 [[.x 5 (.t 23)]]),.u 25 (.app 5 (.t 14) (.t 24)),.M 5 25]))) [3,5,8,9,10] (.p [.I 26 .add 10 1,.M 10 26]))))))) [5] (.seq (.p [.M 27 5,.M 4 27]) .ret))))
def Xr(f0 f1 f2 tE:Nat):AC:=(.o [.m 2 (.c (.one .emp)),.m 3 (.c (.one (.lit .nilIface)))] [0] (.f (.o [.M 6 0,.Z 7 6,.I 8 .gtr 7 325] [0,8] (.cond (.t 8) (.seq (.p [.u 9 (.iface tE (.i 4)),.m 2 (.c (.one .emp)),.M 3 9]) .ret) .skip)) [0] (.f (.o [.M 10 0,.Z 11 10,.N 12 0] [0,10,11,12] (.block 0 (.loop (.o [.B 13 .lss 12 11] [0,10,11,12,13] (.f (.cond (.t 13) .skip (.exit 0)) [0,10,11,12] (.f (.block 1 (.o [.J 14 5 10 12,.L 15 5 14,.G 5 [(.lit (.int .i64 0)),(.lit (.int .i64 0)),.z,.emp,.emp],.S 5 5 15] [0,5,10,11,12] (.f (.o [.L 16 5 5,.H 17 f0 16,.u 18 (.un .not (.t 17))] [0,5,10,11,12,18] (.cond (.t 18) (.seq (.p [.u 19 (.iface tE (.i 3)),.m 2 (.c (.one .emp)),.M 3 19]) .ret) .skip)) [0,5,10,11,12] (.o [.A 20 2 5,.L 21 3 20,.H 22 f1 21,.u 23 (.un .not (.t 22))] [0,10,11,12,23] (.cond (.t 23) (.seq (.p [.u 24 (.iface tE (.i 2)),.m 2 (.c (.one .emp)),.M 3 24]) .ret) .skip))))) [0,10,11,12] (.p [.I 25 .add 12 1,.M 12 25]))))))) [0] (.seq (.p [.M 26 0,.H 27 f2 26,.M 2 27,.m 3 (.c (.one (.lit .nilIface)))]) .ret))))
theorem uC{h h' : Nat->HB}{x:R}{z:Nat}{b:Bool}:okB h h' (some ⟨[[cb x,cn x,cd x]],z,b⟩) (some ⟨[[cb x,cn x,cd x]],z,b⟩):=
 ⟨⟨rfl,rfl⟩,.inl ⟨rfl,λe he c hc=>by
  rw [List.mem_singleton]at he;subst he;simp only [List.mem_cons,List.not_mem_nil,or_false]at hc;rcases hc with rfl | rfl | rfl
  .exact of_eq_true (qn _)
  .exact of_eq_true (Um _)
  .exact of_eq_true (vn _)⟩⟩
theorem Zaj(hΓ:Xa P Γ){f fi fv fs fo tE:Nat}(hi:Γ fi=.dat true Wo)(hv:Γ fv=.dat true qf)(hs:Γ fs=.dat true yn)(ho:Γ fo=.dat true XC)(hc:check P f=some (48,(Vp fi fv fs fo tE).strip,[.tmp 2])):ua P f (.dat false (yr tE)):=by
 refine ka hc (yat tE) hΓ (λargs K hcl hfi hG=>?_);match args,hG with
 | [a],hG=>
  obtain⟨l,rfl,hw,hrl,hK⟩:=hG;refine⟨by simp,?_⟩
  by_cases h325:325<l.length
  .have e:chkB l=4:=if_pos h325;rw [e,Zd tE (by decide)]at hK
   have h325' : (325:Int)<(l.length:Int):=by omega
   simp only [go_sem,Vp,h325'];exact λ_=>hK
  .have h325' : ¬(325:Int)<(l.length:Int):=by omega
   have e:chkB l=chkG none l:=if_neg h325;rw [e]at hK;simp only [go_sem,Vp,h325'];intro _ _;refine Ya (λk:Nat=>⟨mkV [(0,msA l),(9,msA l),(10,.one (.lit (.int .i64 l.length))),(11,.one (.lit (.int .i64 k)))],mkH []⟩) (λk=>k<=l.length/\chkG none l=chkG (lastO l k) (l.drop k)/\∀t∈l.take k,inM t) (λk=>l.length-k) 0 ?_ ?_ ?_
   .exact Qa (by simp [okS,okV,okC,okL,okH,okB,okE,ja,Ja,qa,Va,wsA,ws,msA,ms]) trivial
   .exact⟨Nat.zero_le _,rfl,by simp⟩
   .rintro k ⟨hk,hch,hin⟩;by_cases hlt:k<l.length
    .obtain⟨x,hx⟩:∃x,l.getD k mo0=x:=⟨_,rfl⟩;have hx0:=getDm hlt hx;have hxm:=List.mem_of_getElem? hx0;have hwx:=hw x hxm;have hrx:=hrl x hxm;rw [qa9 _ hx0]at hch;by_cases a1:inM x
     .cases a2:vldR x.2.2 with
      | false=>
       have ec:chkT (lastO l k) x=2:=by unfold chkT;rw [if_neg (by simp [a1]),if_pos a2]
       rw [ec,if_pos (by decide)]at hch
       rw [hch,Zd tE (by decide)]at hK
       simp only [go_sem,hlt,hx,hi,hv,mC,a2];exact⟨hwx,λ_=>⟨hwx.2.2,hrx,hK⟩,λh=>absurd a1 h⟩
      | true=>
       by_cases a3:rv x.2.2=0
       .have ec:chkT (lastO l k) x=8:=by unfold chkT;rw [if_neg (by simp [a1]),if_neg (by simp [a2]),if_pos a3]
        rw [ec,if_pos (by decide)]at hch
        rw [hch,Zd tE (by decide)]at hK
        have a3' : ordQ (rv x.2.2) 0=0:=Xt.2 a3;simp only [go_sem,hlt,hx,hi,hv,hs,mC,a2,a3'];exact⟨hwx,λ_=>⟨hwx.2.2,hrx,hwx.2.2,hrx,hK⟩,λh=>absurd a1 h⟩
       .have hin' : ∀t∈l.take (k+1),inM t:=λt ht=>by
         rw [List.take_add_one,hx0]at ht;rcases List.mem_append.1 ht with ht | ht
         .exact hin t ht
         .simp at ht;rw [ht];exact a1
        have a3' : ¬ordQ (rv x.2.2) 0=0:=λh=>a3 (Xt.1 h);cases k with
        | zero=>
         simp only [go_sem,hlt,hx,hi,hv,hs,mC,a2,a3',Int.lt_irrefl];have ec:chkT (lastO l 0) x=0:=by unfold chkT;rw [if_neg (by simp [a1]),if_neg (by simp [a2]),if_neg a3,if_neg (by simp [lastO,badO])]
         rw [ec,if_neg (by decide)]at hch
         have hl1:lastO l 1=some x:=congrArg some hx;refine⟨hwx,λ_=>⟨hwx.2.2,hrx,hwx.2.2,hrx,by omega,1,Qa (by simp [okS,okV,okC,okL,okH,okB,okE,ja,Ja,qa,Va,wsA,ws,msA,ms]) trivial,⟨by omega,by rw [hl1];exact hch,hin'⟩,by omega⟩,λh=>absurd a1 h⟩
        | succ j=>
         have hn1:((j+1:Nat):Int)-1=(j:Int):=by omega
         have hn2:(0:Int)<((j+1:Nat):Int):=by omega
         simp only [go_sem,hlt,hx,hi,hv,hs,ho,mC,a2,a3',hn1,hn2];have hym:l.getD j mo0∈l:=by
          rw [List.getD_eq_getElem?_getD,List.getElem?_eq_getElem (by omega)];exact List.getElem_mem _
         have hyt:l.getD j mo0∈l.take (j+1):=by
          rw [List.getD_eq_getElem?_getD,List.getElem?_eq_getElem (by omega),Option.getD_some]
          exact List.mem_iff_getElem.2 ⟨j,by rw [List.length_take];omega,by simp⟩
         have hiy:=hin _ hyt;have hwy:=hw _ hym;have hlj:lastO l (j+1)=some (l.getD j mo0):=rfl;have hl1:lastO l (j+1+1)=some x:=congrArg some hx;refine⟨hwx,λ_=>⟨hwx.2.2,hrx,hwx.2.2,hrx,by omega,by omega,hwy,hwx,hiy,a1,λh=>?_,λh=>?_⟩,λh=>absurd a1 h⟩
         .have h:0<=ordK (kM (l.getD j mo0)) (kM x):=h;rw [qaX]at h;have ec:chkT (lastO l (j+1)) x=12:=by unfold chkT;rw [if_neg (by simp [a1]),if_neg (by simp [a2]),if_neg a3,if_pos (by rw [hlj];simpa [badO] using h)]
          rw [ec,if_pos (by decide)]at hch
          rw [hch,Zd tE (by decide)]at hK
          exact hK
         .have h:¬0<=ordK (kM (l.getD j mo0)) (kM x):=h;rw [qaX]at h;have ec:chkT (lastO l (j+1)) x=0:=by unfold chkT;rw [if_neg (by simp [a1]),if_neg (by simp [a2]),if_neg a3,if_neg (by rw [hlj];simpa [badO] using h)]
          rw [ec,if_neg (by decide)]at hch
          exact⟨by omega,j+1+1,Qa (by simp [okS,okV,okC,okL,okH,okB,okE,ja,Ja,qa,Va,wsA,ws,msA,ms]) trivial,⟨by omega,by rw [hl1];exact hch,hin'⟩,by omega⟩
     .have ec:chkT (lastO l k) x=3:=by unfold chkT;rw [if_pos a1]
      rw [ec,if_pos (by decide)]at hch
      rw [hch,Zd tE (by decide)]at hK
      simp only [go_sem,hlt,hx,hi,mC,decide_eq_false a1];exact⟨hwx,hK⟩
    .rw [List.drop_of_length_le (by omega)]at hch
     have e0:chkG (lastO l k) []=0:=rfl;rw [hch,e0,Qc]at hK;simp only [go_sem,hlt];exact hK
theorem X5(hΓ:Xa P Γ){f fk tE:Nat}(hk:Γ fk=.dat false (yr tE))(hc:check P f=some (18,(Qt fk).strip,[.tmp 2])):ua P f (.dat false (Ym tE)):=by
 refine ka hc (kag tE) hΓ (λargs K hcl hfi hG=>?_);match args,hG with
 | [a],hG=>
  obtain⟨p,q,rfl,⟨hwp,hwq⟩,hp,hq,hK⟩:=hG;refine⟨by simp,?_⟩
  simp only [go_sem,Qt,ms];refine Ya (λk:Nat=>⟨mkV [(6,.one (.slice [[ms p],[ms q]])),(7,.one (.lit (.int .i64 2))),(8,.one (.lit (.int .i64 k)))],mkH []⟩) (λk=>k<=2/\(0<k->chkB p=0)/\(1<k->chkB q=0)) (λk=>2-k) 0 ?_ ?_ ?_
  .exact Qa (by simp [okS,okV,okC,okL,okH,okB,okE,ja,Ja,qa,Va,wsA,ws,ms]) trivial
  .exact⟨by decide,by omega,by omega⟩
  .rintro k ⟨hk2,h1,h2⟩;have hk3:k=0∨k=1∨k=2:=by omega
   unfold chk2 at hK;rcases hk3 with rfl | rfl | rfl
   .by_cases hx:chkB p=0
    .have e0:=Qc tE;rw [<-hx]at e0;simp only [go_sem,c02,hk,ms,e0];refine⟨hwp,hp,by decide,1,Qa (by simp [okS,okV,okC,okL,okH,okB,okE,ja,Ja,qa,Va,wsA,ws,ms]) trivial,⟨by omega,by simp [hx],by omega⟩,by omega⟩
    .rw [if_pos hx]at hK;have e0:=Zd tE hx;rw [e0]at hK;simp only [go_sem,c02,hk,ms,e0];exact⟨hwp,hp,hK⟩
   .have hx:=h1 (by omega)
    rw [if_neg (by simp [hx])]at hK
    by_cases hy:chkB q=0
    .have e0:=Qc tE;rw [<-hy]at e0;simp only [go_sem,c12,UV,hk,ms,e0];refine⟨hwq,hq,by decide,2,Qa (by simp [okS,okV,okC,okL,okH,okB,okE,ja,Ja,qa,Va,wsA,ws,ms]) trivial,⟨by omega,by simp [hx],by simp [hy]⟩,by omega⟩
    .have e0:=Zd tE hy;rw [e0]at hK;simp only [go_sem,c12,UV,hk,ms,e0];exact⟨hwq,hq,hK⟩
   .have hx:=h1 (by omega)
    have hy:=h2 (by omega)
    rw [if_neg (by simp [hx]),hy,Qc]at hK
    simp only [go_sem,c22];exact hK
theorem vaS(hΓ:Xa P Γ){f:Nat}(hc:check P f=some (21,Zn.strip,[.tmp 2])):ua P f (.dat true zN):=by
 refine ka hc XaS hΓ (λargs K hcl hfi hG=>?_);match args,hG with
 | [a],hG=>
  obtain⟨l,rfl,hw,hin,hl,hK⟩:=hG;refine⟨by simp,?_⟩
  rcases hl0:l with _ | ⟨t,l0⟩
  .subst hl0;simp only [go_sem,Zn];simpa [degM] using hK
  .have hlen:l.length=l0.length+1:=by rw [hl0];rfl
   rw [<-hl0];obtain⟨y,hy⟩:∃y,l.getD l0.length mo0=y:=⟨_,rfl⟩;have hy0:=getDm (by omega) hy
   have hym:=List.mem_of_getElem? hy0;have hd:degM l=y.1+y.2.1:=by
    unfold degM;rw [List.getLast?_eq_getElem?,hlen,Nat.add_sub_cancel,hy0]
   rw [hd]at hK;obtain⟨i1,i2,i3⟩:=hin y hym;have hn1:((l0.length+1:Nat):Int)-1=(l0.length:Int):=by omega
   have hn0:¬((l0.length+1:Nat):Int)=0:=by omega
   simp only [go_sem,Zn,hlen,hn1,hn0,hy,mC];exact λ_=>⟨by omega,by omega,by omega,by omega,by omega,by omega,⟨by omega,by omega⟩,hK⟩
theorem JaP(hΓ:Xa P Γ){f fm:Nat}(hm:Γ fm=.dat false jl)(hc:check P f=some (28,(Yv fm).strip,[.tmp 4])):ua P f (.dat false yL):=by
 refine ka hc Ybc hΓ (λargs K hcl hfi hG=>?_);match args,hG with
 | [a,c],hG=>
  obtain⟨l,rfl,hw,x,rfl,hwx,hrl,hrx,hl,hK⟩:=hG;refine⟨by simp,?_⟩
  simp only [go_sem,Yv,rA];intro _;refine Ya (λk:Nat=>if k=0 then ⟨mkV [(3,.one (.ptr 3 1 0 0)),(5,.one .emp),(8,msA l),(9,.one (.lit (.int .i64 l.length))),(10,.one (.lit (.int .i64 k)))],mkH [(3,⟨1,some ⟨[[cb x,cn x,cd x]],3,true⟩⟩)]⟩
    else ⟨mkV [(3,.one (.ptr 3 1 0 0)),(5,.one (.own 25 1 5 0 k)),(8,msA l),(9,.one (.lit (.int .i64 l.length))),(10,.one (.lit (.int .i64 k)))],mkH [(3,⟨1,some ⟨[[cb x,cn x,cd x]],3,true⟩⟩),(25,⟨1,some ⟨(sclM (rv x) (l.take k)).map mC,5,true⟩⟩)]⟩) (λk=>k<=l.length) (λk=>l.length-k) 0 ?_ ?_ ?_
  .exact Qa (by simp [okS,okV,okC,okL,okH,okB,okE,ja,Ja,qa,Va,wsA,ws,msA,ms]) ⟨uC,trivial⟩
  .exact Nat.zero_le _
  .intro k hk;by_cases hlt:k<l.length
   .obtain⟨y,hy⟩:∃y,l.getD k mo0=y:=⟨_,rfl⟩;have hy0:=getDm hlt hy;have hym:=List.mem_of_getElem? hy0;have hwy:=hw y hym;have hry:=hrl y hym;have ht:=Vbj (c:=rv x) hy0;by_cases hk0:k=0
    .subst hk0;simp only [go_sem,hlt,hy,hm,mC];refine⟨hwx,hwy.2.2,by omega,by omega,λe he=>by rw [List.mem_singleton.1 he];rfl,by omega,1,?_,by omega,by omega⟩
     rw [if_neg (by decide)]
     exact Qa (by simp [okS,okV,okC,okL,okH,okB,okE,ja,Ja,qa,Va,wsA,ws,msA,ms]) ⟨uC,vg (by rw [ht];rfl),trivial⟩
    .have hlk:(sclM (rv x) (l.take k)).length=k:=by rw [W9,List.length_take];omega
     simp only [go_sem,hlt,hy,hm,mC,hk0,hlk];refine⟨hwx,hwy.2.2,by omega,by omega,λe he=>by rw [List.mem_singleton.1 he];rfl,by omega,by omega,k+1,?_,by omega,by omega⟩
     rw [if_neg (by omega)]
     exact Qa (by simp [okS,okV,okC,okL,okH,okB,okE,ja,Ja,qa,Va,wsA,ws,msA,ms]) ⟨uC,vg (by rw [ht];simp [mC]),trivial⟩
   .by_cases hk0:k=0
    .subst hk0;have hl0:l=[]:=List.length_eq_zero_iff.1 (by omega)
     subst hl0;simp only [go_sem,hlt];exact hK
    .have hlk:(sclM (rv x) (l.take k)).length=k:=by rw [W9,List.length_take];omega
     have et:l.take k=l:=List.take_of_length_le (by omega)
     simp only [go_sem,hlt,hk0];rw [if_pos (by omega),List.take_of_length_le (Nat.le_of_eq hlk),uo _ (of_eq_true (Wh _)),et]
     exact hK
theorem Qat(hΓ:Xa P Γ){f fi fv fs tE m:Nat}(hm:325<=m)(hi:Γ fi=.dat true Wo)(hv:Γ fv=.dat true qf)(hs:Γ fs=.dat false (QE m))(hc:check P f=some (28,(Xr fi fv fs tE).strip,[.tmp 2,.tmp 3])):ua P f (.dat false (YD tE)):=by
 refine ka hc (QaN tE) hΓ (λargs K hcl hfi hG=>?_);match args,hG with
 | [a],hG=>
  obtain⟨l,rfl,hw,hrl,hsz,hK⟩:=hG;refine⟨by simp,?_⟩
  by_cases h325:325<l.length
  .have e:mkC l=4:=if_pos h325;rw [e,Zd tE (by decide),wG (by decide)]at hK
   have h325' : (325:Int)<(l.length:Int):=by omega
   simp only [go_sem,Xr,h325'];exact λ_=>hK
  .have h325' : ¬(325:Int)<(l.length:Int):=by omega
   have e:mkC l=mkG l:=if_neg h325;rw [e]at hK;simp only [go_sem,Xr,h325'];intro _ _;refine Ya (λk:Nat=>⟨mkV [(0,msA l),(10,msA l),(11,.one (.lit (.int .i64 l.length))),(12,.one (.lit (.int .i64 k)))],mkH []⟩) (λk=>k<=l.length/\mkG l=mkG (l.drop k)) (λk=>l.length-k) 0 ?_ ?_ ?_
   .exact Qa (by simp [okS,okV,okC,okL,okH,okB,okE,ja,Ja,qa,Va,wsA,ws,msA,ms]) trivial
   .exact⟨Nat.zero_le _,rfl⟩
   .rintro k ⟨hk,hch⟩;by_cases hlt:k<l.length
    .obtain⟨x,hx⟩:∃x,l.getD k mo0=x:=⟨_,rfl⟩;have hx0:=getDm hlt hx;have hxm:=List.mem_of_getElem? hx0;have hwx:=hw x hxm;have hrx:=hrl x hxm;rw [Ybo hx0]at hch;by_cases a1:inM x
     .cases a2:vldR x.2.2 with
      | false=>
       have ec:mkT x=2:=by unfold mkT;rw [if_neg (by simp [a1]),if_pos a2]
       rw [ec,if_pos (by decide)]at hch
       rw [hch,Zd tE (by decide),wG (by decide)]at hK
       simp only [go_sem,hlt,hx,hi,hv,mC,a2];exact⟨hwx,λ_=>⟨hwx.2.2,hrx,hK⟩,λh=>absurd a1 h⟩
      | true=>
       have ec:mkT x=0:=by unfold mkT;rw [if_neg (by simp [a1]),if_neg (by simp [a2])]
       rw [ec,if_neg (by decide)]at hch
       simp only [go_sem,hlt,hx,hi,hv,mC,a2];exact⟨hwx,λ_=>⟨hwx.2.2,hrx,by omega,k+1,Qa (by simp [okS,okV,okC,okL,okH,okB,okE,ja,Ja,qa,Va,wsA,ws,msA,ms]) trivial,⟨by omega,hch⟩,by omega⟩,λh=>absurd a1 h⟩
     .have ec:mkT x=3:=by unfold mkT;rw [if_pos a1]
      rw [ec,if_pos (by decide)]at hch
      rw [hch,Zd tE (by decide),wG (by decide)]at hK
      simp only [go_sem,hlt,hx,hi,mC,decide_eq_false a1];exact⟨hwx,hK⟩
    .rw [List.drop_of_length_le (by omega)]at hch
     have e0:mkG []=0:=rfl;rw [e0]at hch;rw [hch,Qc,yC]at hK;have hin:=wbP hch;simp only [go_sem,hlt,hs];exact⟨hw,λt ht=>⟨(hin t ht).1,hrl t ht⟩,by omega,hsz,hK⟩
end Go.Abs
end
section
namespace Go.Num
open Go.Abs
theorem kbC{c:Rat}{p:List Mo}(hi:∀t∈p,inM t)(hw:∀t∈p,WLM t)(hr:∀t∈p,rl t.2.2<=1000000000)(hc:rz c<=1000000000):∀u∈sclM c p,WLM u/\inM u/\rl u.2.2<=4294967296:=by
 intro u hu;obtain⟨t,ht,rfl⟩:=List.mem_map.1 hu;obtain⟨w1,w2,w3⟩:=hw t ht;refine⟨⟨w1,w2,Zp _⟩,hi t ht,?_⟩;have h1:=Zc c (rv t.2.2);have h2:=Vg w3;have h3:=hr t ht;have h4:rl (rcan (c*rv t.2.2))=rz (c*rv t.2.2):=rfl;simp only;omega
theorem rneg1:((-1:Int):Rat) = -1:=by simp
end Go.Num
namespace Go.Abs
open Go.Num
variable {P:Program} {Γ:Nat->Spec}
def onM2f(k:List Mo->List Mo->Prop)(a:AV):Prop:=∃p q,a=.one (.full [[ms p],[ms q]])/\((∀x∈p,WLM x)/\(∀x∈q,WLM x))/\k p q
@[congr] theorem jb3{k:List Mo->List Mo->Prop}{a a'}(h:a=a'):onM2f k a=onM2f k a':=by subst h;rfl
theorem Jao(k:List Mo->List Mo->Prop)(p q:List Mo):onM2f k (.one (.full [[.slice (p.map mC)],[.slice (q.map mC)]]))=(((∀x∈p,WLM x)/\(∀x∈q,WLM x))/\k p q):=by
 refine propext ⟨λ⟨x,y,h,h1,h2⟩=>?_,λh=>⟨p,q,rfl,h⟩⟩;simp only [ms,AV.one.injEq,C.full.injEq,List.cons.injEq,C.slice.injEq,and_true]at h;obtain⟨e1,e2⟩:=h;have:=uq e1;have:=uq e2
 subst_vars;exact⟨h1,h2⟩
theorem UbE{β:Type}{T:List Mo->List Mo->(β->Prop)->Prop}(h:∀p q,GoodT (T p q)){a:AV}:GoodT λK=>onM2f (λp q=>T p q K) a:=
 .of λK hx=>by
  obtain⟨p,q,rfl,hw,hk⟩:=hx;have:(λK=>onM2f (λp q=>T p q K) (.one (.full [[ms p],[ms q]])))=λK=>((∀x∈p,WLM x)/\(∀x∈q,WLM x))/\T p q K:=funext λK=>Jao _ p q;rw [this];exact .and λ_=>h p q
attribute [go_sem,go_sem ↓] Jao
def UE(l:List AV)(K:List (List C)->Prop):Prop:=
 match l with
 | [a,n]=>a=.one .emp/\asInt (λk n=>k=.i64/\0<=n/\n<=1000000/\K []) n
 | _=>False
theorem ZaI a n K:UE [a,n] K=(a=.one .emp/\asInt (λk n=>k=.i64/\0<=n/\n<=1000000/\K []) n):=propext Iff.rfl
@[congr] theorem zb3{K}{l l'}(h:l=l'):UE l K=UE l' K:=by subst h;rfl
attribute [go_sem,go_sem ↓] ZaI
theorem yaN:Good UE:=Wa λas=>by
 unfold UE;split
 .exact(.and λ_=>(Xd (λ_ _=>(.and λ_=>(.and λ_=>(.and λ_=>(.ret _))))) _))
 .exact .of λK hk=>hk.elim
def jD(l:List AV)(K:List (List C)->Prop):Prop:=
 match l with
 | [a]=>onM2f (λp q=>p.length<=400000/\q.length<=400000/\K ((p++q).map mC)) a
 | _=>False
theorem waB a K:jD [a] K=onM2f (λp q=>p.length<=400000/\q.length<=400000/\K ((p++q).map mC)) a:=propext Iff.rfl
@[congr] theorem Xb1{K}{l l'}(h:l=l'):jD l K=jD l' K:=by subst h;rfl
attribute [go_sem,go_sem ↓] waB
theorem waQ:Good jD:=Wa λas=>by
 unfold jD;split
 .exact UbE λ_ _=>.and λ_=>.and λ_=>.ret _
 .exact .of λK hk=>hk.elim
def Wq:AC:=(.o [.m 4 (.c (.one .emp))] [0,1] (.f (.o [.M 5 1,.I 6 .lss 5 0] [0,1,6] (.cond (.t 6) (.p [.u 7 (.bad),.n (.bad)]) .skip)) [0,1] (.f (.o [.M 8 1,.M 9 0,.u 10 (.cap (.t 9)),.M 11 0,.Z 12 11,.B 13 .sub 10 12,.B 14 .sub 8 13,.M 1 14] [0,1] (.o [.M 15 1,.I 16 .gtr 15 0] [0,1,16] (.cond (.t 16) (.p [.M 17 0,.M 18 0,.u 19 (.cap (.t 18)),.u 20 (.sl 5 (.t 17) none (some (.t 19))),.M 21 1,.u 22 (.appz 5 [(.lit (.int .i64 0)),(.lit (.int .i64 0)),.z,.emp,.emp] (.t 20) (.t 21)),.M 23 0,.Z 24 23,.u 25 (.sl 5 (.t 22) none (some (.t 24))),.M 0 25]) .skip))) [0] (.seq (.p [.M 26 0,.M 4 26]) .ret))))
def Yn(f0:Nat):AC:=(.o [.m 2 (.c (.one .emp))] [0] (.o [.N 3 0] [0,3] (.f (.o [.M 9 0,.Z 10 9,.N 11 0] [0,3,9,10,11] (.block 0 (.loop (.o [.B 12 .lss 11 10] [0,3,9,10,11,12] (.f (.cond (.t 12) .skip (.exit 0)) [0,3,9,10,11] (.f (.block 1 (.o [.J 13 1 9 11,.F 14 1 13,.M 5 14] [0,3,5,9,10,11] (.o [.M 15 3,.M 16 5,.Z 17 16,.B 18 .add 15 17,.M 3 18] [0,3,9,10,11] (.o [.M 19 3,.I 20 .lss 19 0] [0,3,9,10,11,20] (.cond (.t 20) (.p [.u 21 (.bad),.n (.bad)]) .skip))))) [0,3,9,10,11] (.p [.I 22 .add 11 1,.M 11 22]))))))) [0,3] (.o [.M 23 3,.u 24 (.callf f0 [(.c (.one .emp)),(.t 23)]),.M 6 24] [0,6] (.f (.o [.M 25 0,.Z 26 25,.N 27 0] [6,25,26,27] (.block 2 (.loop (.o [.B 28 .lss 27 26] [6,25,26,27,28] (.f (.cond (.t 28) .skip (.exit 2)) [6,25,26,27] (.f (.block 3 (.o [.J 29 1 25 27,.F 30 1 29,.M 8 30] [6,8,25,26,27] (.p [.M 31 6,.M 32 8,.u 33 (.app 5 (.t 31) (.t 32)),.M 6 33]))) [6,25,26,27] (.p [.I 34 .add 27 1,.M 27 34]))))))) [6] (.seq (.p [.M 35 6,.M 2 35]) .ret))))))
def Zu(f0 f1 f2:Nat):AC:=(.o [.m 4 (.c (.one .emp)),.m 5 (.c (.one (.lit .nilIface)))] [0,1] (.f (.o [.M 7 0,.M 8 1,.u 9 (.row 1 [[.x 1 (.t 7)],[.x 1 (.t 8)]]),.H 10 f0 9,.M 6 10] [0,1,6] (.o [.M 11 6,.R 12 11] [0,1,6,12] (.cond (.t 12) (.seq (.p [.M 13 6,.m 4 (.c (.one .emp)),.M 5 13]) .ret) .skip))) [0,1] (.seq (.p [.M 14 0,.M 15 1,.u 16 (.row 1 [[.x 1 (.t 14)],[.x 1 (.t 15)]]),.u 17 (.callf f1 [(.t 16)]),.H 18 f2 17,.M 4 18,.m 5 (.c (.one (.lit .nilIface)))]) .ret)))
def ku(f0 f1 f2 f3 f4:Nat):AC:=(.o [.m 4 (.c (.one .emp)),.m 5 (.c (.one (.lit .nilIface)))] [0,1] (.f (.o [.M 7 0,.M 8 1,.u 9 (.row 1 [[.x 1 (.t 7)],[.x 1 (.t 8)]]),.H 10 f0 9,.M 6 10] [0,1,6] (.o [.M 11 6,.R 12 11] [0,1,6,12] (.cond (.t 12) (.seq (.p [.M 13 6,.m 4 (.c (.one .emp)),.M 5 13]) .ret) .skip))) [0,1] (.seq (.p [.M 14 0,.u 15 (.callf f1 [(.t 14)]),.M 16 1,.u 17 (.call f2 [(.i (-1))]),.D 18 f3 16 17,.u 19 (.app 5 (.t 15) (.t 18)),.H 20 f4 19,.M 4 20,.m 5 (.c (.one (.lit .nilIface)))]) .ret)))
theorem uau(hΓ:Xa P Γ){f:Nat}(hc:check P f=some (27,Wq.strip,[.tmp 4])):ua P f (.fresh 5 UE):=by
 refine xq hc yaN hΓ (λargs K hcl hfi hG=>?_);match args,hG with
 | [a,b],hG=>
  obtain⟨rfl,hG⟩:=hG;obtain⟨k,n,rfl,rfl,h0,h1,hK⟩:=Yb hG;refine⟨by simp,?_⟩
  simp only [go_sem,Wq];refine⟨λh=>by omega,λ_=>⟨by omega,by omega,λh=>⟨by omega,by omega,by omega,by omega,by omega,hK⟩,λh=>hK⟩⟩
def cat2(p q:List Mo):Nat->List Mo
 | 0=>[]
 | 1=>p
 | _=>p++q
theorem jau(hΓ:Xa P Γ){f fg:Nat}(hg:Γ fg=.fresh 5 UE)(hc:check P f=some (36,(Yn fg).strip,[.tmp 2])):ua P f (.fresh 5 jD):=by
 refine xq hc waQ hΓ (λargs K hcl hfi hG=>?_);match args,hG with
 | [a],hG=>
  obtain⟨p,q,rfl,⟨hwp,hwq⟩,hp,hq,hK⟩:=hG;refine⟨by simp,?_⟩
  simp only [go_sem,Yn,hg,ms];refine Ya (λk:Nat=>⟨mkV [(0,.one (.full [[ms p],[ms q]])),(3,.one (.lit (.int .i64 (cat2 p q k).length))),(9,.one (.full [[ms p],[ms q]])),(10,.one (.lit (.int .i64 2))),(11,.one (.lit (.int .i64 k)))],mkH []⟩) (λk=>k<=2) (λk=>2-k) 0 ?_ ?_ ?_
  .exact Qa (by simp [okS,okV,okC,okL,okH,okB,okE,ja,Ja,qa,Va,wsA,ws,ms,cat2]) trivial
  .decide
  .intro k hk2;have hk3:k=0∨k=1∨k=2:=by omega
   rcases hk3 with rfl | rfl | rfl
   .simp only [go_sem,c02,ms,cat2];exact λ_=>⟨by omega,λh=>by omega,λ_=>⟨by decide,1,Qa (by simp [okS,okV,okC,okL,okH,okB,okE,ja,Ja,qa,Va,wsA,ws,ms]) trivial,by omega,by omega⟩⟩
   .simp only [go_sem,c12,UV,ms,cat2];exact λ_=>⟨by omega,λh=>by omega,λ_=>⟨by decide,2,Qa (by simp [okS,okV,okC,okL,okH,okB,okE,ja,Ja,qa,Va,wsA,ws,ms]) trivial,by omega,by omega⟩⟩
   .simp only [go_sem,c22,ms,cat2,hg];refine⟨by rw [List.length_append];omega,?_⟩
    refine Ya (λk:Nat=>⟨mkV [(6,.one (.own 24 1 5 0 (cat2 p q k).length)),(25,.one (.full [[ms p],[ms q]])),(26,.one (.lit (.int .i64 2))),(27,.one (.lit (.int .i64 k)))],mkH [(24,⟨1,some ⟨(cat2 p q k).map mC,5,true⟩⟩)]⟩) (λk=>k<=2) (λk=>2-k) 0 ?_ ?_ ?_
    .exact Qa (by simp [okS,okV,okC,okL,okH,okB,okE,ja,Ja,qa,Va,wsA,ws,ms,cat2]) ⟨vg (by simp [cat2]),trivial⟩
    .decide
    .intro k hk2;have hk3:k=0∨k=1∨k=2:=by omega
     rcases hk3 with rfl | rfl | rfl
     .simp only [go_sem,c02,ms,cat2];exact⟨by omega,by decide,1,Qa (by simp [okS,okV,okC,okL,okH,okB,okE,ja,Ja,qa,Va,wsA,ws,ms]) ⟨vg rfl,trivial⟩,by omega,by omega⟩
     .simp only [go_sem,c12,UV,ms,cat2];exact⟨by omega,by decide,2,Qa (by simp [okS,okV,okC,okL,okH,okB,okE,ja,Ja,qa,Va,wsA,ws,ms]) ⟨vg rfl,trivial⟩,by omega,by omega⟩
     .simp only [go_sem,c22,ms,cat2];exact hK
theorem xaP(hΓ:Xa P Γ){f fk fc fs tE m:Nat}(hm:650<=m)(hk:Γ fk=.dat false (Ym tE))(hcc:Γ fc=.fresh 5 jD)(hs:Γ fs=.dat false (QE m))(hc:check P f=some (19,(Zu fk fc fs).strip,[.tmp 4,.tmp 5])):ua P f (.dat false (VL tE)):=by
 refine ka hc (Za2 tE) hΓ (λargs K hcl hfi hG=>?_);match args,hG with
 | [a,b],hG=>
  obtain⟨p,rfl,hwp,q,rfl,hwq,hp,hq,hsz,hK⟩:=hG;refine⟨by simp,?_⟩
  by_cases h0:chk2 p q=0
  .rw [h0,yC,Qc]at hK;obtain⟨c1,c2⟩:=Xaw h0;obtain⟨i1,j1,l1⟩:=ZE c1 hwp;obtain⟨i2,j2,l2⟩:=ZE c2 hwq;have e0:=Qc tE;rw [<-h0]at e0;simp only [go_sem,Zu,hk,hcc,hs,e0];refine⟨⟨hwp,hwq⟩,hp,hq,⟨hwp,hwq⟩,by omega,by omega,λx hx=>(List.mem_append.1 hx).elim (hwp x) (hwq x),λx hx=>(List.mem_append.1 hx).elim (λh=>⟨i1 x h,hp x h⟩) (λh=>⟨i2 x h,hq x h⟩),by rw [List.length_append];omega,by rw [List.map_append,Xj];exact hsz,?_⟩
   rw [List.map_append];exact hK
  .have e0:=Zd tE h0;rw [wG h0,e0]at hK;simp only [go_sem,Zu,hk,hcc,hs,e0];exact⟨⟨hwp,hwq⟩,hp,hq,hK⟩
theorem YaR(hΓ:Xa P Γ){f fk fc fo fl fs tE m:Nat}(hm:650<=m)(hk:Γ fk=.dat false (Ym tE))(hcl0:Γ fc=.fresh 5 qu)(ho:Γ fo=.dat false XE)(hl:Γ fl=.dat false yL)(hs:Γ fs=.dat false (QE m))(hc:check P f=some (21,(ku fk fc fo fl fs).strip,[.tmp 4,.tmp 5])):ua P f (.dat false (yK tE)):=by
 refine ka hc (waX tE) hΓ (λargs K hcl hfi hG=>?_);match args,hG with
 | [a,b],hG=>
  obtain⟨p,rfl,hwp,q,rfl,hwq,hp,hq,hsz,hK⟩:=hG;refine⟨by simp,?_⟩
  have hp' : ∀t∈p,rl t.2.2<=4294967296:=λt ht=>Nat.le_trans (hp t ht) (by decide)
  have hq' : ∀t∈q,rl t.2.2<=4294967296:=λt ht=>Nat.le_trans (hq t ht) (by decide)
  by_cases h0:chk2 p q=0
  .rw [h0,yC,Qc]at hK;obtain⟨c1,c2⟩:=Xaw h0;obtain⟨i1,j1,l1⟩:=ZE c1 hwp;obtain⟨i2,j2,l2⟩:=ZE c2 hwq;have e0:=Qc tE;rw [<-h0]at e0;simp only [go_sem,ku,hk,hcl0,ho,hl,hs,e0];have hz1:rz ((-1:Int):Rat)<=1000000000:=by rw [rneg1];have:=zat;omega
   have ho1:=kbC (c:=((-1:Int):Rat)) i2 hwq hq hz1;have hsl:=W9 ((-1:Int):Rat) q;refine⟨⟨hwp,hwq⟩,hp',hq',hwp,by omega,by decide,by decide,hwq,hq,hz1,by omega,by omega,?_⟩
   rw [if_pos (by rw [List.length_append];exact Nat.le_refl _),List.take_of_length_le (by rw [List.length_append];exact Nat.le_refl _),uo _ (of_eq_true (Wh _)),ZW]
   refine⟨λx hx=>(List.mem_append.1 hx).elim (hwp x) (λh=>(ho1 x h).1),λx hx=>(List.mem_append.1 hx).elim (λh=>⟨i1 x h,hp' x h⟩) (λh=>(ho1 x h).2),by rw [List.length_append];omega,?_,?_⟩
   .rw [List.map_append,Xj,ka5,rneg1,uY];exact hsz
   .rw [List.map_append,ka5,rneg1];exact hK
  .have e0:=Zd tE h0;rw [wG h0,e0]at hK;simp only [go_sem,ku,hk,hs,e0];exact⟨⟨hwp,hwq⟩,hp',hq',hK⟩
end Go.Abs
end
section
namespace Go.Num
open Go.Abs
def prodT(a b:Mo):Mo:=(a.1+b.1,a.2.1+b.2.1,rcan (rv a.2.2*rv b.2.2))
def prodM(p q:List Mo):List Mo:=p.flatMap λa=>q.map λb=>prodT a b
theorem xO(p q:List Mo):(prodM p q).map mv=mulL (p.map mv) (q.map mv):=by
 induction p with
 | nil=>rfl
 | cons a p ih=>
  have e:prodM (a::p) q=(q.map λb=>prodT a b)++prodM p q:=by unfold prodM;rw [List.flatMap_cons]
  rw [e,List.map_append,ih,List.map_cons,jI,List.map_map,List.map_map];congr 1;refine List.map_congr_left λb _=>?_;simp only [Function.comp,mv,prodT,mulT,Vb]
theorem zal(p q:List Mo):(prodM p q).length=p.length*q.length:=by
 have:=congrArg List.length (xO p q);rw [List.length_map,Zbo,List.length_map,List.length_map]at this;exact this
theorem qaP{p q:List Mo}{k:Nat}{a:Mo}(ha:p[k]?=some a):prodM (p.take (k+1)) q=prodM (p.take k) q++q.map λb=>prodT a b:=by
 unfold prodM;rw [List.take_add_one,ha,List.flatMap_append];simp
theorem Jbl{p q:List Mo}(hwp:∀t∈p,WLM t)(hwq:∀t∈q,WLM t)(hp:∀t∈p,rl t.2.2<=1000000000)(hq:∀t∈q,rl t.2.2<=1000000000)(hi:InQ (mulL (p.map mv) (q.map mv))):∀t∈prodM p q,WLM t/\inM t/\rl t.2.2<=4294967296:=by
 intro t ht;have h1:inM t:=hi (mv t) (by rw [<-xO];exact List.mem_map.2 ⟨t,ht,rfl⟩)
 obtain⟨a,ha,hb⟩:=List.mem_flatMap.1 ht;obtain⟨b,hb',rfl⟩:=List.mem_map.1 hb;obtain⟨x1,x2,x3⟩:=h1;refine⟨⟨?_,?_,Zp _⟩,⟨x1,x2,x3⟩,?_⟩
 .unfold i64r;omega
 .unfold i64r;omega
 .have h2:=Zc (rv a.2.2) (rv b.2.2);have h3:=Vg (hwp a ha).2.2;have h4:=Vg (hwq b hb').2.2;have h5:=hp a ha;have h6:=hq b hb';have h7:rl (prodT a b).2.2=rz (rv a.2.2*rv b.2.2):=rfl;omega
theorem xQ{p:BQ}(hp:Canon p):∀t∈p,t.1+t.2.1<=degB p:=by
 intro t ht;unfold degB;cases hl:p.getLast? with
 | none=>rw [List.getLast?_eq_none_iff]at hl;subst hl;simp at ht
 | some u=>
  simp only;obtain⟨ys,hys⟩:=List.getLast?_eq_some_iff.1 hl;rw [hys]at ht hp;obtain⟨_,_,h3⟩:=List.pairwise_append.1 hp.str;rcases List.mem_append.1 ht with ht | ht
  .have:=h3 t ht u (by simp)
   rw [Xcg (hp.ins t (by simp [ht])) (hp.ins u (by simp))]at this
   omega
  .rw [List.mem_singleton.1 ht];exact Int.le_refl _
theorem V8{p:BQ}(hp:Canon p):-1<=degB p/\degB p<=24:=by
 unfold degB;cases hl:p.getLast? with
 | none=>simp
 | some u=>
  simp only;obtain⟨a,b,c⟩:=hp.ins u (List.mem_of_getLast? hl);omega
theorem qap{p:BQ}(hp:Canon p)(h:p≠[]):0<=degB p:=by
 unfold degB;cases hl:p.getLast? with
 | none=>rw [List.getLast?_eq_none_iff]at hl;exact absurd hl h
 | some u=>
  simp only;obtain⟨a,b,c⟩:=hp.ins u (List.mem_of_getLast? hl);omega
theorem Yaj{p:BQ}(hp:Canon p):Deg (degB p).toNat p:=λt ht=>by
 have h1:=xQ hp t ht;have h2:=qap hp (λh=>by subst h;simp at ht)
 omega
theorem jbD:∀a<25,∀b<25,a+b<=24->tri (a+1)*tri (b+1)<=8281:=by decide
def mulC(p q:List Mo):Nat:=if chk2 p q≠0 then chk2 p q else if p≠[]/\q≠[]/\24<degM p+degM q then 4 else 0
theorem vb6{p q:List Mo}(hwp:∀t∈p,WLM t)(hwq:∀t∈q,WLM t)(h0:chk2 p q=0)(h1:¬(p≠[]/\q≠[]/\24<degM p+degM q)) :
  InQ (mulL (p.map mv) (q.map mv))/\p.length*q.length<=8281:=by
 obtain⟨c1,c2⟩:=Xaw h0;obtain⟨k1,e1⟩:=xG c1 hwp;obtain⟨k2,e2⟩:=xG c2 hwq;by_cases hp:p=[]
 .subst hp;exact⟨λt ht=>by simp [waa]at ht,by simp⟩
 by_cases hq:q=[]
 .subst hq;refine⟨?_,by simp⟩
  have:mulL (p.map mv) ([].map mv)=[]:=by unfold mulL;simp
  rw [this];exact λt ht=>by simp at ht
 have d1:degM p=degB (p.map mv):=by rw [<-kx,e1]
 have d2:degM q=degB (q.map mv):=by rw [<-kx,e2]
 have n1:=qap k1 (by simpa using hp)
 have n2:=qap k2 (by simpa using hq)
 have hd:degB (p.map mv)+degB (q.map mv)<=24:=by
  rw [<-d1,<-d2];exact Int.not_lt.1 λh=>h1 ⟨hp,hq,h⟩
 have D1:=Yaj k1;have D2:=Yaj k2;refine⟨uav k1.ins k2.ins D1 D2 (by omega),?_⟩
 have l1:=jH k1 D1;have l2:=jH k2 D2;rw [List.length_map]at l1 l2;exact Nat.le_trans (Nat.mul_le_mul l1 l2) (jbD _ (by omega) _ (by omega) (by omega))
end Go.Num
namespace Go.Abs
open Go.Num
variable {P:Program} {Γ:Nat->Spec}
def YM(tE:Nat)(l:List AV)(K:AV->Prop):Prop:=
 match l with
 | [a,b]=>onMs (λp=>onMs (λq=>(∀t∈p,rl t.2.2<=1000000000)/\(∀t∈q,rl t.2.2<=1000000000)/\sz (p.map mv)+sz (q.map mv)<=3000000/\K (.tup [.one (.slice ((bres (mulC p q) (mulB (p.map mv) (q.map mv))).map mC)),errV tE (mulC p q)])) b) a
 | _=>False
theorem xa6 tE a b K:YM tE [a,b] K=(onMs (λp=>onMs (λq=>(∀t∈p,rl t.2.2<=1000000000)/\(∀t∈q,rl t.2.2<=1000000000)/\sz (p.map mv)+sz (q.map mv)<=3000000/\K (.tup [.one (.slice ((bres (mulC p q) (mulB (p.map mv) (q.map mv))).map mC)),errV tE (mulC p q)])) b) a):=propext Iff.rfl
@[congr] theorem Zb7 tE{K}{l l'}(h:l=l'):YM tE l K=YM tE l' K:=by subst h;rfl
attribute [go_sem,go_sem ↓] xa6
theorem Xa4(tE:Nat):Good (YM tE):=Wa λas=>by
 unfold YM;split
 .exact(xt λ_=>(xt λ_=>(.and λ_=>(.and λ_=>(.and λ_=>(.ret _))))))
 .exact .of λK hk=>hk.elim
def Uo(f0 f1 f2 f3 tE:Nat):AC:=(.o [.m 4 (.c (.one .emp)),.m 5 (.c (.one (.lit .nilIface)))] [0,1] (.f (.o [.M 12 0,.M 13 1,.u 14 (.row 1 [[.x 1 (.t 12)],[.x 1 (.t 13)]]),.H 15 f0 14,.M 6 15] [0,1,6] (.o [.M 16 6,.R 17 16] [0,1,6,17] (.cond (.t 17) (.seq (.p [.M 18 6,.m 4 (.c (.one .emp)),.M 5 18]) .ret) .skip))) [0,1] (.f (.o [.M 19 0,.Z 20 19,.I 21 .gtr 20 0,.M 22 21,.V 23 22 true 1,.w 24 22 true (.len (.t 23)),.w 25 22 true (.bin .gtr (.t 24) (.i 0)),.P 26 22 25,.M 27 26,.V 28 27 true 0,.W 29 27 true f1 28,.V 30 27 true 1,.W 31 27 true f1 30,.w 32 27 true (.bin .add (.t 29) (.t 31)),.w 33 27 true (.bin .gtr (.t 32) (.i 24)),.P 34 27 33] [0,1,34] (.cond (.t 34) (.seq (.p [.u 35 (.iface tE (.i 4)),.m 4 (.c (.one .emp)),.M 5 35]) .ret) .skip)) [0,1] (.o [.m 7 (.c (.one .emp))] [0,1,7] (.f (.o [.M 36 0,.Z 37 36,.N 38 0] [1,7,36,37,38] (.block 0 (.loop (.o [.B 39 .lss 38 37] [1,7,36,37,38,39] (.f (.cond (.t 39) .skip (.exit 0)) [1,7,36,37,38] (.f (.block 1 (.o [.J 40 5 36 38,.L 41 5 40,.G 9 [(.lit (.int .i64 0)),(.lit (.int .i64 0)),.z,.emp,.emp],.S 5 9 41] [1,7,9,36,37,38] (.o [.M 42 1,.Z 43 42,.N 44 0] [1,7,9,36,37,38,42,43,44] (.block 2 (.loop (.o [.B 45 .lss 44 43] [1,7,9,36,37,38,42,43,44,45] (.f (.cond (.t 45) .skip (.exit 2)) [1,7,9,36,37,38,42,43,44] (.f (.block 3 (.o [.J 46 5 42 44,.L 47 5 46,.G 11 [(.lit (.int .i64 0)),(.lit (.int .i64 0)),.z,.emp,.emp],.S 5 11 47] [1,7,9,11,36,37,38,42,43,44] (.y [.M 48 7,.A 49 0 9,.F 50 1 49,.A 51 0 11,.F 52 1 51,.B 53 .add 50 52,.A 54 1 9,.F 55 1 54,.A 56 1 11,.F 57 1 56,.B 58 .add 55 57,.A 59 2 9,.L 60 3 59,.A 61 2 11,.L 62 3 61,.D 63 f2 60 62,.u 64 (.build [.x 1 (.t 53),.x 1 (.t 58),.x 3 (.t 63)]),.u 65 (.row 5 [[.x 5 (.t 64)]]),.u 66 (.app 5 (.t 48) (.t 65)),.M 7 66]))) [1,7,9,36,37,38,42,43,44] (.p [.I 67 .add 44 1,.M 44 67]))))))))) [1,7,36,37,38] (.p [.I 68 .add 38 1,.M 38 68]))))))) [7] (.seq (.p [.M 69 7,.H 70 f3 69,.M 4 70,.m 5 (.c (.one (.lit .nilIface)))]) .ret))))))
theorem YaN(hΓ:Xa P Γ){f fk fd fm fs tE m:Nat}(hm:10000<=m)(hk:Γ fk=.dat false (Ym tE))(hd:Γ fd=.dat true zN)(hmu:Γ fm=.dat false jl)(hs:Γ fs=.dat false (QE m))(hc:check P f=some (71,(Uo fk fd fm fs tE).strip,[.tmp 4,.tmp 5])):ua P f (.dat false (YM tE)):=by
 refine ka hc (Xa4 tE) hΓ (λargs K hcl hfi hG=>?_);match args,hG with
 | [a,b],hG=>
  obtain⟨p,rfl,hwp,q,rfl,hwq,hp,hq,hsz,hK⟩:=hG;refine⟨by simp,?_⟩
  have hp' : ∀t∈p,rl t.2.2<=4294967296:=λt ht=>Nat.le_trans (hp t ht) (by decide)
  have hq' : ∀t∈q,rl t.2.2<=4294967296:=λt ht=>Nat.le_trans (hq t ht) (by decide)
  by_cases h0:chk2 p q=0
  rotate_left
  .have e0:=Zd tE h0;have e1:mulC p q=chk2 p q:=if_pos h0;rw [e1,wG h0,e0]at hK;simp only [go_sem,Uo,hk,hs,e0];exact⟨⟨hwp,hwq⟩,hp',hq',hK⟩
  have e0:=Qc tE;rw [<-h0]at e0;obtain⟨c1,c2⟩:=Xaw h0;obtain⟨i1,j1,l1⟩:=ZE c1 hwp;obtain⟨i2,j2,l2⟩:=ZE c2 hwq;by_cases h1:p≠[]/\q≠[]/\24<degM p+degM q
  .have e1:mulC p q=4:=by unfold mulC;rw [if_neg (by simp [h0]),if_pos h1]
   rw [e1,wG (by decide),Zd tE (by decide)]at hK
   obtain⟨g1,g2,g3⟩:=h1;have n1:(0:Int)<(p.length:Int):=by have:=List.length_pos_iff.2 g1;omega
   have n2:(0:Int)<(q.length:Int):=by have:=List.length_pos_iff.2 g2;omega
   obtain⟨k1,e1⟩:=xG c1 hwp;obtain⟨k2,e2⟩:=xG c2 hwq;have d1:degM p=degB (p.map mv):=by rw [<-kx,e1]
   have d2:degM q=degB (q.map mv):=by rw [<-kx,e2]
   have b1:=V8 k1;have b2:=V8 k2;simp only [go_sem,Uo,hk,hd,hs,e0,n1,n2,g3];exact⟨⟨hwp,hwq⟩,hp',hq',λ_ _=>⟨hwp,i1,by omega,hwq,i2,by omega,⟨by omega,by omega⟩,hK⟩⟩
  .have e1:mulC p q=0:=by unfold mulC;rw [if_neg (by simp [h0]),if_neg h1]
   rw [e1,yC,Qc]at hK;obtain⟨hin,hl⟩:=vb6 hwp hwq h0 h1;obtain⟨k1,q1⟩:=xG c1 hwp;obtain⟨k2,q2⟩:=xG c2 hwq;have d1:degM p=degB (p.map mv):=by rw [<-kx,q1]
   have d2:degM q=degB (q.map mv):=by rw [<-kx,q2]
   have b1:=V8 k1;have b2:=V8 k2;simp only [go_sem,Uo,hk,hd,hs,e0];refine⟨⟨hwp,hwq⟩,hp',hq',λ_=>⟨λn1 _=>⟨λn2=>⟨hwp,i1,by omega,hwq,i2,by omega,⟨by omega,by omega⟩,λh=>?_,λ_ _=>?_⟩,λ_ _=>?_⟩,λ_ _=>?_⟩⟩
   .exact absurd ⟨List.length_pos_iff.1 (by omega),List.length_pos_iff.1 (by omega),h⟩ h1
   all_goals
    have hmb:mulB (p.map mv) (q.map mv)=nf ((prodM p q).map mv):=by unfold mulB;rw [xO]
    have hpo:=Jbl hwp hwq hp hq hin;have hpl:(prodM p q).length<=m:=by rw [zal];omega
    have hps:sz ((prodM p q).map mv)<=1000000000:=by
     rw [xO];have h1:=xa1 (p.map mv) (q.map mv);rw [List.length_map,List.length_map]at h1;have h2:=Nat.mul_le_mul l2 (Nat.le_refl (sz (p.map mv)));have h3:=Nat.mul_le_mul l1 (Nat.le_refl (sz (q.map mv)));omega
    rw [hmb]at hK;refine Ya (λk:Nat=>if prodM (p.take k) q=[] then ⟨mkV [(1,msA q),(7,.one .emp),(36,msA p),(37,.one (.lit (.int .i64 p.length))),(38,.one (.lit (.int .i64 k)))],mkH []⟩
      else ⟨mkV [(1,msA q),(7,.one (.own 66 1 5 0 (prodM (p.take k) q).length)),(36,msA p),(37,.one (.lit (.int .i64 p.length))),(38,.one (.lit (.int .i64 k)))],mkH [(66,⟨1,some ⟨(prodM (p.take k) q).map mC,5,true⟩⟩)]⟩) (λk=>k<=p.length) (λk=>p.length-k) 0 ?_ ?_ ?_
    .have e00:prodM (p.take 0) q=[]:=rfl;rw [if_pos e00];exact Qa (by simp [okS,okV,okC,okL,okH,okB,okE,ja,Ja,qa,Va,wsA,ws,msA,ms]) trivial
    .exact Nat.zero_le _
    .intro k hk2;by_cases hlt:k<p.length
     .obtain⟨x,hx⟩:∃x,p.getD k mo0=x:=⟨_,rfl⟩;have hx0:=getDm hlt hx;have hxm:=List.mem_of_getElem? hx0;have hpt:=qaP (q:=q) hx0;obtain⟨x1,x2,x3⟩:=i1 x hxm;have hwx:=(hwp x hxm).2.2;have hrx:=hp x hxm;obtain⟨A,hA⟩:∃A,prodM (p.take k) q=A:=⟨_,rfl⟩;rw [hA]at hpt;have hAl:A.length<=400000:=by
       rw [<-hA,zal,List.length_take];have:=Nat.mul_le_mul (show min k p.length<=325 by omega) l2
       omega
      by_cases hA0:A=[]
      .have hA':=hA;rw [hA0]at hA';simp only [go_sem,hlt,hx,hA',mC];intro _;refine Ya (λj:Nat=>if A++(q.take j).map (λb=>prodT x b)=[] then ⟨mkV [(1,msA q),(7,.one .emp),(9,.one (.ptr 9 1 0 0)),(36,msA p),(37,.one (.lit (.int .i64 p.length))),(38,.one (.lit (.int .i64 k))),(42,msA q),(43,.one (.lit (.int .i64 q.length))),(44,.one (.lit (.int .i64 j)))],mkH [(9,⟨1,some ⟨[mC x],5,true⟩⟩)]⟩
         else ⟨mkV [(1,msA q),(7,.one (.own 66 1 5 0 (A++(q.take j).map (λb=>prodT x b)).length)),(9,.one (.ptr 9 1 0 0)),(36,msA p),(37,.one (.lit (.int .i64 p.length))),(38,.one (.lit (.int .i64 k))),(42,msA q),(43,.one (.lit (.int .i64 q.length))),(44,.one (.lit (.int .i64 j)))],mkH [(9,⟨1,some ⟨[mC x],5,true⟩⟩),(66,⟨1,some ⟨(A++(q.take j).map (λb=>prodT x b)).map mC,5,true⟩⟩)]⟩) (λj=>j<=q.length) (λj=>q.length-j) 0 ?_ ?_ ?_
       .have e0:A++(q.take 0).map (λb=>prodT x b)=A:=by simp
        rw [e0]
        first
         | (rw [if_pos hA0];exact Qa (by simp [okS,okV,okC,okL,okH,okB,okE,ja,Ja,qa,Va,wsA,ws,msA,ms]) ⟨vg (l':=[x]) rfl,trivial⟩)
         | (rw [if_neg hA0];exact Qa (by simp [okS,okV,okC,okL,okH,okB,okE,ja,Ja,qa,Va,wsA,ws,msA,ms]) ⟨vg (l':=[x]) rfl,vg rfl,trivial⟩)
       .exact Nat.zero_le _
       .intro j hj2;by_cases hlj:j<q.length
        .obtain⟨y,hy⟩:∃y,q.getD j mo0=y:=⟨_,rfl⟩;have hy0:=getDm hlj hy;have hym:=List.mem_of_getElem? hy0;obtain⟨y1,y2,y3⟩:=i2 y hym;have hwy:=(hwq y hym).2.2;have hry:=hq y hym;have hqt:A++(q.take (j+1)).map (λb=>prodT x b)=A++(q.take j).map (λb=>prodT x b)++[prodT x y]:=by rw [List.take_add_one,hy0];simp
         obtain⟨B,hB⟩:∃B,A++(q.take j).map (λb=>prodT x b)=B:=⟨_,rfl⟩;rw [hB]at hqt;have hBl:B.length<=500000:=by
          rw [<-hB,List.length_append,List.length_map,List.length_take];omega
         by_cases hB0:B=[]
         .rw [hB0]at hB;simp only [go_sem,hlj,hy,hB,hmu,mC];refine⟨⟨by omega,by omega⟩,⟨by omega,by omega⟩,hwx,hwy,by omega,by omega,λe he=>by rw [List.mem_singleton.1 he];rfl,?_⟩
          repeat first | refine Wk ?_ | intro _
          refine⟨j+1,?_,by omega,by omega⟩
          rw [hqt,if_neg (by simp)]
          exact Qa (by simp [okS,okV,okC,okL,okH,okB,okE,ja,Ja,qa,Va,wsA,ws,msA,ms,hB0]) ⟨vg (l':=[x]) rfl,vg (by rw [hB0];simp [mC,prodT]),trivial⟩
         .simp only [go_sem,hlj,hy,hB,hB0,hmu,mC];refine⟨⟨by omega,by omega⟩,⟨by omega,by omega⟩,hwx,hwy,by omega,by omega,λe he=>by rw [List.mem_singleton.1 he];rfl,?_⟩
          repeat first | refine Wk ?_ | intro _
          refine⟨j+1,?_,by omega,by omega⟩
          rw [hqt,if_neg (by simp)]
          exact Qa (by simp [okS,okV,okC,okL,okH,okB,okE,ja,Ja,qa,Va,wsA,ws,msA,ms]) ⟨vg (l':=[x]) rfl,vg (by simp [mC,prodT]),trivial⟩
        .have ej:A++(q.take j).map (λb=>prodT x b)=prodM (p.take (k+1)) q:=by rw [hpt,List.take_of_length_le (by omega)]
         obtain⟨B,hB⟩:∃B,prodM (p.take (k+1)) q=B:=⟨_,rfl⟩;rw [hB]at ej;by_cases hB0:B=[]
         .rw [hB0]at ej;simp only [go_sem,hlj,ej,mC];repeat first | refine Wk ?_ | intro _
          refine⟨k+1,?_,by omega,by omega⟩
          rw [hB,if_pos hB0];exact Qa (by simp [okS,okV,okC,okL,okH,okB,okE,ja,Ja,qa,Va,wsA,ws,msA,ms]) trivial
         .simp only [go_sem,hlj,ej,hB0,mC];repeat first | refine Wk ?_ | intro _
          refine⟨k+1,?_,by omega,by omega⟩
          rw [hB,if_neg hB0];exact Qa (by simp [okS,okV,okC,okL,okH,okB,okE,ja,Ja,qa,Va,wsA,ws,msA,ms]) ⟨vg rfl,trivial⟩
      .simp only [go_sem,hlt,hx,hA,hA0,mC];intro _;refine Ya (λj:Nat=>if A++(q.take j).map (λb=>prodT x b)=[] then ⟨mkV [(1,msA q),(7,.one .emp),(9,.one (.ptr 9 1 0 0)),(36,msA p),(37,.one (.lit (.int .i64 p.length))),(38,.one (.lit (.int .i64 k))),(42,msA q),(43,.one (.lit (.int .i64 q.length))),(44,.one (.lit (.int .i64 j)))],mkH [(9,⟨1,some ⟨[mC x],5,true⟩⟩)]⟩
         else ⟨mkV [(1,msA q),(7,.one (.own 66 1 5 0 (A++(q.take j).map (λb=>prodT x b)).length)),(9,.one (.ptr 9 1 0 0)),(36,msA p),(37,.one (.lit (.int .i64 p.length))),(38,.one (.lit (.int .i64 k))),(42,msA q),(43,.one (.lit (.int .i64 q.length))),(44,.one (.lit (.int .i64 j)))],mkH [(9,⟨1,some ⟨[mC x],5,true⟩⟩),(66,⟨1,some ⟨(A++(q.take j).map (λb=>prodT x b)).map mC,5,true⟩⟩)]⟩) (λj=>j<=q.length) (λj=>q.length-j) 0 ?_ ?_ ?_
       .have e0:A++(q.take 0).map (λb=>prodT x b)=A:=by simp
        rw [e0]
        first
         | (rw [if_pos hA0];exact Qa (by simp [okS,okV,okC,okL,okH,okB,okE,ja,Ja,qa,Va,wsA,ws,msA,ms]) ⟨vg (l':=[x]) rfl,trivial⟩)
         | (rw [if_neg hA0];exact Qa (by simp [okS,okV,okC,okL,okH,okB,okE,ja,Ja,qa,Va,wsA,ws,msA,ms]) ⟨vg (l':=[x]) rfl,vg rfl,trivial⟩)
       .exact Nat.zero_le _
       .intro j hj2;by_cases hlj:j<q.length
        .obtain⟨y,hy⟩:∃y,q.getD j mo0=y:=⟨_,rfl⟩;have hy0:=getDm hlj hy;have hym:=List.mem_of_getElem? hy0;obtain⟨y1,y2,y3⟩:=i2 y hym;have hwy:=(hwq y hym).2.2;have hry:=hq y hym;have hqt:A++(q.take (j+1)).map (λb=>prodT x b)=A++(q.take j).map (λb=>prodT x b)++[prodT x y]:=by rw [List.take_add_one,hy0];simp
         obtain⟨B,hB⟩:∃B,A++(q.take j).map (λb=>prodT x b)=B:=⟨_,rfl⟩;rw [hB]at hqt;have hBl:B.length<=500000:=by
          rw [<-hB,List.length_append,List.length_map,List.length_take];omega
         by_cases hB0:B=[]
         .rw [hB0]at hB;simp only [go_sem,hlj,hy,hB,hmu,mC];refine⟨⟨by omega,by omega⟩,⟨by omega,by omega⟩,hwx,hwy,by omega,by omega,λe he=>by rw [List.mem_singleton.1 he];rfl,?_⟩
          repeat first | refine Wk ?_ | intro _
          refine⟨j+1,?_,by omega,by omega⟩
          rw [hqt,if_neg (by simp)]
          exact Qa (by simp [okS,okV,okC,okL,okH,okB,okE,ja,Ja,qa,Va,wsA,ws,msA,ms,hB0]) ⟨vg (l':=[x]) rfl,vg (by rw [hB0];simp [mC,prodT]),trivial⟩
         .simp only [go_sem,hlj,hy,hB,hB0,hmu,mC];refine⟨⟨by omega,by omega⟩,⟨by omega,by omega⟩,hwx,hwy,by omega,by omega,λe he=>by rw [List.mem_singleton.1 he];rfl,?_⟩
          repeat first | refine Wk ?_ | intro _
          refine⟨j+1,?_,by omega,by omega⟩
          rw [hqt,if_neg (by simp)]
          exact Qa (by simp [okS,okV,okC,okL,okH,okB,okE,ja,Ja,qa,Va,wsA,ws,msA,ms]) ⟨vg (l':=[x]) rfl,vg (by simp [mC,prodT]),trivial⟩
        .have ej:A++(q.take j).map (λb=>prodT x b)=prodM (p.take (k+1)) q:=by rw [hpt,List.take_of_length_le (by omega)]
         obtain⟨B,hB⟩:∃B,prodM (p.take (k+1)) q=B:=⟨_,rfl⟩;rw [hB]at ej;by_cases hB0:B=[]
         .rw [hB0]at ej;simp only [go_sem,hlj,ej,mC];repeat first | refine Wk ?_ | intro _
          refine⟨k+1,?_,by omega,by omega⟩
          rw [hB,if_pos hB0];exact Qa (by simp [okS,okV,okC,okL,okH,okB,okE,ja,Ja,qa,Va,wsA,ws,msA,ms]) trivial
         .simp only [go_sem,hlj,ej,hB0,mC];repeat first | refine Wk ?_ | intro _
          refine⟨k+1,?_,by omega,by omega⟩
          rw [hB,if_neg hB0];exact Qa (by simp [okS,okV,okC,okL,okH,okB,okE,ja,Ja,qa,Va,wsA,ws,msA,ms]) ⟨vg rfl,trivial⟩
     .have ek:p.take k=p:=List.take_of_length_le (by omega)
      by_cases hA0:prodM p q=[]
      .rw [hA0]at hK;simp only [go_sem,hlt,ek,hA0,hs];exact⟨by simp,by omega,by simp [sz],hK⟩
      .simp only [go_sem,hlt,ek,hA0,hs];exact⟨λt ht=>(hpo t ht).1,λt ht=>(hpo t ht).2,hpl,hps,hK⟩
end Go.Abs
end
section
namespace Go.Num
open Go.Abs
theorem WbV{l:BQ}(h:InQ l)(x y:Rat):rz (ev l x y)<=sz l+l.length*(24*(rz x+2)+24*(rz y+2)+8):=by
 induction l with
 | nil=>have:=rz_0;simp only [ev,sz];omega
 | cons t l ih=>
  obtain⟨⟨a,b,c⟩,h2⟩:=Yf.1 h;have ih:=ih h2;have h3:=Wam x t.1.toNat;have h4:=Wam y t.2.1.toNat;have h5:=Zc (pw x t.1.toNat) (pw y t.2.1.toNat);have h6:=Zc t.2.2 (pw x t.1.toNat*pw y t.2.1.toNat);have h7:=km (mev t x y) (ev l x y);have h8:t.1.toNat*(rz x+2)<=24*(rz x+2):=Nat.mul_le_mul_right _ (by omega)
  have h9:t.2.1.toNat*(rz y+2)<=24*(rz y+2):=Nat.mul_le_mul_right _ (by omega)
  have h10:mev t x y=t.2.2*(pw x t.1.toNat*pw y t.2.1.toNat):=rfl;rw [h10]at h7;simp only [ev,mev,sz,List.length_cons,Nat.add_mul,Nat.one_mul]at *
  omega
theorem UbI{l:List Mo}{k:Nat}{t:Mo}(ht:l[k]?=some t)(x y:Rat):ev ((l.take (k+1)).map mv) x y=ev ((l.take k).map mv) x y+rv t.2.2*(pw x t.1.toNat*pw y t.2.1.toNat):=by
 rw [zS ht,Ur];simp only [ev,mev,mv,Rat.add_zero]
theorem rone1:((1:Int):Rat)=1:=by simp
end Go.Num
namespace Go.Abs
open Go.Num
variable {P:Program} {Γ:Nat->Spec}
theorem Jb8(N:Nat):mx (N:Int) (-(N:Int))=N:=by
 unfold mx;split <;> omega
theorem rQ_0:rQ 0=.agg [.lit (.bool false),.slice [],.slice []]:=by unfold rQ;rw [ub];rfl
theorem qaN{h h' : Nat->HB}{z:Nat}{b:Bool}:okB h h' (some ⟨[[.lit (.bool false),.emp,.emp]],z,b⟩) (some ⟨[[.lit (.bool false),.emp,.emp]],z,b⟩):=
 ⟨⟨rfl,rfl⟩,.inl ⟨rfl,λe he c hc=>by
  rw [List.mem_singleton]at he;subst he;simp only [List.mem_cons,List.not_mem_nil,or_false]at hc;rcases hc with rfl | rfl | rfl
  .exact .lit _
  .exact .emp
  .exact .emp⟩⟩
def ZI(tE:Nat)(l:List AV)(K:AV->Prop):Prop:=
 match l with
 | [a,n]=>onR (λx=>asInt (λk n=>k=.i64/\0<=n/\n<=64/\rl x<=10000000/\K (.tup [rQ (pw (rv x) n.toNat),errV tE 0])) n) a
 | _=>False
theorem ya9 tE a n K:ZI tE [a,n] K=(onR (λx=>asInt (λk n=>k=.i64/\0<=n/\n<=64/\rl x<=10000000/\K (.tup [rQ (pw (rv x) n.toNat),errV tE 0])) n) a):=propext Iff.rfl
@[congr] theorem Zcc tE{K}{l l'}(h:l=l'):ZI tE l K=ZI tE l' K:=by subst h;rfl
attribute [go_sem,go_sem ↓] ya9
theorem waW(tE:Nat):Good (ZI tE):=Wa λas=>by
 unfold ZI;split
 .exact(Jj λ_=>(Xd (λ_ _=>(.and λ_=>(.and λ_=>(.and λ_=>(.and λ_=>(.ret _)))))) _))
 .exact .of λK hk=>hk.elim
def XD(tE:Nat)(l:List AV)(K:AV->Prop):Prop:=
 match l with
 | [a,b,c]=>onMs (λp=>onR (λx=>onR (λy=>(∀t∈p,rl t.2.2<=1000000000)/\rl x<=10000/\rl y<=10000/\sz (p.map mv)<=100000000/\K (.tup [rQ (if chkB p=0 then ev (p.map mv) (rv x) (rv y) else 0),errV tE (chkB p)])) c) b) a
 | _=>False
theorem zaF tE a b c K:XD tE [a,b,c] K=(onMs (λp=>onR (λx=>onR (λy=>(∀t∈p,rl t.2.2<=1000000000)/\rl x<=10000/\rl y<=10000/\sz (p.map mv)<=100000000/\K (.tup [rQ (if chkB p=0 then ev (p.map mv) (rv x) (rv y) else 0),errV tE (chkB p)])) c) b) a):=propext Iff.rfl
@[congr] theorem Wb1 tE{K}{l l'}(h:l=l'):XD tE l K=XD tE l' K:=by subst h;rfl
attribute [go_sem,go_sem ↓] zaF
theorem JaR(tE:Nat):Good (XD tE):=Wa λas=>by
 unfold XD;split
 .exact(xt λ_=>(Jj λ_=>(Jj λ_=>(.and λ_=>(.and λ_=>(.and λ_=>(.and λ_=>(.ret _))))))))
 .exact .of λK hk=>hk.elim
def yq(f0 f1 f2 tE:Nat):AC:=(.o [.K 2 3 0,.G 4 [.z,.emp,.emp],.m 5 (.c (.one (.lit .nilIface)))] [1,2,4] (.f (.o [.M 7 1,.I 8 .lss 7 (-64),.M 9 8,.V 10 9 false 1,.w 11 9 false (.bin .gtr (.t 10) (.i 64)),.Q 12 9 11] [1,2,4,12] (.cond (.t 12) (.seq (.p [.u 13 (.build [.z [.z,.emp,.emp]]),.u 14 (.iface tE (.i 3)),.S 3 4 13,.M 5 14]) .ret) .skip)) [1,2,4] (.o [.u 15 (.call f0 [(.i 1)]),.G 6 [.z,.emp,.emp],.S 3 6 15] [1,2,4,6] (.f (.o [.M 16 1,.M 17 1,.u 18 (.un .neg (.t 17)),.u 19 (.max [(.t 16),(.t 18)]),.N 20 0] [1,2,4,6,19,20] (.block 0 (.loop (.o [.B 21 .lss 20 19] [1,2,4,6,19,20,21] (.f (.cond (.t 21) .skip (.exit 0)) [1,2,4,6,19,20] (.f (.block 1 (.p [.L 22 3 6,.L 23 3 2,.D 24 f1 22 23,.S 3 6 24])) [1,2,4,6,19,20] (.p [.I 25 .add 20 1,.M 20 25]))))))) [1,4,6] (.f (.o [.M 26 1,.I 27 .lss 26 0] [4,6,27] (.cond (.t 27) (.seq (.y [.u 28 (.call f0 [(.i 1)]),.L 29 3 6,.D 30 f2 28 29,.X 31 0 30,.X 32 1 30,.S 3 4 31,.M 5 32]) .ret) .skip)) [4,6] (.seq (.p [.L 33 3 6,.S 3 4 33,.m 5 (.c (.one (.lit .nilIface)))]) .ret))))))
def xr(f0 f1 f2 f3:Nat):AC:=(.o [.K 4 3 1,.K 5 3 2,.G 6 [.z,.emp,.emp],.m 7 (.c (.one (.lit .nilIface)))] [0,4,5,6] (.f (.o [.M 15 0,.H 16 f0 15,.M 8 16] [0,4,5,6,8] (.o [.M 17 8,.R 18 17] [0,4,5,6,8,18] (.cond (.t 18) (.seq (.p [.u 19 (.build [.z [.z,.emp,.emp]]),.M 20 8,.S 3 6 19,.M 7 20]) .ret) .skip))) [0,4,5,6] (.o [.G 9 [.z,.emp,.emp]] [0,4,5,6,9] (.f (.o [.M 21 0,.Z 22 21,.N 23 0] [4,5,6,9,21,22,23] (.block 0 (.loop (.o [.B 24 .lss 23 22] [4,5,6,9,21,22,23,24] (.f (.cond (.t 24) .skip (.exit 0)) [4,5,6,9,21,22,23] (.f (.block 1 (.o [.J 25 5 21 23,.L 26 5 25,.G 11 [(.lit (.int .i64 0)),(.lit (.int .i64 0)),.z,.emp,.emp],.S 5 11 26] [4,5,6,9,11,21,22,23] (.o [.L 28 3 4,.A 29 0 11,.F 30 1 29,.D 31 f1 28 30,.M 27 31,.X 32 0 27,.X 33 1 27,.G 12 [.z,.emp,.emp],.S 3 12 32,.M 13 33] [4,5,6,9,11,12,13,21,22,23] (.f (.o [.M 34 13,.R 35 34] [4,5,6,9,11,12,13,21,22,23,35] (.cond (.t 35) (.seq (.p [.u 36 (.build [.z [.z,.emp,.emp]]),.M 37 13,.S 3 6 36,.M 7 37]) .ret) .skip)) [4,5,6,9,11,12,21,22,23] (.o [.L 39 3 5,.A 40 1 11,.F 41 1 40,.D 42 f1 39 41,.M 38 42,.X 43 0 38,.X 44 1 38,.G 14 [.z,.emp,.emp],.S 3 14 43,.M 13 44] [4,5,6,9,11,12,13,14,21,22,23] (.f (.o [.M 45 13,.R 46 45] [4,5,6,9,11,12,13,14,21,22,23,46] (.cond (.t 46) (.seq (.p [.u 47 (.build [.z [.z,.emp,.emp]]),.M 48 13,.S 3 6 47,.M 7 48]) .ret) .skip)) [4,5,6,9,11,12,14,21,22,23] (.y [.L 49 3 9,.A 50 2 11,.L 51 3 50,.L 52 3 12,.L 53 3 14,.D 54 f2 52 53,.D 55 f2 51 54,.D 56 f3 49 55,.S 3 9 56]))))))) [4,5,6,9,21,22,23] (.p [.I 57 .add 23 1,.M 23 57]))))))) [6,9] (.seq (.p [.L 58 3 9,.S 3 6 58,.m 7 (.c (.one (.lit .nilIface)))]) .ret)))))
theorem JaS(hΓ:Xa P Γ){f fo fm fd tE:Nat}(ho:Γ fo=.dat false XE)(hm:Γ fm=.dat false jl)(hc:check P f=some (34,(yq fo fm fd tE).strip,[.cell 4 3 true,.tmp 5])):ua P f (.dat false (ZI tE)):=by
 refine ka hc (waW tE) hΓ (λargs K hcl hfi hG=>?_);match args,hG with
 | [a,b],hG=>
  obtain⟨x,rfl,hwx,hG⟩:=hG;obtain⟨k,n,rfl,rfl,h0,h1,hrx,hK⟩:=Yb hG;refine⟨by simp,?_⟩
  obtain⟨N,rfl⟩:∃N:Nat,n=N:=⟨n.toNat,by omega⟩
  rw [Int.toNat_natCast,Qc]at hK;have n1:¬(N:Int) < -64:=by omega
  have n2:¬(64:Int)<(N:Int):=by omega
  have n3:¬(N:Int)<0:=by omega
  simp only [go_sem,yq,ho,rA,n1,n2,Jb8,rone1];refine⟨by decide,by decide,⟨by omega,by omega⟩,?_⟩
  refine Ya (λk:Nat=>⟨mkV [(1,.one (.lit (.int .i64 N))),(2,.one (.ptr 2 1 0 0)),(4,.one (.ptr 4 1 0 0)),(6,.one (.ptr 6 1 0 0)),(19,.one (.lit (.int .i64 N))),(20,.one (.lit (.int .i64 k)))],mkH [(2,⟨1,some ⟨[[cb x,cn x,cd x]],3,true⟩⟩),(4,⟨1,some ⟨[[.lit (.bool false),.emp,.emp]],3,true⟩⟩),(6,⟨1,some ⟨[[cb (rcan (pw (rv x) k)),cn (rcan (pw (rv x) k)),cd (rcan (pw (rv x) k))]],3,true⟩⟩)]⟩) (λk=>k<=N) (λk=>N-k) 0 ?_ ?_ ?_
  .exact Qa (by simp [okS,okV,okC,okL,okH,okB,okE,ja,Ja,qa,Va,wsA,ws]) ⟨uC,qaN,uC,trivial⟩
  .exact Nat.zero_le _
  .intro k hk;have hz:=Wam (rv x) k;have hz2:=Vg hwx;have hz3:k*(rz (rv x)+2)<=64*(rz (rv x)+2):=Nat.mul_le_mul_right _ (by omega)
   by_cases hlt:k<N
   .simp only [go_sem,hlt,hm,Vb];exact⟨hwx,by omega,by omega,by omega,k+1,Qa (by simp [okS,okV,okC,okL,okH,okB,okE,ja,Ja,qa,Va,wsA,ws]) ⟨uC,qaN,uC,trivial⟩,by omega,by omega⟩
   .have ek:k=N:=by omega
    subst ek;simp only [go_sem,hlt,n3,Int.lt_irrefl,Nat.lt_irrefl];exact hK
theorem Qap(hΓ:Xa P Γ){f fk fp fm fa tE:Nat}(hk:Γ fk=.dat false (yr tE))(hp:Γ fp=.dat false (ZI tE))(hm:Γ fm=.dat false jl)(ha:Γ fa=.dat false wl)(hc:check P f=some (59,(xr fk fp fm fa).strip,[.cell 6 3 true,.tmp 7])):ua P f (.dat false (XD tE)):=by
 refine ka hc (JaR tE) hΓ (λargs K hcl hfi hG=>?_);match args,hG with
 | [a,b,c],hG=>
  obtain⟨p,rfl,hwp,x,rfl,hwx,y,rfl,hwy,hrp,hrx,hry,hsz,hK⟩:=hG;refine⟨by simp,?_⟩
  have hrp' : ∀t∈p,rl t.2.2<=4294967296:=λt ht=>Nat.le_trans (hrp t ht) (by decide)
  by_cases h0:chkB p=0
  .have e0:=Qc tE;rw [if_pos h0,h0,Qc]at hK;rw [<-h0]at e0;obtain⟨i1,j1,l1⟩:=ZE h0 hwp;simp only [go_sem,xr,hk,rA,e0];refine⟨hwp,hrp',λ_=>?_⟩;refine Ya (λk:Nat=>⟨mkV [(4,.one (.ptr 4 1 0 0)),(5,.one (.ptr 5 1 0 0)),(6,.one (.ptr 6 1 0 0)),(9,.one (.ptr 9 1 0 0)),(21,msA p),(22,.one (.lit (.int .i64 p.length))),(23,.one (.lit (.int .i64 k)))],mkH [(4,⟨1,some ⟨[[cb x,cn x,cd x]],3,true⟩⟩),(5,⟨1,some ⟨[[cb y,cn y,cd y]],3,true⟩⟩),(6,⟨1,some ⟨[[.lit (.bool false),.emp,.emp]],3,true⟩⟩),(9,⟨1,some ⟨[if k=0 then [.lit (.bool false),.emp,.emp] else [cb (rcan (ev ((p.take k).map mv) (rv x) (rv y))),cn (rcan (ev ((p.take k).map mv) (rv x) (rv y))),cd (rcan (ev ((p.take k).map mv) (rv x) (rv y)))]],3,true⟩⟩)]⟩) (λk=>k<=p.length) (λk=>p.length-k) 0 ?_ ?_ ?_
   .rw [if_pos rfl];exact Qa (by simp [okS,okV,okC,okL,okH,okB,okE,ja,Ja,qa,Va,wsA,ws,msA,ms]) ⟨uC,uC,qaN,qaN,trivial⟩
   .exact Nat.zero_le _
   .intro k hk2;by_cases hlt:k<p.length
    .obtain⟨t,ht⟩:∃t,p.getD k mo0=t:=⟨_,rfl⟩;have ht0:=getDm hlt ht;have htm:=List.mem_of_getElem? ht0;obtain⟨t1,t2,t3⟩:=i1 t htm;have hwt:=(hwp t htm).2.2;have hrt:=hrp t htm;have het:=UbI ht0 (rv x) (rv y);have z0:=rz_0;have z1:=Vg hwx;have z2:=Vg hwy;have z3:=Vg hwt;have z4:=Wam (rv x) t.1.toNat;have z5:=Wam (rv y) t.2.1.toNat;have z6:t.1.toNat*(rz (rv x)+2)<=24*(rz (rv x)+2):=Nat.mul_le_mul_right _ (by omega)
     have z7:t.2.1.toNat*(rz (rv y)+2)<=24*(rz (rv y)+2):=Nat.mul_le_mul_right _ (by omega)
     have z8:=Zc (pw (rv x) t.1.toNat) (pw (rv y) t.2.1.toNat);have z9:=Zc (rv t.2.2) (pw (rv x) t.1.toNat*pw (rv y) t.2.1.toNat);have z10:rz (ev ((p.take k).map mv) (rv x) (rv y))<=1000000000:=by
      have w1:=WbV (l:=(p.take k).map mv) (λu hu=>by
       obtain⟨v,hv,rfl⟩:=List.mem_map.1 hu;exact i1 v (List.mem_of_mem_take hv)) (rv x) (rv y)
      have w2:=UJ (p.map mv) k;rw [<-List.map_take]at w2;rw [List.length_map,List.length_take]at w1;have w3:=Nat.mul_le_mul (show min k p.length<=325 by omega) (show 24*(rz (rv x)+2)+24*(rz (rv y)+2)+8<=24*10002+24*10002+8 by omega)
      omega
     have e1:=Qc tE;by_cases hk0:k=0
     .subst hk0;simp only [go_sem,hlt,ht,hp,hm,ha,mC,e1,Vb,rQ];repeat first | refine Wk ?_ | intro _
      refine⟨1,?_,by omega,by omega⟩
      rw [if_neg (by decide)]
      have het0:ev ((p.take 1).map mv) (rv x) (rv y)=0+rv t.2.2*(pw (rv x) t.1.toNat*pw (rv y) t.2.1.toNat):=het;rw [het0];exact Qa (by simp [okS,okV,okC,okL,okH,okB,okE,ja,Ja,qa,Va,wsA,ws,msA,ms]) ⟨uC,uC,qaN,uC,trivial⟩
     .simp only [go_sem,hlt,ht,hp,hm,ha,mC,e1,Vb,rQ,hk0];repeat first | refine Wk ?_ | intro _
      refine⟨k+1,?_,by omega,by omega⟩
      rw [if_neg (by omega),het]
      exact Qa (by simp [okS,okV,okC,okL,okH,okB,okE,ja,Ja,qa,Va,wsA,ws,msA,ms]) ⟨uC,uC,qaN,uC,trivial⟩
    .have ek:p.take k=p:=List.take_of_length_le (by omega)
     by_cases hk0:k=0
     .subst hk0;simp only [go_sem,hlt,rQ];have hp0:p=[]:=List.length_eq_zero_iff.1 (by omega)
      subst hp0;have e00:ev (([]:List Mo).map mv) (rv x) (rv y)=0:=rfl;rw [e00,rQ_0]at hK;exact hK
     .simp only [go_sem,hlt,rQ,hk0,ek];exact hK
  .have e0:=Zd tE h0;rw [if_neg h0,e0]at hK;simp only [go_sem,xr,hk,rA,e0];rw [rQ_0]at hK;exact⟨hwp,hrp',hK⟩
end Go.Abs
end
section
namespace Go.Num
abbrev CpR:=V2×V2×Rat×Rat×Rat×Rat×Rat
structure CB (c:CpR):Prop where
 o1:rz c.1.1<=4000
 o2:rz c.1.2<=4000
 q1:rz c.2.1.1<=4000
 q2:rz c.2.1.2<=4000
 a2:rz c.2.2.1<=4000
 b2:rz c.2.2.2.1<=4000
 c2:rz c.2.2.2.2.1<=4000
 u:rz c.2.2.2.2.2.1<=4000
 v:rz c.2.2.2.2.2.2<=4000
def lxB(o:V2):BQ×BQ:=(linB false o.1,linB true o.2)
def timB(v:BQ×BQ)(u w:Rat):BQ×BQ:=(subB (sclB u v.1) (sclB w v.2),addB (sclB u v.2) (sclB w v.1))
def nrmB(v:BQ×BQ):BQ:=addB (mulB v.1 v.1) (mulB v.2 v.2)
def cRe(c:CpR):Rat:=1-c.2.2.2.2.2.1
def cAl(c:CpR):BQ×BQ:=timB (lxB c.1) c.2.2.2.2.2.1 (-c.2.2.2.2.2.2)
def cBe(c:CpR):BQ×BQ:=timB (lxB c.2.1) (cRe c) c.2.2.2.2.2.2
def cFi(c:CpR):Rat:=sqQ (c.2.2.2.2.2.1,c.2.2.2.2.2.2)*c.2.2.2.1-c.2.2.1
def cSe(c:CpR):Rat:=c.2.2.2.2.1-sqQ (cRe c,c.2.2.2.2.2.2)*c.2.2.2.1
def cE(c:CpR):BQ:=addB (nrmB (lxB c.1)) (conB (cFi c))
def cF(c:CpR):BQ:=subB (conB (cSe c)) (nrmB (lxB c.2.1))
def cM(c:CpR):BQ:=subB (mulB (cAl c).1 (cBe c).2) (mulB (cAl c).2 (cBe c).1)
def cX(c:CpR):BQ:=subB (mulB (cE c) (cBe c).2) (mulB (cF c) (cAl c).2)
def cY(c:CpR):BQ:=subB (mulB (cF c) (cAl c).1) (mulB (cE c) (cBe c).1)
def cMM(c:CpR):BQ:=mulB (cM c) (cM c)
def cLa(c:CpR):BQ:=sclB (4*c.2.2.2.1) (cMM c)
def cNo(c:CpR):BQ:=nrmB (cX c,cY c)
def cCur(c:CpR):BQ:=subB (cNo c) (cLa c)
theorem PB.lx{c:Rat}{b:Bool}(h:rz c<=4000):PB 1 4006 (linB b c):=(PB.lin b c).mono (Nat.le_refl _) (by omega)
theorem PB.nrm{v:BQ×BQ}{d s:Nat}(h1:PB d s v.1)(h2:PB d s v.2)(hd:d+d<=24):PB (d+d) (4*(tri (d+1)*s)) (nrmB v):=
 ((h1.mul h1 hd).add (h2.mul h2 hd)).mono (Nat.le_refl _) (by omega)
def timQ(a:V2)(u w:Rat):V2:=(a.1*u-a.2*w,a.2*u+a.1*w)
def wAl(c:CpR)(p:V2):V2:=timQ (subQ p c.1) c.2.2.2.2.2.1 (-c.2.2.2.2.2.2)
def wBe(c:CpR)(p:V2):V2:=timQ (subQ p c.2.1) (cRe c) c.2.2.2.2.2.2
def wE(c:CpR)(p:V2):Rat:=sqQ (subQ p c.1)+cFi c
def wF(c:CpR)(p:V2):Rat:=cSe c-sqQ (subQ p c.2.1)
def wM(c:CpR)(p:V2):Rat:=(wAl c p).1*(wBe c p).2-(wAl c p).2*(wBe c p).1
def wN(c:CpR)(p:V2):V2:=(wE c p*(wBe c p).2-wF c p*(wAl c p).2,wF c p*(wAl c p).1-wE c p*(wBe c p).1)
def wV(c:CpR)(p:V2):Rat:=sqQ (wN c p)-4*c.2.2.2.1*(wM c p*wM c p)
end Go.Num
end
section
namespace Go.Num
def cW(c:CpR):V2:=(c.2.2.2.2.2.1,c.2.2.2.2.2.2)
def zL(c:CpR)(p:V2):V2:=((wN c p).1 / (2*wM c p),(wN c p).2 / (2*wM c p))
def endA(c:CpR)(p z:V2):V2:=subQ p (timQ z c.2.2.2.2.2.1 c.2.2.2.2.2.2)
def endB(c:CpR)(p z:V2):V2:=addQ p (timQ z (cRe c) (-c.2.2.2.2.2.2))
def ptQ(c:CpR)(a b:V2):V2:=addQ a (timQ (subQ b a) c.2.2.2.2.2.1 c.2.2.2.2.2.2)
def hldQ(c:CpR)(a b:V2):Prop:=sqQ (subQ a c.1)=c.2.2.1/\sqQ (subQ b c.2.1)=c.2.2.2.2.1/\sqQ (subQ a b)=c.2.2.2.1
def movQ38(c:CpR)(g:PsQ):CpR:=(appQ g c.1,appQ g c.2.1,c.2.2)
def sclQ38(c:CpR)(k:Rat):CpR:=((c.1.1*k,c.1.2*k),(c.2.1.1*k,c.2.1.2*k),c.2.2.1*(k*k),c.2.2.2.1*(k*k),c.2.2.2.2.1*(k*k),c.2.2.2.2.2.1,c.2.2.2.2.2.2)
end Go.Num
end
