/-
  Parts of the proof, merged: ArgE, PolyA, PolyB, PolyP, PolyQ, PolyC, PolyD, PolyR, PolyE, PolyF, PolyG, PolyH, PolyI, CoupP, CoupQ.
-/
import Derived.Test.YtneiiodebbmcaaaGreatDoorM8
import Derived.OpenShut
set_option linter.unusedVariables false
set_option linter.unusedSimpArgs false
set_option maxRecDepth 100000
section
namespace Go.Abs
open Go.Num
variable {H:Type} {enc:TypeId×Value->H} {bulk:DataW H->Nat} {P:Program} {w:World} {α:Type}
structure P3T (P:Program) (t:TypeId):Prop where
 ex:∃u,P.underlying t=some (.array 3 u)/\P.cellsOf u=10/\P.cellsOf t=30/\PsT P u
theorem Ubk{r:Reach}{b0 n:Nat}{t u:TypeId}{v:Value}{d:DataW H}{ps:List MemPlace}{e:α->List C}{ok:Nat->α->Prop}(ht:P.underlying t=some (.array n u))(hval:Value.okWide P w r b0 t v)
  (hd:DataW.Trod enc P w 0 (λ_=>true) true t v d ps) (ho:Opens enc bulk P w t e ok):∃a,ok (bulk d) a/\RA M0 (Old w) w.heap (.agg (e a)) v:=by
 simp only [Value.okWide,ht]at hval;obtain⟨cs,rfl,_⟩:=hval;obtain⟨fuel,hf⟩:=hd;obtain⟨x,hx,hr⟩:=ho _ _ _ hf;have e:(Value.agg cs).cells.toList=cs.toList:=by simp [Value.cells]
 rw [e]at hr;refine⟨x,hx,?_⟩;have:cs=⟨cs.toList⟩:=by simp
 rw [this];exact .agg _ _ hr
end Go.Abs
end
section
namespace Go.Num
open Go.Abs
abbrev Mo:=Int×Int×R
def i64r(n:Int):Prop:=-9223372036854775808<=n/\n<9223372036854775808
def WLM(t:Mo):Prop:=i64r t.1/\i64r t.2.1/\WLR t.2.2
def inM(t:Mo):Prop:=0<=t.1/\0<=t.2.1/\t.1+t.2.1<=24
def okM(t:Mo):Prop:=WLM t/\inM t
def okMs(l:List Mo):Prop:=∀x∈l,okM x
def mo0:Mo:=(0,0,(false,[],[]))
def tri:Nat->Nat
 | 0=>0
 | n+1=>tri n+(n+1)
theorem kaP{a b:Nat}(h:a<=b):tri a<=tri b:=by
 induction b with
 | zero=>rw [Nat.le_zero.1 h];exact Nat.le_refl _
 | succ b ih=>
  rcases Nat.lt_or_ge b a with h1 | h1
  .rw [show a=b+1 by omega];exact Nat.le_refl _
  .have:=ih h1;show tri a<=tri b+(b+1);omega
theorem Ubh{a b:Nat}(h:a<b):tri a+a<tri b:=by
 have h1:=kaP (a:=a+1) (b:=b) h;have h2:tri (a+1)=tri a+(a+1):=rfl;omega
def kM(t:Mo):Nat:=tri (t.1+t.2.1).toNat+t.1.toNat
def ordK(a b:Nat):Int:=if a<b then -1 else if b<a then 1 else 0
theorem JK(a b:Nat):(ordK a b<0)=(a<b):=by
 unfold ordK;refine propext ⟨λh=>?_,λh=>by rw [if_pos h];decide⟩
 by_cases h1:a<b
 .exact h1
 .rw [if_neg h1]at h;by_cases h2:b<a
  .rw [if_pos h2]at h;exact absurd h (by decide)
  .rw [if_neg h2]at h;exact absurd h (by decide)
theorem Za5(a b:Nat):(ordK a b=0)=(a=b):=by
 unfold ordK;refine propext ⟨λh=>?_,λh=>by rw [if_neg (by omega),if_neg (by omega)]⟩
 by_cases h1:a<b
 .rw [if_pos h1]at h;exact absurd h (by decide)
 .rw [if_neg h1]at h;by_cases h2:b<a
  .rw [if_pos h2]at h;exact absurd h (by decide)
  .omega
theorem UaX(a b:Nat):(0<=ordK a b)=(b<=a):=by
 have h:=JK a b;refine propext ⟨λh1=>?_,λh1=>?_⟩
 .have:¬a<b:=by rw [<-h];omega
  omega
 .have:¬ordK a b<0:=by rw [h];omega
  omega
theorem Ja4{s t:Mo}(hs:inM s)(ht:inM t):kM s<kM t↔s.1+s.2.1<t.1+t.2.1∨(s.1+s.2.1=t.1+t.2.1/\s.1<t.1):=by
 obtain⟨a1,a2,a3⟩:=hs;obtain⟨b1,b2,b3⟩:=ht;unfold kM;rcases Int.lt_trichotomy (s.1+s.2.1) (t.1+t.2.1) with h | h | h
 .have:=Ubh (a:=(s.1+s.2.1).toNat) (b:=(t.1+t.2.1).toNat) (by omega)
  exact⟨λ_=>.inl h,λ_=>by omega⟩
 .rw [h];exact⟨λh1=>.inr ⟨rfl,by omega⟩,λh1=>by omega⟩
 .have:=Ubh (a:=(t.1+t.2.1).toNat) (b:=(s.1+s.2.1).toNat) (by omega)
  exact⟨λh1=>by omega,λh1=>by omega⟩
theorem ZbU{s t:Mo}(hs:inM s)(ht:inM t):kM s=kM t↔s.1=t.1/\s.2.1=t.2.1:=by
 have h1:=Ja4 hs ht;have h2:=Ja4 ht hs;constructor
 .intro e;have n1:¬kM s<kM t:=by omega
  have n2:¬kM t<kM s:=by omega
  rw [h1]at n1;rw [h2]at n2;omega
 .intro e;have n1:¬kM s<kM t:=by rw [h1];omega
  have n2:¬kM t<kM s:=by rw [h2];omega
  omega
theorem UbR{s:Mo}(hs:inM s):kM s<325:=by
 obtain⟨a1,a2,a3⟩:=hs;have h:=kaP (a:=(s.1+s.2.1).toNat) (b:=24) (by omega)
 have h24:tri 24=300:=rfl;unfold kM;omega
theorem Xay{l:List Mo}(h:okMs l){i:Nat}(hi:i<l.length):okM (l.getD i mo0):=by
 rw [List.getD_eq_getElem?_getD,List.getElem?_eq_getElem hi];exact h _ (List.getElem_mem hi)
theorem Yh{l m:List Mo}:okMs (l++m)↔okMs l/\okMs m:=by
 unfold okMs;simp only [List.mem_append];exact⟨λh=>⟨λx hx=>h x (.inl hx),λx hx=>h x (.inr hx)⟩,λh x hx=>hx.elim (h.1 x) (h.2 x)⟩
theorem xN{l m:List Mo}(p:l.Perm m)(h:okMs l):okMs m:=λx hx=>h x (p.mem_iff.2 hx)
def SortM(l:List Mo):Prop:=l.Pairwise λx y=>kM x<=kM y
theorem UP{x:Mo}{v:List Mo}(h:SortM v)(hx:∀y∈v,kM x<kM y):SortM (x::v):=
 List.pairwise_cons.2 ⟨λy hy=>Nat.le_of_lt (hx y hy),h⟩
theorem qaL{x y:Mo}{u v:List Mo}(h:SortM (u++[y]++v))(hyx:kM y<=kM x)(hx:∀y∈v,kM x<kM y):SortM (u++[y]++x::v):=by
 unfold SortM at *
 obtain⟨h1,h2,h3⟩:=List.pairwise_append.1 h;refine List.pairwise_append.2 ⟨h1,UP h2 hx,λa ha b hb=>?_⟩;have hay:kM a<=kM x:=by
  obtain⟨_,_,h6⟩:=List.pairwise_append.1 h1;rcases List.mem_append.1 ha with ha | ha
  .exact Nat.le_trans (h6 a ha y (by simp)) hyx
  .rw [List.mem_singleton]at ha;subst ha;exact hyx
 rcases List.mem_cons.1 hb with rfl | hb
 .exact hay
 .exact h3 a ha b hb
end Go.Num
namespace Go.Abs
open Go.Num
def mC(t:Mo):List C:=[.lit (.int .i64 t.1),.lit (.int .i64 t.2.1),cb t.2.2,cn t.2.2,cd t.2.2]
def mA(t:Mo):AV:=.agg (mC t)
theorem ubm{x y:Mo}(h:mC x=mC y):x=y:=by
 simp only [mC,List.cons.injEq,and_true,C.lit.injEq,Value.int.injEq,true_and]at h;obtain⟨h1,h2,h3,h4,h5⟩:=h;have e1:=Yp x.2.2 y.2.2 (by simp only [rA];rw [h3,h4,h5])
 exact Prod.ext h1 (Prod.ext h2 e1)
theorem zaS(x y:Mo)(h:mA x=mA y):x=y:=ubm (by simpa [mA] using h)
def ms(l:List Mo):C:=.slice (l.map mC)
def msA(l:List Mo):AV:=.one (ms l)
theorem um{x y:List Mo}(h:x.map mC=y.map mC):x=y:=List.map_inj_right (λ_ _=>ubm) |>.1 h
theorem yaP(x y:List Mo)(h:msA x=msA y):x=y:=by
 simp only [msA,ms,AV.one.injEq,C.slice.injEq]at h;exact um h
def onM(k:Mo->Prop)(a:AV):Prop:=onE mA (λx=>WLM x/\k x) a
@[congr] theorem Xb2{k:Mo->Prop}{a a'}(h:a=a'):onM k a=onM k a':=by subst h;rfl
theorem zbK(k:Mo->Prop)(x:Mo):onM k (.agg (mC x))=(WLM x/\k x):=Qn zaS (λx=>WLM x/\k x) x
theorem qbD(k:Mo->Prop)(i j:Int)(x:R):onM k (.agg [.lit (.int .i64 i),.lit (.int .i64 j),cb x,cn x,cd x])=(WLM (i,j,x)/\k (i,j,x)):=Qn zaS (λx=>WLM x/\k x) (i,j,x)
theorem jaX{β:Type}{T:Mo->(β->Prop)->Prop}(h:∀x,GoodT (T x)){a:AV}:GoodT λK=>onM (λx=>T x K) a:=
 JD (e:=mA) (T:=λx K=>WLM x/\T x K) zaS λx=>GoodT.and (c:=WLM x) (T:=T x) λ_=>h x
def onMx(k:List Mo->Prop)(a:AV):Prop:=∃l,(a=.one (ms l)∨a=.one (.full (l.map mC))∨(a=.one .emp/\l=[]))/\(∀x∈l,WLM x)/\k l
@[congr] theorem Wb2{k:List Mo->Prop}{a a'}(h:a=a'):onMx k a=onMx k a':=by subst h;rfl
theorem UaA(k:List Mo->Prop)(l:List Mo):onMx k (.one (.slice (l.map mC)))=((∀x∈l,WLM x)/\k l):=by
 refine propext ⟨λ⟨x,h,h1,h2⟩=>?_,λh=>⟨l,.inl rfl,h⟩⟩;rcases h with h | h | h
 .have:=yaP l x h;subst this;exact⟨h1,h2⟩
 .simp at h
 .simp at h
theorem za7(k:List Mo->Prop)(l:List Mo):onMx k (.one (.full (l.map mC)))=((∀x∈l,WLM x)/\k l):=by
 refine propext ⟨λ⟨x,h,h1,h2⟩=>?_,λh=>⟨l,.inr (.inl rfl),h⟩⟩;rcases h with h | h | h
 .simp [ms]at h
 .have:=um (x:=l) (y:=x) (by simpa using h);subst this;exact⟨h1,h2⟩
 .simp at h
theorem jaO(k:List Mo->Prop):onMx k (.one .emp)=k []:=by
 refine propext ⟨λ⟨x,h,h1,h2⟩=>?_,λh=>⟨[],.inr (.inr ⟨rfl,rfl⟩),by simp,h⟩⟩
 rcases h with h | h | h
 .simp [ms]at h
 .simp at h
 .obtain⟨_,rfl⟩:=h;exact h2
theorem jaw(k:List Mo->Prop):onMx k (.one (.slice []))=k []:=by
 have:=UaA k [];simp only [List.map_nil,List.not_mem_nil,false_implies,implies_true,true_and]at this;exact this
theorem VbA{β:Type}{T:List Mo->(β->Prop)->Prop}(h:∀l,GoodT (T l)){a:AV}:GoodT λK=>onMx (λl=>T l K) a:=
 .of λK hx=>by
  obtain⟨l,ha,hw,hk⟩:=hx;rcases ha with ha | ha | ⟨ha,rfl⟩
  .have:(λK=>onMx (λl=>T l K) a)=λK=>(∀x∈l,WLM x)/\T l K:=funext λK=>by rw [ha];exact UaA _ l
   rw [this];exact .and λ_=>h l
  .have:(λK=>onMx (λl=>T l K) a)=λK=>(∀x∈l,WLM x)/\T l K:=funext λK=>by rw [ha];exact za7 _ l
   rw [this];exact .and λ_=>h l
  .have:(λK=>onMx (λl=>T l K) a)=T []:=funext λK=>by rw [ha];exact jaO _
   rw [this];exact h []
theorem Va3(K:List C->Prop)(l:List Mo)(i:Nat):getE K (l.map mC) i=(i<l.length/\K (mC (l.getD i mo0))):=by
 simp only [getE,List.length_map,List.getElem?_map];refine propext ⟨λh=>⟨h.1,h.2 _ (by simp [h.1,List.getD_eq_getElem?_getD])⟩,λh=>⟨h.1,λe he=>?_⟩⟩
 simp [h.1]at he;subst he;have:=h.2;simpa [List.getD_eq_getElem?_getD,h.1] using this
theorem Jbg(x:Mo):CleanL (mC x):=by
 intro c hc;simp only [mC,List.mem_cons,List.not_mem_nil,or_false]at hc;rcases hc with rfl | rfl | rfl | rfl | rfl
 .exact .lit _
 .exact .lit _
 .exact of_eq_true (jj _)
 .exact of_eq_true (Zj _)
 .exact of_eq_true (Jj _)
theorem uf(l:List Mo):CleanR (l.map mC)=True:=eq_true λe he c hc=>by
 obtain⟨x,_,rfl⟩:=List.mem_map.1 he;exact Jbg x c hc
theorem WF(l:List Mo):Clean (.slice (l.map mC))=True:=eq_true (.slice _ (of_eq_true (uf l)))
theorem xbj(x:Mo):(mC x).length=5:=eq_of_heq (HEq.refl _)
theorem kbn(l:List Mo):(∀e∈l.map mC,e.length=5)=True:=eq_true λe he=>by
 obtain⟨x,_,rfl⟩:=List.mem_map.1 he;rfl
theorem VbD(l:List Mo)(n:Nat)(i j:Int)(x:R):(l.map mC).set n [.lit (.int .i64 i),.lit (.int .i64 j),cb x,cn x,cd x]=(l.set n (i,j,x)).map mC:=by
 rw [List.map_set];rfl
theorem Wbr(l:List Mo)(i:Nat)(x:Mo):(l.map mC).set i (mC x)=(l.set i x).map mC:=by rw [List.map_set]
theorem Wbm(h:Nat->HB)(x:Mo):(mC x).map (datC h)=mC x:=eq_of_heq (HEq.refl _)
theorem ybh(x:Mo):(mC x).flatMap ownC=[]:=eq_of_heq (HEq.refl _)
theorem xbp(l:List Mo)(n:Nat):(l.map mC).take n=(l.take n).map mC:=by rw [List.map_take]
theorem Xbq(l:List Mo)(n:Nat):(l.map mC).drop n=(l.drop n).map mC:=by rw [List.map_drop]
theorem ubu(l m:List Mo):l.map mC++m.map mC=(l++m).map mC:=by rw [List.map_append]
theorem Wbh(l:List Mo):msA l=.one (.slice (l.map mC)):=eq_of_heq (HEq.refl _)
theorem ZbI(l:List Mo):ms l=.slice (l.map mC):=eq_of_heq (HEq.refl _)
theorem kbH(x:Mo):mA x=.agg (mC x):=eq_of_heq (HEq.refl _)
theorem Vj{h' : Nat->HB}{k v v' z:Nat}{b:Bool}{es:List (List C)}{l' : List Mo}{r:List (Nat×HB)}(e:es=l'.map mC):okH (mkH ((k,⟨v,some ⟨es,z,b⟩⟩)::r)) h' [(k,⟨v',some ⟨l'.map mC,z,b⟩⟩)]:=by
 subst e;have:CleanR (l'.map mC):=of_eq_true (uf l');simp [okH,qa,okB,this]
theorem Vm{h h' : Nat->HB}{z:Nat}{b:Bool}{es:List (List C)}{l' : List Mo}(e:es=l'.map mC):okB h h' (some ⟨es,z,b⟩) (some ⟨l'.map mC,z,b⟩):=by
 subst e;exact⟨⟨rfl,rfl⟩,.inl ⟨rfl,of_eq_true (uf l')⟩⟩
attribute [go_sem] zbK qbD UaA za7 jaO jaw Va3 uf WF xbj kbn Wbm ybh VbD Wbr xbp Xbq ubu Wbh ZbI kbH
attribute [go_sem ↓] zbK qbD UaA za7 jaO jaw Va3 uf WF xbj kbn Wbm ybh Wbh ZbI kbH
def Ww(l:List AV)(K:AV->Prop):Prop:=
 match l with
 | [a,b]=>onM (λx=>onM (λy=>inM x/\inM y/\K (.one (.lit (.int .i64 (ordK (kM x) (kM y)))))) b) a
 | _=>False
theorem xa1 a b K:Ww [a,b] K=(onM (λx=>onM (λy=>inM x/\inM y/\K (.one (.lit (.int .i64 (ordK (kM x) (kM y)))))) b) a):=propext Iff.rfl
@[congr] theorem jb0{K}{l l'}(h:l=l'):Ww l K=Ww l' K:=by subst h;rfl
attribute [go_sem,go_sem ↓] xa1
theorem Ua3:Good Ww:=Ya λas=>by
 unfold Ww;split
 .exact(jaX λ_=>(jaX λ_=>(.and λ_=>(.and λ_=>(.ret _)))))
 .exact .of λK hk=>hk.elim
end Go.Abs
end
section
namespace Go.Abs
open Go.Num
variable {P:Program} {Γ:Nat->Spec}
def UE(fc:Nat)(d:Option Nat)(args:List AV)(h:Nat->HB)(K:AV->(Nat->HB)->Prop):Prop:=
 match args with
 | [.one (.own r ver 5 0 len),.one (.lit (.int .i64 a)),.one (.lit (.int .i64 b)),c]=>∃(pre seg post:List Mo),c=fnV fc/\a=pre.length/\b=(pre.length+seg.length:Nat)/\len<=pre.length+seg.length+post.length/\pre.length+seg.length<=len/\len<=68719476736/\
   h r=⟨ver,some ⟨(pre++seg++post).map mC,5,true⟩⟩/\okMs seg/\
   ∀seg' : List Mo,seg.Perm seg'->SortM seg'->K (.tup []) (upd h r ⟨ver,some ⟨(pre++seg'++post).map mC,5,true⟩⟩)
 | _=>False
@[congr] theorem yb2 {fc:Nat} {d:Option Nat} {l l' : List AV} {h h' : Nat->HB} {K:AV->(Nat->HB)->Prop} (e1:l=l') (e2:h=h'):UE fc d l h K=UE fc d l' h' K:=by subst e1;subst e2;rfl
def Vv(fc m:Nat)(d:Option Nat)(args:List AV)(h:Nat->HB)(K:AV->(Nat->HB)->Prop):Prop:=
 match args with
 | [.one (.own r ver 5 0 len),c]=>∃(l post:List Mo),c=fnV fc/\len=l.length/\len<=m/\h r=⟨ver,some ⟨(l++post).map mC,5,true⟩⟩/\okMs l/\
   ∀l' : List Mo,l.Perm l'->SortM l'->K (.tup []) (upd h r ⟨ver,some ⟨(l'++post).map mC,5,true⟩⟩)
 | _=>False
@[congr] theorem YbN {fc m:Nat} {d:Option Nat} {l l' : List AV} {h h' : Nat->HB} {K:AV->(Nat->HB)->Prop} (e1:l=l') (e2:h=h'):Vv fc m d l h K=Vv fc m d l' h' K:=by subst e1;subst e2;rfl
def uA(fc m:Nat)(d:Option Nat)(args:List AV)(h:Nat->HB)(K:AV->(Nat->HB)->Prop):Prop:=
 match args with
 | [.one (.own r ver 5 0 len),.one (.lit (.int .i64 n)),c]=>n=len/\Vv fc m d [.one (.own r ver 5 0 len),c] h K
 | _=>False
@[congr] theorem zbO {fc m:Nat} {d:Option Nat} {l l' : List AV} {h h' : Nat->HB} {K:AV->(Nat->HB)->Prop} (e1:l=l') (e2:h=h'):uA fc m d l h K=uA fc m d l' h' K:=by subst e1;subst e2;rfl
def xn(l:List AV)(K:List (List C)->Prop):Prop:=
 match l with
 | [a]=>onMx (λl=>l.length<=68719476736/\K (l.map mC)) a
 | _=>False
theorem yZ a K:xn [a] K=(onMx (λl=>l.length<=68719476736/\K (l.map mC)) a):=propext Iff.rfl
@[congr] theorem ubA{K}{l l'}(h:l=l'):xn l K=xn l' K:=by subst h;rfl
attribute [go_sem,go_sem ↓] yZ
theorem wai:Good xn:=Ya λas=>by
 unfold xn;split
 .exact(VbA λ_=>(.and λ_=>(.ret _)))
 .exact .of λK hk=>hk.elim
def zf:AC:=(.seq (.ops false [.m 2 (.c (.one .emp))])
 (.fg [0] (.seq (.seq (.ops false [.m 3 (.t 0),.u 4 (.snil false (.t 3))])
 (.fg [0,4] (.cond (.t 4) (.seq (.ops false [.m 2 (.c (.one .emp))])
 .ret) .skip)))
 (.fg [0] (.seq (.ops false [.m 5 (.c (.one .emp)),.m 6 (.t 0),.u 7 (.app0 5 (.t 5) (.t 6)),.m 2 (.t 7)])
 .ret)))))
def Ze(f0:Nat):AC:=(.ops false [.m 4 (.t 0),.m 5 (.t 0),.u 6 (.len (.t 5)),.m 7 (.t 1),.u 8 (.call f0 [(.t 4),(.t 6),(.t 7)])])
def Ve(f0 f1:Nat):AC:=(.seq (.ops false [.m 6 (.i 20)])
 (.fg [0,1,2,6] (.seq (.ops false [.m 10 (.t 6),.m 7 (.i 0),.m 8 (.t 10)])
 (.fg [0,1,2,6,7,8] (.seq (.block 0 (.loop (.seq (.seq (.ops false [.m 11 (.t 8),.m 12 (.t 1),.u 13 (.bin .leq (.t 11) (.t 12))])
 (.fg [0,1,2,6,7,8,13] (.cond (.t 13) .skip (.exit 0))))
 (.fg [0,1,2,6,7,8] (.block 1 (.seq (.ops false [.m 14 (.t 0),.m 15 (.t 7),.m 16 (.t 8),.m 17 (.t 2),.u 18 (.call f0 [(.t 14),(.t 15),(.t 16),(.t 17)])])
 (.fg [0,1,2,6,8] (.seq (.ops false [.m 19 (.t 8),.m 7 (.t 19)])
 (.fg [0,1,2,6,7,8] (.ops false [.m 20 (.t 8),.m 21 (.t 6),.u 22 (.bin .add (.t 20) (.t 21)),.m 8 (.t 22)]))))))))))
 (.fg [0,1,2,6,7] (.seq (.ops false [.m 23 (.t 0),.m 24 (.t 7),.m 25 (.t 1),.m 26 (.t 2),.u 27 (.call f0 [(.t 23),(.t 24),(.t 25),(.t 26)])])
 (.fg [0,1,2,6] (.block 2 (.loop (.seq (.seq (.ops false [.m 28 (.t 6),.m 29 (.t 1),.u 30 (.bin .lss (.t 28) (.t 29))])
 (.fg [0,1,2,6,30] (.cond (.t 30) .skip (.exit 2))))
 (.fg [0,1,2,6] (.block 3 (.seq (.ops false [.m 31 (.t 6),.u 32 (.bin .mul (.i 2) (.t 31)),.m 7 (.i 0),.m 8 (.t 32)])
 (.fg [0,1,2,6,7,8] (.seq (.block 4 (.loop (.seq (.seq (.ops false [.m 33 (.t 8),.m 34 (.t 1),.u 35 (.bin .leq (.t 33) (.t 34))])
 (.fg [0,1,2,6,7,8,35] (.cond (.t 35) .skip (.exit 4))))
 (.fg [0,1,2,6,7,8] (.block 5 (.seq (.ops false [.m 36 (.t 0),.m 37 (.t 7),.m 38 (.t 7),.m 39 (.t 6),.u 40 (.bin .add (.t 38) (.t 39)),.m 41 (.t 8),.m 42 (.t 2),.u 43 (.call f1 [(.t 36),(.t 37),(.t 40),(.t 41),(.t 42)])])
 (.fg [0,1,2,6,8] (.seq (.ops false [.m 44 (.t 8),.m 7 (.t 44)])
 (.fg [0,1,2,6,7,8] (.ops false [.m 45 (.t 8),.m 46 (.t 6),.u 47 (.bin .mul (.i 2) (.t 46)),.u 48 (.bin .add (.t 45) (.t 47)),.m 8 (.t 48)]))))))))))
 (.fg [0,1,2,6,7] (.seq (.seq (.ops false [.m 49 (.t 7),.m 50 (.t 6),.u 51 (.bin .add (.t 49) (.t 50)),.m 9 (.t 51)])
 (.fg [0,1,2,6,7,9] (.seq (.ops false [.m 52 (.t 9),.m 53 (.t 1),.u 54 (.bin .lss (.t 52) (.t 53))])
 (.fg [0,1,2,6,7,9,54] (.cond (.t 54) (.ops false [.m 55 (.t 0),.m 56 (.t 7),.m 57 (.t 9),.m 58 (.t 1),.m 59 (.t 2),.u 60 (.call f1 [(.t 55),(.t 56),(.t 57),(.t 58),(.t 59)])]) .skip)))))
 (.fg [0,1,2,6] (.ops false [.m 61 (.t 6),.u 62 (.bin .mul (.t 61) (.i 2)),.m 6 (.t 62)]))))))))))))))))))))
def Qd:AC:=(.seq (.ops false [.m 10 (.t 1),.u 11 (.bin .add (.t 10) (.i 1)),.m 8 (.t 11)])
 (.fg [0,1,2,3,8] (.block 0 (.loop (.seq (.seq (.ops false [.m 12 (.t 8),.m 13 (.t 2),.u 14 (.bin .lss (.t 12) (.t 13))])
 (.fg [0,1,2,3,8,14] (.cond (.t 14) .skip (.exit 0))))
 (.fg [0,1,2,3,8] (.seq (.block 1 (.seq (.ops false [.m 17 (.t 8),.m 9 (.t 17)])
 (.fg [0,1,2,3,8,9] (.block 2 (.loop (.seq (.seq (.ops true [.m 18 (.t 9),.m 19 (.t 1),.u 20 (.bin .gtr (.t 18) (.t 19)),.m 21 (.t 20),.w 22 21 true (.mv (.t 3)),.w 23 21 true (.mv (.t 0)),.w 24 21 true (.mv (.t 9)),.w 25 21 true (.idx 5 (.t 23) (.t 24)),.w 26 21 true (.ld none 5 true (.t 25)),.w 27 21 true (.mv (.t 0)),.w 28 21 true (.mv (.t 9)),.w 29 21 true (.bin .sub (.t 28) (.i 1)),.w 30 21 true (.idx 5 (.t 27) (.t 29)),.w 31 21 true (.ld none 5 true (.t 30)),.w 32 21 true (.callv (.t 22) [(.t 26),(.t 31)]),.w 33 21 true (.bin .lss (.t 32) (.i 0)),.u 34 (.pick (.t 21) (.t 33) .fa)])
 (.fg [0,1,2,3,8,9,34] (.cond (.t 34) .skip (.exit 2))))
 (.fg [0,1,2,3,8,9] (.seq (.block 3 (.ops true [.m 37 (.t 0),.m 38 (.t 9),.m 39 (.t 0),.m 40 (.t 9),.u 41 (.bin .sub (.t 40) (.i 1)),.m 42 (.t 0),.m 43 (.t 9),.u 44 (.bin .sub (.t 43) (.i 1)),.u 45 (.idx 5 (.t 42) (.t 44)),.u 46 (.ld none 5 true (.t 45)),.m 47 (.t 0),.m 48 (.t 9),.u 49 (.idx 5 (.t 47) (.t 48)),.u 50 (.ld none 5 true (.t 49)),.u 51 (.idx 5 (.t 37) (.t 38)),.n (.st none 5 (.t 51) (.t 46)),.u 52 (.idx 5 (.t 39) (.t 41)),.n (.st none 5 (.t 52) (.t 50))]))
 (.fg [0,1,2,3,8,9] (.ops false [.m 35 (.t 9),.u 36 (.bin .sub (.t 35) (.i 1)),.m 9 (.t 36)]))))))))))
 (.fg [0,1,2,3,8] (.ops false [.m 15 (.t 8),.u 16 (.bin .add (.t 15) (.i 1)),.m 8 (.t 16)])))))))))
theorem X5(hΓ:Holds P Γ){f:Nat}(hc:check P f=some (8,zf.strip,[.tmp 2])):Sound P f (.fresh 5 xn):=by
 refine Xm hc wai hΓ (λargs K hcl hfi hG=>?_);match args,hG with
 | [a],hG=>
  obtain⟨l,ha,hl,hlen,hK⟩:=hG;refine⟨by simp,?_⟩
  rcases ha with rfl | rfl | ⟨rfl,h0⟩
  .simp only [go_sem,zf,ms];exact⟨λh=>by rw [h]at hK;exact hK,hlen,hK⟩
  .simp only [go_sem,zf,ms];exact⟨λh=>by rw [h]at hK;exact hK,hlen,hK⟩
  .subst h0;simp only [go_sem,zf,ms];exact⟨hK,by simp,hK⟩
theorem QaJ(hΓ:Holds P Γ){f fc:Nat}(hcm:Γ fc=.dat true Ww)(hc:check P f=some (53,Qd.strip,[])):Sound P f (.own (UE fc)):=by
 refine Vg hc hΓ (λd args h K hG=>?_);unfold UE at hG;split at hG
 case h_2=>exact hG.elim
 rename_i r ver len a b c;obtain⟨pre,seg,post,rfl,rfl,rfl,hlen,hlen2,hroom,hr,hok,hK⟩:=hG;obtain⟨T,hT⟩:∃T,T=pre.length+seg.length+post.length:=⟨_,rfl⟩;refine⟨[r],[⟨(pre++seg++post).map mC,5,true⟩],[.one (.own 1048576 ver 5 0 len),.one (.lit (.int .i64 pre.length)),.one (.lit (.int .i64 (pre.length+seg.length:Nat))),fnV fc],by simp,rfl,?_,?_,?_,λhfi=>⟨by simp,?_⟩⟩
 .intro i r' b h1 h2;cases i with
  | zero=>simp only [List.getElem?_cons_zero,Option.some.injEq]at h1 h2;subst h1 h2;exact⟨by rw [hr],rfl,of_eq_true (uf _)⟩
  | succ i=>simp at h1
 .simp [exA,exC,exB,nameOf,pinA,fnV]
 .intro a ha;simp only [List.mem_cons,List.not_mem_nil,or_false]at ha;rcases ha with rfl | rfl | rfl | rfl
  .simp [pasA,pasC,pasB,nameOf,pinA]
  .exact .lit _
  .exact .lit _
  .exact .lit _
 simp only [go_sem,Qd,hr,fnV];refine⟨by omega,?_⟩
 refine Xa (λp:Nat×List Mo=>⟨mkV [(0,.one (.own 1048576 ver 5 0 len)),(1,.one (.lit (.int .i64 pre.length))),(2,.one (.lit (.int .i64 (pre.length+seg.length:Nat)))),(3,.one (.lit (.func (.func fc) ⟨[]⟩ ⟨[]⟩))),(8,.one (.lit (.int .i64 (pre.length+p.1:Nat))))],mkH [(1048576,⟨ver,some ⟨(pre++p.2++post).map mC,5,true⟩⟩)]⟩)
  (λp=>1<=p.1/\(p.1<=seg.length∨p.1=1)/\seg.Perm p.2/\SortM (p.2.take p.1)) (λp=>seg.length-p.1) (1,seg) ?_ ?_ ?_
 .exact Qa (by simp [okS,okV,okC,okL,okH,okB,okE,ja,Va,qa,ka,wsA,ws]) (Vj rfl)
 .refine⟨Nat.le_refl _,.inr rfl,List.Perm.refl _,?_⟩;simp only;rcases seg with _ | ⟨x,l⟩
  .exact List.Pairwise.nil
  .simp [SortM]
 .rintro⟨i,s⟩ ⟨hi1,hi,hp,hs⟩;simp only at hi1 hi hp hs;have hsl:=hp.length_eq;simp only [go_sem,hr];refine⟨λhlt=>?_,λhge=>?_⟩
  .have his:i<s.length:=by omega
   refine Xa (λp:List Mo×Mo×List Mo×List Mo=>⟨mkV [(0,.one (.own 1048576 ver 5 0 len)),(1,.one (.lit (.int .i64 pre.length))),(2,.one (.lit (.int .i64 (pre.length+seg.length:Nat)))),(3,.one (.lit (.func (.func fc) ⟨[]⟩ ⟨[]⟩))),(8,.one (.lit (.int .i64 (pre.length+i:Nat)))),(9,.one (.lit (.int .i64 (pre.length+p.1.length:Nat))))],mkH [(1048576,⟨ver,some ⟨(pre++(p.1++p.2.1::(p.2.2.1++p.2.2.2))++post).map mC,5,true⟩⟩)]⟩)
    (λp=>p.1.length+p.2.2.1.length=i/\seg.Perm (p.1++p.2.1::(p.2.2.1++p.2.2.2))/\SortM (p.1++p.2.2.1)/\∀y∈p.2.2.1,kM p.2.1<kM y) (λp=>p.1.length) (s.take i,s.getD i mo0,[],s.drop (i+1)) ?_ ?_ ?_
   .have e:s.take i++s.getD i mo0::([]++s.drop (i+1))=s:=by
     rw [List.getD_eq_getElem?_getD,List.getElem?_eq_getElem his,Option.getD_some,List.nil_append,List.getElem_cons_drop,List.take_append_drop]
    exact Qa (by simp [okS,okV,okC,okL,okH,okB,okE,ja,Va,qa,ka,wsA,ws];omega) (Vj (by simp only [e]))
   .have e:s.take i++s.getD i mo0::([]++s.drop (i+1))=s:=by
     rw [List.getD_eq_getElem?_getD,List.getElem?_eq_getElem his,Option.getD_some,List.nil_append,List.getElem_cons_drop,List.take_append_drop]
    exact⟨by simp;omega,by simp only [e];exact hp,by simpa using hs,by simp⟩
   .rintro⟨u,x,v,w⟩ ⟨hiu,hpu,hsu,hxv⟩;simp only at hiu hpu hsu hxv;have hul:=hpu.length_eq;simp only [List.length_append,List.length_cons]at hul;have hok2:=xN hpu hok;rcases List.eq_nil_or_concat u with rfl | ⟨u',y,rfl⟩
    .simp only [go_sem,hr,hcm,Nat.add_zero,Nat.lt_irrefl];refine⟨by omega,(i+1,x::(v++w)),Qa (by simp [okS,okV,okC,okL,okH,okB,okE,ja,Va,qa,ka,wsA,ws];omega) (Vj rfl),⟨by simp only;omega,.inl (by simp only;omega),hpu,?_⟩,by simp only;omega⟩
     simp only [List.length_nil,Nat.zero_add]at hiu;simp only [List.take_succ_cons];rw [<-hiu,List.take_left];exact UP hsu hxv
    .rw [List.concat_eq_append]at *
     obtain⟨k,hk⟩:∃k,k=pre.length+u'.length:=⟨_,rfl⟩;have hL:(pre++(u'++[y]++x::(v++w))++post).length=T:=by
      simp only [List.length_append,List.length_cons]at *;omega
     have gx:=gmid pre (u'++[y]) (v++w) post x mo0;have gy:=gmid1 pre u' (v++w) post x y mo0;have sw:=smid pre u' (v++w) post x y;have e0:pre.length+(u'++[y]).length=k+1:=by simp;omega
     have ek:((k+1:Nat):Int)-1=(k:Int):=by omega
     rw [e0]at gx;rw [<-hk]at gy sw;have hkl:k+1<len:=by
      simp only [List.length_append,List.length_cons]at hL hul;simp only [List.length_append]at e0;omega
     have hkT:k+1<T:=by omega
     have ox:=hok2 x (by simp)
     have oy:=hok2 y (by simp)
     have hpk:pre.length<k+1:=by omega
     simp only [go_sem,hr,hcm,e0,ek,hL,gx,gy,sw,List.length_set,hkl,hpk,hkT,Nat.lt_of_succ_lt hkl,Nat.lt_of_succ_lt hkT,ox.1,oy.1,ox.2,oy.2,JK];refine⟨by omega,λhxy=>⟨by omega,by omega,by omega,(u',x,y::v,w),Qa (by simp [okS,okV,okC,okL,okH,okB,okE,ja,Va,qa,ka,wsA,ws];omega) (Vj (by simp)),⟨by simp only [List.length_cons];simp at hiu;omega,?_,by simpa using hsu,?_⟩,by simp⟩,λhxy=>⟨by omega,(i+1,u'++[y]++x::(v++w)),Qa (by simp [okS,okV,okC,okL,okH,okB,okE,ja,Va,qa,ka,wsA,ws];omega) (Vj rfl),⟨by simp only;omega,.inl (by simp only;omega),hpu,?_⟩,by simp only;omega⟩⟩
     .simp only;refine hpu.trans ?_;have e1:u'++[y]++x::(v++w)=u'++(y::x::(v++w)):=by simp
      have e2:u'++x::(y::v++w)=u'++(x::y::(v++w)):=by simp
      rw [e1,e2];exact List.Perm.append_left _ (List.Perm.swap _ _ _)
     .intro z hz;rcases List.mem_cons.1 hz with rfl | hz
      .exact hxy
      .exact hxv z hz
     .simp only;have e:(u'++[y]++x::(v++w)).take (i+1)=u'++[y]++x::v:=by
       have:u'++[y]++x::(v++w)=(u'++[y]++x::v)++w:=by simp
       rw [this,<-hiu];have h2:(u'++[y]).length+v.length+1=(u'++[y]++x::v).length:=by simp;omega
       rw [h2,List.take_left]
      rw [e];exact qaL hsu (Nat.not_lt.1 hxy) hxv
  .have e:s.take i=s:=List.take_of_length_le (by omega)
   rw [e]at hs;exact hK s hp hs
theorem xag(hΓ:Holds P Γ){f fs fc m:Nat}(hs:Γ fs=.own (uA fc m))(hc:check P f=some (9,(Ze fs).strip,[])):Sound P f (.own (Vv fc m)):=by
 refine Vg hc hΓ (λd args h K hG=>?_);unfold Vv at hG;split at hG
 case h_2=>exact hG.elim
 rename_i r ver len c;obtain⟨l,post,rfl,rfl,hlen,hr,hok,hK⟩:=hG;refine⟨[r],[⟨(l++post).map mC,5,true⟩],[.one (.own 1048576 ver 5 0 l.length),fnV fc],by simp,rfl,?_,?_,?_,λhfi=>⟨by simp,?_⟩⟩
 .intro i r' b h1 h2;cases i with
  | zero=>simp only [List.getElem?_cons_zero,Option.some.injEq]at h1 h2;subst h1 h2;exact⟨by rw [hr],rfl,of_eq_true (uf _)⟩
  | succ i=>simp at h1
 .simp [exA,exC,exB,nameOf,pinA,fnV]
 .intro a ha;simp only [List.mem_cons,List.not_mem_nil,or_false]at ha;rcases ha with rfl | rfl
  .simp [pasA,pasC,pasB,nameOf,pinA]
  .exact .lit _
 simp only [go_sem,Ze,hr,fnV,hs];refine λ_=>?_;simp only [uA,Vv];refine⟨by simp,l,post,rfl,rfl,hlen,by simp [qa],hok,λl' h1 h2=>?_⟩
 simp only [go_sem,hr];exact hK l' h1 h2
end Go.Abs
end
section
namespace Go.Num
abbrev MQ:=Int×Int×Rat
abbrev BQ:=List MQ
def mv(t:Mo):MQ:=(t.1,t.2.1,rv t.2.2)
def mcan(t:MQ):Mo:=(t.1,t.2.1,rcan t.2.2)
theorem JbB(t:MQ):mv (mcan t)=t:=by unfold mv mcan;simp only [Wb]
def kq(t:MQ):Nat:=tri (t.1+t.2.1).toNat+t.1.toNat
def inQ(t:MQ):Prop:=0<=t.1/\0<=t.2.1/\t.1+t.2.1<=24
theorem wbH{t:Mo}(h:inM t):inQ (mv t):=h
theorem UbT{s t:MQ}(hs:inQ s)(ht:inQ t):kq s<kq t↔s.1+s.2.1<t.1+t.2.1∨(s.1+s.2.1=t.1+t.2.1/\s.1<t.1):=Ja4 (s:=mcan s) (t:=mcan t) hs ht
theorem Vbe{s t:MQ}(hs:inQ s)(ht:inQ t):kq s=kq t↔s.1=t.1/\s.2.1=t.2.1:=ZbU (s:=mcan s) (t:=mcan t) hs ht
theorem QbU{s:MQ}(hs:inQ s):kq s<325:=UbR (s:=mcan s) hs
def pw(x:Rat):Nat->Rat
 | 0=>1
 | n+1=>pw x n*x
theorem jbJ(x:Rat)(m n:Nat):pw x (m+n)=pw x m*pw x n:=by
 induction n with
 | zero=>simp only [pw,Nat.add_zero,Rat.mul_one]
 | succ n ih=>rw [<-Nat.add_assoc];simp only [pw];rw [ih,Rat.mul_assoc]
theorem kad(x:Rat)(n:Nat):rz (pw x n)<=n*(rz x+2)+2:=by
 induction n with
 | zero=>have:=rz_1;simp only [pw];omega
 | succ n ih=>have:=qc (pw x n) x;simp only [pw];rw [Nat.add_mul];omega
def cf:BQ->Int->Int->Rat
 | [],_,_=>0
 | t::l,i,j=>(if t.1=i/\t.2.1=j then t.2.2 else 0)+cf l i j
def mev(t:MQ)(x y:Rat):Rat:=t.2.2*(pw x t.1.toNat*pw y t.2.1.toNat)
def ev:BQ->Rat->Rat->Rat
 | [],_,_=>0
 | t::l,x,y=>mev t x y+ev l x y
def sz:BQ->Nat
 | []=>0
 | t::l=>rz t.2.2+2+sz l
theorem Xw(l m:BQ)(i j:Int):cf (l++m) i j=cf l i j+cf m i j:=by
 induction l with
 | nil=>simp only [List.nil_append,cf,Rat.zero_add]
 | cons t l ih=>simp only [List.cons_append,cf,ih,Rat.add_assoc]
theorem QA(l m:BQ)(x y:Rat):ev (l++m) x y=ev l x y+ev m x y:=by
 induction l with
 | nil=>simp only [List.nil_append,ev,Rat.zero_add]
 | cons t l ih=>simp only [List.cons_append,ev,ih,Rat.add_assoc]
theorem ji(l m:BQ):sz (l++m)=sz l+sz m:=by
 induction l with
 | nil=>simp only [List.nil_append,sz,Nat.zero_add]
 | cons t l ih=>simp only [List.cons_append,sz,ih,Nat.add_assoc]
theorem Vbp{l m:BQ}(p:l.Perm m)(i j:Int):cf l i j=cf m i j:=by
 induction p with
 | nil=>rfl
 | cons t _ ih=>simp only [cf,ih]
 | swap s t l=>simp only [cf];grind
 | trans _ _ h1 h2=>rw [h1,h2]
theorem wbp{l m:BQ}(p:l.Perm m):sz l=sz m:=by
 induction p with
 | nil=>rfl
 | cons t _ ih=>simp only [sz,ih]
 | swap s t l=>simp only [sz];omega
 | trans _ _ h1 h2=>rw [h1,h2]
theorem qaV{l:BQ}{i j:Int}(h:∀t∈l,¬(t.1=i/\t.2.1=j)):cf l i j=0:=by
 induction l with
 | nil=>rfl
 | cons t l ih=>
  simp only [cf];rw [if_neg (h t (by simp)),ih λu hu=>h u (by simp [hu]),Rat.zero_add]
def ins(t:MQ):BQ->BQ
 | []=>[t]
 | u::p=>if kq t<kq u then t::u::p else if kq t=kq u then (u.1,u.2.1,u.2.2+t.2.2)::p else u::ins t p
def nfo(l:BQ):BQ:=l.foldr ins []
def nz(t:MQ):Bool:=decide (t.2.2≠0)
def nf(l:BQ):BQ:=(nfo l).filter nz
def StrM(l:BQ):Prop:=l.Pairwise λx y=>kq x<kq y
def InQ(l:BQ):Prop:=∀t∈l,inQ t
structure Canon (p:BQ):Prop where
 str:StrM p
 ins:InQ p
 nz:∀t∈p,t.2.2≠0
theorem Xe{t:MQ}{l:BQ}:InQ (t::l)↔inQ t/\InQ l:=by unfold InQ;simp only [List.mem_cons,forall_eq_or_imp]
theorem kg{l m:BQ}:InQ (l++m)↔InQ l/\InQ m:=by
 unfold InQ;simp only [List.mem_append];exact⟨λh=>⟨λx hx=>h x (.inl hx),λx hx=>h x (.inr hx)⟩,λh x hx=>hx.elim (h.1 x) (h.2 x)⟩
theorem kbf{l m:BQ}(p:l.Perm m)(h:InQ l):InQ m:=λx hx=>h x (p.mem_iff.2 hx)
theorem Uah{t u:MQ}{p:BQ}(h:u∈ins t p):(u.1=t.1/\u.2.1=t.2.1)∨∃v∈p,u.1=v.1/\u.2.1=v.2.1:=by
 induction p with
 | nil=>simp only [ins,List.mem_singleton]at h;subst h;exact .inl ⟨rfl,rfl⟩
 | cons w p ih=>
  simp only [ins]at h;split at h
  .rcases List.mem_cons.1 h with rfl | h
   .exact .inl ⟨rfl,rfl⟩
   .exact .inr ⟨u,h,rfl,rfl⟩
  .split at h
   .rcases List.mem_cons.1 h with rfl | h
    .exact .inr ⟨w,by simp,rfl,rfl⟩
    .exact .inr ⟨u,by simp [h],rfl,rfl⟩
   .rcases List.mem_cons.1 h with rfl | h
    .exact .inr ⟨u,by simp,rfl,rfl⟩
    .rcases ih h with h | ⟨v,hv,h⟩
     .exact .inl h
     .exact .inr ⟨v,by simp [hv],h⟩
theorem kq_c{s t:MQ}(h:s.1=t.1/\s.2.1=t.2.1):kq s=kq t:=by unfold kq;rw [h.1,h.2]
theorem kbM{s t:MQ}(h:s.1=t.1/\s.2.1=t.2.1)(ht:inQ t):inQ s:=by unfold inQ at *;rw [h.1,h.2];exact ht
theorem ZbG{t:MQ}{p:BQ}(ht:inQ t)(hp:InQ p):InQ (ins t p):=λu hu=>by
 rcases Uah hu with h | ⟨v,hv,h⟩
 .exact kbM h ht
 .exact kbM h (hp v hv)
theorem xbx{t:MQ}{p:BQ}(hp:StrM p):StrM (ins t p):=by
 induction p with
 | nil=>simp only [ins];exact List.pairwise_singleton _ _
 | cons w p ih=>
  obtain⟨h1,h2⟩:=List.pairwise_cons.1 hp;simp only [ins];split
  .rename_i hlt;refine List.pairwise_cons.2 ⟨λu hu=>?_,hp⟩;rcases List.mem_cons.1 hu with rfl | hu
   .exact hlt
   .exact Nat.lt_trans hlt (h1 u hu)
  .split
   .exact List.pairwise_cons.2 ⟨λu hu=>h1 u hu,h2⟩
   .rename_i hlt hne;refine List.pairwise_cons.2 ⟨λu hu=>?_,ih h2⟩;rcases Uah hu with h | ⟨v,hv,h⟩
    .rw [kq_c h];omega
    .rw [kq_c h];exact h1 v hv
theorem UbD{t:MQ}{p:BQ}(ht:inQ t)(hp:InQ p)(i j:Int):cf (ins t p) i j=cf (t::p) i j:=by
 induction p with
 | nil=>rfl
 | cons w p ih=>
  obtain⟨hw,hp⟩:=Xe.1 hp;simp only [ins];split
  .rfl
  .split
   .rename_i _ e;obtain⟨e1,e2⟩:=(Vbe ht hw).1 e;simp only [cf,e1,e2];split
    .grind
    .grind
   .simp only [cf,ih hp];grind
theorem WbJ{t:MQ}{p:BQ}(ht:inQ t)(hp:InQ p)(x y:Rat):ev (ins t p) x y=ev (t::p) x y:=by
 induction p with
 | nil=>rfl
 | cons w p ih=>
  obtain⟨hw,hp⟩:=Xe.1 hp;simp only [ins];split
  .rfl
  .split
   .rename_i _ e;obtain⟨e1,e2⟩:=(Vbe ht hw).1 e;simp only [ev,mev,e1,e2];grind
   .simp only [ev,ih hp];grind
theorem wbL(t:MQ)(p:BQ):sz (ins t p)<=sz (t::p):=by
 induction p with
 | nil=>exact Nat.le_refl _
 | cons w p ih=>
  simp only [ins];split
  .exact Nat.le_refl _
  .split
   .have:=Ql w.2.2 t.2.2;simp only [sz];omega
   .simp only [sz]at ih ⊢;omega
theorem yaR{l:BQ}(h:InQ l):InQ (nfo l):=by
 induction l with
 | nil=>exact h
 | cons t l ih=>obtain⟨h1,h2⟩:=Xe.1 h;exact ZbG h1 (ih h2)
theorem Zby(l:BQ):StrM (nfo l):=by
 induction l with
 | nil=>exact List.Pairwise.nil
 | cons t l ih=>exact xbx ih
theorem JbI{l:BQ}(h:InQ l)(i j:Int):cf (nfo l) i j=cf l i j:=by
 induction l with
 | nil=>rfl
 | cons t l ih=>
  obtain⟨h1,h2⟩:=Xe.1 h;show cf (ins t (nfo l)) i j=_;rw [UbD h1 (yaR h2)];simp only [cf,ih h2]
theorem qbG{l:BQ}(h:InQ l)(x y:Rat):ev (nfo l) x y=ev l x y:=by
 induction l with
 | nil=>rfl
 | cons t l ih=>
  obtain⟨h1,h2⟩:=Xe.1 h;show ev (ins t (nfo l)) x y=_;rw [WbJ h1 (yaR h2)];simp only [ev,ih h2]
theorem ZbB(l:BQ):sz (nfo l)<=sz l:=by
 induction l with
 | nil=>exact Nat.le_refl _
 | cons t l ih=>
  have:=wbL t (nfo l);show sz (ins t (nfo l))<=_;simp only [sz]at this ⊢;omega
theorem jbn(p:BQ)(i j:Int):cf (p.filter nz) i j=cf p i j:=by
 induction p with
 | nil=>rfl
 | cons t p ih=>
  by_cases h:t.2.2=0
  .rw [List.filter_cons_of_neg (by simp [nz,h]),ih]
   simp only [cf,h];grind
  .rw [List.filter_cons_of_pos (by simp [nz,h])]
   simp only [cf,ih]
theorem wbF(p:BQ)(x y:Rat):ev (p.filter nz) x y=ev p x y:=by
 induction p with
 | nil=>rfl
 | cons t p ih=>
  by_cases h:t.2.2=0
  .rw [List.filter_cons_of_neg (by simp [nz,h]),ih]
   simp only [ev,mev,h];grind
  .rw [List.filter_cons_of_pos (by simp [nz,h])]
   simp only [ev,ih]
theorem QbF(p:BQ):sz (p.filter nz)<=sz p:=by
 induction p with
 | nil=>exact Nat.le_refl _
 | cons t p ih=>
  by_cases h:t.2.2=0
  .rw [List.filter_cons_of_neg (by simp [nz,h])]
   simp only [sz];omega
  .rw [List.filter_cons_of_pos (by simp [nz,h])]
   simp only [sz];omega
theorem Z8{p:BQ}(hs:StrM p)(hi:InQ p):Canon (p.filter nz):=
 ⟨List.Pairwise.filter _ hs,λt ht=>hi t (List.mem_filter.1 ht).1,λt ht=>by
  have:=(List.mem_filter.1 ht).2;simpa [nz] using this⟩
theorem Qm{l:BQ}(h:InQ l):Canon (nf l):=Z8 (Zby l) (yaR h)
theorem qbW{l:BQ}(h:InQ l)(i j:Int):cf (nf l) i j=cf l i j:=by unfold nf;rw [jbn,JbI h]
theorem wa3{l:BQ}(h:InQ l)(x y:Rat):ev (nf l) x y=ev l x y:=by unfold nf;rw [wbF,qbG h]
theorem xaJ(l:BQ):sz (nf l)<=sz l:=Nat.le_trans (QbF _) (ZbB l)
theorem vu{p:BQ}(hp:InQ p){t:MQ}(ht:inQ t)(h:∀u∈p,kq t<kq u):cf p t.1 t.2.1=0:=qaV λu hu e=>by
 have:=h u hu;rw [kq_c e]at this;omega
theorem vK:∀{p q:BQ},Canon p->Canon q->(∀i j,cf p i j=cf q i j)->p=q
 | [],[],_,_,_=>rfl
 | [],t::q,_,hq,h=>by
  obtain⟨h1,h2⟩:=List.pairwise_cons.1 hq.str;obtain⟨h3,h4⟩:=Xe.1 hq.ins;have:=h t.1 t.2.1;simp only [cf,and_self,if_true]at this;rw [vu h4 h3 h1,Rat.add_zero]at this;exact absurd this.symm (hq.nz t (by simp))
 | t::p,[],hp,_,h=>by
  obtain⟨h1,h2⟩:=List.pairwise_cons.1 hp.str;obtain⟨h3,h4⟩:=Xe.1 hp.ins;have:=h t.1 t.2.1;simp only [cf,and_self,if_true]at this;rw [vu h4 h3 h1,Rat.add_zero]at this;exact absurd this (hp.nz t (by simp))
 | s::p,t::q,hp,hq,h=>by
  obtain⟨a1,a2⟩:=List.pairwise_cons.1 hp.str;obtain⟨a3,a4⟩:=Xe.1 hp.ins;obtain⟨b1,b2⟩:=List.pairwise_cons.1 hq.str;obtain⟨b3,b4⟩:=Xe.1 hq.ins;have hs:=h s.1 s.2.1;have ht:=h t.1 t.2.1;rcases Nat.lt_trichotomy (kq s) (kq t) with hk | hk | hk
  .exfalso;have e:cf (t::q) s.1 s.2.1=0:=vu hq.ins a3 λu hu=>by
    rcases List.mem_cons.1 hu with rfl | hu
    .exact hk
    .exact Nat.lt_trans hk (b1 u hu)
   rw [e]at hs;simp only [cf,and_self,if_true]at hs;rw [vu a4 a3 a1,Rat.add_zero]at hs;exact hp.nz s (by simp) hs
  .obtain⟨e1,e2⟩:=(Vbe a3 b3).1 hk;simp only [cf,and_self,if_true,e1,e2]at ht;have z1:cf p t.1 t.2.1=0:=by rw [<-e1,<-e2];exact vu a4 a3 a1
   rw [vu b4 b3 b1,z1,Rat.add_zero,Rat.add_zero]at ht;have est:s=t:=Prod.ext e1 (Prod.ext e2 ht);subst est;rw [vK (p:=p) (q:=q) ⟨a2,a4,λu hu=>hp.nz u (by simp [hu])⟩ ⟨b2,b4,λu hu=>hq.nz u (by simp [hu])⟩ λi j=>by
    have:=h i j;simp only [cf]at this;grind]
  .exfalso;have e:cf (s::p) t.1 t.2.1=0:=vu hp.ins b3 λu hu=>by
    rcases List.mem_cons.1 hu with rfl | hu
    .exact hk
    .exact Nat.lt_trans hk (a1 u hu)
   rw [e]at ht;simp only [cf,and_self,if_true]at ht;rw [vu b4 b3 b1,Rat.add_zero]at ht;exact hq.nz t (by simp) ht.symm
theorem jbX{p l:BQ}(hp:Canon p)(hl:InQ l)(h:∀i j,cf p i j=cf l i j):p=nf l:=
 vK hp (Qm hl) λi j=>by rw [qbW hl];exact h i j
theorem wah:∀{p:BQ} {a N:Nat},StrM p->(∀t∈p,a<=kq t/\kq t<N)->p.length<=N-a
 | [],_,_,_,_=>Nat.zero_le _
 | t::p,a,N,hs,h=>by
  obtain⟨h1,h2⟩:=List.pairwise_cons.1 hs;have ht:=h t (by simp)
  have:=wah (p:=p) (a:=kq t+1) (N:=N) h2 λu hu=>⟨h1 u hu,(h u (by simp [hu])).2⟩
  simp only [List.length_cons];omega
theorem jN{p:BQ}(h:Canon p):p.length<=325:=wah (a:=0) h.str λt ht=>⟨Nat.zero_le _,QbU (h.ins t ht)⟩
def Deg(d:Nat)(p:BQ):Prop:=∀t∈p,t.1+t.2.1<=d
theorem ZD{p:BQ}(h:Canon p){d:Nat}(hd:Deg d p):p.length<=tri (d+1):=wah (a:=0) h.str λt ht=>⟨Nat.zero_le _,by
 have h1:=hd t ht;obtain⟨a1,a2,a3⟩:=h.ins t ht;have h2:=kaP (a:=(t.1+t.2.1).toNat) (b:=d) (by omega)
 show kq t<tri d+(d+1);unfold kq;omega⟩
theorem ubr{t:MQ}{p:BQ}{d:Nat}(ht:t.1+t.2.1<=d)(hp:Deg d p):Deg d (ins t p):=λu hu=>by
 rcases Uah hu with⟨h1,h2⟩ | ⟨v,hv,h1,h2⟩
 .rw [h1,h2];exact ht
 .rw [h1,h2];exact hp v hv
theorem vS{l:BQ}{d:Nat}(h:Deg d l):Deg d (nf l):=by
 intro t ht;have:Deg d (nfo l):=by
  clear ht
  induction l with
  | nil=>exact h
  | cons u l ih=>exact ubr (h u (by simp)) (ih λv hv=>h v (by simp [hv]))
 exact this t (List.mem_filter.1 ht).1
theorem YQ{l m:BQ}{d:Nat}(hl:Deg d l)(hm:Deg d m):Deg d (l++m):=λt ht=>(List.mem_append.1 ht).elim (hl t) (hm t)
theorem kbb{l:BQ}{d e:Nat}(hl:Deg d l)(h:d<=e):Deg e l:=λt ht=>by have:=hl t ht;omega
def sclL(c:Rat)(p:BQ):BQ:=p.map λt=>(t.1,t.2.1,c*t.2.2)
def mulT(a b:MQ):MQ:=(a.1+b.1,a.2.1+b.2.1,a.2.2*b.2.2)
def mulL(p q:BQ):BQ:=p.flatMap λa=>q.map λb=>mulT a b
theorem jZ{c:Rat}{p:BQ}(h:InQ p):InQ (sclL c p):=λt ht=>by
 obtain⟨u,hu,rfl⟩:=List.mem_map.1 ht;exact h u hu
theorem Uba{c:Rat}{p:BQ}{d:Nat}(h:Deg d p):Deg d (sclL c p):=λt ht=>by
 obtain⟨u,hu,rfl⟩:=List.mem_map.1 ht;exact h u hu
theorem yaV(c:Rat)(p:BQ)(x y:Rat):ev (sclL c p) x y=c*ev p x y:=by
 induction p with
 | nil=>simp only [sclL,List.map_nil,ev,Rat.mul_zero]
 | cons t p ih=>
  have e:sclL c (t::p)=(t.1,t.2.1,c*t.2.2)::sclL c p:=rfl;rw [e];simp only [ev,mev,ih];grind
theorem xbv(c:Rat)(p:BQ)(i j:Int):cf (sclL c p) i j=c*cf p i j:=by
 induction p with
 | nil=>simp only [sclL,List.map_nil,cf,Rat.mul_zero]
 | cons t p ih=>
  have e:sclL c (t::p)=(t.1,t.2.1,c*t.2.2)::sclL c p:=rfl;rw [e];simp only [cf,ih];grind
theorem kW(q:BQ):mulL [] q=[]:=rfl
theorem uF(a:MQ)(p q:BQ):mulL (a::p) q=(q.map λb=>mulT a b)++mulL p q:=by unfold mulL;rw [List.flatMap_cons]
theorem Yaj{p q:BQ}{d e:Nat}(hp:InQ p)(hq:InQ q)(hd:Deg d p)(he:Deg e q)(h:d+e<=24):InQ (mulL p q):=λt ht=>by
 obtain⟨a,ha,hb⟩:=List.mem_flatMap.1 ht;obtain⟨b,hb',rfl⟩:=List.mem_map.1 hb;have h1:=hp a ha;have h2:=hq b hb';have h3:=hd a ha;have h4:=he b hb';unfold inQ mulT at *
 simp only;omega
theorem Ubb{p q:BQ}{d e:Nat}(hd:Deg d p)(he:Deg e q):Deg (d+e) (mulL p q):=λt ht=>by
 obtain⟨a,ha,hb⟩:=List.mem_flatMap.1 ht;obtain⟨b,hb',rfl⟩:=List.mem_map.1 hb;have h3:=hd a ha;have h4:=he b hb';unfold mulT;simp only;omega
theorem wbx{a:MQ}(ha:inQ a){q:BQ}(hq:InQ q)(x y:Rat):ev (q.map λb=>mulT a b) x y=mev a x y*ev q x y:=by
 induction q with
 | nil=>simp only [List.map_nil,ev,Rat.mul_zero]
 | cons b q ih=>
  obtain⟨hb,hq⟩:=Xe.1 hq;simp only [List.map_cons,ev,ih hq];have e1:(a.1+b.1).toNat=a.1.toNat+b.1.toNat:=by unfold inQ at *;omega
  have e2:(a.2.1+b.2.1).toNat=a.2.1.toNat+b.2.1.toNat:=by unfold inQ at *;omega
  unfold mev mulT;simp only [e1,e2,jbJ];grind
theorem Qbr{p q:BQ}(hp:InQ p)(hq:InQ q)(x y:Rat):ev (mulL p q) x y=ev p x y*ev q x y:=by
 induction p with
 | nil=>simp only [kW,ev,Rat.zero_mul]
 | cons a p ih=>
  obtain⟨ha,hp⟩:=Xe.1 hp;rw [uF,QA,wbx ha hq,ih hp];simp only [ev];grind
theorem Xbt(a:MQ)(q:BQ):sz (q.map λb=>mulT a b)<=q.length*(rz a.2.2+2)+sz q:=by
 induction q with
 | nil=>exact Nat.zero_le _
 | cons b q ih=>
  have:=qc a.2.2 b.2.2;simp only [List.map_cons,List.length_cons,Nat.add_mul,sz,mulT]at ih ⊢;omega
theorem ua0(p q:BQ):sz (mulL p q)<=q.length*sz p+p.length*sz q:=by
 induction p with
 | nil=>exact Nat.zero_le _
 | cons a p ih=>
  have:=Xbt a q;rw [uF,ji];simp only [sz,List.length_cons,Nat.mul_add,Nat.add_mul]at *;omega
theorem Zbd(p q:BQ):(mulL p q).length=p.length*q.length:=by
 induction p with
 | nil=>simp [kW]
 | cons a p ih=>rw [uF,List.length_append,ih,List.length_map,List.length_cons,Nat.add_mul,Nat.one_mul,Nat.add_comm]
def addB(p q:BQ):BQ:=nf (p++q)
def subB(p q:BQ):BQ:=nf (p++sclL (-1) q)
def mulB(p q:BQ):BQ:=nf (mulL p q)
def sclB(c:Rat)(p:BQ):BQ:=nf (sclL c p)
end Go.Num
end
section
namespace Go.Num
instance(t:Mo):Decidable (inM t):=by unfold inM;infer_instance
def badO(o:Option Mo)(t:Mo):Bool:=
 match o with
 | none=>false
 | some s=>decide (kM t<=kM s)
def chkT(o:Option Mo)(t:Mo):Nat:=if ¬inM t then 3 else if vldR t.2.2=false then 2 else if rv t.2.2=0 then 8 else if badO o t=true then 12 else 0
def chkG:Option Mo->List Mo->Nat
 | _,[]=>0
 | o,t::l=>if chkT o t≠0 then chkT o t else chkG (some t) l
def chkB(l:List Mo):Nat:=if 325<l.length then 4 else chkG none l
def mcs(p:BQ):List Mo:=p.map mcan
theorem jB(p:BQ):(mcs p).map mv=p:=by
 unfold mcs;rw [List.map_map];have:mv ∘ mcan=id:=funext λt=>JbB t;rw [this,List.map_id]
theorem jbs{t:MQ}(h:inQ t):inM (mcan t):=h
theorem Xaf{t:MQ}(h:inQ t):WLM (mcan t):=by
 obtain⟨h1,h2,h3⟩:=h;refine⟨?_,?_,Qj _⟩
 .unfold i64r mcan;simp only;omega
 .unfold i64r mcan;simp only;omega
theorem Qbb{p:BQ}(h:InQ p):okMs (mcs p):=λt ht=>by
 obtain⟨u,hu,rfl⟩:=List.mem_map.1 ht;exact⟨Xaf (h u hu),jbs (h u hu)⟩
theorem Uy{p:BQ}(h:InQ p):∀t∈mcs p,WLM t:=λt ht=>(Qbb h t ht).1
theorem YU:∀{p:BQ} (o:Option Mo),(∀s,o=some s->∀t∈p,kM s<kq t)->Canon p->chkG o (mcs p)=0
 | [],_,_,_=>rfl
 | t::p,o,ho,h=>by
  obtain⟨a1,a2⟩:=List.pairwise_cons.1 h.str;obtain⟨a3,a4⟩:=Xe.1 h.ins;have e:chkT o (mcan t)=0:=by
   unfold chkT;have n1:inM (mcan t):=a3;have n2:vldR (mcan t).2.2=true:=Jm _;have n3:rv (mcan t).2.2≠0:=by
    have:rv (mcan t).2.2=t.2.2:=Wb _;rw [this];exact h.nz t (by simp)
   rw [if_neg (by simp [n1]),if_neg (by simp [n2]),if_neg n3]
   have:badO o (mcan t)=false:=by
    unfold badO;cases o with
    | none=>rfl
    | some s=>
     have:=ho s rfl t (by simp)
     have e:kM (mcan t)=kq t:=rfl;simp only [e,decide_eq_false_iff_not];omega
   rw [if_neg (by simp [this])]
  have e2:mcs (t::p)=mcan t::mcs p:=rfl;rw [e2,chkG,if_neg (by simp [e])]
  refine YU (some (mcan t)) (λs hs u hu=>?_) ⟨a2,a4,λu hu=>h.nz u (by simp [hu])⟩
  obtain rfl:mcan t=s:=by simpa using hs
  exact a1 u hu
theorem qB{p:BQ}(h:Canon p):chkB (mcs p)=0:=by
 unfold chkB;have:=jN h;rw [if_neg (by unfold mcs;rw [List.length_map];omega)]
 exact YU none (λs hs=>by simp at hs) h
theorem ubJ{o:Option Mo}{t:Mo}(h:chkT o t=0):inM t/\vldR t.2.2=true/\rv t.2.2≠0/\badO o t=false:=by
 unfold chkT at h;split at h
 .contradiction
 .rename_i h1;split at h
  .contradiction
  .rename_i h2;split at h
   .contradiction
   .rename_i h3;split at h
    .contradiction
    .rename_i h4;exact⟨by simpa using h1,by simpa using h2,h3,by simpa using h4⟩
theorem zaU{o:Option Mo}{t:Mo}{l:List Mo}(h:chkG o (t::l)=0):chkT o t=0/\chkG (some t) l=0:=by
 rw [chkG]at h;split at h
 .rename_i h1;exact absurd h h1
 .rename_i h1;exact⟨by simpa using h1,h⟩
theorem Vbw{t:Mo}(hw:WLR t.2.2)(hv:vldR t.2.2=true):mcan (mv t)=t:=by
 have:=VK hw hv;unfold mcan mv;simp only [this]
theorem jaL:∀{l:List Mo} {o:Option Mo},chkG o l=0->(∀t∈l,WLM t)->Canon (l.map mv)/\mcs (l.map mv)=l/\∀s,o=some s->∀t∈l,kM s<kM t
 | [],o,_,_=>⟨⟨List.Pairwise.nil,λt ht=>by simp at ht,λt ht=>by simp at ht⟩,rfl,λs _ t ht=>by simp at ht⟩
 | t::l,o,h,hw=>by
  obtain⟨h1,h2⟩:=zaU h;obtain⟨a1,a2,a3,a4⟩:=ubJ h1;obtain⟨b1,b2,b3⟩:=jaL h2 λu hu=>hw u (by simp [hu])
  have b4:=b3 t rfl;refine⟨⟨List.pairwise_cons.2 ⟨λu hu=>?_,b1.str⟩,Xe.2 ⟨a1,b1.ins⟩,λu hu=>?_⟩,?_,λs hs u hu=>?_⟩
  .obtain⟨v,hv,rfl⟩:=List.mem_map.1 hu;exact b4 v hv
  .rcases List.mem_cons.1 hu with rfl | hu
   .exact a3
   .exact b1.nz u hu
  .have e:mcs ((t::l).map mv)=mcan (mv t)::mcs (l.map mv):=rfl;rw [e,b2,Vbw (hw t (by simp)).2.2 a2]
  .subst hs;have hst:kM s<kM t:=by
    unfold badO at a4;simp only [decide_eq_false_iff_not]at a4;omega
   rcases List.mem_cons.1 hu with rfl | hu
   .exact hst
   .exact Nat.lt_trans hst (b4 u hu)
theorem Jbi{l:List Mo}(h:chkB l=0):l.length<=325/\chkG none l=0:=by
 unfold chkB at h;split at h
 .contradiction
 .exact⟨by omega,h⟩
theorem XD{l:List Mo}(h:chkB l=0)(hw:∀t∈l,WLM t):Canon (l.map mv)/\mcs (l.map mv)=l:=by
 obtain⟨h1,h2,_⟩:=jaL (Jbi h).2 hw;exact⟨h1,h2⟩
def degB(p:BQ):Int:=match p.getLast? with
 | none=>-1
 | some t=>t.1+t.2.1
structure PB (d s:Nat) (p:BQ):Prop where
 canon:Canon p
 deg:Deg d p
 size:sz p<=s
theorem PB.mono{d s d' s' : Nat}{p:BQ}(h:PB d s p)(hd:d<=d')(hs:s<=s'):PB d' s' p:=⟨h.canon,kbb h.deg hd,Nat.le_trans h.size hs⟩
theorem PB.add{d s s' : Nat}{p q:BQ}(h:PB d s p)(h' : PB d s' q):PB d (s+s') (addB p q):=
 ⟨Qm (kg.2 ⟨h.canon.ins,h'.canon.ins⟩),vS (YQ h.deg h'.deg),by
  have:=xaJ (p++q);rw [ji]at this;have h1:=h.size;have h2:=h'.size;unfold addB;omega⟩
theorem ZS(p:BQ):sz (sclL (-1) p)=sz p:=by
 induction p with
 | nil=>rfl
 | cons t p ih=>
  have e:sclL (-1) (t::p)=(t.1,t.2.1,-1*t.2.2)::sclL (-1) p:=rfl;have e2:(-1:Rat)*t.2.2 = -t.2.2:=by grind
  rw [e];simp only [sz,ih,e2,kN]
theorem PB.sub{d s s' : Nat}{p q:BQ}(h:PB d s p)(h' : PB d s' q):PB d (s+s') (subB p q):=
 ⟨Qm (kg.2 ⟨h.canon.ins,jZ h'.canon.ins⟩),vS (YQ h.deg (Uba h'.deg)),by
  have:=xaJ (p++sclL (-1) q);rw [ji,ZS]at this;have h1:=h.size;have h2:=h'.size;unfold subB;omega⟩
theorem PB.len{d s:Nat}{p:BQ}(h:PB d s p):p.length<=tri (d+1):=ZD h.canon h.deg
theorem PB.mul{d s d' s' : Nat}{p q:BQ}(h:PB d s p)(h' : PB d' s' q)(hd:d+d'<=24):PB (d+d') (tri (d' + 1)*s+tri (d+1)*s') (mulB p q):=
 ⟨Qm (Yaj h.canon.ins h'.canon.ins h.deg h'.deg hd),vS (Ubb h.deg h'.deg),by
  have h1:=xaJ (mulL p q);have h2:=ua0 p q;have h3:=Nat.mul_le_mul h'.len h.size;have h4:=Nat.mul_le_mul h.len h'.size;unfold mulB;omega⟩
theorem Zbk{d s s' : Nat}{p q:BQ}(h:PB d s p)(h' : PB d s' q)(x y:Rat):ev (addB p q) x y=ev p x y+ev q x y:=by
 unfold addB;rw [wa3 (kg.2 ⟨h.canon.ins,h'.canon.ins⟩),QA]
theorem uaa{d s s' : Nat}{p q:BQ}(h:PB d s p)(h' : PB d s' q)(x y:Rat):ev (subB p q) x y=ev p x y-ev q x y:=by
 unfold subB;rw [wa3 (kg.2 ⟨h.canon.ins,jZ h'.canon.ins⟩),QA,yaV];grind
theorem xM{d s d' s' : Nat}{p q:BQ}(h:PB d s p)(h' : PB d' s' q)(hd:d+d'<=24)(x y:Rat):ev (mulB p q) x y=ev p x y*ev q x y:=by
 unfold mulB;rw [wa3 (Yaj h.canon.ins h'.canon.ins h.deg h'.deg hd),Qbr h.canon.ins h'.canon.ins]
def linB(b:Bool)(c:Rat):BQ:=nf [(if b then 0 else 1,if b then 1 else 0,1),(0,0,-c)]
def conB(c:Rat):BQ:=nf [(0,0,c)]
theorem PB.lin(b:Bool)(c:Rat):PB 1 (rz c+6) (linB b c):=by
 refine⟨Qm λt ht=>?_,vS λt ht=>?_,?_⟩
 .simp only [List.mem_cons,List.not_mem_nil,or_false]at ht;rcases ht with rfl | rfl <;> cases b <;> simp [inQ]
 .simp only [List.mem_cons,List.not_mem_nil,or_false]at ht;rcases ht with rfl | rfl <;> cases b <;> simp
 .refine Nat.le_trans (xaJ _) ?_;have h1:=rz_1;have h2:=kN c;simp only [sz];omega
theorem PB.con(c:Rat):PB 0 (rz c+2) (conB c):=by
 refine⟨Qm λt ht=>?_,vS λt ht=>?_,?_⟩
 .simp only [List.mem_singleton]at ht;subst ht;simp [inQ]
 .simp only [List.mem_singleton]at ht;subst ht;simp
 .refine Nat.le_trans (xaJ _) ?_;simp only [sz];omega
theorem ubE(c x y:Rat):ev (conB c) x y=c:=by
 unfold conB;rw [wa3 λt ht=>?_]
 .simp [ev,mev,pw];grind
 .simp only [List.mem_singleton]at ht;subst ht;simp [inQ]
end Go.Num
end
section
namespace Go.Num
open Go.Abs
def ordZ(x y:Int):Int:=if x<y then -1 else if y<x then 1 else 0
theorem kbG{s t:Mo}(hs:inM s)(ht:inM t):(if ordZ (s.1+s.2.1) (t.1+t.2.1)≠0 then ordZ (s.1+s.2.1) (t.1+t.2.1) else ordZ s.1 t.1)=ordK (kM s) (kM t):=by
 have h1:=Ja4 hs ht;have h2:=Ja4 ht hs;unfold ordZ ordK;by_cases a1:s.1+s.2.1<t.1+t.2.1
 .rw [if_pos a1,if_pos (by decide),if_pos (h1.2 (.inl a1))]
 .rw [if_neg a1];by_cases a2:t.1+t.2.1<s.1+s.2.1
  .rw [if_pos a2,if_pos (by decide),if_neg (by rw [h1];omega),if_pos (h2.2 (.inl a2))]
  .rw [if_neg a2,if_neg (by decide)]
   by_cases a3:s.1<t.1
   .rw [if_pos a3,if_pos (h1.2 (.inr ⟨by omega,a3⟩))]
   .rw [if_neg a3];by_cases a4:t.1<s.1
    .rw [if_pos a4,if_neg (by rw [h1];omega),if_pos (h2.2 (.inr ⟨by omega,a4⟩))]
    .rw [if_neg a4,if_neg (by rw [h1];omega),if_neg (by rw [h2];omega)]
def nzM(t:Mo):Bool:=decide (rv t.2.2≠0)
theorem getDm{l:List Mo}{i:Nat}{x:Mo}(hi:i<l.length)(h:l.getD i mo0=x):l[i]?=some x:=by
 rw [List.getD_eq_getElem?_getD,List.getElem?_eq_getElem hi]at h;rw [List.getElem?_eq_getElem hi];simpa using h
end Go.Num
namespace Go.Abs
open Go.Num
variable {P:Program} {Γ:Nat->Spec}
def onI2(k:Int->Int->Prop)(a:AV):Prop:=∃x y,a=.one (.slice [[.lit (.int .i64 x)],[.lit (.int .i64 y)]])/\k x y
@[congr] theorem jbS{k:Int->Int->Prop}{a a'}(h:a=a'):onI2 k a=onI2 k a':=by subst h;rfl
theorem wa0(k:Int->Int->Prop)(x y:Int):onI2 k (.one (.slice [[.lit (.int .i64 x)],[.lit (.int .i64 y)]]))=k x y:=by
 refine propext ⟨λ⟨x',y',h,hk⟩=>?_,λh=>⟨x,y,rfl,h⟩⟩;simp only [AV.one.injEq,C.slice.injEq,List.cons.injEq,C.lit.injEq,Value.int.injEq,true_and,and_true]at h;obtain⟨rfl,rfl⟩:=h;exact hk
theorem wbl{β:Type}{T:Int->Int->(β->Prop)->Prop}(h:∀x y,GoodT (T x y)){a:AV}:GoodT λK=>onI2 (λx y=>T x y K) a:=
 .of λK hx=>by
  obtain⟨x,y,rfl,hk⟩:=hx;have:(λK=>onI2 (λx y=>T x y K) (.one (.slice [[.lit (.int .i64 x)],[.lit (.int .i64 y)]])))=T x y:=funext λK=>wa0 _ x y;rw [this];exact h x y
attribute [go_sem,go_sem ↓] wa0
def onMs(k:List Mo->Prop)(a:AV):Prop:=∃l,a=.one (ms l)/\(∀x∈l,WLM x)/\k l
@[congr] theorem Wb0{k:List Mo->Prop}{a a'}(h:a=a'):onMs k a=onMs k a':=by subst h;rfl
theorem jP(k:List Mo->Prop)(l:List Mo):onMs k (.one (.slice (l.map mC)))=((∀x∈l,WLM x)/\k l):=by
 refine propext ⟨λ⟨x,h,h1,h2⟩=>?_,λh=>⟨l,rfl,h⟩⟩;have:=yaP l x h;subst this;exact⟨h1,h2⟩
theorem qaD(k:List Mo->Prop):onMs k (.one (.slice []))=k []:=by
 have:=jP k [];simp only [List.map_nil,List.not_mem_nil,false_implies,implies_true,true_and]at this;exact this
theorem Qu{β:Type}{T:List Mo->(β->Prop)->Prop}(h:∀l,GoodT (T l)){a:AV}:GoodT λK=>onMs (λl=>T l K) a:=
 .of λK hx=>by
  obtain⟨l,rfl,hw,hk⟩:=hx;have:(λK=>onMs (λl=>T l K) (.one (ms l)))=λK=>(∀x∈l,WLM x)/\T l K:=funext λK=>jP _ l;rw [this];exact .and λ_=>h l
def onM2(k:List Mo->List Mo->Prop)(a:AV):Prop:=∃p q,a=.one (.slice [[ms p],[ms q]])/\((∀x∈p,WLM x)/\(∀x∈q,WLM x))/\k p q
@[congr] theorem ZbT{k:List Mo->List Mo->Prop}{a a'}(h:a=a'):onM2 k a=onM2 k a':=by subst h;rfl
theorem JaQ(k:List Mo->List Mo->Prop)(p q:List Mo):onM2 k (.one (.slice [[.slice (p.map mC)],[.slice (q.map mC)]]))=(((∀x∈p,WLM x)/\(∀x∈q,WLM x))/\k p q):=by
 refine propext ⟨λ⟨x,y,h,h1,h2⟩=>?_,λh=>⟨p,q,rfl,h⟩⟩;simp only [ms,AV.one.injEq,C.slice.injEq,List.cons.injEq,and_true]at h;obtain⟨e1,e2⟩:=h;have:=um e1;have:=um e2
 subst_vars;exact⟨h1,h2⟩
theorem Ubm{β:Type}{T:List Mo->List Mo->(β->Prop)->Prop}(h:∀p q,GoodT (T p q)){a:AV}:GoodT λK=>onM2 (λp q=>T p q K) a:=
 .of λK hx=>by
  obtain⟨p,q,rfl,hw,hk⟩:=hx;have:(λK=>onM2 (λp q=>T p q K) (.one (.slice [[ms p],[ms q]])))=λK=>((∀x∈p,WLM x)/\(∀x∈q,WLM x))/\T p q K:=funext λK=>JaQ _ p q;rw [this];exact .and λ_=>h p q
attribute [go_sem,go_sem ↓] jP qaD JaQ
def WG(l:List AV)(K:AV->Prop):Prop:=
 match l with
 | [a]=>asInt (λk n=>k=.i64/\K (.one (.lit (.bool false)))) a
 | _=>False
theorem WaY a K:WG [a] K=(asInt (λk n=>k=.i64/\K (.one (.lit (.bool false)))) a):=propext Iff.rfl
@[congr] theorem xbY{K}{l l'}(h:l=l'):WG l K=WG l' K:=by subst h;rfl
attribute [go_sem,go_sem ↓] WaY
theorem ka6:Good WG:=Ya λas=>by
 unfold WG;split
 .exact(Jd (λ_ _=>(.and λ_=>(.ret _))) _)
 .exact .of λK hk=>hk.elim
def jE(l:List AV)(K:AV->Prop):Prop:=
 match l with
 | [a,b]=>asInt (λk x=>asInt (λk' y=>k=.i64/\k' = .i64/\K (.one (.lit (.int .i64 (ordZ x y))))) b) a
 | _=>False
theorem uaP a b K:jE [a,b] K=(asInt (λk x=>asInt (λk' y=>k=.i64/\k' = .i64/\K (.one (.lit (.int .i64 (ordZ x y))))) b) a):=propext Iff.rfl
@[congr] theorem VbS{K}{l l'}(h:l=l'):jE l K=jE l' K:=by subst h;rfl
attribute [go_sem,go_sem ↓] uaP
theorem yaK:Good jE:=Ya λas=>by
 unfold jE;split
 .repeat (first | exact .ret _ | exact .of (λK hk=>hk.elim) | (refine .and λ_=>?_) | (refine vg λ_=>?_) | (refine wbl λ_=>?_) | (refine Qu λ_=>?_) | (refine Ubm λ_=>?_) | (refine Wm λ_=>?_) | (refine jaX λ_=>?_) | (refine Jd (λ_ _=>?_) _) | (refine ZI (λ_=>?_) _) | (refine JD ?_ ?_) | (intro _) | assumption)
 .exact .of λK hk=>hk.elim
def jV(l:List AV)(K:AV->Prop):Prop:=
 match l with
 | [a]=>onI2 (λx y=>K (.one (.lit (.int .i64 (if x≠0 then x else y))))) a
 | _=>False
theorem vbm a K:jV [a] K=onI2 (λx y=>K (.one (.lit (.int .i64 (if x≠0 then x else y))))) a:=propext Iff.rfl
@[congr] theorem kb3{K}{l l'}(h:l=l'):jV l K=jV l' K:=by subst h;rfl
attribute [go_sem,go_sem ↓] vbm
theorem Qbc:Good jV:=Ya λas=>by
 unfold jV;split
 .exact wbl λ_ _=>.ret _
 .exact .of λK hk=>hk.elim
def Jk(l:List AV)(K:AV->Prop):Prop:=
 match l with
 | [a]=>onM (λt=>K (.one (.lit (.bool (decide (inM t)))))) a
 | _=>False
theorem zS a K:Jk [a] K=(onM (λt=>K (.one (.lit (.bool (decide (inM t)))))) a):=propext Iff.rfl
@[congr] theorem xbz{K}{l l'}(h:l=l'):Jk l K=Jk l' K:=by subst h;rfl
attribute [go_sem,go_sem ↓] zS
theorem Q3:Good Jk:=Ya λas=>by
 unfold Jk;split
 .exact(jaX λ_=>(.ret _))
 .exact .of λK hk=>hk.elim
def kC(l:List AV)(K:AV->Prop):Prop:=
 match l with
 | [a]=>onM (λt=>rl t.2.2<=4294967296/\K (.one (.lit (.bool (!nzM t))))) a
 | _=>False
theorem za8 a K:kC [a] K=(onM (λt=>rl t.2.2<=4294967296/\K (.one (.lit (.bool (!nzM t))))) a):=propext Iff.rfl
@[congr] theorem WbY{K}{l l'}(h:l=l'):kC l K=kC l' K:=by subst h;rfl
attribute [go_sem,go_sem ↓] za8
theorem waS:Good kC:=Ya λas=>by
 unfold kC;split
 .exact(jaX λ_=>(.and λ_=>(.ret _)))
 .exact .of λK hk=>hk.elim
def Xv:AC:=(.seq (.ops false [.m 2 .fa])
 (.fg [0] (.seq (.ops false [.m 3 (.t 0),.m 4 (.t 0),.u 5 (.bin .neq (.t 3) (.t 4)),.m 2 (.t 5)])
 .ret)))
def jg(f0:Nat):AC:=(.seq (.ops false [.m 4 (.i 0)])
 (.fg [0,1] (.seq (.ops false [.m 7 (.t 0),.u 8 (.call f0 [(.t 7)]),.m 5 (.t 8)])
 (.fg [0,1,5] (.seq (.ops false [.m 9 (.t 1),.u 10 (.call f0 [(.t 9)]),.m 6 (.t 10)])
 (.fg [0,1,5,6] (.seq (.seq (.ops false [.m 11 (.t 5)])
 (.fg [0,1,6,11] (.cond (.t 11) (.seq (.seq (.ops false [.m 12 (.t 6)])
 (.fg [12] (.cond (.t 12) (.seq (.ops false [.m 4 (.i 0)])
 .ret) .skip)))
 (.fg [] (.seq (.ops false [.m 4 (.i (-1))])
 .ret))) .skip)))
 (.fg [0,1,6] (.seq (.seq (.ops false [.m 13 (.t 6)])
 (.fg [0,1,13] (.cond (.t 13) (.seq (.ops false [.m 4 (.i 1)])
 .ret) .skip)))
 (.fg [0,1] (.seq (.seq (.ops false [.m 14 (.t 0),.m 15 (.t 1),.u 16 (.bin .lss (.t 14) (.t 15))])
 (.fg [0,1,16] (.cond (.t 16) (.seq (.ops false [.m 4 (.i (-1))])
 .ret) .skip)))
 (.fg [0,1] (.seq (.seq (.ops false [.m 17 (.t 0),.m 18 (.t 1),.u 19 (.bin .gtr (.t 17) (.t 18))])
 (.fg [19] (.cond (.t 19) (.seq (.ops false [.m 4 (.i 1)])
 .ret) .skip)))
 (.fg [] (.seq (.ops false [.m 4 (.i 0)])
 .ret)))))))))))))))
def vD:AC:=(.seq (.ops false [.m 2 (.i 0)])
 (.fg [0] (.seq (.ops false [.m 3 (.i 0)])
 (.fg [0,3] (.seq (.seq (.ops false [.m 6 (.t 0),.u 7 (.len (.t 6)),.m 8 (.i 0)])
 (.fg [3,6,7,8] (.block 0 (.loop (.seq (.ops false [.u 9 (.bin .lss (.t 8) (.t 7))])
 (.fg [3,6,7,8,9] (.seq (.cond (.t 9) .skip (.exit 0))
 (.fg [3,6,7,8] (.seq (.block 1 (.seq (.ops false [.u 10 (.idx 1 (.t 6) (.t 8)),.u 11 (.ld none 1 false (.t 10)),.m 5 (.t 11)])
 (.fg [3,5,6,7,8] (.seq (.ops false [.m 12 (.t 5),.m 13 (.t 3),.u 14 (.bin .neq (.t 12) (.t 13))])
 (.fg [3,5,6,7,8,14] (.cond (.t 14) (.seq (.ops false [.m 15 (.t 5),.m 2 (.t 15)])
 .ret) .skip))))))
 (.fg [3,6,7,8] (.ops false [.u 16 (.bin .add (.t 8) (.i 1)),.m 8 (.t 16)])))))))))))
 (.fg [3] (.seq (.ops false [.m 17 (.t 3),.m 2 (.t 17)])
 .ret)))))))
def Wo:AC:=(.seq (.ops false [.u 1 (.box 5 (.t 0)),.m 2 .fa])
 (.fg [1] (.seq (.ops false [.u 3 (.fa 0 (.t 1)),.u 4 (.ld none 1 false (.t 3)),.u 5 (.bin .geq (.t 4) (.i 0)),.m 6 (.t 5),.w 7 6 true (.fa 1 (.t 1)),.w 8 6 true (.ld none 1 false (.t 7)),.w 9 6 true (.bin .geq (.t 8) (.i 0)),.u 10 (.pick (.t 6) (.t 9) .fa),.m 11 (.t 10),.w 12 11 true (.fa 0 (.t 1)),.w 13 11 true (.ld none 1 false (.t 12)),.w 14 11 true (.bin .leq (.t 13) (.i 24)),.u 15 (.pick (.t 11) (.t 14) .fa),.m 16 (.t 15),.w 17 16 true (.fa 1 (.t 1)),.w 18 16 true (.ld none 1 false (.t 17)),.w 19 16 true (.bin .leq (.t 18) (.i 24)),.u 20 (.pick (.t 16) (.t 19) .fa),.m 21 (.t 20),.w 22 21 true (.fa 0 (.t 1)),.w 23 21 true (.ld none 1 false (.t 22)),.w 24 21 true (.fa 1 (.t 1)),.w 25 21 true (.ld none 1 false (.t 24)),.w 26 21 true (.bin .add (.t 23) (.t 25)),.w 27 21 true (.bin .leq (.t 26) (.i 24)),.u 28 (.pick (.t 21) (.t 27) .fa),.m 2 (.t 28)])
 .ret)))
def Vs(f0 f1:Nat):AC:=(.seq (.ops false [.u 2 (.box 5 (.t 0)),.u 3 (.box 5 (.t 1)),.m 4 (.i 0)])
 (.fg [2,3] (.seq (.ops true [.u 5 (.fa 0 (.t 2)),.u 6 (.ld none 1 false (.t 5)),.u 7 (.fa 1 (.t 2)),.u 8 (.ld none 1 false (.t 7)),.u 9 (.bin .add (.t 6) (.t 8)),.u 10 (.fa 0 (.t 3)),.u 11 (.ld none 1 false (.t 10)),.u 12 (.fa 1 (.t 3)),.u 13 (.ld none 1 false (.t 12)),.u 14 (.bin .add (.t 11) (.t 13)),.u 15 (.call f0 [(.t 9),(.t 14)]),.u 16 (.fa 0 (.t 2)),.u 17 (.ld none 1 false (.t 16)),.u 18 (.fa 0 (.t 3)),.u 19 (.ld none 1 false (.t 18)),.u 20 (.call f0 [(.t 17),(.t 19)]),.u 21 (.row 1 [[.x 1 (.t 15)],[.x 1 (.t 20)]]),.u 22 (.call f1 [(.t 21)]),.m 4 (.t 22)])
 .ret)))
def zu(f0:Nat):AC:=(.seq (.ops false [.u 1 (.box 5 (.t 0)),.m 2 .fa])
 (.fg [1] (.seq (.ops false [.u 3 (.fa 2 (.t 1)),.u 4 (.ld none 3 true (.t 3)),.u 5 (.call f0 [(.t 4)]),.u 6 (.bin .eql (.t 5) (.i 0)),.m 2 (.t 6)])
 .ret)))
theorem uT(K:List C->Prop)(a b:List C)(r:List (List C)):getE K (a::b::r) 1=K b:=by
 unfold getE;refine propext ⟨λh=>h.2 b rfl,λh=>⟨by simp,λe he=>?_⟩⟩
 simp only [List.getElem?_cons_succ,List.getElem?_cons_zero,Option.some.injEq]at he;subst he;exact h
theorem c02:(((0:Nat):Int)<2)=True:=eq_true (by decide)
theorem c12:(((1:Nat):Int)<2)=True:=eq_true (by decide)
theorem c22:(((2:Nat):Int)<2)=False:=eq_false (by decide)
theorem ZaE(hΓ:Holds P Γ){f:Nat}(hc:check P f=some (6,Xv.strip,[.tmp 2])):Sound P f (.dat true WG):=by
 refine Wa hc ka6 hΓ (λargs K hcl hfi hG=>?_);match args,hG with
 | [a],hG=>
  obtain⟨k,n,rfl,rfl,hK⟩:=vb hG;refine⟨by simp,?_⟩
  simp only [go_sem,Xv];simpa using hK
theorem jaJ(hΓ:Holds P Γ){f fn:Nat}(hn:Γ fn=.dat true WG)(hc:check P f=some (20,(jg fn).strip,[.tmp 4])):Sound P f (.dat true jE):=by
 refine Wa hc yaK hΓ (λargs K hcl hfi hG=>?_);match args,hG with
 | [a,b],hG=>
  obtain⟨k,x,rfl,hG⟩:=vb hG;obtain⟨k',y,rfl,rfl,rfl,hK⟩:=vb hG;refine⟨by simp,?_⟩
  unfold ordZ at hK;by_cases h1:x<y
  .rw [if_pos h1]at hK;simp only [go_sem,jg,hn,h1];exact hK
  .rw [if_neg h1]at hK;by_cases h2:y<x
   .rw [if_pos h2]at hK;simp only [go_sem,jg,hn,h1,h2];exact hK
   .rw [if_neg h2]at hK;simp only [go_sem,jg,hn,h1,h2];exact hK
theorem JaU(hΓ:Holds P Γ){f:Nat}(hc:check P f=some (18,vD.strip,[.tmp 2])):Sound P f (.dat true jV):=by
 refine Wa hc Qbc hΓ (λargs K hcl hfi hG=>?_);match args,hG with
 | [a],hG=>
  obtain⟨x,y,rfl,hK⟩:=hG;refine⟨by simp,?_⟩
  simp only [go_sem,vD];refine Xa (λk:Nat=>⟨mkV [(3,.one (.lit (.int .i64 0))),(6,.one (.slice [[.lit (.int .i64 x)],[.lit (.int .i64 y)]])),(7,.one (.lit (.int .i64 2))),(8,.one (.lit (.int .i64 k)))],mkH []⟩) (λk=>k<=2/\(0<k->x=0)/\(1<k->y=0)) (λk=>2-k) 0 ?_ ?_ ?_
  .exact Qa (by simp [okS,okV,okC,okL,okH,okB,okE,ja,Va,qa,ka,wsA,ws]) trivial
  .exact⟨by decide,by omega,by omega⟩
  .rintro k ⟨hk,h1,h2⟩;have hk3:k=0∨k=1∨k=2:=by omega
   rcases hk3 with rfl | rfl | rfl
   .by_cases hx:x=0
    .subst hx;simp only [go_sem,c02];refine⟨by decide,1,Qa (by simp [okS,okV,okC,okL,okH,okB,okE,ja,Va,qa,ka,wsA,ws]) trivial,⟨by omega,by omega⟩,by omega⟩
    .rw [if_pos hx]at hK;simp only [go_sem,c02,hx];exact hK
   .have hx:=h1 (by omega)
    subst hx;rw [if_neg (by simp)]at hK
    by_cases hy:y=0
    .subst hy;simp only [go_sem,c12,uT];refine⟨by decide,2,Qa (by simp [okS,okV,okC,okL,okH,okB,okE,ja,Va,qa,ka,wsA,ws]) trivial,by omega,by omega⟩
    .simp only [go_sem,c12,uT,hy];exact hK
   .have hx:=h1 (by omega)
    have hy:=h2 (by omega)
    subst hx hy;simp only [go_sem,c22];simpa using hK
theorem VX(hΓ:Holds P Γ){f:Nat}(hc:check P f=some (29,Wo.strip,[.tmp 2])):Sound P f (.dat true Jk):=by
 refine Wa hc Q3 hΓ (λargs K hcl hfi hG=>?_);match args,hG with
 | [a],hG=>
  obtain⟨t,rfl,⟨hw1,hw2,hw3⟩,hK⟩:=hG;refine⟨by simp,?_⟩
  unfold i64r at hw1 hw2;simp only [go_sem,Wo,mC];have no:¬inM t->K (.one (.lit (.bool false))):=λh=>by rw [decide_eq_false h]at hK;exact hK
  refine⟨λa=>⟨λb=>⟨λc=>⟨λd=>⟨⟨by omega,by omega⟩,?_⟩,λd=>no ?_⟩,λc=>no ?_⟩,λb=>no ?_⟩,λa=>no ?_⟩
  .have e:decide (inM t)=decide (t.1+t.2.1<=24):=by
    unfold inM;simp [a,b]
   rw [e]at hK;exact hK
  all_goals
   unfold inM;omega
theorem U3(hΓ:Holds P Γ){f fo fc:Nat}(ho:Γ fo=.dat true jV)(hcm:Γ fc=.dat true jE)(hc:check P f=some (23,(Vs fc fo).strip,[.tmp 4])):Sound P f (.dat true Ww):=by
 refine Wa hc Ua3 hΓ (λargs K hcl hfi hG=>?_);match args,hG with
 | [a,b],hG=>
  obtain⟨s,rfl,hws,t,rfl,hwt,hs,ht,hK⟩:=hG;refine⟨by simp,?_⟩
  rw [<-kbG hs ht]at hK;obtain⟨s1,s2,s3⟩:=hs;obtain⟨t1,t2,t3⟩:=ht;simp only [go_sem,Vs,ho,hcm,mC];repeat first | refine Ja (by omega) ?_ | refine Ja (by assumption) ?_ | refine Ja rfl ?_ | refine Ja ⟨rfl,by omega⟩ ?_ | refine Ja ⟨rfl,by omega,by omega⟩ ?_ | intro _
  exact hK
theorem YaG(hΓ:Holds P Γ){f fs:Nat}(hs:Γ fs=.dat true qg)(hc:check P f=some (7,(zu fs).strip,[.tmp 2])):Sound P f (.dat true kC):=by
 refine Wa hc waS hΓ (λargs K hcl hfi hG=>?_);match args,hG with
 | [a],hG=>
  obtain⟨t,rfl,hw,hl,hK⟩:=hG;refine⟨by simp,?_⟩
  have e:(!nzM t)=decide (ordQ (rv t.2.2) 0=0):=by
   unfold nzM;by_cases h:rv t.2.2=0
   .rw [decide_eq_true (Vq.2 h)];simp [h]
   .rw [decide_eq_false (λh'=>h (Vq.1 h'))];simp [h]
  rw [e]at hK;simp only [go_sem,zu,hs,mC];exact⟨hw.2.2,hl,hK⟩
end Go.Abs
end
section
namespace Go.Num
open Go.Abs
theorem qbH{l:List Mo}{k:Nat}{x:Mo}(hx:l[k]?=some x)(ha:(l.take k).all nzM=true)(hn:nzM x=false):(l.takeWhile nzM).length=k/\l.all nzM=false:=by
 induction l generalizing k with
 | nil=>simp at hx
 | cons y l ih=>
  cases k with
  | zero=>
   simp only [List.getElem?_cons_zero,Option.some.injEq]at hx;subst hx;simp [List.takeWhile_cons,hn]
  | succ k=>
   simp only [List.getElem?_cons_succ]at hx;simp only [List.take_succ_cons,List.all_cons,Bool.and_eq_true]at ha;obtain⟨h1,h2⟩:=ih hx ha.2;simp [List.takeWhile_cons,ha.1,h1,h2]
theorem Zag{l:List Mo}(h:l.all nzM=true):l.filter nzM=l:=List.filter_eq_self.2 λx hx=>List.all_eq_true.1 h x hx
theorem VW{l:List Mo}{k:Nat}{x:Mo}(hx:l[k]?=some x):(l.take (k+1)).filter nzM=(l.take k).filter nzM++if nzM x=true then [x] else []:=by
 rw [List.take_add_one,hx,List.filter_append];cases h:nzM x <;> simp [h]
theorem allS{α:Type}{f:α->Bool}{l:List α}{k:Nat}{x:α}(hx:l[k]?=some x)(ha:(l.take k).all f=true)(hz:f x=true):(l.take (k+1)).all f=true:=by
 rw [List.take_add_one,hx,List.all_append,ha];simp [hz]
theorem ybr{l:List Mo}(h:l.all nzM≠true):(l.takeWhile nzM).length<l.length/\(l.take (l.takeWhile nzM).length).all nzM=true/\∃x,l[(l.takeWhile nzM).length]?=some x/\nzM x=false:=by
 induction l with
 | nil=>simp at h
 | cons y l ih=>
  cases hy:nzM y with
  | false=>simp [List.takeWhile_cons,hy]
  | true=>
   have h' : l.all nzM≠true:=by simpa [hy] using h
   obtain⟨h1,h2,x,h3,h4⟩:=ih h';simp only [List.takeWhile_cons,hy,if_true,List.length_cons,List.take_succ_cons,List.all_cons,Bool.true_and,List.getElem?_cons_succ];exact⟨by omega,h2,x,h3,h4⟩
end Go.Num
namespace Go.Abs
open Go.Num
variable {P:Program} {Γ:Nat->Spec}
def JG(fd:Nat)(l:List AV)(K:AV->Prop):Prop:=
 match l with
 | [a,c]=>onMs (λl=>c=fnV fd/\(∀t∈l,rl t.2.2<=4294967296)/\l.length<=68719476736/\K (.one (.lit (.int .i64 (if l.all nzM=true then -1 else ((l.takeWhile nzM).length:Nat)))))) a
 | _=>False
theorem UaK fd a c K:JG fd [a,c] K=(onMs (λl=>c=fnV fd/\(∀t∈l,rl t.2.2<=4294967296)/\l.length<=68719476736/\K (.one (.lit (.int .i64 (if l.all nzM=true then -1 else ((l.takeWhile nzM).length:Nat)))))) a):=propext Iff.rfl
@[congr] theorem zbY fd{K}{l l'}(h:l=l'):JG fd l K=JG fd l' K:=by subst h;rfl
attribute [go_sem,go_sem ↓] UaK
theorem va6(fd:Nat):Good (JG fd):=Ya λas=>by
 unfold JG;split
 .exact(Qu λ_=>(.and λ_=>(.and λ_=>(.and λ_=>(.ret _)))))
 .exact .of λK hk=>hk.elim
def uE(fd:Nat)(d:Option Nat)(args:List AV)(h:Nat->HB)(K:AV->(Nat->HB)->Prop):Prop:=
 match args with
 | [.one (.own r ver 5 0 len),c]=>∃l:List Mo,c=fnV fd/\len=l.length/\len<=1000000000/\h r=⟨ver,some ⟨l.map mC,5,true⟩⟩/\(∀t∈l,WLM t/\rl t.2.2<=4294967296)/\
   ∀es,K (.one (.own r ver 5 0 (l.filter nzM).length)) (upd h r ⟨ver,some ⟨(l.filter nzM).map mC++es,5,true⟩⟩)
 | [.one .emp,c]=>c=fnV fd/\K (.one (.slice [])) h
 | _=>False
@[congr] theorem Vb2 {fd:Nat} {d:Option Nat} {l l' : List AV} {h h' : Nat->HB} {K:AV->(Nat->HB)->Prop} (e1:l=l') (e2:h=h'):uE fd d l h K=uE fd d l' h' K:=by subst e1;subst e2;rfl
def qh:AC:=(.seq (.ops false [.m 4 (.i 0)])
 (.fg [0,1] (.seq (.seq (.ops false [.m 6 (.t 0),.u 7 (.len (.t 6)),.m 8 (.i 0)])
 (.fg [0,1,7,8] (.block 0 (.loop (.seq (.ops false [.u 9 (.bin .lss (.t 8) (.t 7))])
 (.fg [0,1,7,8,9] (.seq (.cond (.t 9) .skip (.exit 0))
 (.fg [0,1,7,8] (.seq (.block 1 (.seq (.ops false [.m 10 (.t 8),.m 5 (.t 10)])
 (.fg [0,1,5,7,8] (.seq (.ops false [.m 11 (.t 1),.m 12 (.t 0),.m 13 (.t 5),.u 14 (.idx 5 (.t 12) (.t 13)),.u 15 (.ld none 5 true (.t 14)),.u 16 (.callv (.t 11) [(.t 15)])])
 (.fg [0,1,5,7,8,16] (.cond (.t 16) (.seq (.ops false [.m 17 (.t 5),.m 4 (.t 17)])
 .ret) .skip))))))
 (.fg [0,1,7,8] (.ops false [.u 18 (.bin .add (.t 8) (.i 1)),.m 8 (.t 18)])))))))))))
 (.fg [] (.seq (.ops false [.m 4 (.i (-1))])
 .ret)))))
def jd(f0:Nat):AC:=(.seq (.ops false [.m 4 (.c (.one .emp))])
 (.fg [0,1] (.seq (.ops false [.m 8 (.t 0),.m 9 (.t 1),.u 10 (.call f0 [(.t 8),(.t 9)]),.m 5 (.t 10)])
 (.fg [0,1,5] (.seq (.seq (.ops false [.m 11 (.t 5),.u 12 (.bin .eql (.t 11) (.i (-1)))])
 (.fg [0,1,5,12] (.cond (.t 12) (.seq (.ops false [.m 13 (.t 0),.m 4 (.t 13)])
 .ret) .skip)))
 (.fg [0,1,5] (.seq (.seq (.ops false [.m 14 (.t 5),.u 15 (.bin .add (.t 14) (.i 1)),.m 6 (.t 15)])
 (.fg [0,1,5,6] (.block 0 (.loop (.seq (.seq (.ops false [.m 16 (.t 6),.m 17 (.t 0),.u 18 (.len (.t 17)),.u 19 (.bin .lss (.t 16) (.t 18))])
 (.fg [0,1,5,6,19] (.cond (.t 19) .skip (.exit 0))))
 (.fg [0,1,5,6] (.seq (.block 1 (.seq (.ops false [.m 22 (.t 0),.m 23 (.t 6),.u 24 (.idx 5 (.t 22) (.t 23)),.u 25 (.ld none 5 true (.t 24)),.u 7 (.alloc [(.lit (.int .i64 0)),(.lit (.int .i64 0)),(.lit (.bool false)),.emp,.emp]),.n (.st none 5 (.t 7) (.t 25))])
 (.fg [0,1,5,6,7] (.seq (.ops false [.m 26 (.t 1),.u 27 (.ld none 5 true (.t 7)),.u 28 (.callv (.t 26) [(.t 27)]),.u 29 (.un .not (.t 28))])
 (.fg [0,1,5,6,7,29] (.cond (.t 29) (.seq (.ops false [.m 30 (.t 0),.m 31 (.t 5),.u 32 (.ld none 5 true (.t 7)),.u 33 (.idx 5 (.t 30) (.t 31)),.n (.st none 5 (.t 33) (.t 32))])
 (.fg [0,1,5,6] (.ops false [.m 34 (.t 5),.u 35 (.bin .add (.t 34) (.i 1)),.m 5 (.t 35)]))) .skip))))))
 (.fg [0,1,5,6] (.ops false [.m 20 (.t 6),.u 21 (.bin .add (.t 20) (.i 1)),.m 6 (.t 21)])))))))))
 (.fg [0,5] (.seq (.ops false [.m 36 (.t 0),.m 37 (.t 5),.u 38 (.sl 5 (.t 36) (some (.t 37)) none),.n (.copy 5 (.t 38) (.c (.agg [(.lit (.int .i64 0)),(.lit (.int .i64 0)),(.lit (.bool false)),.emp,.emp])))])
 (.fg [0,5] (.seq (.ops false [.m 39 (.t 0),.m 40 (.t 5),.u 41 (.sl 5 (.t 39) none (some (.t 40))),.m 4 (.t 41)])
 .ret)))))))))))
theorem zaJ(hΓ:Holds P Γ){f fd:Nat}(hd:Γ fd=.dat true kC)(hc:check P f=some (19,qh.strip,[.tmp 4])):Sound P f (.dat true (JG fd)):=by
 refine Wa hc (va6 fd) hΓ (λargs K hcl hfi hG=>?_);match args,hG with
 | [a,c],hG=>
  obtain⟨l,rfl,hw,rfl,hl,hln,hK⟩:=hG;refine⟨by simp,?_⟩
  simp only [go_sem,qh,fnV];intro _;refine Xa (λk:Nat=>⟨mkV [(0,.one (ms l)),(1,.one (.lit (.func (.func fd) ⟨[]⟩ ⟨[]⟩))),(7,.one (.lit (.int .i64 l.length))),(8,.one (.lit (.int .i64 k)))],mkH []⟩) (λk=>k<=l.length/\(l.take k).all nzM=true) (λk=>l.length-k) 0 ?_ ?_ ?_
  .exact Qa (by simp [okS,okV,okC,okL,okH,okB,okE,ja,Va,qa,ka,wsA,ws,ms]) trivial
  .exact⟨Nat.zero_le _,rfl⟩
  .rintro k ⟨hk,hall⟩;by_cases hlt:k<l.length
   .obtain⟨x,hx⟩:∃x,l.getD k mo0=x:=⟨_,rfl⟩;have hx0:=getDm hlt hx;have hxm:=List.mem_of_getElem? hx0;cases hz:nzM x with
    | true=>
     simp only [go_sem,hlt,hx,hd,fnV,hz];refine⟨hw x hxm,hl x hxm,by omega,k+1,Qa (by simp [okS,okV,okC,okL,okH,okB,okE,ja,Va,qa,ka,wsA,ws,ms]) trivial,⟨by omega,allS hx0 hall hz⟩,by omega⟩
    | false=>
     obtain⟨e1,e2⟩:=qbH hx0 hall hz;rw [e1,e2]at hK;simp only [go_sem,hlt,hx,hd,fnV,hz];exact⟨hw x hxm,hl x hxm,by simpa using hK⟩
   .rw [List.take_of_length_le (by omega)]at hall
    rw [if_pos hall]at hK;simp only [go_sem,hlt];exact hK
theorem kaH(hΓ:Holds P Γ){f fi fd:Nat}(hi:Γ fi=.dat true (JG fd))(hd:Γ fd=.dat true kC)(hc:check P f=some (42,(jd fi).strip,[.tmp 4])):Sound P f (.own (uE fd)):=by
 refine Vg hc hΓ (λd args h K hG=>?_);unfold uE at hG;split at hG
 .rename_i r ver len c;obtain⟨l,rfl,rfl,hlen,hr,hok,hK⟩:=hG;refine⟨[r],[⟨l.map mC,5,true⟩],[.one (.own 1048576 ver 5 0 l.length),fnV fd],by simp,rfl,?_,?_,?_,λhfi=>⟨by simp,?_⟩⟩
  .intro i r' b h1 h2;cases i with
   | zero=>simp only [List.getElem?_cons_zero,Option.some.injEq]at h1 h2;subst h1 h2;exact⟨by rw [hr],rfl,of_eq_true (uf _)⟩
   | succ i=>simp at h1
  .simp [exA,exC,exB,nameOf,pinA,fnV]
  .intro a ha;simp only [List.mem_cons,List.not_mem_nil,or_false]at ha;rcases ha with rfl | rfl
   .simp [pasA,pasC,pasB,nameOf,pinA]
   .exact .lit _
  have hW:∀x∈l,WLM x:=λx hx=>(hok x hx).1;have hL:∀x∈l,rl x.2.2<=4294967296:=λx hx=>(hok x hx).2;by_cases hall:l.all nzM=true
  .have hK':=hK [];rw [List.append_nil,Zag hall]at hK';simp only [go_sem,jd,hr,fnV,hi,hall];exact⟨hW,hL,by omega,hK'⟩
  .obtain⟨g1,g2,x,g3,g4⟩:=ybr hall;obtain⟨i0,hi0⟩:∃i0,(l.takeWhile nzM).length=i0:=⟨_,rfl⟩;rw [hi0]at g1 g2 g3;simp only [go_sem,jd,hr,fnV,hi,hall,hi0];refine⟨hW,hL,by omega,by omega,?_⟩
   refine Xa (λp:Nat×List Mo=>⟨mkV [(0,.one (.own 1048576 ver 5 0 l.length)),(1,.one (.lit (.func (.func fd) ⟨[]⟩ ⟨[]⟩))),(5,.one (.lit (.int .i64 (((l.take p.1).filter nzM).length:Nat)))),(6,.one (.lit (.int .i64 p.1)))],mkH [(1048576,⟨ver,some ⟨p.2.map mC,5,true⟩⟩)]⟩)
    (λp=>i0<p.1/\p.1<=l.length/\((l.take p.1).filter nzM).length<p.1/\p.2.length=l.length/\p.2.take ((l.take p.1).filter nzM).length=(l.take p.1).filter nzM/\p.2.drop p.1=l.drop p.1) (λp=>l.length-p.1) (i0+1,l) ?_ ?_ ?_
   .have e:((l.take (i0+1)).filter nzM).length=i0:=by rw [VW g3,Zag g2,g4];simp;omega
    exact Qa (by simp only [okS,okV,okC,okL,okH,okB,okE,ja,Va,qa,ka,wsA,ws,e];simp) (Vj rfl)
   .have e:(l.take (i0+1)).filter nzM=l.take i0:=by rw [VW g3,Zag g2,g4];simp
    have e2:(l.take i0).length=i0:=by rw [List.length_take];omega
    refine⟨by simp,by simp;omega,?_,rfl,?_,rfl⟩
    .simp only [e,e2];omega
    .simp only [e,e2]
   .rintro⟨j,B⟩ ⟨q1,q2,q3,q4,q5,q6⟩;simp only at q1 q2 q3 q4 q5 q6;obtain⟨n,hn⟩:∃n,((l.take j).filter nzM).length=n:=⟨_,rfl⟩;rw [hn]at q3 q5;by_cases hlt:j<l.length
    .obtain⟨y,hy⟩:∃y,l[j]?=some y:=⟨_,List.getElem?_eq_getElem hlt⟩;have hym:=List.mem_of_getElem? hy;have hBy:B[j]?=some y:=by
      have:=congrArg (λL=>L[0]?) q6;simp only [List.getElem?_drop,Nat.add_zero]at this;rw [this,hy]
     have hBy' : B.getD j mo0=y:=by rw [List.getD_eq_getElem?_getD,hBy];rfl
     have hjB:j<B.length:=by omega
     have hnB:n<B.length:=by omega
     have hft:=VW hy;have hdr:B.drop (j+1)=l.drop (j+1):=by
      have:=congrArg (λL=>L.drop 1) q6;simpa [List.drop_drop] using this
     cases hz:nzM y with
     | true=>
      rw [hz,if_pos rfl]at hft;have hfl:((l.take (j+1)).filter nzM).length=n+1:=by rw [hft,List.length_append,hn];rfl
      simp only [go_sem,hlt,hn,hBy',hd,fnV,hz,hjB,hnB,q4];refine λ_=>⟨hW y hym,hL y hym,by omega,by omega,by omega,by omega,(j+1,B.set n y),Qa (by simp only [okS,okV,okC,okL,okH,okB,okE,ja,Va,qa,ka,wsA,ws,hfl];simp) (Vj rfl),⟨by simp only;omega,by simp only;omega,by simp only;omega,by simp only;rw [List.length_set];exact q4,?_,?_⟩,by simp only;omega⟩
      .simp only;rw [hfl,hft,<-q5];rw [List.take_add_one,List.getElem?_set_self hnB,List.take_set_of_le (Nat.le_refl _)];rfl
      .simp only;rw [List.drop_set_of_lt (by omega),hdr]
     | false=>
      rw [hz,if_neg (by decide),List.append_nil]at hft
      simp only [go_sem,hlt,hn,hBy',hd,fnV,hz,hjB,q4];refine λ_=>⟨hW y hym,hL y hym,by omega,(j+1,B),Qa (by simp only [okS,okV,okC,okL,okH,okB,okE,ja,Va,qa,ka,wsA,ws,hft,hn];simp) ⟨Vm rfl,trivial⟩,⟨by simp only;omega,by simp only;omega,by simp only [hft,hn];omega,q4,?_,hdr⟩,by simp only;omega⟩
      simp only [hft,hn];exact q5
    .have ej:j=l.length:=by omega
     have et:l.take j=l:=by rw [ej];exact List.take_length
     rw [et]at hn q5;simp only [go_sem,hlt,et,hn,q4,hr];refine λ_=>⟨by omega,by omega,⟨by omega,by omega⟩,?_⟩
     rw [q5,<-hn];exact hK _
 .obtain⟨rfl,hK⟩:=hG;refine⟨[],[],[.one .emp,fnV fd],by simp,rfl,by simp,?_,?_,λhfi=>⟨by simp,?_⟩⟩
  .simp [exA,exC,exB,nameOf,pinA,fnV]
  .intro a ha;simp only [List.mem_cons,List.not_mem_nil,or_false]at ha;rcases ha with rfl | rfl
   .exact .emp
   .exact .lit _
  have e0:(if ([]:List Mo).all nzM=true then (-1:Int) else ↑(List.takeWhile nzM ([]:List Mo)).length) = -1:=rfl
  simp only [go_sem,jd,fnV,hi,e0];exact⟨by simp,hK⟩
 .exact hG.elim
end Go.Abs
end
section
namespace Go.Num
def hv:List Rat->Rat->Rat
 | [],_=>0
 | c::l,x=>c+x*hv l x
def dv(a:Rat):List Rat->List Rat
 | []=>[]
 | [_]=>[]
 | _::c::l=>hv (c::l) a::dv a (c::l)
theorem zbl(a:Rat):∀f:List Rat,(dv a f).length=f.length-1
 | []=>rfl
 | [_]=>rfl
 | _::c::l=>by
  have:=zbl a (c::l);simp only [dv,List.length_cons]at this ⊢;omega
theorem YbB(a x:Rat):∀f:List Rat,hv f x=hv f a+(x-a)*hv (dv a f) x
 | []=>by simp only [hv,dv];grind
 | [c]=>by simp only [hv,dv];grind
 | b::c::l=>by
  have:=YbB a x (c::l);have e1:hv (b::c::l) x=b+x*hv (c::l) x:=rfl;have e2:hv (b::c::l) a=b+a*hv (c::l) a:=rfl;have e3:hv (dv a (b::c::l)) x=hv (c::l) a+x*hv (dv a (c::l)) x:=rfl;rw [e1,e2,e3,this];generalize hv (c::l) a=u;generalize hv (dv a (c::l)) x=v;grind
theorem yaM(a:Rat):∀f:List Rat,hv f a=0->(∀c∈dv a f,c=0)->∀c∈f,c=0
 | [],_,_,c,hc=>by simp at hc
 | [b],h,_,c,hc=>by
  simp only [hv]at h;rw [List.mem_singleton]at hc;subst hc;grind
 | b::d::l,h,hz,c,hc=>by
  have h1:hv (d::l) a=0:=hz _ (by simp [dv])
  have h2:hv (b::d::l) a=b+a*hv (d::l) a:=rfl;rw [h2,h1]at h;rcases List.mem_cons.1 hc with rfl | hc
  .grind
  .exact yaM a (d::l) h1 (λc hc=>hz c (by simp [dv,hc])) c hc
theorem WW:∀(n:Nat) (f:List Rat) (N:Nat),f.length<=n->(∀k:Nat,N<=k->hv f (k:Rat)=0)->∀c∈f,c=0
 | 0,f,N,hl,_,c,hc=>by
  rw [List.length_eq_zero_iff.1 (Nat.le_zero.1 hl)]at hc;simp at hc
 | n+1,f,N,hl,h,c,hc=>by
  refine yaM (N:Rat) f (h N (Nat.le_refl _)) (WW n (dv (N:Rat) f) (N+1) (by rw [zbl];omega) λk hk=>?_) c hc
  have h1:=YbB (N:Rat) (k:Rat) f;rw [h k (by omega),h N (Nat.le_refl _)]at h1
  have h2:((k:Rat)-(N:Rat))*hv (dv (N:Rat) f) (k:Rat)=0:=by grind
  rcases Rat.mul_eq_zero.1 h2 with h3 | h3
  .exfalso;have h4:(k:Rat)=(N:Rat):=by grind
   have h5:k=N:=by exact_mod_cast h4
   omega
  .exact h3
def rowN(f:Nat->Rat):Nat->Nat->List Rat
 | _,0=>[]
 | s,n+1=>f s::rowN f (s+1) n
theorem JY{f:Nat->Rat}{k:Nat}:∀{s n:Nat},s<=k->k<s+n->f k∈rowN f s n
 | s,0,h1,h2=>by omega
 | s,n+1,h1,h2=>by
  by_cases h:s=k
  .subst h;simp [rowN]
  .simp only [rowN,List.mem_cons];exact .inr (JY (by omega) (by omega))
theorem uaR(f g:Nat->Rat)(x:Rat):∀s n:Nat,hv (rowN (λi=>f i+g i) s n) x=hv (rowN f s n) x+hv (rowN g s n) x
 | s,0=>by simp only [rowN,hv];grind
 | s,n+1=>by
  have:=uaR f g x (s+1) n;simp only [rowN,hv,this];grind
theorem zam(x:Rat):∀s n:Nat,hv (rowN (λ_=>0) s n) x=0
 | s,0=>rfl
 | s,n+1=>by
  have:=zam x (s+1) n;simp only [rowN,hv,this];grind
theorem Vbf(x:Rat)(n:Nat):pw x (n+1)=x*pw x n:=by simp only [pw];grind
theorem kaY(c x:Rat)(k:Nat):∀s n:Nat,hv (rowN (λi=>if k=i then c else 0) s n) x=if s<=k/\k<s+n then c*pw x (k-s) else 0
 | s,0=>by rw [if_neg (by omega)];rfl
 | s,n+1=>by
  have:=kaY c x k (s+1) n;simp only [rowN,hv,this];by_cases h:k=s
  .rw [if_pos h,if_neg (by omega),if_pos (by omega),h,Nat.sub_self]
   simp only [pw];grind
  .rw [if_neg h];by_cases h2:s+1<=k/\k<s+1+n
   .rw [if_pos h2,if_pos (by omega)]
    have e:k-s=(k-(s+1))+1:=by omega
    rw [e,Vbf];grind
   .rw [if_neg h2,if_neg (by omega)];grind
def evH(l:BQ)(x y:Rat):Rat:=hv (rowN (λi=>hv (rowN (λj=>cf l i j) 0 25) y) 0 25) x
theorem kbe{t:MQ}(ht:inQ t)(l:BQ)(x y:Rat):evH (t::l) x y=mev t x y+evH l x y:=by
 obtain⟨h1,h2,h3⟩:=ht;obtain⟨i0,hi⟩:∃i0:Nat,t.1=i0:=⟨t.1.toNat,by omega⟩
 obtain⟨j0,hj⟩:∃j0:Nat,t.2.1=j0:=⟨t.2.1.toNat,by omega⟩
 have e:∀i:Nat,hv (rowN (λj=>cf (t::l) i j) 0 25) y=(if i0=i then t.2.2*pw y j0 else 0)+hv (rowN (λj=>cf l i j) 0 25) y:=by
  intro i;have e1:(λj:Nat=>cf (t::l) i j)=λj:Nat=>(if j0=j then (if i0=i then t.2.2 else 0) else 0)+cf l i j:=by
   funext j
   simp only [cf];congr 1;rw [hi,hj];by_cases a:i0=i
   .by_cases b:j0=j
    .rw [if_pos (by omega),if_pos b,if_pos a]
    .rw [if_neg (by omega),if_neg b]
   .rw [if_neg (by omega),if_neg a];split <;> rfl
  rw [e1,uaR,kaY,if_pos (by omega),Nat.sub_zero]
  split
  .rfl
  .rw [Rat.zero_mul]
 unfold evH;rw [funext e,uaR,kaY,if_pos (by omega),Nat.sub_zero]
 congr 1;unfold mev;rw [hi,hj,Int.toNat_natCast,Int.toNat_natCast];grind
theorem ev_H{l:BQ}(h:InQ l)(x y:Rat):ev l x y=evH l x y:=by
 induction l with
 | nil=>
  unfold evH;have e:∀i:Nat,hv (rowN (λj=>cf [] i j) 0 25) y=0:=λi=>zam y 0 25;rw [funext e,zam];rfl
 | cons t l ih=>
  obtain⟨h1,h2⟩:=Xe.1 h;rw [kbe h1,<-ih h2];rfl
theorem zbL{l:BQ}(h:InQ l){i j:Int}(hn:i<0∨j<0∨24<i∨24<j):cf l i j=0:=qaV λu hu e=>by
 obtain⟨a,b,c⟩:=h u hu;omega
theorem vbt{l:BQ}(h:InQ l)(hz:∀x y,ev l x y=0)(i j:Int):cf l i j=0:=by
 by_cases hn:i<0∨j<0∨24<i∨24<j
 .exact zbL h hn
 obtain⟨i0,rfl⟩:∃i0:Nat,i=i0:=⟨i.toNat,by omega⟩
 obtain⟨j0,rfl⟩:∃j0:Nat,j=j0:=⟨j.toNat,by omega⟩
 have h1:∀y,hv (rowN (λj=>cf l i0 j) 0 25) y=0:=λy=>
  WW _ (rowN (λi=>hv (rowN (λj=>cf l i j) 0 25) y) 0 25) 0 (Nat.le_refl _) (λk _=>by
   have:=hz k y;rw [ev_H h]at this;exact this) _ (JY (f:=λi:Nat=>hv (rowN (λj=>cf l i j) 0 25) y) (k:=i0) (by omega) (by omega))
 exact WW _ (rowN (λj=>cf l i0 j) 0 25) 0 (Nat.le_refl _) (λk _=>h1 k) _ (JY (f:=λj:Nat=>cf l i0 j) (k:=j0) (by omega) (by omega))
theorem Ybg{l m:BQ}(hl:InQ l)(hm:InQ m)(h:∀x y,ev l x y=ev m x y)(i j:Int):cf l i j=cf m i j:=by
 have:=vbt (l:=l++sclL (-1) m) (kg.2 ⟨hl,jZ hm⟩) (λx y=>by rw [QA,yaV,h];grind) i j
 rw [Xw,xbv]at this;grind
theorem kZ{p q:BQ}(hp:Canon p)(hq:Canon q)(h:∀x y,ev p x y=ev q x y):p=q:=
 vK hp hq (Ybg hp.ins hq.ins h)
end Go.Num
end
section
namespace Go.Num
open Go.Abs
structure OutM (l:List Mo) (k:Nat) (o:BQ):Prop where
 str:StrM o
 ins:InQ o
 cf:∀i j,cf o i j=cf ((l.take k).map mv) i j
 sz:sz o<=sz ((l.take k).map mv)
 len:o.length<=k
 le:∀t∈o,∀x∈l.drop k,kq t<=kM x
theorem UG(l:BQ)(k:Nat):sz (l.take k)<=sz l:=by
 have:=congrArg sz (List.take_append_drop k l);rw [ji]at this;omega
theorem ZbW(l:List Mo):OutM l 0 []:=⟨List.Pairwise.nil,λt ht=>by simp at ht,λi j=>rfl,Nat.le_refl _,Nat.le_refl _,λt ht=>by simp at ht⟩
theorem VJ(t:MQ)(i j:Int):cf [t] i j=if t.1=i/\t.2.1=j then t.2.2 else 0:=by simp only [cf,Rat.add_zero]
theorem XL{l:List Mo}{k:Nat}{x:Mo}(hx:l[k]?=some x):(l.take (k+1)).map mv=(l.take k).map mv++[mv x]:=by
 rw [List.take_add_one,hx];simp
theorem JE{l:List Mo}{k:Nat}{x:Mo}(hx:l[k]?=some x):l.drop k=x::l.drop (k+1):=by
 obtain⟨h,rfl⟩:=List.getElem?_eq_some_iff.1 hx;exact List.drop_eq_getElem_cons h
theorem VaW{l:List Mo}{k:Nat}{o:BQ}{x:Mo}(h:OutM l k o)(hs:SortM l)(hx:l[k]?=some x)(hi:inM x)(hn:∀t∈o,kq t<kM x):OutM l (k+1) (o++[mv x]):=by
 have hd:=JE hx;have hsd:SortM (x::l.drop (k+1)):=by rw [<-hd];exact List.Pairwise.drop hs
 obtain⟨s1,s2⟩:=List.pairwise_cons.1 hsd;refine⟨?_,kg.2 ⟨h.ins,λt ht=>by rw [List.mem_singleton.1 ht];exact hi⟩,λi j=>?_,?_,?_,?_⟩
 .refine List.pairwise_append.2 ⟨h.str,List.pairwise_singleton _ _,λa ha b hb=>?_⟩;rw [List.mem_singleton.1 hb];exact hn a ha
 .rw [XL hx,Xw,Xw,h.cf]
 .rw [XL hx,ji,ji];have:=h.sz;omega
 .rw [List.length_append];have:=h.len;simp;omega
 .intro t ht y hy;rcases List.mem_append.1 ht with ht | ht
  .exact h.le t ht y (by rw [hd];simp [hy])
  .rw [List.mem_singleton.1 ht];exact s1 y hy
theorem Qbw{l:List Mo}{k:Nat}{o:BQ}{u:MQ}{x:Mo}(h:OutM l k (o++[u]))(hs:SortM l)(hx:l[k]?=some x)(hi:inM x)(hu:kq u=kM x):OutM l (k+1) (o++[(u.1,u.2.1,u.2.2+rv x.2.2)]):=by
 have hd:=JE hx;obtain⟨i1,i2⟩:=kg.1 h.ins;have hui:inQ u:=i2 u (by simp)
 obtain⟨e1,e2⟩:=(Vbe hui (wbH hi)).1 hu;obtain⟨p1,p2,p3⟩:=List.pairwise_append.1 h.str;refine⟨?_,kg.2 ⟨i1,λt ht=>by rw [List.mem_singleton.1 ht];exact hui⟩,λi j=>?_,?_,?_,?_⟩
 .refine List.pairwise_append.2 ⟨p1,List.pairwise_singleton _ _,λa ha b hb=>?_⟩;rw [List.mem_singleton.1 hb];exact p3 a ha u (by simp)
 .have:=h.cf i j;rw [Xw,VJ]at this;rw [XL hx,Xw,Xw,VJ,VJ,<-this];simp only [e1,e2];have e3:(mv x).2.2=rv x.2.2:=rfl;rw [e3];split <;> grind
 .rw [XL hx,ji,ji];have h1:=h.sz;rw [ji]at h1;have h2:=Ql u.2.2 (rv x.2.2);have e3:(mv x).2.2=rv x.2.2:=rfl;simp only [sz,e3]at h1 ⊢;omega
 .have:=h.len;rw [List.length_append]at this ⊢;simp at this ⊢;omega
 .intro t ht y hy;rcases List.mem_append.1 ht with ht | ht
  .exact h.le t (by simp [ht]) y (by rw [hd];simp [hy])
  .rw [List.mem_singleton.1 ht];exact h.le u (by simp) y (by rw [hd];simp [hy])
theorem UB(p q:BQ):mcs (p++q)=mcs p++mcs q:=by unfold mcs;rw [List.map_append]
theorem Wbp(o:BQ)(u:MQ)(c:Rat):(mcs (o++[u])).set o.length ((mcan u).1,(mcan u).2.1,rcan (rv (mcan u).2.2+c))=mcs (o++[(u.1,u.2.1,u.2.2+c)]):=by
 have e:rv (mcan u).2.2=u.2.2:=Wb _;rw [e,UB,UB,List.set_append_right _ _ (by unfold mcs;simp)]
 congr 1;unfold mcs;simp only [List.length_map,Nat.sub_self];rfl
theorem qaE(p:BQ):(mcs p).filter nzM=mcs (p.filter nz):=by
 unfold mcs;rw [List.filter_map];congr 1;refine List.filter_congr λt _=>?_;have e:rv (mcan t).2.2=t.2.2:=Wb _;simp only [Function.comp,nzM,nz,e]
theorem zbf:∀{p:BQ} {t:MQ},t∈p->rz t.2.2<=sz p
 | u::p,t,h=>by
  simp only [sz];rcases List.mem_cons.1 h with rfl | h
  .omega
  .have:=zbf h;omega
theorem Vbq{l l' : List Mo}{o:BQ}(h:OutM l' l'.length o)(hp:l.Perm l')(hi:∀x∈l,inM x):o.filter nz=nf (l.map mv):=by
 have hin:InQ (l.map mv):=λt ht=>by
  obtain⟨x,hx,rfl⟩:=List.mem_map.1 ht;exact hi x hx
 have hin' : InQ (l'.map mv):=kbf (hp.map _) hin;have e:=h.cf;rw [List.take_length]at e;refine jbX (Z8 h.str h.ins) hin λi j=>?_;rw [jbn,e,Vbp (hp.map _)]
end Go.Num
namespace Go.Abs
open Go.Num
variable {P:Program} {Γ:Nat->Spec}
def Uz(m:Nat)(l:List AV)(K:AV->Prop):Prop:=
 match l with
 | [a]=>onMs (λl=>(∀t∈l,inM t/\rl t.2.2<=4294967296)/\l.length<=m/\sz (l.map mv)<=1000000000/\K (.one (.slice ((mcs (nf (l.map mv))).map mC)))) a
 | _=>False
theorem waR m a K:Uz m [a] K=(onMs (λl=>(∀t∈l,inM t/\rl t.2.2<=4294967296)/\l.length<=m/\sz (l.map mv)<=1000000000/\K (.one (.slice ((mcs (nf (l.map mv))).map mC)))) a):=propext Iff.rfl
@[congr] theorem WbX m{K}{l l'}(h:l=l'):Uz m l K=Uz m l' K:=by subst h;rfl
attribute [go_sem,go_sem ↓] waR
theorem Wa2(m:Nat):Good (Uz m):=Ya λas=>by
 unfold Uz;split
 .exact(Qu λ_=>(.and λ_=>(.and λ_=>(.and λ_=>(.ret _)))))
 .exact .of λK hk=>hk.elim
def Wz(f0 f1 f2 f3 f4 f5:Nat):AC:=(.seq (.ops false [.m 2 (.c (.one .emp))])
 (.fg [0] (.seq (.ops false [.m 7 (.t 0),.u 8 (.callf f0 [(.t 7)]),.m 0 (.t 8)])
 (.fg [0] (.seq (.ops false [.m 9 (.t 0),.u 10 (.call f1 [(.t 9),(.c (.one (.lit (.func (.func f2) #[] #[]))))])])
 (.fg [0] (.seq (.ops false [.m 3 (.c (.one .emp))])
 (.fg [0,3] (.seq (.seq (.ops false [.m 11 (.t 0),.u 12 (.len (.t 11)),.m 13 (.i 0)])
 (.fg [3,11,12,13] (.block 0 (.loop (.seq (.ops false [.u 14 (.bin .lss (.t 13) (.t 12))])
 (.fg [3,11,12,13,14] (.seq (.cond (.t 14) .skip (.exit 0))
 (.fg [3,11,12,13] (.seq (.block 1 (.seq (.ops false [.u 15 (.idx 5 (.t 11) (.t 13)),.u 16 (.ld none 5 true (.t 15)),.u 5 (.alloc [(.lit (.int .i64 0)),(.lit (.int .i64 0)),(.lit (.bool false)),.emp,.emp]),.n (.st none 5 (.t 5) (.t 16))])
 (.fg [3,5,11,12,13] (.seq (.seq (.ops false [.m 17 (.t 3),.u 18 (.len (.t 17)),.m 6 (.t 18)])
 (.fg [3,5,6,11,12,13] (.seq (.ops true [.m 19 (.t 6),.u 20 (.bin .gtr (.t 19) (.i 0)),.m 21 (.t 20),.w 22 21 true (.mv (.t 3)),.w 23 21 true (.mv (.t 6)),.w 24 21 true (.bin .sub (.t 23) (.i 1)),.w 25 21 true (.idx 5 (.t 22) (.t 24)),.w 26 21 true (.ld none 5 true (.t 25)),.w 27 21 true (.ld none 5 true (.t 5)),.w 28 21 true (.call f2 [(.t 26),(.t 27)]),.w 29 21 true (.bin .eql (.t 28) (.i 0)),.u 30 (.pick (.t 21) (.t 29) .fa)])
 (.fg [3,5,6,11,12,13,30] (.cond (.t 30) (.seq (.ops true [.m 31 (.t 3),.m 32 (.t 6),.u 33 (.bin .sub (.t 32) (.i 1)),.m 34 (.t 3),.m 35 (.t 6),.u 36 (.bin .sub (.t 35) (.i 1)),.u 37 (.idx 5 (.t 34) (.t 36)),.u 38 (.fa 2 (.t 37)),.u 39 (.ld none 3 true (.t 38)),.u 40 (.fa 2 (.t 5)),.u 41 (.ld none 3 true (.t 40)),.u 42 (.call f3 [(.t 39),(.t 41)]),.u 43 (.idx 5 (.t 31) (.t 33)),.u 44 (.fa 2 (.t 43)),.n (.st none 3 (.t 44) (.t 42))])
 (.exit 1)) .skip)))))
 (.fg [3,5,11,12,13] (.ops true [.m 45 (.t 3),.u 46 (.fa 0 (.t 5)),.u 47 (.ld none 1 false (.t 46)),.u 48 (.fa 1 (.t 5)),.u 49 (.ld none 1 false (.t 48)),.u 50 (.fa 2 (.t 5)),.u 51 (.ld none 3 true (.t 50)),.u 52 (.build [.z [(.lit (.bool false)),.emp,.emp]]),.u 53 (.call f3 [(.t 51),(.t 52)]),.u 54 (.build [.x 1 (.t 47),.x 1 (.t 49),.x 3 (.t 53)]),.u 55 (.row 5 [[.x 5 (.t 54)]]),.u 56 (.app 5 (.t 45) (.t 55)),.m 3 (.t 56)]))))))
 (.fg [3,11,12,13] (.ops false [.u 57 (.bin .add (.t 13) (.i 1)),.m 13 (.t 57)])))))))))))
 (.fg [3] (.seq (.ops false [.m 58 (.t 3),.u 59 (.call f4 [(.t 58),(.c (.one (.lit (.func (.func f5) #[] #[]))))]),.m 2 (.t 59)])
 .ret)))))))))))
theorem YaJ(hΓ:Holds P Γ){f fc fs fd fo fz fa m:Nat}(hm:m<=1000000000)(hcl:Γ fc=.fresh 5 xn)(hs:Γ fs=.own (Vv fo m))(hd:Γ fd=.own (uE fz))(ho:Γ fo=.dat true Ww)(ha:Γ fa=.dat false jl)(hc:check P f=some (60,(Wz fc fs fo fa fd fz).strip,[.tmp 2])):Sound P f (.dat false (Uz m)):=by
 refine Wa hc (Wa2 m) hΓ (λargs K hcl' hfi hG=>?_);match args,hG with
 | [a],hG=>
  obtain⟨l,rfl,hw,hok,hlm,hsz,hK⟩:=hG;refine⟨by simp,?_⟩
  have hin:∀x∈l,inM x:=λx hx=>(hok x hx).1;simp only [go_sem,Wz,hcl,hs,fnV];refine⟨hw,by omega,?_⟩
  unfold Vv;refine⟨l,[],rfl,rfl,hlm,by rw [List.append_nil];simp [qa],λx hx=>⟨hw x hx,hin x hx⟩,λl' hp hs'=>?_⟩
  have hll:=hp.length_eq;have hw' : ∀x∈l',WLM x:=λx hx=>hw x (hp.mem_iff.2 hx);have hin' : ∀x∈l',inM x:=λx hx=>hin x (hp.mem_iff.2 hx);have hrl' : ∀x∈l',rl x.2.2<=4294967296:=λx hx=>(hok x (hp.mem_iff.2 hx)).2;have hsz' : ∀k,sz ((l'.take k).map mv)<=1000000000:=λk=>by
   have h1:=UG (l'.map mv) k;have h2:sz (l'.map mv)=sz (l.map mv):=by
    have:(l.map mv).Perm (l'.map mv):=hp.map _;exact(wbp this).symm
   rw [List.map_take];omega
  rw [List.append_nil];simp only [go_sem];intro _;refine Xa (λp:Nat×BQ×MQ=>if p.1=0 then ⟨mkV [(3,.one .emp),(11,.one (.own 8 1 5 0 l.length)),(12,.one (.lit (.int .i64 l.length))),(13,.one (.lit (.int .i64 p.1)))],mkH [(8,⟨1,some ⟨l'.map mC,5,true⟩⟩)]⟩
    else ⟨mkV [(3,.one (.own 56 1 5 0 (p.2.1.length+1))),(11,.one (.own 8 1 5 0 l.length)),(12,.one (.lit (.int .i64 l.length))),(13,.one (.lit (.int .i64 p.1)))],mkH [(8,⟨1,some ⟨l'.map mC,5,true⟩⟩),(56,⟨1,some ⟨(mcs (p.2.1++[p.2.2])).map mC,5,true⟩⟩)]⟩)
   (λp=>p.1<=l.length/\(p.1≠0->OutM l' p.1 (p.2.1++[p.2.2]))) (λp=>l.length-p.1) (0,[],(0,0,0)) ?_ ?_ ?_
  .exact Qa (by simp [okS,okV,okC,okL,okH,okB,okE,ja,Va,qa,ka,wsA,ws]) ⟨Vm rfl,trivial⟩
  .exact⟨Nat.zero_le _,λh=>absurd rfl h⟩
  .rintro⟨k,o,u⟩ ⟨hk,hinv⟩;simp only at hk hinv;by_cases hlt:k<l.length
   .obtain⟨x,hx⟩:∃x,l'.getD k mo0=x:=⟨_,rfl⟩;have hx0:=getDm (by omega) hx
    have hxm:=List.mem_of_getElem? hx0;have hlt' : k<l'.length:=by omega
    have rz0:=rz_0;by_cases hk0:k=0
    .subst hk0;have hO:=VaW (ZbW l') hs' hx0 (hin' x hxm) (λt ht=>by simp at ht)
     simp only [go_sem,hlt,hlt',hx,ha,mC,Int.lt_irrefl];refine⟨(hw' x hxm).2.2,hrl' x hxm,by omega,λe he=>by rw [List.mem_singleton.1 he];rfl,by omega,(1,[],mv x),?_,⟨by simp only;omega,λ_=>hO⟩,by simp only;omega⟩
     rw [if_neg (by simp)]
     refine Qa (by simp [okS,okV,okC,okL,okH,okB,okE,ja,Va,qa,ka,wsA,ws]) ⟨Vm rfl,Vm ?_,trivial⟩
     simp [mcs,mcan,mv,mC,Rat.add_zero]
    .have hO:=hinv hk0;have hui:inM (mcan u):=hO.ins u (by simp)
     have hwu:WLM (mcan u):=Xaf hui;have hwu2:=hwu.2.2;have hwx:=hw' x hxm;have hwx2:=hwx.2.2;have hix:=hin' x hxm;have hrx:=hrl' x hxm;have hru:rl (mcan u).2.2<=4294967296:=by
      have h1:=hO.sz;have h2:=hsz' k;have h3:=zbf (p:=o++[u]) (t:=u) (by simp)
      have h4:rl (mcan u).2.2=rz u.2.2:=rfl;omega
     have hol:(mcs (o++[u])).length=o.length+1:=by unfold mcs;simp
     have hgd:(mcs (o++[u])).getD o.length mo0=mcan u:=by
      rw [UB,List.getD_eq_getElem?_getD,List.getElem?_append_right (by unfold mcs;simp)]
      unfold mcs;simp
     have hn1:((o.length+1:Nat):Int)-1=(o.length:Int):=by omega
     have hn2:(0:Int)<((o.length+1:Nat):Int):=by omega
     by_cases hq:kq u=kM x
     .have hku:ordK (kM (mcan u)) (kM x)=0:=by rw [Za5];exact hq
      have hO':=Qbw hO hs' hx0 (hin' x hxm) hq;simp only [go_sem,hlt,hlt',hx,ha,ho,hk0,mC,hol,hgd,hn1,hn2];repeat first | refine Ja (by omega) ?_ | refine Ja (by assumption) ?_ | refine Ja rfl ?_ | refine Ja ⟨rfl,by omega⟩ ?_ | refine Ja ⟨rfl,by omega,by omega⟩ ?_ | intro _
      refine⟨λ_=>?_,λh=>absurd hku h⟩;repeat first | refine Ja (by omega) ?_ | refine Ja (by assumption) ?_ | refine Ja rfl ?_ | refine Ja ⟨rfl,by omega⟩ ?_ | refine Ja ⟨rfl,by omega,by omega⟩ ?_ | intro _
      refine⟨(k+1,o,(u.1,u.2.1,u.2.2+rv x.2.2)),?_,⟨by simp only;omega,λ_=>hO'⟩,by simp only;omega⟩
      rw [if_neg (by simp)]
      exact Qa (by simp [okS,okV,okC,okL,okH,okB,okE,ja,Va,qa,ka,wsA,ws]) ⟨Vm rfl,Vm (by rw [Wbp]),trivial⟩
     .have hku:¬ordK (kM (mcan u)) (kM x)=0:=by rw [Za5];exact hq
      have hO':=VaW hO hs' hx0 (hin' x hxm) (λt ht=>by
       obtain⟨p1,p2,p3⟩:=List.pairwise_append.1 hO.str;have h1:=hO.le u (by simp) x (by rw [JE hx0];simp)
       rcases List.mem_append.1 ht with ht | ht
       .have:=p3 t ht u (by simp)
        omega
       .rw [List.mem_singleton.1 ht];omega)
      simp only [go_sem,hlt,hlt',hx,ha,ho,hk0,mC,hol,hgd,hn1,hn2];repeat first | refine Ja (by omega) ?_ | refine Ja (by assumption) ?_ | refine Ja rfl ?_ | refine Ja ⟨rfl,by omega⟩ ?_ | refine Ja ⟨rfl,by omega,by omega⟩ ?_ | intro _
      refine⟨λh=>absurd h hku,λ_=>?_⟩;have hln:=hO.len;rw [List.length_append]at hln;simp only [List.length_cons,List.length_nil]at hln;refine⟨hwx2,hrx,by omega,λe he=>by rw [List.mem_singleton.1 he];rfl,by omega,by omega,(k+1,o++[u],mv x),?_,⟨by simp only;omega,λ_=>hO'⟩,by simp only;omega⟩
      rw [if_neg (by simp)]
      refine Qa (by simp [okS,okV,okC,okL,okH,okB,okE,ja,Va,qa,ka,wsA,ws]) ⟨Vm rfl,Vm ?_,trivial⟩
      rw [UB (o++[u])];simp [mcs,mcan,mv,mC,Rat.add_zero]
   .have ek:k=l'.length:=by omega
    by_cases hk0:k=0
    .subst hk0;have hl0:l=[]:=List.length_eq_zero_iff.1 (by omega)
     subst hl0;have e0:nf (([]:List Mo).map mv)=[]:=rfl;rw [e0]at hK;simp only [go_sem,hlt,hd,fnV];unfold uE;exact⟨rfl,hK⟩
    .have hO:=hinv hk0;have hend:=Vbq (by rw [<-ek];exact hO) hp hin
     have hin2:=hO.ins;have h1:=hO.sz;have h2:=hsz' k;have hol:(mcs (o++[u])).length=o.length+1:=by unfold mcs;simp
     have hln:=hO.len;rw [List.length_append]at hln;simp only [List.length_cons,List.length_nil]at hln;simp only [go_sem,hlt,hk0,hd,fnV];unfold uE;refine⟨mcs (o++[u]),rfl,hol.symm,by omega,by simp [qa],λt ht=>?_,λes=>?_⟩
     .obtain⟨v,hv,rfl⟩:=List.mem_map.1 ht;refine⟨Xaf (hin2 v hv),?_⟩;have h3:=zbf hv;have h4:rl (mcan v).2.2=rz v.2.2:=rfl;omega
     .rw [qaE,hend];simp only [go_sem];rw [if_pos (by simp),List.take_left' (by simp),kt _ (of_eq_true (uf _))]
      exact hK
end Go.Abs
end
section
namespace Go.Num
open Go.Abs
def lastO(l:List Mo):Nat->Option Mo
 | 0=>none
 | k+1=>some (l.getD k mo0)
theorem xaX{l:List Mo}{k:Nat}{x:Mo}(o:Option Mo)(hx:l[k]?=some x):chkG o (l.drop k)=if chkT o x≠0 then chkT o x else chkG (some x) (l.drop (k+1)):=by
 rw [JE hx];rfl
def mkT(t:Mo):Nat:=if ¬inM t then 3 else if vldR t.2.2=false then 2 else 0
def mkG:List Mo->Nat
 | []=>0
 | t::l=>if mkT t≠0 then mkT t else mkG l
def mkC(l:List Mo):Nat:=if 325<l.length then 4 else mkG l
theorem Xbe{l:List Mo}{k:Nat}{x:Mo}(hx:l[k]?=some x):mkG (l.drop k)=if mkT x≠0 then mkT x else mkG (l.drop (k+1)):=by
 rw [JE hx];rfl
theorem jbY{t:Mo}(h:mkT t=0):inM t/\vldR t.2.2=true:=by
 unfold mkT at h;split at h
 .contradiction
 .rename_i h1;split at h
  .contradiction
  .rename_i h2;exact⟨by simpa using h1,by simpa using h2⟩
theorem qbJ:∀{l:List Mo},mkG l=0->∀t∈l,inM t/\vldR t.2.2=true
 | [],_,t,ht=>by simp at ht
 | u::l,h,t,ht=>by
  rw [mkG]at h;split at h
  .rename_i h1;exact absurd h h1
  .rename_i h1;rcases List.mem_cons.1 ht with rfl | ht
   .exact jbY (by simpa using h1)
   .exact qbJ h t ht
theorem xB{l:List Mo}(h:chkB l=0)(hw:∀t∈l,WLM t):(∀t∈l,inM t)/\InQ (l.map mv)/\l.length<=325:=by
 obtain⟨h1,h2⟩:=XD h hw;refine⟨λt ht=>?_,h1.ins,(Jbi h).1⟩;exact h1.ins (mv t) (List.mem_map.2 ⟨t,ht,rfl⟩)
def sclM(c:Rat)(l:List Mo):List Mo:=l.map λt=>(t.1,t.2.1,rcan (c*rv t.2.2))
theorem Qa9(c:Rat)(l:List Mo):(sclM c l).map mv=sclL c (l.map mv):=by
 unfold sclM sclL;rw [List.map_map,List.map_map];refine List.map_congr_left λt _=>?_;simp only [Function.comp,mv,Wb]
theorem xaK{c:Rat}{l:List Mo}{k:Nat}{x:Mo}(hx:l[k]?=some x):sclM c (l.take (k+1))=sclM c (l.take k)++[(x.1,x.2.1,rcan (c*rv x.2.2))]:=by
 unfold sclM;rw [List.take_add_one,hx];simp
theorem jY(c:Rat)(l:List Mo):(sclM c l).length=l.length:=List.length_map _
def degM(l:List Mo):Int:=match l.getLast? with
 | none=>-1
 | some t=>t.1+t.2.1
theorem ku(p:BQ):degM (mcs p)=degB p:=by
 unfold degM degB mcs;rw [List.getLast?_map];cases p.getLast? <;> rfl
def bres(c:Nat)(p:BQ):List Mo:=if c=0 then mcs p else []
theorem ZE(p:BQ):bres 0 p=mcs p:=rfl
theorem yH{c:Nat}(h:c≠0)(p:BQ):bres c p=[]:=if_neg h
def chk2(p q:List Mo):Nat:=if chkB p≠0 then chkB p else chkB q
theorem uaq{p q:List Mo}(h:chk2 p q=0):chkB p=0/\chkB q=0:=by
 unfold chk2 at h;split at h
 .rename_i h1;exact absurd h h1
 .rename_i h1;exact⟨by simpa using h1,h⟩
end Go.Num
namespace Go.Abs
open Go.Num
variable {P:Program} {Γ:Nat->Spec}
def qm(tE:Nat)(l:List AV)(K:AV->Prop):Prop:=
 match l with
 | [a]=>onMs (λl=>(∀t∈l,rl t.2.2<=4294967296)/\K (errV tE (chkB l))) a
 | _=>False
theorem Qab tE a K:qm tE [a] K=(onMs (λl=>(∀t∈l,rl t.2.2<=4294967296)/\K (errV tE (chkB l))) a):=propext Iff.rfl
@[congr] theorem WbE tE{K}{l l'}(h:l=l'):qm tE l K=qm tE l' K:=by subst h;rfl
attribute [go_sem,go_sem ↓] Qab
theorem Zan(tE:Nat):Good (qm tE):=Ya λas=>by
 unfold qm;split
 .exact(Qu λ_=>(.and λ_=>(.ret _)))
 .exact .of λK hk=>hk.elim
def vi(tE:Nat)(l:List AV)(K:AV->Prop):Prop:=
 match l with
 | [a]=>onM2 (λp q=>(∀t∈p,rl t.2.2<=4294967296)/\(∀t∈q,rl t.2.2<=4294967296)/\K (errV tE (chk2 p q))) a
 | _=>False
theorem XP tE a K:vi tE [a] K=onM2 (λp q=>(∀t∈p,rl t.2.2<=4294967296)/\(∀t∈q,rl t.2.2<=4294967296)/\K (errV tE (chk2 p q))) a:=propext Iff.rfl
@[congr] theorem QbA{tE}{K}{l l'}(h:l=l'):vi tE l K=vi tE l' K:=by subst h;rfl
attribute [go_sem,go_sem ↓] XP
theorem Yae(tE:Nat):Good (vi tE):=Ya λas=>by
 unfold vi;split
 .exact Ubm λ_ _=>.and λ_=>.and λ_=>.ret _
 .exact .of λK hk=>hk.elim
def yG(l:List AV)(K:AV->Prop):Prop:=
 match l with
 | [a]=>onMs (λl=>(∀t∈l,inM t)/\l.length<=1000000/\K (.one (.lit (.int .i64 (degM l))))) a
 | _=>False
theorem VaR a K:yG [a] K=(onMs (λl=>(∀t∈l,inM t)/\l.length<=1000000/\K (.one (.lit (.int .i64 (degM l))))) a):=propext Iff.rfl
@[congr] theorem YbW{K}{l l'}(h:l=l'):yG l K=yG l' K:=by subst h;rfl
attribute [go_sem,go_sem ↓] VaR
theorem kaS:Good yG:=Ya λas=>by
 unfold yG;split
 .exact(Qu λ_=>(.and λ_=>(.and λ_=>(.ret _))))
 .exact .of λK hk=>hk.elim
def yF(l:List AV)(K:AV->Prop):Prop:=
 match l with
 | [a,c]=>onMs (λl=>onR (λx=>(∀t∈l,rl t.2.2<=1000000000)/\rl x<=1000000000/\l.length<=1000000/\K (.one (.slice ((sclM (rv x) l).map mC)))) c) a
 | _=>False
theorem VaL a c K:yF [a,c] K=(onMs (λl=>onR (λx=>(∀t∈l,rl t.2.2<=1000000000)/\rl x<=1000000000/\l.length<=1000000/\K (.one (.slice ((sclM (rv x) l).map mC)))) c) a):=propext Iff.rfl
@[congr] theorem WbU{K}{l l'}(h:l=l'):yF l K=yF l' K:=by subst h;rfl
attribute [go_sem,go_sem ↓] VaL
theorem ja7:Good yF:=Ya λas=>by
 unfold yF;split
 .exact(Qu λ_=>(Wm λ_=>(.and λ_=>(.and λ_=>(.and λ_=>(.ret _))))))
 .exact .of λK hk=>hk.elim
def jy(tE:Nat)(l:List AV)(K:AV->Prop):Prop:=
 match l with
 | [a]=>onMs (λl=>(∀t∈l,rl t.2.2<=4294967296)/\sz (l.map mv)<=1000000000/\K (.tup [.one (.slice ((bres (mkC l) (nf (l.map mv))).map mC)),errV tE (mkC l)])) a
 | _=>False
theorem ZaD tE a K:jy tE [a] K=(onMs (λl=>(∀t∈l,rl t.2.2<=4294967296)/\sz (l.map mv)<=1000000000/\K (.tup [.one (.slice ((bres (mkC l) (nf (l.map mv))).map mC)),errV tE (mkC l)])) a):=propext Iff.rfl
@[congr] theorem wbN tE{K}{l l'}(h:l=l'):jy tE l K=jy tE l' K:=by subst h;rfl
attribute [go_sem,go_sem ↓] ZaD
theorem XaI(tE:Nat):Good (jy tE):=Ya λas=>by
 unfold jy;split
 .exact(Qu λ_=>(.and λ_=>(.and λ_=>(.ret _))))
 .exact .of λK hk=>hk.elim
def wG(tE:Nat)(l:List AV)(K:AV->Prop):Prop:=
 match l with
 | [a,b]=>onMs (λp=>onMs (λq=>(∀t∈p,rl t.2.2<=4294967296)/\(∀t∈q,rl t.2.2<=4294967296)/\sz (p.map mv)+sz (q.map mv)<=1000000000/\K (.tup [.one (.slice ((bres (chk2 p q) (addB (p.map mv) (q.map mv))).map mC)),errV tE (chk2 p q)])) b) a
 | _=>False
theorem uaZ tE a b K:wG tE [a,b] K=(onMs (λp=>onMs (λq=>(∀t∈p,rl t.2.2<=4294967296)/\(∀t∈q,rl t.2.2<=4294967296)/\sz (p.map mv)+sz (q.map mv)<=1000000000/\K (.tup [.one (.slice ((bres (chk2 p q) (addB (p.map mv) (q.map mv))).map mC)),errV tE (chk2 p q)])) b) a):=propext Iff.rfl
@[congr] theorem kb1 tE{K}{l l'}(h:l=l'):wG tE l K=wG tE l' K:=by subst h;rfl
attribute [go_sem,go_sem ↓] uaZ
theorem qaN(tE:Nat):Good (wG tE):=Ya λas=>by
 unfold wG;split
 .exact(Qu λ_=>(Qu λ_=>(.and λ_=>(.and λ_=>(.and λ_=>(.ret _))))))
 .exact .of λK hk=>hk.elim
def VG(tE:Nat)(l:List AV)(K:AV->Prop):Prop:=
 match l with
 | [a,b]=>onMs (λp=>onMs (λq=>(∀t∈p,rl t.2.2<=1000000000)/\(∀t∈q,rl t.2.2<=1000000000)/\sz (p.map mv)+sz (q.map mv)<=1000000000/\K (.tup [.one (.slice ((bres (chk2 p q) (subB (p.map mv) (q.map mv))).map mC)),errV tE (chk2 p q)])) b) a
 | _=>False
theorem XaS tE a b K:VG tE [a,b] K=(onMs (λp=>onMs (λq=>(∀t∈p,rl t.2.2<=1000000000)/\(∀t∈q,rl t.2.2<=1000000000)/\sz (p.map mv)+sz (q.map mv)<=1000000000/\K (.tup [.one (.slice ((bres (chk2 p q) (subB (p.map mv) (q.map mv))).map mC)),errV tE (chk2 p q)])) b) a):=propext Iff.rfl
@[congr] theorem qbT tE{K}{l l'}(h:l=l'):VG tE l K=VG tE l' K:=by subst h;rfl
attribute [go_sem,go_sem ↓] XaS
theorem vaL(tE:Nat):Good (VG tE):=Ya λas=>by
 unfold VG;split
 .exact(Qu λ_=>(Qu λ_=>(.and λ_=>(.and λ_=>(.and λ_=>(.ret _))))))
 .exact .of λK hk=>hk.elim
def qW(tE:Nat)(l:List AV)(K:AV->Prop):Prop:=
 match l with
 | [a,c]=>onMs (λp=>onR (λx=>(∀t∈p,rl t.2.2<=1000000000)/\rl x<=1000000/\sz (p.map mv)<=100000000/\K (.tup [.one (.slice ((bres (chkB p) (sclB (rv x) (p.map mv))).map mC)),errV tE (chkB p)])) c) a
 | _=>False
theorem yac tE a c K:qW tE [a,c] K=(onMs (λp=>onR (λx=>(∀t∈p,rl t.2.2<=1000000000)/\rl x<=1000000/\sz (p.map mv)<=100000000/\K (.tup [.one (.slice ((bres (chkB p) (sclB (rv x) (p.map mv))).map mC)),errV tE (chkB p)])) c) a):=propext Iff.rfl
@[congr] theorem WbA tE{K}{l l'}(h:l=l'):qW tE l K=qW tE l' K:=by subst h;rfl
attribute [go_sem,go_sem ↓] yac
def Xl(f0 f1 f2 f3 tE:Nat):AC:=(.seq (.ops false [.m 2 (.c (.one (.lit .nilIface)))])
 (.fg [0] (.seq (.seq (.ops false [.m 5 (.t 0),.u 6 (.len (.t 5)),.u 7 (.bin .gtr (.t 6) (.i 325))])
 (.fg [0,7] (.cond (.t 7) (.seq (.ops false [.u 8 (.iface tE (.i 4)),.m 2 (.t 8)])
 .ret) .skip)))
 (.fg [0] (.seq (.seq (.ops false [.m 9 (.t 0),.u 10 (.len (.t 9)),.m 11 (.i 0)])
 (.fg [0,9,10,11] (.block 0 (.loop (.seq (.ops false [.u 12 (.bin .lss (.t 11) (.t 10))])
 (.fg [0,9,10,11,12] (.seq (.cond (.t 12) .skip (.exit 0))
 (.fg [0,9,10,11] (.seq (.block 1 (.seq (.ops false [.m 13 (.t 11),.u 14 (.idx 5 (.t 9) (.t 11)),.u 15 (.ld none 5 true (.t 14)),.u 4 (.alloc [(.lit (.int .i64 0)),(.lit (.int .i64 0)),(.lit (.bool false)),.emp,.emp]),.m 3 (.t 13),.n (.st none 5 (.t 4) (.t 15))])
 (.fg [0,3,4,9,10,11] (.block 2 (.seq (.ops false [.u 17 (.ld none 5 true (.t 4)),.u 18 (.call f0 [(.t 17)]),.u 19 (.un .not (.t 18)),.m 16 (.t 19)])
 (.fg [0,3,4,9,10,11,16] (.cond (.t 16) (.seq (.ops false [.u 20 (.iface tE (.i 3)),.m 2 (.t 20)])
 .ret) (.seq (.ops false [.u 22 (.fa 2 (.t 4)),.u 23 (.ld none 3 true (.t 22)),.u 24 (.call f1 [(.t 23)]),.u 25 (.un .not (.t 24)),.m 21 (.t 25)])
 (.fg [0,3,4,9,10,11,21] (.cond (.t 21) (.seq (.ops false [.u 26 (.iface tE (.i 2)),.m 2 (.t 26)])
 .ret) (.seq (.ops false [.u 28 (.fa 2 (.t 4)),.u 29 (.ld none 3 true (.t 28)),.u 30 (.call f2 [(.t 29)]),.u 31 (.bin .eql (.t 30) (.i 0)),.m 27 (.t 31)])
 (.fg [0,3,4,9,10,11,27] (.cond (.t 27) (.seq (.ops false [.u 32 (.iface tE (.i 8)),.m 2 (.t 32)])
 .ret) (.seq (.ops true [.m 34 (.t 3),.u 35 (.bin .gtr (.t 34) (.i 0)),.m 36 (.t 35),.w 37 36 true (.mv (.t 0)),.w 38 36 true (.mv (.t 3)),.w 39 36 true (.bin .sub (.t 38) (.i 1)),.w 40 36 true (.idx 5 (.t 37) (.t 39)),.w 41 36 true (.ld none 5 true (.t 40)),.w 42 36 true (.ld none 5 true (.t 4)),.w 43 36 true (.call f3 [(.t 41),(.t 42)]),.w 44 36 true (.bin .geq (.t 43) (.i 0)),.u 45 (.pick (.t 36) (.t 44) .fa),.m 33 (.t 45)])
 (.fg [0,9,10,11,33] (.cond (.t 33) (.seq (.ops false [.u 46 (.iface tE (.i 12)),.m 2 (.t 46)])
 .ret) .skip))))))))))))))))
 (.fg [0,9,10,11] (.ops false [.u 47 (.bin .add (.t 11) (.i 1)),.m 11 (.t 47)])))))))))))
 (.fg [] (.seq (.ops false [.m 2 (.c (.one (.lit .nilIface)))])
 .ret)))))))
def Yo(f0:Nat):AC:=(.seq (.ops false [.m 2 (.c (.one (.lit .nilIface)))])
 (.fg [0] (.seq (.seq (.ops false [.m 6 (.t 0),.u 7 (.len (.t 6)),.m 8 (.i 0)])
 (.fg [6,7,8] (.block 0 (.loop (.seq (.ops false [.u 9 (.bin .lss (.t 8) (.t 7))])
 (.fg [6,7,8,9] (.seq (.cond (.t 9) .skip (.exit 0))
 (.fg [6,7,8] (.seq (.block 1 (.seq (.ops false [.u 10 (.idx 1 (.t 6) (.t 8)),.u 11 (.ld none 1 false (.t 10)),.m 4 (.t 11)])
 (.fg [4,6,7,8] (.seq (.ops false [.m 12 (.t 4),.u 13 (.call f0 [(.t 12)]),.m 5 (.t 13)])
 (.fg [5,6,7,8] (.seq (.ops false [.m 14 (.t 5),.u 15 (.binn .neq (.t 14) (.c (.one (.lit .nilIface))))])
 (.fg [5,6,7,8,15] (.cond (.t 15) (.seq (.ops false [.m 16 (.t 5),.m 2 (.t 16)])
 .ret) .skip))))))))
 (.fg [6,7,8] (.ops false [.u 17 (.bin .add (.t 8) (.i 1)),.m 8 (.t 17)])))))))))))
 (.fg [] (.seq (.ops false [.m 2 (.c (.one (.lit .nilIface)))])
 .ret)))))
def yk:AC:=(.seq (.ops false [.m 2 (.i 0)])
 (.fg [0] (.seq (.seq (.ops false [.m 3 (.t 0),.u 4 (.len (.t 3)),.u 5 (.bin .eql (.t 4) (.i 0))])
 (.fg [0,5] (.cond (.t 5) (.seq (.ops false [.m 2 (.i (-1))])
 .ret) .skip)))
 (.fg [0] (.seq (.ops true [.m 6 (.t 0),.m 7 (.t 0),.u 8 (.len (.t 7)),.u 9 (.bin .sub (.t 8) (.i 1)),.u 10 (.idx 5 (.t 6) (.t 9)),.u 11 (.fa 0 (.t 10)),.u 12 (.ld none 1 false (.t 11)),.m 13 (.t 0),.m 14 (.t 0),.u 15 (.len (.t 14)),.u 16 (.bin .sub (.t 15) (.i 1)),.u 17 (.idx 5 (.t 13) (.t 16)),.u 18 (.fa 1 (.t 17)),.u 19 (.ld none 1 false (.t 18)),.u 20 (.bin .add (.t 12) (.t 19)),.m 2 (.t 20)])
 .ret)))))
def qu(f0:Nat):AC:=(.seq (.ops false [.u 3 (.box 3 (.t 1)),.m 4 (.c (.one .emp))])
 (.fg [0,3] (.seq (.ops false [.m 5 (.c (.one .emp))])
 (.fg [0,3,5] (.seq (.seq (.ops false [.m 8 (.t 0),.u 9 (.len (.t 8)),.m 10 (.i 0)])
 (.fg [3,5,8,9,10] (.block 0 (.loop (.seq (.ops false [.u 11 (.bin .lss (.t 10) (.t 9))])
 (.fg [3,5,8,9,10,11] (.seq (.cond (.t 11) .skip (.exit 0))
 (.fg [3,5,8,9,10] (.seq (.block 1 (.seq (.ops false [.u 12 (.idx 5 (.t 8) (.t 10)),.u 13 (.ld none 5 true (.t 12)),.u 7 (.alloc [(.lit (.int .i64 0)),(.lit (.int .i64 0)),(.lit (.bool false)),.emp,.emp]),.n (.st none 5 (.t 7) (.t 13))])
 (.fg [3,5,7,8,9,10] (.ops true [.m 14 (.t 5),.u 15 (.fa 0 (.t 7)),.u 16 (.ld none 1 false (.t 15)),.u 17 (.fa 1 (.t 7)),.u 18 (.ld none 1 false (.t 17)),.u 19 (.ld none 3 true (.t 3)),.u 20 (.fa 2 (.t 7)),.u 21 (.ld none 3 true (.t 20)),.u 22 (.call f0 [(.t 19),(.t 21)]),.u 23 (.build [.x 1 (.t 16),.x 1 (.t 18),.x 3 (.t 22)]),.u 24 (.row 5 [[.x 5 (.t 23)]]),.u 25 (.app 5 (.t 14) (.t 24)),.m 5 (.t 25)]))))
 (.fg [3,5,8,9,10] (.ops false [.u 26 (.bin .add (.t 10) (.i 1)),.m 10 (.t 26)])))))))))))
 (.fg [5] (.seq (.ops false [.m 27 (.t 5),.m 4 (.t 27)])
 .ret)))))))
def Xn(f0 f1 f2 tE:Nat):AC:=(.seq (.ops false [.m 2 (.c (.one .emp)),.m 3 (.c (.one (.lit .nilIface)))])
 (.fg [0] (.seq (.seq (.ops false [.m 6 (.t 0),.u 7 (.len (.t 6)),.u 8 (.bin .gtr (.t 7) (.i 325))])
 (.fg [0,8] (.cond (.t 8) (.seq (.ops false [.u 9 (.iface tE (.i 4)),.m 2 (.c (.one .emp)),.m 3 (.t 9)])
 .ret) .skip)))
 (.fg [0] (.seq (.seq (.ops false [.m 10 (.t 0),.u 11 (.len (.t 10)),.m 12 (.i 0)])
 (.fg [0,10,11,12] (.block 0 (.loop (.seq (.ops false [.u 13 (.bin .lss (.t 12) (.t 11))])
 (.fg [0,10,11,12,13] (.seq (.cond (.t 13) .skip (.exit 0))
 (.fg [0,10,11,12] (.seq (.block 1 (.seq (.ops false [.u 14 (.idx 5 (.t 10) (.t 12)),.u 15 (.ld none 5 true (.t 14)),.u 5 (.alloc [(.lit (.int .i64 0)),(.lit (.int .i64 0)),(.lit (.bool false)),.emp,.emp]),.n (.st none 5 (.t 5) (.t 15))])
 (.fg [0,5,10,11,12] (.seq (.seq (.ops false [.u 16 (.ld none 5 true (.t 5)),.u 17 (.call f0 [(.t 16)]),.u 18 (.un .not (.t 17))])
 (.fg [0,5,10,11,12,18] (.cond (.t 18) (.seq (.ops false [.u 19 (.iface tE (.i 3)),.m 2 (.c (.one .emp)),.m 3 (.t 19)])
 .ret) .skip)))
 (.fg [0,5,10,11,12] (.seq (.ops false [.u 20 (.fa 2 (.t 5)),.u 21 (.ld none 3 true (.t 20)),.u 22 (.call f1 [(.t 21)]),.u 23 (.un .not (.t 22))])
 (.fg [0,10,11,12,23] (.cond (.t 23) (.seq (.ops false [.u 24 (.iface tE (.i 2)),.m 2 (.c (.one .emp)),.m 3 (.t 24)])
 .ret) .skip))))))))
 (.fg [0,10,11,12] (.ops false [.u 25 (.bin .add (.t 12) (.i 1)),.m 12 (.t 25)])))))))))))
 (.fg [0] (.seq (.ops false [.m 26 (.t 0),.u 27 (.call f2 [(.t 26)]),.m 2 (.t 27),.m 3 (.c (.one (.lit .nilIface)))])
 .ret)))))))
theorem ZA{h h' : Nat->HB}{x:R}{z:Nat}{b:Bool}:okB h h' (some ⟨[[cb x,cn x,cd x]],z,b⟩) (some ⟨[[cb x,cn x,cd x]],z,b⟩):=
 ⟨⟨rfl,rfl⟩,.inl ⟨rfl,λe he c hc=>by
  rw [List.mem_singleton]at he;subst he;simp only [List.mem_cons,List.not_mem_nil,or_false]at hc;rcases hc with rfl | rfl | rfl
  .exact of_eq_true (jj _)
  .exact of_eq_true (Zj _)
  .exact of_eq_true (Jj _)⟩⟩
theorem uZ(hΓ:Holds P Γ){f fi fv fs fo tE:Nat}(hi:Γ fi=.dat true Jk)(hv:Γ fv=.dat true kd)(hs:Γ fs=.dat true qg)(ho:Γ fo=.dat true Ww)(hc:check P f=some (48,(Xl fi fv fs fo tE).strip,[.tmp 2])):Sound P f (.dat false (qm tE)):=by
 refine Wa hc (Zan tE) hΓ (λargs K hcl hfi hG=>?_);match args,hG with
 | [a],hG=>
  obtain⟨l,rfl,hw,hrl,hK⟩:=hG;refine⟨by simp,?_⟩
  by_cases h325:325<l.length
  .have e:chkB l=4:=if_pos h325;rw [e,vc tE (by decide)]at hK
   have h325' : (325:Int)<(l.length:Int):=by omega
   simp only [go_sem,Xl,h325'];exact λ_=>hK
  .have h325' : ¬(325:Int)<(l.length:Int):=by omega
   have e:chkB l=chkG none l:=if_neg h325;rw [e]at hK;simp only [go_sem,Xl,h325'];intro _ _;refine Xa (λk:Nat=>⟨mkV [(0,msA l),(9,msA l),(10,.one (.lit (.int .i64 l.length))),(11,.one (.lit (.int .i64 k)))],mkH []⟩) (λk=>k<=l.length/\chkG none l=chkG (lastO l k) (l.drop k)/\∀t∈l.take k,inM t) (λk=>l.length-k) 0 ?_ ?_ ?_
   .exact Qa (by simp [okS,okV,okC,okL,okH,okB,okE,ja,Va,qa,ka,wsA,ws,msA,ms]) trivial
   .exact⟨Nat.zero_le _,rfl,by simp⟩
   .rintro k ⟨hk,hch,hin⟩;by_cases hlt:k<l.length
    .obtain⟨x,hx⟩:∃x,l.getD k mo0=x:=⟨_,rfl⟩;have hx0:=getDm hlt hx;have hxm:=List.mem_of_getElem? hx0;have hwx:=hw x hxm;have hrx:=hrl x hxm;rw [xaX _ hx0]at hch;by_cases a1:inM x
     .cases a2:vldR x.2.2 with
      | false=>
       have ec:chkT (lastO l k) x=2:=by unfold chkT;rw [if_neg (by simp [a1]),if_pos a2]
       rw [ec,if_pos (by decide)]at hch
       rw [hch,vc tE (by decide)]at hK
       simp only [go_sem,hlt,hx,hi,hv,mC,a2];exact⟨hwx,λ_=>⟨hwx.2.2,hrx,hK⟩,λh=>absurd a1 h⟩
      | true=>
       by_cases a3:rv x.2.2=0
       .have ec:chkT (lastO l k) x=8:=by unfold chkT;rw [if_neg (by simp [a1]),if_neg (by simp [a2]),if_pos a3]
        rw [ec,if_pos (by decide)]at hch
        rw [hch,vc tE (by decide)]at hK
        have a3' : ordQ (rv x.2.2) 0=0:=Vq.2 a3;simp only [go_sem,hlt,hx,hi,hv,hs,mC,a2,a3'];exact⟨hwx,λ_=>⟨hwx.2.2,hrx,hwx.2.2,hrx,hK⟩,λh=>absurd a1 h⟩
       .have hin' : ∀t∈l.take (k+1),inM t:=λt ht=>by
         rw [List.take_add_one,hx0]at ht;rcases List.mem_append.1 ht with ht | ht
         .exact hin t ht
         .simp at ht;rw [ht];exact a1
        have a3' : ¬ordQ (rv x.2.2) 0=0:=λh=>a3 (Vq.1 h);cases k with
        | zero=>
         simp only [go_sem,hlt,hx,hi,hv,hs,mC,a2,a3',Int.lt_irrefl];have ec:chkT (lastO l 0) x=0:=by unfold chkT;rw [if_neg (by simp [a1]),if_neg (by simp [a2]),if_neg a3,if_neg (by simp [lastO,badO])]
         rw [ec,if_neg (by decide)]at hch
         have hl1:lastO l 1=some x:=congrArg some hx;refine⟨hwx,λ_=>⟨hwx.2.2,hrx,hwx.2.2,hrx,by omega,1,Qa (by simp [okS,okV,okC,okL,okH,okB,okE,ja,Va,qa,ka,wsA,ws,msA,ms]) trivial,⟨by omega,by rw [hl1];exact hch,hin'⟩,by omega⟩,λh=>absurd a1 h⟩
        | succ j=>
         have hn1:((j+1:Nat):Int)-1=(j:Int):=by omega
         have hn2:(0:Int)<((j+1:Nat):Int):=by omega
         simp only [go_sem,hlt,hx,hi,hv,hs,ho,mC,a2,a3',hn1,hn2];have hym:l.getD j mo0∈l:=by
          rw [List.getD_eq_getElem?_getD,List.getElem?_eq_getElem (by omega)];exact List.getElem_mem _
         have hyt:l.getD j mo0∈l.take (j+1):=by
          rw [List.getD_eq_getElem?_getD,List.getElem?_eq_getElem (by omega),Option.getD_some]
          exact List.mem_iff_getElem.2 ⟨j,by rw [List.length_take];omega,by simp⟩
         have hiy:=hin _ hyt;have hwy:=hw _ hym;have hlj:lastO l (j+1)=some (l.getD j mo0):=rfl;have hl1:lastO l (j+1+1)=some x:=congrArg some hx;refine⟨hwx,λ_=>⟨hwx.2.2,hrx,hwx.2.2,hrx,by omega,by omega,hwy,hwx,hiy,a1,λh=>?_,λh=>?_⟩,λh=>absurd a1 h⟩
         .have h:0<=ordK (kM (l.getD j mo0)) (kM x):=h;rw [UaX]at h;have ec:chkT (lastO l (j+1)) x=12:=by unfold chkT;rw [if_neg (by simp [a1]),if_neg (by simp [a2]),if_neg a3,if_pos (by rw [hlj];simpa [badO] using h)]
          rw [ec,if_pos (by decide)]at hch
          rw [hch,vc tE (by decide)]at hK
          exact hK
         .have h:¬0<=ordK (kM (l.getD j mo0)) (kM x):=h;rw [UaX]at h;have ec:chkT (lastO l (j+1)) x=0:=by unfold chkT;rw [if_neg (by simp [a1]),if_neg (by simp [a2]),if_neg a3,if_neg (by rw [hlj];simpa [badO] using h)]
          rw [ec,if_neg (by decide)]at hch
          exact⟨by omega,j+1+1,Qa (by simp [okS,okV,okC,okL,okH,okB,okE,ja,Va,qa,ka,wsA,ws,msA,ms]) trivial,⟨by omega,by rw [hl1];exact hch,hin'⟩,by omega⟩
     .have ec:chkT (lastO l k) x=3:=by unfold chkT;rw [if_pos a1]
      rw [ec,if_pos (by decide)]at hch
      rw [hch,vc tE (by decide)]at hK
      simp only [go_sem,hlt,hx,hi,mC,decide_eq_false a1];exact⟨hwx,hK⟩
    .rw [List.drop_of_length_le (by omega)]at hch
     have e0:chkG (lastO l k) []=0:=rfl;rw [hch,e0,ub]at hK;simp only [go_sem,hlt];exact hK
theorem vV(hΓ:Holds P Γ){f fk tE:Nat}(hk:Γ fk=.dat false (qm tE))(hc:check P f=some (18,(Yo fk).strip,[.tmp 2])):Sound P f (.dat false (vi tE)):=by
 refine Wa hc (Yae tE) hΓ (λargs K hcl hfi hG=>?_);match args,hG with
 | [a],hG=>
  obtain⟨p,q,rfl,⟨hwp,hwq⟩,hp,hq,hK⟩:=hG;refine⟨by simp,?_⟩
  simp only [go_sem,Yo,ms];refine Xa (λk:Nat=>⟨mkV [(6,.one (.slice [[ms p],[ms q]])),(7,.one (.lit (.int .i64 2))),(8,.one (.lit (.int .i64 k)))],mkH []⟩) (λk=>k<=2/\(0<k->chkB p=0)/\(1<k->chkB q=0)) (λk=>2-k) 0 ?_ ?_ ?_
  .exact Qa (by simp [okS,okV,okC,okL,okH,okB,okE,ja,Va,qa,ka,wsA,ws,ms]) trivial
  .exact⟨by decide,by omega,by omega⟩
  .rintro k ⟨hk2,h1,h2⟩;have hk3:k=0∨k=1∨k=2:=by omega
   unfold chk2 at hK;rcases hk3 with rfl | rfl | rfl
   .by_cases hx:chkB p=0
    .have e0:=ub tE;rw [<-hx]at e0;simp only [go_sem,c02,hk,ms,e0];refine⟨hwp,hp,by decide,1,Qa (by simp [okS,okV,okC,okL,okH,okB,okE,ja,Va,qa,ka,wsA,ws,ms]) trivial,⟨by omega,by simp [hx],by omega⟩,by omega⟩
    .rw [if_pos hx]at hK;have e0:=vc tE hx;rw [e0]at hK;simp only [go_sem,c02,hk,ms,e0];exact⟨hwp,hp,hK⟩
   .have hx:=h1 (by omega)
    rw [if_neg (by simp [hx])]at hK
    by_cases hy:chkB q=0
    .have e0:=ub tE;rw [<-hy]at e0;simp only [go_sem,c12,uT,hk,ms,e0];refine⟨hwq,hq,by decide,2,Qa (by simp [okS,okV,okC,okL,okH,okB,okE,ja,Va,qa,ka,wsA,ws,ms]) trivial,⟨by omega,by simp [hx],by simp [hy]⟩,by omega⟩
    .have e0:=vc tE hy;rw [e0]at hK;simp only [go_sem,c12,uT,hk,ms,e0];exact⟨hwq,hq,hK⟩
   .have hx:=h1 (by omega)
    have hy:=h2 (by omega)
    rw [if_neg (by simp [hx]),hy,ub]at hK
    simp only [go_sem,c22];exact hK
theorem JaF(hΓ:Holds P Γ){f:Nat}(hc:check P f=some (21,yk.strip,[.tmp 2])):Sound P f (.dat true yG):=by
 refine Wa hc kaS hΓ (λargs K hcl hfi hG=>?_);match args,hG with
 | [a],hG=>
  obtain⟨l,rfl,hw,hin,hl,hK⟩:=hG;refine⟨by simp,?_⟩
  rcases hl0:l with _ | ⟨t,l0⟩
  .subst hl0;simp only [go_sem,yk];simpa [degM] using hK
  .have hlen:l.length=l0.length+1:=by rw [hl0];rfl
   rw [<-hl0];obtain⟨y,hy⟩:∃y,l.getD l0.length mo0=y:=⟨_,rfl⟩;have hy0:=getDm (by omega) hy
   have hym:=List.mem_of_getElem? hy0;have hd:degM l=y.1+y.2.1:=by
    unfold degM;rw [List.getLast?_eq_getElem?,hlen,Nat.add_sub_cancel,hy0]
   rw [hd]at hK;obtain⟨i1,i2,i3⟩:=hin y hym;have hn1:((l0.length+1:Nat):Int)-1=(l0.length:Int):=by omega
   have hn0:¬((l0.length+1:Nat):Int)=0:=by omega
   simp only [go_sem,yk,hlen,hn1,hn0,hy,mC];exact λ_=>⟨by omega,by omega,by omega,by omega,by omega,by omega,⟨by omega,by omega⟩,hK⟩
theorem vaI(hΓ:Holds P Γ){f fm:Nat}(hm:Γ fm=.dat false vl)(hc:check P f=some (28,(qu fm).strip,[.tmp 4])):Sound P f (.dat false yF):=by
 refine Wa hc ja7 hΓ (λargs K hcl hfi hG=>?_);match args,hG with
 | [a,c],hG=>
  obtain⟨l,rfl,hw,x,rfl,hwx,hrl,hrx,hl,hK⟩:=hG;refine⟨by simp,?_⟩
  simp only [go_sem,qu,rA];intro _;refine Xa (λk:Nat=>if k=0 then ⟨mkV [(3,.one (.ptr 3 1 0 0)),(5,.one .emp),(8,msA l),(9,.one (.lit (.int .i64 l.length))),(10,.one (.lit (.int .i64 k)))],mkH [(3,⟨1,some ⟨[[cb x,cn x,cd x]],3,true⟩⟩)]⟩
    else ⟨mkV [(3,.one (.ptr 3 1 0 0)),(5,.one (.own 25 1 5 0 k)),(8,msA l),(9,.one (.lit (.int .i64 l.length))),(10,.one (.lit (.int .i64 k)))],mkH [(3,⟨1,some ⟨[[cb x,cn x,cd x]],3,true⟩⟩),(25,⟨1,some ⟨(sclM (rv x) (l.take k)).map mC,5,true⟩⟩)]⟩) (λk=>k<=l.length) (λk=>l.length-k) 0 ?_ ?_ ?_
  .exact Qa (by simp [okS,okV,okC,okL,okH,okB,okE,ja,Va,qa,ka,wsA,ws,msA,ms]) ⟨ZA,trivial⟩
  .exact Nat.zero_le _
  .intro k hk;by_cases hlt:k<l.length
   .obtain⟨y,hy⟩:∃y,l.getD k mo0=y:=⟨_,rfl⟩;have hy0:=getDm hlt hy;have hym:=List.mem_of_getElem? hy0;have hwy:=hw y hym;have hry:=hrl y hym;have ht:=xaK (c:=rv x) hy0;by_cases hk0:k=0
    .subst hk0;simp only [go_sem,hlt,hy,hm,mC];refine⟨hwx,hwy.2.2,by omega,by omega,λe he=>by rw [List.mem_singleton.1 he];rfl,by omega,1,?_,by omega,by omega⟩
     rw [if_neg (by decide)]
     exact Qa (by simp [okS,okV,okC,okL,okH,okB,okE,ja,Va,qa,ka,wsA,ws,msA,ms]) ⟨ZA,Vm (by rw [ht];rfl),trivial⟩
    .have hlk:(sclM (rv x) (l.take k)).length=k:=by rw [jY,List.length_take];omega
     simp only [go_sem,hlt,hy,hm,mC,hk0,hlk];refine⟨hwx,hwy.2.2,by omega,by omega,λe he=>by rw [List.mem_singleton.1 he];rfl,by omega,by omega,k+1,?_,by omega,by omega⟩
     rw [if_neg (by omega)]
     exact Qa (by simp [okS,okV,okC,okL,okH,okB,okE,ja,Va,qa,ka,wsA,ws,msA,ms]) ⟨ZA,Vm (by rw [ht];simp [mC]),trivial⟩
   .by_cases hk0:k=0
    .subst hk0;have hl0:l=[]:=List.length_eq_zero_iff.1 (by omega)
     subst hl0;simp only [go_sem,hlt];exact hK
    .have hlk:(sclM (rv x) (l.take k)).length=k:=by rw [jY,List.length_take];omega
     have et:l.take k=l:=List.take_of_length_le (by omega)
     simp only [go_sem,hlt,hk0];rw [if_pos (by omega),List.take_of_length_le (Nat.le_of_eq hlk),kt _ (of_eq_true (uf _)),et]
     exact hK
theorem Uai(hΓ:Holds P Γ){f fi fv fs tE m:Nat}(hm:325<=m)(hi:Γ fi=.dat true Jk)(hv:Γ fv=.dat true kd)(hs:Γ fs=.dat false (Uz m))(hc:check P f=some (28,(Xn fi fv fs tE).strip,[.tmp 2,.tmp 3])):Sound P f (.dat false (jy tE)):=by
 refine Wa hc (XaI tE) hΓ (λargs K hcl hfi hG=>?_);match args,hG with
 | [a],hG=>
  obtain⟨l,rfl,hw,hrl,hsz,hK⟩:=hG;refine⟨by simp,?_⟩
  by_cases h325:325<l.length
  .have e:mkC l=4:=if_pos h325;rw [e,vc tE (by decide),yH (by decide)]at hK
   have h325' : (325:Int)<(l.length:Int):=by omega
   simp only [go_sem,Xn,h325'];exact λ_=>hK
  .have h325' : ¬(325:Int)<(l.length:Int):=by omega
   have e:mkC l=mkG l:=if_neg h325;rw [e]at hK;simp only [go_sem,Xn,h325'];intro _ _;refine Xa (λk:Nat=>⟨mkV [(0,msA l),(10,msA l),(11,.one (.lit (.int .i64 l.length))),(12,.one (.lit (.int .i64 k)))],mkH []⟩) (λk=>k<=l.length/\mkG l=mkG (l.drop k)) (λk=>l.length-k) 0 ?_ ?_ ?_
   .exact Qa (by simp [okS,okV,okC,okL,okH,okB,okE,ja,Va,qa,ka,wsA,ws,msA,ms]) trivial
   .exact⟨Nat.zero_le _,rfl⟩
   .rintro k ⟨hk,hch⟩;by_cases hlt:k<l.length
    .obtain⟨x,hx⟩:∃x,l.getD k mo0=x:=⟨_,rfl⟩;have hx0:=getDm hlt hx;have hxm:=List.mem_of_getElem? hx0;have hwx:=hw x hxm;have hrx:=hrl x hxm;rw [Xbe hx0]at hch;by_cases a1:inM x
     .cases a2:vldR x.2.2 with
      | false=>
       have ec:mkT x=2:=by unfold mkT;rw [if_neg (by simp [a1]),if_pos a2]
       rw [ec,if_pos (by decide)]at hch
       rw [hch,vc tE (by decide),yH (by decide)]at hK
       simp only [go_sem,hlt,hx,hi,hv,mC,a2];exact⟨hwx,λ_=>⟨hwx.2.2,hrx,hK⟩,λh=>absurd a1 h⟩
      | true=>
       have ec:mkT x=0:=by unfold mkT;rw [if_neg (by simp [a1]),if_neg (by simp [a2])]
       rw [ec,if_neg (by decide)]at hch
       simp only [go_sem,hlt,hx,hi,hv,mC,a2];exact⟨hwx,λ_=>⟨hwx.2.2,hrx,by omega,k+1,Qa (by simp [okS,okV,okC,okL,okH,okB,okE,ja,Va,qa,ka,wsA,ws,msA,ms]) trivial,⟨by omega,hch⟩,by omega⟩,λh=>absurd a1 h⟩
     .have ec:mkT x=3:=by unfold mkT;rw [if_pos a1]
      rw [ec,if_pos (by decide)]at hch
      rw [hch,vc tE (by decide),yH (by decide)]at hK
      simp only [go_sem,hlt,hx,hi,mC,decide_eq_false a1];exact⟨hwx,hK⟩
    .rw [List.drop_of_length_le (by omega)]at hch
     have e0:mkG []=0:=rfl;rw [e0]at hch;rw [hch,ub,ZE]at hK;have hin:=qbJ hch;simp only [go_sem,hlt,hs];exact⟨hw,λt ht=>⟨(hin t ht).1,hrl t ht⟩,by omega,hsz,hK⟩
end Go.Abs
end
section
namespace Go.Num
open Go.Abs
theorem kbs{c:Rat}{p:List Mo}(hi:∀t∈p,inM t)(hw:∀t∈p,WLM t)(hr:∀t∈p,rl t.2.2<=1000000000)(hc:rz c<=1000000000):∀u∈sclM c p,WLM u/\inM u/\rl u.2.2<=4294967296:=by
 intro u hu;obtain⟨t,ht,rfl⟩:=List.mem_map.1 hu;obtain⟨w1,w2,w3⟩:=hw t ht;refine⟨⟨w1,w2,Qj _⟩,hi t ht,?_⟩;have h1:=qc c (rv t.2.2);have h2:=Jg w3;have h3:=hr t ht;have h4:rl (rcan (c*rv t.2.2))=rz (c*rv t.2.2):=rfl;simp only;omega
theorem rneg1:((-1:Int):Rat) = -1:=by simp
end Go.Num
namespace Go.Abs
open Go.Num
variable {P:Program} {Γ:Nat->Spec}
def onM2f(k:List Mo->List Mo->Prop)(a:AV):Prop:=∃p q,a=.one (.full [[ms p],[ms q]])/\((∀x∈p,WLM x)/\(∀x∈q,WLM x))/\k p q
@[congr] theorem vbR{k:List Mo->List Mo->Prop}{a a'}(h:a=a'):onM2f k a=onM2f k a':=by subst h;rfl
theorem kal(k:List Mo->List Mo->Prop)(p q:List Mo):onM2f k (.one (.full [[.slice (p.map mC)],[.slice (q.map mC)]]))=(((∀x∈p,WLM x)/\(∀x∈q,WLM x))/\k p q):=by
 refine propext ⟨λ⟨x,y,h,h1,h2⟩=>?_,λh=>⟨p,q,rfl,h⟩⟩;simp only [ms,AV.one.injEq,C.full.injEq,List.cons.injEq,C.slice.injEq,and_true]at h;obtain⟨e1,e2⟩:=h;have:=um e1;have:=um e2
 subst_vars;exact⟨h1,h2⟩
theorem yby{β:Type}{T:List Mo->List Mo->(β->Prop)->Prop}(h:∀p q,GoodT (T p q)){a:AV}:GoodT λK=>onM2f (λp q=>T p q K) a:=
 .of λK hx=>by
  obtain⟨p,q,rfl,hw,hk⟩:=hx;have:(λK=>onM2f (λp q=>T p q K) (.one (.full [[ms p],[ms q]])))=λK=>((∀x∈p,WLM x)/\(∀x∈q,WLM x))/\T p q K:=funext λK=>kal _ p q;rw [this];exact .and λ_=>h p q
attribute [go_sem,go_sem ↓] kal
def Xx(l:List AV)(K:List (List C)->Prop):Prop:=
 match l with
 | [a,n]=>a=.one .emp/\asInt (λk n=>k=.i64/\0<=n/\n<=1000000/\K []) n
 | _=>False
theorem Uar a n K:Xx [a,n] K=(a=.one .emp/\asInt (λk n=>k=.i64/\0<=n/\n<=1000000/\K []) n):=propext Iff.rfl
@[congr] theorem UbN{K}{l l'}(h:l=l'):Xx l K=Xx l' K:=by subst h;rfl
attribute [go_sem,go_sem ↓] Uar
theorem kaJ:Good Xx:=Ya λas=>by
 unfold Xx;split
 .exact(.and λ_=>(Jd (λ_ _=>(.and λ_=>(.and λ_=>(.and λ_=>(.ret _))))) _))
 .exact .of λK hk=>hk.elim
def Xz(l:List AV)(K:List (List C)->Prop):Prop:=
 match l with
 | [a]=>onM2f (λp q=>p.length<=400000/\q.length<=400000/\K ((p++q).map mC)) a
 | _=>False
theorem vaq a K:Xz [a] K=onM2f (λp q=>p.length<=400000/\q.length<=400000/\K ((p++q).map mC)) a:=propext Iff.rfl
@[congr] theorem kbQ{K}{l l'}(h:l=l'):Xz l K=Xz l' K:=by subst h;rfl
attribute [go_sem,go_sem ↓] vaq
theorem xaD:Good Xz:=Ya λas=>by
 unfold Xz;split
 .exact yby λ_ _=>.and λ_=>.and λ_=>.ret _
 .exact .of λK hk=>hk.elim
def vn:AC:=(.seq (.ops false [.m 4 (.c (.one .emp))])
 (.fg [0,1] (.seq (.seq (.ops false [.m 5 (.t 1),.u 6 (.bin .lss (.t 5) (.i 0))])
 (.fg [0,1,6] (.cond (.t 6) (.ops false [.u 7 (.bad),.n (.bad)]) .skip)))
 (.fg [0,1] (.seq (.seq (.ops false [.m 8 (.t 1),.m 9 (.t 0),.u 10 (.cap (.t 9)),.m 11 (.t 0),.u 12 (.len (.t 11)),.u 13 (.bin .sub (.t 10) (.t 12)),.u 14 (.bin .sub (.t 8) (.t 13)),.m 1 (.t 14)])
 (.fg [0,1] (.seq (.ops false [.m 15 (.t 1),.u 16 (.bin .gtr (.t 15) (.i 0))])
 (.fg [0,1,16] (.cond (.t 16) (.ops false [.m 17 (.t 0),.m 18 (.t 0),.u 19 (.cap (.t 18)),.u 20 (.sl 5 (.t 17) none (some (.t 19))),.m 21 (.t 1),.u 22 (.appz 5 [(.lit (.int .i64 0)),(.lit (.int .i64 0)),(.lit (.bool false)),.emp,.emp] (.t 20) (.t 21)),.m 23 (.t 0),.u 24 (.len (.t 23)),.u 25 (.sl 5 (.t 22) none (some (.t 24))),.m 0 (.t 25)]) .skip)))))
 (.fg [0] (.seq (.ops false [.m 26 (.t 0),.m 4 (.t 26)])
 .ret)))))))
def xk(f0:Nat):AC:=(.seq (.ops false [.m 2 (.c (.one .emp))])
 (.fg [0] (.seq (.ops false [.m 3 (.i 0)])
 (.fg [0,3] (.seq (.seq (.ops false [.m 9 (.t 0),.u 10 (.len (.t 9)),.m 11 (.i 0)])
 (.fg [0,3,9,10,11] (.block 0 (.loop (.seq (.ops false [.u 12 (.bin .lss (.t 11) (.t 10))])
 (.fg [0,3,9,10,11,12] (.seq (.cond (.t 12) .skip (.exit 0))
 (.fg [0,3,9,10,11] (.seq (.block 1 (.seq (.ops false [.u 13 (.idx 1 (.t 9) (.t 11)),.u 14 (.ld none 1 false (.t 13)),.m 5 (.t 14)])
 (.fg [0,3,5,9,10,11] (.seq (.ops false [.m 15 (.t 3),.m 16 (.t 5),.u 17 (.len (.t 16)),.u 18 (.bin .add (.t 15) (.t 17)),.m 3 (.t 18)])
 (.fg [0,3,9,10,11] (.seq (.ops false [.m 19 (.t 3),.u 20 (.bin .lss (.t 19) (.i 0))])
 (.fg [0,3,9,10,11,20] (.cond (.t 20) (.ops false [.u 21 (.bad),.n (.bad)]) .skip))))))))
 (.fg [0,3,9,10,11] (.ops false [.u 22 (.bin .add (.t 11) (.i 1)),.m 11 (.t 22)])))))))))))
 (.fg [0,3] (.seq (.ops false [.m 23 (.t 3),.u 24 (.callf f0 [(.c (.one .emp)),(.t 23)]),.m 6 (.t 24)])
 (.fg [0,6] (.seq (.seq (.ops false [.m 25 (.t 0),.u 26 (.len (.t 25)),.m 27 (.i 0)])
 (.fg [6,25,26,27] (.block 2 (.loop (.seq (.ops false [.u 28 (.bin .lss (.t 27) (.t 26))])
 (.fg [6,25,26,27,28] (.seq (.cond (.t 28) .skip (.exit 2))
 (.fg [6,25,26,27] (.seq (.block 3 (.seq (.ops false [.u 29 (.idx 1 (.t 25) (.t 27)),.u 30 (.ld none 1 false (.t 29)),.m 8 (.t 30)])
 (.fg [6,8,25,26,27] (.ops false [.m 31 (.t 6),.m 32 (.t 8),.u 33 (.app 5 (.t 31) (.t 32)),.m 6 (.t 33)]))))
 (.fg [6,25,26,27] (.ops false [.u 34 (.bin .add (.t 27) (.i 1)),.m 27 (.t 34)])))))))))))
 (.fg [6] (.seq (.ops false [.m 35 (.t 6),.m 2 (.t 35)])
 .ret)))))))))))
def yr(f0 f1 f2:Nat):AC:=(.seq (.ops false [.m 4 (.c (.one .emp)),.m 5 (.c (.one (.lit .nilIface)))])
 (.fg [0,1] (.seq (.seq (.ops false [.m 7 (.t 0),.m 8 (.t 1),.u 9 (.row 1 [[.x 1 (.t 7)],[.x 1 (.t 8)]]),.u 10 (.call f0 [(.t 9)]),.m 6 (.t 10)])
 (.fg [0,1,6] (.seq (.ops false [.m 11 (.t 6),.u 12 (.binn .neq (.t 11) (.c (.one (.lit .nilIface))))])
 (.fg [0,1,6,12] (.cond (.t 12) (.seq (.ops false [.m 13 (.t 6),.m 4 (.c (.one .emp)),.m 5 (.t 13)])
 .ret) .skip)))))
 (.fg [0,1] (.seq (.ops false [.m 14 (.t 0),.m 15 (.t 1),.u 16 (.row 1 [[.x 1 (.t 14)],[.x 1 (.t 15)]]),.u 17 (.callf f1 [(.t 16)]),.u 18 (.call f2 [(.t 17)]),.m 4 (.t 18),.m 5 (.c (.one (.lit .nilIface)))])
 .ret)))))
def Wq(f0 f1 f2 f3 f4:Nat):AC:=(.seq (.ops false [.m 4 (.c (.one .emp)),.m 5 (.c (.one (.lit .nilIface)))])
 (.fg [0,1] (.seq (.seq (.ops false [.m 7 (.t 0),.m 8 (.t 1),.u 9 (.row 1 [[.x 1 (.t 7)],[.x 1 (.t 8)]]),.u 10 (.call f0 [(.t 9)]),.m 6 (.t 10)])
 (.fg [0,1,6] (.seq (.ops false [.m 11 (.t 6),.u 12 (.binn .neq (.t 11) (.c (.one (.lit .nilIface))))])
 (.fg [0,1,6,12] (.cond (.t 12) (.seq (.ops false [.m 13 (.t 6),.m 4 (.c (.one .emp)),.m 5 (.t 13)])
 .ret) .skip)))))
 (.fg [0,1] (.seq (.ops false [.m 14 (.t 0),.u 15 (.callf f1 [(.t 14)]),.m 16 (.t 1),.u 17 (.call f2 [(.i (-1))]),.u 18 (.call f3 [(.t 16),(.t 17)]),.u 19 (.app 5 (.t 15) (.t 18)),.u 20 (.call f4 [(.t 19)]),.m 4 (.t 20),.m 5 (.c (.one (.lit .nilIface)))])
 .ret)))))
theorem Vag(hΓ:Holds P Γ){f:Nat}(hc:check P f=some (27,vn.strip,[.tmp 4])):Sound P f (.fresh 5 Xx):=by
 refine Xm hc kaJ hΓ (λargs K hcl hfi hG=>?_);match args,hG with
 | [a,b],hG=>
  obtain⟨rfl,hG⟩:=hG;obtain⟨k,n,rfl,rfl,h0,h1,hK⟩:=vb hG;refine⟨by simp,?_⟩
  simp only [go_sem,vn];refine⟨λh=>by omega,λ_=>⟨by omega,by omega,λh=>⟨by omega,by omega,by omega,by omega,by omega,hK⟩,λh=>hK⟩⟩
def cat2(p q:List Mo):Nat->List Mo
 | 0=>[]
 | 1=>p
 | _=>p++q
theorem Van(hΓ:Holds P Γ){f fg:Nat}(hg:Γ fg=.fresh 5 Xx)(hc:check P f=some (36,(xk fg).strip,[.tmp 2])):Sound P f (.fresh 5 Xz):=by
 refine Xm hc xaD hΓ (λargs K hcl hfi hG=>?_);match args,hG with
 | [a],hG=>
  obtain⟨p,q,rfl,⟨hwp,hwq⟩,hp,hq,hK⟩:=hG;refine⟨by simp,?_⟩
  simp only [go_sem,xk,hg,ms];refine Xa (λk:Nat=>⟨mkV [(0,.one (.full [[ms p],[ms q]])),(3,.one (.lit (.int .i64 (cat2 p q k).length))),(9,.one (.full [[ms p],[ms q]])),(10,.one (.lit (.int .i64 2))),(11,.one (.lit (.int .i64 k)))],mkH []⟩) (λk=>k<=2) (λk=>2-k) 0 ?_ ?_ ?_
  .exact Qa (by simp [okS,okV,okC,okL,okH,okB,okE,ja,Va,qa,ka,wsA,ws,ms,cat2]) trivial
  .decide
  .intro k hk2;have hk3:k=0∨k=1∨k=2:=by omega
   rcases hk3 with rfl | rfl | rfl
   .simp only [go_sem,c02,ms,cat2];exact λ_=>⟨by omega,λh=>by omega,λ_=>⟨by decide,1,Qa (by simp [okS,okV,okC,okL,okH,okB,okE,ja,Va,qa,ka,wsA,ws,ms]) trivial,by omega,by omega⟩⟩
   .simp only [go_sem,c12,uT,ms,cat2];exact λ_=>⟨by omega,λh=>by omega,λ_=>⟨by decide,2,Qa (by simp [okS,okV,okC,okL,okH,okB,okE,ja,Va,qa,ka,wsA,ws,ms]) trivial,by omega,by omega⟩⟩
   .simp only [go_sem,c22,ms,cat2,hg];refine⟨by rw [List.length_append];omega,?_⟩
    refine Xa (λk:Nat=>⟨mkV [(6,.one (.own 24 1 5 0 (cat2 p q k).length)),(25,.one (.full [[ms p],[ms q]])),(26,.one (.lit (.int .i64 2))),(27,.one (.lit (.int .i64 k)))],mkH [(24,⟨1,some ⟨(cat2 p q k).map mC,5,true⟩⟩)]⟩) (λk=>k<=2) (λk=>2-k) 0 ?_ ?_ ?_
    .exact Qa (by simp [okS,okV,okC,okL,okH,okB,okE,ja,Va,qa,ka,wsA,ws,ms,cat2]) ⟨Vm (by simp [cat2]),trivial⟩
    .decide
    .intro k hk2;have hk3:k=0∨k=1∨k=2:=by omega
     rcases hk3 with rfl | rfl | rfl
     .simp only [go_sem,c02,ms,cat2];exact⟨by omega,by decide,1,Qa (by simp [okS,okV,okC,okL,okH,okB,okE,ja,Va,qa,ka,wsA,ws,ms]) ⟨Vm rfl,trivial⟩,by omega,by omega⟩
     .simp only [go_sem,c12,uT,ms,cat2];exact⟨by omega,by decide,2,Qa (by simp [okS,okV,okC,okL,okH,okB,okE,ja,Va,qa,ka,wsA,ws,ms]) ⟨Vm rfl,trivial⟩,by omega,by omega⟩
     .simp only [go_sem,c22,ms,cat2];exact hK
theorem JaE(hΓ:Holds P Γ){f fk fc fs tE m:Nat}(hm:650<=m)(hk:Γ fk=.dat false (vi tE))(hcc:Γ fc=.fresh 5 Xz)(hs:Γ fs=.dat false (Uz m))(hc:check P f=some (19,(yr fk fc fs).strip,[.tmp 4,.tmp 5])):Sound P f (.dat false (wG tE)):=by
 refine Wa hc (qaN tE) hΓ (λargs K hcl hfi hG=>?_);match args,hG with
 | [a,b],hG=>
  obtain⟨p,rfl,hwp,q,rfl,hwq,hp,hq,hsz,hK⟩:=hG;refine⟨by simp,?_⟩
  by_cases h0:chk2 p q=0
  .rw [h0,ZE,ub]at hK;obtain⟨c1,c2⟩:=uaq h0;obtain⟨i1,j1,l1⟩:=xB c1 hwp;obtain⟨i2,j2,l2⟩:=xB c2 hwq;have e0:=ub tE;rw [<-h0]at e0;simp only [go_sem,yr,hk,hcc,hs,e0];refine⟨⟨hwp,hwq⟩,hp,hq,⟨hwp,hwq⟩,by omega,by omega,λx hx=>(List.mem_append.1 hx).elim (hwp x) (hwq x),λx hx=>(List.mem_append.1 hx).elim (λh=>⟨i1 x h,hp x h⟩) (λh=>⟨i2 x h,hq x h⟩),by rw [List.length_append];omega,by rw [List.map_append,ji];exact hsz,?_⟩
   rw [List.map_append];exact hK
  .have e0:=vc tE h0;rw [yH h0,e0]at hK;simp only [go_sem,yr,hk,hcc,hs,e0];exact⟨⟨hwp,hwq⟩,hp,hq,hK⟩
theorem XaF(hΓ:Holds P Γ){f fk fc fo fl fs tE m:Nat}(hm:650<=m)(hk:Γ fk=.dat false (vi tE))(hcl0:Γ fc=.fresh 5 xn)(ho:Γ fo=.dat false wB)(hl:Γ fl=.dat false yF)(hs:Γ fs=.dat false (Uz m))(hc:check P f=some (21,(Wq fk fc fo fl fs).strip,[.tmp 4,.tmp 5])):Sound P f (.dat false (VG tE)):=by
 refine Wa hc (vaL tE) hΓ (λargs K hcl hfi hG=>?_);match args,hG with
 | [a,b],hG=>
  obtain⟨p,rfl,hwp,q,rfl,hwq,hp,hq,hsz,hK⟩:=hG;refine⟨by simp,?_⟩
  have hp' : ∀t∈p,rl t.2.2<=4294967296:=λt ht=>Nat.le_trans (hp t ht) (by decide)
  have hq' : ∀t∈q,rl t.2.2<=4294967296:=λt ht=>Nat.le_trans (hq t ht) (by decide)
  by_cases h0:chk2 p q=0
  .rw [h0,ZE,ub]at hK;obtain⟨c1,c2⟩:=uaq h0;obtain⟨i1,j1,l1⟩:=xB c1 hwp;obtain⟨i2,j2,l2⟩:=xB c2 hwq;have e0:=ub tE;rw [<-h0]at e0;simp only [go_sem,Wq,hk,hcl0,ho,hl,hs,e0];have hz1:rz ((-1:Int):Rat)<=1000000000:=by rw [rneg1];have:=qaR;omega
   have ho1:=kbs (c:=((-1:Int):Rat)) i2 hwq hq hz1;have hsl:=jY ((-1:Int):Rat) q;refine⟨⟨hwp,hwq⟩,hp',hq',hwp,by omega,by decide,by decide,hwq,hq,hz1,by omega,by omega,?_⟩
   rw [if_pos (by rw [List.length_append];exact Nat.le_refl _),List.take_of_length_le (by rw [List.length_append];exact Nat.le_refl _),kt _ (of_eq_true (uf _)),jP]
   refine⟨λx hx=>(List.mem_append.1 hx).elim (hwp x) (λh=>(ho1 x h).1),λx hx=>(List.mem_append.1 hx).elim (λh=>⟨i1 x h,hp' x h⟩) (λh=>(ho1 x h).2),by rw [List.length_append];omega,?_,?_⟩
   .rw [List.map_append,ji,Qa9,rneg1,ZS];exact hsz
   .rw [List.map_append,Qa9,rneg1];exact hK
  .have e0:=vc tE h0;rw [yH h0,e0]at hK;simp only [go_sem,Wq,hk,hs,e0];exact⟨⟨hwp,hwq⟩,hp',hq',hK⟩
end Go.Abs
end
section
namespace Go.Num
open Go.Abs
def prodT(a b:Mo):Mo:=(a.1+b.1,a.2.1+b.2.1,rcan (rv a.2.2*rv b.2.2))
def prodM(p q:List Mo):List Mo:=p.flatMap λa=>q.map λb=>prodT a b
theorem uI(p q:List Mo):(prodM p q).map mv=mulL (p.map mv) (q.map mv):=by
 induction p with
 | nil=>rfl
 | cons a p ih=>
  have e:prodM (a::p) q=(q.map λb=>prodT a b)++prodM p q:=by unfold prodM;rw [List.flatMap_cons]
  rw [e,List.map_append,ih,List.map_cons,uF,List.map_map,List.map_map];congr 1;refine List.map_congr_left λb _=>?_;simp only [Function.comp,mv,prodT,mulT,Wb]
theorem uac(p q:List Mo):(prodM p q).length=p.length*q.length:=by
 have:=congrArg List.length (uI p q);rw [List.length_map,Zbd,List.length_map,List.length_map]at this;exact this
theorem xaE{p q:List Mo}{k:Nat}{a:Mo}(ha:p[k]?=some a):prodM (p.take (k+1)) q=prodM (p.take k) q++q.map λb=>prodT a b:=by
 unfold prodM;rw [List.take_add_one,ha,List.flatMap_append];simp
theorem Vba{p q:List Mo}(hwp:∀t∈p,WLM t)(hwq:∀t∈q,WLM t)(hp:∀t∈p,rl t.2.2<=1000000000)(hq:∀t∈q,rl t.2.2<=1000000000)(hi:InQ (mulL (p.map mv) (q.map mv))):∀t∈prodM p q,WLM t/\inM t/\rl t.2.2<=4294967296:=by
 intro t ht;have h1:inM t:=hi (mv t) (by rw [<-uI];exact List.mem_map.2 ⟨t,ht,rfl⟩)
 obtain⟨a,ha,hb⟩:=List.mem_flatMap.1 ht;obtain⟨b,hb',rfl⟩:=List.mem_map.1 hb;obtain⟨x1,x2,x3⟩:=h1;refine⟨⟨?_,?_,Qj _⟩,⟨x1,x2,x3⟩,?_⟩
 .unfold i64r;omega
 .unfold i64r;omega
 .have h2:=qc (rv a.2.2) (rv b.2.2);have h3:=Jg (hwp a ha).2.2;have h4:=Jg (hwq b hb').2.2;have h5:=hp a ha;have h6:=hq b hb';have h7:rl (prodT a b).2.2=rz (rv a.2.2*rv b.2.2):=rfl;omega
theorem zM{p:BQ}(hp:Canon p):∀t∈p,t.1+t.2.1<=degB p:=by
 intro t ht;unfold degB;cases hl:p.getLast? with
 | none=>rw [List.getLast?_eq_none_iff]at hl;subst hl;simp at ht
 | some u=>
  simp only;obtain⟨ys,hys⟩:=List.getLast?_eq_some_iff.1 hl;rw [hys]at ht hp;obtain⟨_,_,h3⟩:=List.pairwise_append.1 hp.str;rcases List.mem_append.1 ht with ht | ht
  .have:=h3 t ht u (by simp)
   rw [UbT (hp.ins t (by simp [ht])) (hp.ins u (by simp))]at this
   omega
  .rw [List.mem_singleton.1 ht];exact Int.le_refl _
theorem JW{p:BQ}(hp:Canon p):-1<=degB p/\degB p<=24:=by
 unfold degB;cases hl:p.getLast? with
 | none=>simp
 | some u=>
  simp only;obtain⟨a,b,c⟩:=hp.ins u (List.mem_of_getLast? hl);omega
theorem uah{p:BQ}(hp:Canon p)(h:p≠[]):0<=degB p:=by
 unfold degB;cases hl:p.getLast? with
 | none=>rw [List.getLast?_eq_none_iff]at hl;exact absurd hl h
 | some u=>
  simp only;obtain⟨a,b,c⟩:=hp.ins u (List.mem_of_getLast? hl);omega
theorem Jad{p:BQ}(hp:Canon p):Deg (degB p).toNat p:=λt ht=>by
 have h1:=zM hp t ht;have h2:=uah hp (λh=>by subst h;simp at ht)
 omega
theorem Zbv:∀a<25,∀b<25,a+b<=24->tri (a+1)*tri (b+1)<=8281:=by decide
def mulC(p q:List Mo):Nat:=if chk2 p q≠0 then chk2 p q else if p≠[]/\q≠[]/\24<degM p+degM q then 4 else 0
theorem zb0{p q:List Mo}(hwp:∀t∈p,WLM t)(hwq:∀t∈q,WLM t)(h0:chk2 p q=0)(h1:¬(p≠[]/\q≠[]/\24<degM p+degM q)) :
  InQ (mulL (p.map mv) (q.map mv))/\p.length*q.length<=8281:=by
 obtain⟨c1,c2⟩:=uaq h0;obtain⟨k1,e1⟩:=XD c1 hwp;obtain⟨k2,e2⟩:=XD c2 hwq;by_cases hp:p=[]
 .subst hp;exact⟨λt ht=>by simp [kW]at ht,by simp⟩
 by_cases hq:q=[]
 .subst hq;refine⟨?_,by simp⟩
  have:mulL (p.map mv) ([].map mv)=[]:=by unfold mulL;simp
  rw [this];exact λt ht=>by simp at ht
 have d1:degM p=degB (p.map mv):=by rw [<-ku,e1]
 have d2:degM q=degB (q.map mv):=by rw [<-ku,e2]
 have n1:=uah k1 (by simpa using hp)
 have n2:=uah k2 (by simpa using hq)
 have hd:degB (p.map mv)+degB (q.map mv)<=24:=by
  rw [<-d1,<-d2];exact Int.not_lt.1 λh=>h1 ⟨hp,hq,h⟩
 have D1:=Jad k1;have D2:=Jad k2;refine⟨Yaj k1.ins k2.ins D1 D2 (by omega),?_⟩
 have l1:=ZD k1 D1;have l2:=ZD k2 D2;rw [List.length_map]at l1 l2;exact Nat.le_trans (Nat.mul_le_mul l1 l2) (Zbv _ (by omega) _ (by omega) (by omega))
end Go.Num
namespace Go.Abs
open Go.Num
variable {P:Program} {Γ:Nat->Spec}
def xE(tE:Nat)(l:List AV)(K:AV->Prop):Prop:=
 match l with
 | [a,b]=>onMs (λp=>onMs (λq=>(∀t∈p,rl t.2.2<=1000000000)/\(∀t∈q,rl t.2.2<=1000000000)/\sz (p.map mv)+sz (q.map mv)<=3000000/\K (.tup [.one (.slice ((bres (mulC p q) (mulB (p.map mv) (q.map mv))).map mC)),errV tE (mulC p q)])) b) a
 | _=>False
theorem jaN tE a b K:xE tE [a,b] K=(onMs (λp=>onMs (λq=>(∀t∈p,rl t.2.2<=1000000000)/\(∀t∈q,rl t.2.2<=1000000000)/\sz (p.map mv)+sz (q.map mv)<=3000000/\K (.tup [.one (.slice ((bres (mulC p q) (mulB (p.map mv) (q.map mv))).map mC)),errV tE (mulC p q)])) b) a):=propext Iff.rfl
@[congr] theorem ub1 tE{K}{l l'}(h:l=l'):xE tE l K=xE tE l' K:=by subst h;rfl
attribute [go_sem,go_sem ↓] jaN
theorem Za0(tE:Nat):Good (xE tE):=Ya λas=>by
 unfold xE;split
 .exact(Qu λ_=>(Qu λ_=>(.and λ_=>(.and λ_=>(.and λ_=>(.ret _))))))
 .exact .of λK hk=>hk.elim
def jm(f0 f1 f2 f3 tE:Nat):AC:=(.seq (.ops false [.m 4 (.c (.one .emp)),.m 5 (.c (.one (.lit .nilIface)))])
 (.fg [0,1] (.seq (.seq (.ops false [.m 12 (.t 0),.m 13 (.t 1),.u 14 (.row 1 [[.x 1 (.t 12)],[.x 1 (.t 13)]]),.u 15 (.call f0 [(.t 14)]),.m 6 (.t 15)])
 (.fg [0,1,6] (.seq (.ops false [.m 16 (.t 6),.u 17 (.binn .neq (.t 16) (.c (.one (.lit .nilIface))))])
 (.fg [0,1,6,17] (.cond (.t 17) (.seq (.ops false [.m 18 (.t 6),.m 4 (.c (.one .emp)),.m 5 (.t 18)])
 .ret) .skip)))))
 (.fg [0,1] (.seq (.seq (.ops false [.m 19 (.t 0),.u 20 (.len (.t 19)),.u 21 (.bin .gtr (.t 20) (.i 0)),.m 22 (.t 21),.w 23 22 true (.mv (.t 1)),.w 24 22 true (.len (.t 23)),.w 25 22 true (.bin .gtr (.t 24) (.i 0)),.u 26 (.pick (.t 22) (.t 25) .fa),.m 27 (.t 26),.w 28 27 true (.mv (.t 0)),.w 29 27 true (.call f1 [(.t 28)]),.w 30 27 true (.mv (.t 1)),.w 31 27 true (.call f1 [(.t 30)]),.w 32 27 true (.bin .add (.t 29) (.t 31)),.w 33 27 true (.bin .gtr (.t 32) (.i 24)),.u 34 (.pick (.t 27) (.t 33) .fa)])
 (.fg [0,1,34] (.cond (.t 34) (.seq (.ops false [.u 35 (.iface tE (.i 4)),.m 4 (.c (.one .emp)),.m 5 (.t 35)])
 .ret) .skip)))
 (.fg [0,1] (.seq (.ops false [.m 7 (.c (.one .emp))])
 (.fg [0,1,7] (.seq (.seq (.ops false [.m 36 (.t 0),.u 37 (.len (.t 36)),.m 38 (.i 0)])
 (.fg [1,7,36,37,38] (.block 0 (.loop (.seq (.ops false [.u 39 (.bin .lss (.t 38) (.t 37))])
 (.fg [1,7,36,37,38,39] (.seq (.cond (.t 39) .skip (.exit 0))
 (.fg [1,7,36,37,38] (.seq (.block 1 (.seq (.ops false [.u 40 (.idx 5 (.t 36) (.t 38)),.u 41 (.ld none 5 true (.t 40)),.u 9 (.alloc [(.lit (.int .i64 0)),(.lit (.int .i64 0)),(.lit (.bool false)),.emp,.emp]),.n (.st none 5 (.t 9) (.t 41))])
 (.fg [1,7,9,36,37,38] (.seq (.ops false [.m 42 (.t 1),.u 43 (.len (.t 42)),.m 44 (.i 0)])
 (.fg [1,7,9,36,37,38,42,43,44] (.block 2 (.loop (.seq (.ops false [.u 45 (.bin .lss (.t 44) (.t 43))])
 (.fg [1,7,9,36,37,38,42,43,44,45] (.seq (.cond (.t 45) .skip (.exit 2))
 (.fg [1,7,9,36,37,38,42,43,44] (.seq (.block 3 (.seq (.ops false [.u 46 (.idx 5 (.t 42) (.t 44)),.u 47 (.ld none 5 true (.t 46)),.u 11 (.alloc [(.lit (.int .i64 0)),(.lit (.int .i64 0)),(.lit (.bool false)),.emp,.emp]),.n (.st none 5 (.t 11) (.t 47))])
 (.fg [1,7,9,11,36,37,38,42,43,44] (.ops true [.m 48 (.t 7),.u 49 (.fa 0 (.t 9)),.u 50 (.ld none 1 false (.t 49)),.u 51 (.fa 0 (.t 11)),.u 52 (.ld none 1 false (.t 51)),.u 53 (.bin .add (.t 50) (.t 52)),.u 54 (.fa 1 (.t 9)),.u 55 (.ld none 1 false (.t 54)),.u 56 (.fa 1 (.t 11)),.u 57 (.ld none 1 false (.t 56)),.u 58 (.bin .add (.t 55) (.t 57)),.u 59 (.fa 2 (.t 9)),.u 60 (.ld none 3 true (.t 59)),.u 61 (.fa 2 (.t 11)),.u 62 (.ld none 3 true (.t 61)),.u 63 (.call f2 [(.t 60),(.t 62)]),.u 64 (.build [.x 1 (.t 53),.x 1 (.t 58),.x 3 (.t 63)]),.u 65 (.row 5 [[.x 5 (.t 64)]]),.u 66 (.app 5 (.t 48) (.t 65)),.m 7 (.t 66)]))))
 (.fg [1,7,9,36,37,38,42,43,44] (.ops false [.u 67 (.bin .add (.t 44) (.i 1)),.m 44 (.t 67)]))))))))))))))
 (.fg [1,7,36,37,38] (.ops false [.u 68 (.bin .add (.t 38) (.i 1)),.m 38 (.t 68)])))))))))))
 (.fg [7] (.seq (.ops false [.m 69 (.t 7),.u 70 (.call f3 [(.t 69)]),.m 4 (.t 70),.m 5 (.c (.one (.lit .nilIface)))])
 .ret)))))))))))
theorem UaI(hΓ:Holds P Γ){f fk fd fm fs tE m:Nat}(hm:10000<=m)(hk:Γ fk=.dat false (vi tE))(hd:Γ fd=.dat true yG)(hmu:Γ fm=.dat false vl)(hs:Γ fs=.dat false (Uz m))(hc:check P f=some (71,(jm fk fd fm fs tE).strip,[.tmp 4,.tmp 5])):Sound P f (.dat false (xE tE)):=by
 refine Wa hc (Za0 tE) hΓ (λargs K hcl hfi hG=>?_);match args,hG with
 | [a,b],hG=>
  obtain⟨p,rfl,hwp,q,rfl,hwq,hp,hq,hsz,hK⟩:=hG;refine⟨by simp,?_⟩
  have hp' : ∀t∈p,rl t.2.2<=4294967296:=λt ht=>Nat.le_trans (hp t ht) (by decide)
  have hq' : ∀t∈q,rl t.2.2<=4294967296:=λt ht=>Nat.le_trans (hq t ht) (by decide)
  by_cases h0:chk2 p q=0
  rotate_left
  .have e0:=vc tE h0;have e1:mulC p q=chk2 p q:=if_pos h0;rw [e1,yH h0,e0]at hK;simp only [go_sem,jm,hk,hs,e0];exact⟨⟨hwp,hwq⟩,hp',hq',hK⟩
  have e0:=ub tE;rw [<-h0]at e0;obtain⟨c1,c2⟩:=uaq h0;obtain⟨i1,j1,l1⟩:=xB c1 hwp;obtain⟨i2,j2,l2⟩:=xB c2 hwq;by_cases h1:p≠[]/\q≠[]/\24<degM p+degM q
  .have e1:mulC p q=4:=by unfold mulC;rw [if_neg (by simp [h0]),if_pos h1]
   rw [e1,yH (by decide),vc tE (by decide)]at hK
   obtain⟨g1,g2,g3⟩:=h1;have n1:(0:Int)<(p.length:Int):=by have:=List.length_pos_iff.2 g1;omega
   have n2:(0:Int)<(q.length:Int):=by have:=List.length_pos_iff.2 g2;omega
   obtain⟨k1,e1⟩:=XD c1 hwp;obtain⟨k2,e2⟩:=XD c2 hwq;have d1:degM p=degB (p.map mv):=by rw [<-ku,e1]
   have d2:degM q=degB (q.map mv):=by rw [<-ku,e2]
   have b1:=JW k1;have b2:=JW k2;simp only [go_sem,jm,hk,hd,hs,e0,n1,n2,g3];exact⟨⟨hwp,hwq⟩,hp',hq',λ_ _=>⟨hwp,i1,by omega,hwq,i2,by omega,⟨by omega,by omega⟩,hK⟩⟩
  .have e1:mulC p q=0:=by unfold mulC;rw [if_neg (by simp [h0]),if_neg h1]
   rw [e1,ZE,ub]at hK;obtain⟨hin,hl⟩:=zb0 hwp hwq h0 h1;obtain⟨k1,q1⟩:=XD c1 hwp;obtain⟨k2,q2⟩:=XD c2 hwq;have d1:degM p=degB (p.map mv):=by rw [<-ku,q1]
   have d2:degM q=degB (q.map mv):=by rw [<-ku,q2]
   have b1:=JW k1;have b2:=JW k2;simp only [go_sem,jm,hk,hd,hs,e0];refine⟨⟨hwp,hwq⟩,hp',hq',λ_=>⟨λn1 _=>⟨λn2=>⟨hwp,i1,by omega,hwq,i2,by omega,⟨by omega,by omega⟩,λh=>?_,λ_ _=>?_⟩,λ_ _=>?_⟩,λ_ _=>?_⟩⟩
   .exact absurd ⟨List.length_pos_iff.1 (by omega),List.length_pos_iff.1 (by omega),h⟩ h1
   all_goals
    have hmb:mulB (p.map mv) (q.map mv)=nf ((prodM p q).map mv):=by unfold mulB;rw [uI]
    have hpo:=Vba hwp hwq hp hq hin;have hpl:(prodM p q).length<=m:=by rw [uac];omega
    have hps:sz ((prodM p q).map mv)<=1000000000:=by
     rw [uI];have h1:=ua0 (p.map mv) (q.map mv);rw [List.length_map,List.length_map]at h1;have h2:=Nat.mul_le_mul l2 (Nat.le_refl (sz (p.map mv)));have h3:=Nat.mul_le_mul l1 (Nat.le_refl (sz (q.map mv)));omega
    rw [hmb]at hK;refine Xa (λk:Nat=>if prodM (p.take k) q=[] then ⟨mkV [(1,msA q),(7,.one .emp),(36,msA p),(37,.one (.lit (.int .i64 p.length))),(38,.one (.lit (.int .i64 k)))],mkH []⟩
      else ⟨mkV [(1,msA q),(7,.one (.own 66 1 5 0 (prodM (p.take k) q).length)),(36,msA p),(37,.one (.lit (.int .i64 p.length))),(38,.one (.lit (.int .i64 k)))],mkH [(66,⟨1,some ⟨(prodM (p.take k) q).map mC,5,true⟩⟩)]⟩) (λk=>k<=p.length) (λk=>p.length-k) 0 ?_ ?_ ?_
    .have e00:prodM (p.take 0) q=[]:=rfl;rw [if_pos e00];exact Qa (by simp [okS,okV,okC,okL,okH,okB,okE,ja,Va,qa,ka,wsA,ws,msA,ms]) trivial
    .exact Nat.zero_le _
    .intro k hk2;by_cases hlt:k<p.length
     .obtain⟨x,hx⟩:∃x,p.getD k mo0=x:=⟨_,rfl⟩;have hx0:=getDm hlt hx;have hxm:=List.mem_of_getElem? hx0;have hpt:=xaE (q:=q) hx0;obtain⟨x1,x2,x3⟩:=i1 x hxm;have hwx:=(hwp x hxm).2.2;have hrx:=hp x hxm;obtain⟨A,hA⟩:∃A,prodM (p.take k) q=A:=⟨_,rfl⟩;rw [hA]at hpt;have hAl:A.length<=400000:=by
       rw [<-hA,uac,List.length_take];have:=Nat.mul_le_mul (show min k p.length<=325 by omega) l2
       omega
      by_cases hA0:A=[]
      .have hA':=hA;rw [hA0]at hA';simp only [go_sem,hlt,hx,hA',mC];intro _;refine Xa (λj:Nat=>if A++(q.take j).map (λb=>prodT x b)=[] then ⟨mkV [(1,msA q),(7,.one .emp),(9,.one (.ptr 9 1 0 0)),(36,msA p),(37,.one (.lit (.int .i64 p.length))),(38,.one (.lit (.int .i64 k))),(42,msA q),(43,.one (.lit (.int .i64 q.length))),(44,.one (.lit (.int .i64 j)))],mkH [(9,⟨1,some ⟨[mC x],5,true⟩⟩)]⟩
         else ⟨mkV [(1,msA q),(7,.one (.own 66 1 5 0 (A++(q.take j).map (λb=>prodT x b)).length)),(9,.one (.ptr 9 1 0 0)),(36,msA p),(37,.one (.lit (.int .i64 p.length))),(38,.one (.lit (.int .i64 k))),(42,msA q),(43,.one (.lit (.int .i64 q.length))),(44,.one (.lit (.int .i64 j)))],mkH [(9,⟨1,some ⟨[mC x],5,true⟩⟩),(66,⟨1,some ⟨(A++(q.take j).map (λb=>prodT x b)).map mC,5,true⟩⟩)]⟩) (λj=>j<=q.length) (λj=>q.length-j) 0 ?_ ?_ ?_
       .have e0:A++(q.take 0).map (λb=>prodT x b)=A:=by simp
        rw [e0]
        first
         | (rw [if_pos hA0];exact Qa (by simp [okS,okV,okC,okL,okH,okB,okE,ja,Va,qa,ka,wsA,ws,msA,ms]) ⟨Vm (l':=[x]) rfl,trivial⟩)
         | (rw [if_neg hA0];exact Qa (by simp [okS,okV,okC,okL,okH,okB,okE,ja,Va,qa,ka,wsA,ws,msA,ms]) ⟨Vm (l':=[x]) rfl,Vm rfl,trivial⟩)
       .exact Nat.zero_le _
       .intro j hj2;by_cases hlj:j<q.length
        .obtain⟨y,hy⟩:∃y,q.getD j mo0=y:=⟨_,rfl⟩;have hy0:=getDm hlj hy;have hym:=List.mem_of_getElem? hy0;obtain⟨y1,y2,y3⟩:=i2 y hym;have hwy:=(hwq y hym).2.2;have hry:=hq y hym;have hqt:A++(q.take (j+1)).map (λb=>prodT x b)=A++(q.take j).map (λb=>prodT x b)++[prodT x y]:=by rw [List.take_add_one,hy0];simp
         obtain⟨B,hB⟩:∃B,A++(q.take j).map (λb=>prodT x b)=B:=⟨_,rfl⟩;rw [hB]at hqt;have hBl:B.length<=500000:=by
          rw [<-hB,List.length_append,List.length_map,List.length_take];omega
         by_cases hB0:B=[]
         .rw [hB0]at hB;simp only [go_sem,hlj,hy,hB,hmu,mC];refine⟨⟨by omega,by omega⟩,⟨by omega,by omega⟩,hwx,hwy,by omega,by omega,λe he=>by rw [List.mem_singleton.1 he];rfl,?_⟩
          repeat first | refine Ja (by omega) ?_ | refine Ja (by assumption) ?_ | refine Ja rfl ?_ | refine Ja ⟨rfl,by omega⟩ ?_ | refine Ja ⟨rfl,by omega,by omega⟩ ?_ | intro _
          refine⟨j+1,?_,by omega,by omega⟩
          rw [hqt,if_neg (by simp)]
          exact Qa (by simp [okS,okV,okC,okL,okH,okB,okE,ja,Va,qa,ka,wsA,ws,msA,ms,hB0]) ⟨Vm (l':=[x]) rfl,Vm (by rw [hB0];simp [mC,prodT]),trivial⟩
         .simp only [go_sem,hlj,hy,hB,hB0,hmu,mC];refine⟨⟨by omega,by omega⟩,⟨by omega,by omega⟩,hwx,hwy,by omega,by omega,λe he=>by rw [List.mem_singleton.1 he];rfl,?_⟩
          repeat first | refine Ja (by omega) ?_ | refine Ja (by assumption) ?_ | refine Ja rfl ?_ | refine Ja ⟨rfl,by omega⟩ ?_ | refine Ja ⟨rfl,by omega,by omega⟩ ?_ | intro _
          refine⟨j+1,?_,by omega,by omega⟩
          rw [hqt,if_neg (by simp)]
          exact Qa (by simp [okS,okV,okC,okL,okH,okB,okE,ja,Va,qa,ka,wsA,ws,msA,ms]) ⟨Vm (l':=[x]) rfl,Vm (by simp [mC,prodT]),trivial⟩
        .have ej:A++(q.take j).map (λb=>prodT x b)=prodM (p.take (k+1)) q:=by rw [hpt,List.take_of_length_le (by omega)]
         obtain⟨B,hB⟩:∃B,prodM (p.take (k+1)) q=B:=⟨_,rfl⟩;rw [hB]at ej;by_cases hB0:B=[]
         .rw [hB0]at ej;simp only [go_sem,hlj,ej,mC];repeat first | refine Ja (by omega) ?_ | refine Ja (by assumption) ?_ | refine Ja rfl ?_ | refine Ja ⟨rfl,by omega⟩ ?_ | refine Ja ⟨rfl,by omega,by omega⟩ ?_ | intro _
          refine⟨k+1,?_,by omega,by omega⟩
          rw [hB,if_pos hB0];exact Qa (by simp [okS,okV,okC,okL,okH,okB,okE,ja,Va,qa,ka,wsA,ws,msA,ms]) trivial
         .simp only [go_sem,hlj,ej,hB0,mC];repeat first | refine Ja (by omega) ?_ | refine Ja (by assumption) ?_ | refine Ja rfl ?_ | refine Ja ⟨rfl,by omega⟩ ?_ | refine Ja ⟨rfl,by omega,by omega⟩ ?_ | intro _
          refine⟨k+1,?_,by omega,by omega⟩
          rw [hB,if_neg hB0];exact Qa (by simp [okS,okV,okC,okL,okH,okB,okE,ja,Va,qa,ka,wsA,ws,msA,ms]) ⟨Vm rfl,trivial⟩
      .simp only [go_sem,hlt,hx,hA,hA0,mC];intro _;refine Xa (λj:Nat=>if A++(q.take j).map (λb=>prodT x b)=[] then ⟨mkV [(1,msA q),(7,.one .emp),(9,.one (.ptr 9 1 0 0)),(36,msA p),(37,.one (.lit (.int .i64 p.length))),(38,.one (.lit (.int .i64 k))),(42,msA q),(43,.one (.lit (.int .i64 q.length))),(44,.one (.lit (.int .i64 j)))],mkH [(9,⟨1,some ⟨[mC x],5,true⟩⟩)]⟩
         else ⟨mkV [(1,msA q),(7,.one (.own 66 1 5 0 (A++(q.take j).map (λb=>prodT x b)).length)),(9,.one (.ptr 9 1 0 0)),(36,msA p),(37,.one (.lit (.int .i64 p.length))),(38,.one (.lit (.int .i64 k))),(42,msA q),(43,.one (.lit (.int .i64 q.length))),(44,.one (.lit (.int .i64 j)))],mkH [(9,⟨1,some ⟨[mC x],5,true⟩⟩),(66,⟨1,some ⟨(A++(q.take j).map (λb=>prodT x b)).map mC,5,true⟩⟩)]⟩) (λj=>j<=q.length) (λj=>q.length-j) 0 ?_ ?_ ?_
       .have e0:A++(q.take 0).map (λb=>prodT x b)=A:=by simp
        rw [e0]
        first
         | (rw [if_pos hA0];exact Qa (by simp [okS,okV,okC,okL,okH,okB,okE,ja,Va,qa,ka,wsA,ws,msA,ms]) ⟨Vm (l':=[x]) rfl,trivial⟩)
         | (rw [if_neg hA0];exact Qa (by simp [okS,okV,okC,okL,okH,okB,okE,ja,Va,qa,ka,wsA,ws,msA,ms]) ⟨Vm (l':=[x]) rfl,Vm rfl,trivial⟩)
       .exact Nat.zero_le _
       .intro j hj2;by_cases hlj:j<q.length
        .obtain⟨y,hy⟩:∃y,q.getD j mo0=y:=⟨_,rfl⟩;have hy0:=getDm hlj hy;have hym:=List.mem_of_getElem? hy0;obtain⟨y1,y2,y3⟩:=i2 y hym;have hwy:=(hwq y hym).2.2;have hry:=hq y hym;have hqt:A++(q.take (j+1)).map (λb=>prodT x b)=A++(q.take j).map (λb=>prodT x b)++[prodT x y]:=by rw [List.take_add_one,hy0];simp
         obtain⟨B,hB⟩:∃B,A++(q.take j).map (λb=>prodT x b)=B:=⟨_,rfl⟩;rw [hB]at hqt;have hBl:B.length<=500000:=by
          rw [<-hB,List.length_append,List.length_map,List.length_take];omega
         by_cases hB0:B=[]
         .rw [hB0]at hB;simp only [go_sem,hlj,hy,hB,hmu,mC];refine⟨⟨by omega,by omega⟩,⟨by omega,by omega⟩,hwx,hwy,by omega,by omega,λe he=>by rw [List.mem_singleton.1 he];rfl,?_⟩
          repeat first | refine Ja (by omega) ?_ | refine Ja (by assumption) ?_ | refine Ja rfl ?_ | refine Ja ⟨rfl,by omega⟩ ?_ | refine Ja ⟨rfl,by omega,by omega⟩ ?_ | intro _
          refine⟨j+1,?_,by omega,by omega⟩
          rw [hqt,if_neg (by simp)]
          exact Qa (by simp [okS,okV,okC,okL,okH,okB,okE,ja,Va,qa,ka,wsA,ws,msA,ms,hB0]) ⟨Vm (l':=[x]) rfl,Vm (by rw [hB0];simp [mC,prodT]),trivial⟩
         .simp only [go_sem,hlj,hy,hB,hB0,hmu,mC];refine⟨⟨by omega,by omega⟩,⟨by omega,by omega⟩,hwx,hwy,by omega,by omega,λe he=>by rw [List.mem_singleton.1 he];rfl,?_⟩
          repeat first | refine Ja (by omega) ?_ | refine Ja (by assumption) ?_ | refine Ja rfl ?_ | refine Ja ⟨rfl,by omega⟩ ?_ | refine Ja ⟨rfl,by omega,by omega⟩ ?_ | intro _
          refine⟨j+1,?_,by omega,by omega⟩
          rw [hqt,if_neg (by simp)]
          exact Qa (by simp [okS,okV,okC,okL,okH,okB,okE,ja,Va,qa,ka,wsA,ws,msA,ms]) ⟨Vm (l':=[x]) rfl,Vm (by simp [mC,prodT]),trivial⟩
        .have ej:A++(q.take j).map (λb=>prodT x b)=prodM (p.take (k+1)) q:=by rw [hpt,List.take_of_length_le (by omega)]
         obtain⟨B,hB⟩:∃B,prodM (p.take (k+1)) q=B:=⟨_,rfl⟩;rw [hB]at ej;by_cases hB0:B=[]
         .rw [hB0]at ej;simp only [go_sem,hlj,ej,mC];repeat first | refine Ja (by omega) ?_ | refine Ja (by assumption) ?_ | refine Ja rfl ?_ | refine Ja ⟨rfl,by omega⟩ ?_ | refine Ja ⟨rfl,by omega,by omega⟩ ?_ | intro _
          refine⟨k+1,?_,by omega,by omega⟩
          rw [hB,if_pos hB0];exact Qa (by simp [okS,okV,okC,okL,okH,okB,okE,ja,Va,qa,ka,wsA,ws,msA,ms]) trivial
         .simp only [go_sem,hlj,ej,hB0,mC];repeat first | refine Ja (by omega) ?_ | refine Ja (by assumption) ?_ | refine Ja rfl ?_ | refine Ja ⟨rfl,by omega⟩ ?_ | refine Ja ⟨rfl,by omega,by omega⟩ ?_ | intro _
          refine⟨k+1,?_,by omega,by omega⟩
          rw [hB,if_neg hB0];exact Qa (by simp [okS,okV,okC,okL,okH,okB,okE,ja,Va,qa,ka,wsA,ws,msA,ms]) ⟨Vm rfl,trivial⟩
     .have ek:p.take k=p:=List.take_of_length_le (by omega)
      by_cases hA0:prodM p q=[]
      .rw [hA0]at hK;simp only [go_sem,hlt,ek,hA0,hs];exact⟨by simp,by omega,by simp [sz],hK⟩
      .simp only [go_sem,hlt,ek,hA0,hs];exact⟨λt ht=>(hpo t ht).1,λt ht=>(hpo t ht).2,hpl,hps,hK⟩
end Go.Abs
end
section
namespace Go.Num
open Go.Abs
theorem XbF{l:BQ}(h:InQ l)(x y:Rat):rz (ev l x y)<=sz l+l.length*(24*(rz x+2)+24*(rz y+2)+8):=by
 induction l with
 | nil=>have:=rz_0;simp only [ev,sz];omega
 | cons t l ih=>
  obtain⟨⟨a,b,c⟩,h2⟩:=Xe.1 h;have ih:=ih h2;have h3:=kad x t.1.toNat;have h4:=kad y t.2.1.toNat;have h5:=qc (pw x t.1.toNat) (pw y t.2.1.toNat);have h6:=qc t.2.2 (pw x t.1.toNat*pw y t.2.1.toNat);have h7:=Ql (mev t x y) (ev l x y);have h8:t.1.toNat*(rz x+2)<=24*(rz x+2):=Nat.mul_le_mul_right _ (by omega)
  have h9:t.2.1.toNat*(rz y+2)<=24*(rz y+2):=Nat.mul_le_mul_right _ (by omega)
  have h10:mev t x y=t.2.2*(pw x t.1.toNat*pw y t.2.1.toNat):=rfl;rw [h10]at h7;simp only [ev,mev,sz,List.length_cons,Nat.add_mul,Nat.one_mul]at *
  omega
theorem zbw{l:List Mo}{k:Nat}{t:Mo}(ht:l[k]?=some t)(x y:Rat):ev ((l.take (k+1)).map mv) x y=ev ((l.take k).map mv) x y+rv t.2.2*(pw x t.1.toNat*pw y t.2.1.toNat):=by
 rw [XL ht,QA];simp only [ev,mev,mv,Rat.add_zero]
theorem rone1:((1:Int):Rat)=1:=by simp
end Go.Num
namespace Go.Abs
open Go.Num
variable {P:Program} {Γ:Nat->Spec}
theorem YbU(N:Nat):mx (N:Int) (-(N:Int))=N:=by
 unfold mx;split <;> omega
theorem rQ_0:rQ 0=.agg [.lit (.bool false),.slice [],.slice []]:=by unfold rQ;rw [Yb];rfl
theorem qaF{h h' : Nat->HB}{z:Nat}{b:Bool}:okB h h' (some ⟨[[.lit (.bool false),.emp,.emp]],z,b⟩) (some ⟨[[.lit (.bool false),.emp,.emp]],z,b⟩):=
 ⟨⟨rfl,rfl⟩,.inl ⟨rfl,λe he c hc=>by
  rw [List.mem_singleton]at he;subst he;simp only [List.mem_cons,List.not_mem_nil,or_false]at hc;rcases hc with rfl | rfl | rfl
  .exact .lit _
  .exact .emp
  .exact .emp⟩⟩
def vC(tE:Nat)(l:List AV)(K:AV->Prop):Prop:=
 match l with
 | [a,n]=>onR (λx=>asInt (λk n=>k=.i64/\0<=n/\n<=64/\rl x<=10000000/\K (.tup [rQ (pw (rv x) n.toNat),errV tE 0])) n) a
 | _=>False
theorem Wa0 tE a n K:vC tE [a,n] K=(onR (λx=>asInt (λk n=>k=.i64/\0<=n/\n<=64/\rl x<=10000000/\K (.tup [rQ (pw (rv x) n.toNat),errV tE 0])) n) a):=propext Iff.rfl
@[congr] theorem jb1 tE{K}{l l'}(h:l=l'):vC tE l K=vC tE l' K:=by subst h;rfl
attribute [go_sem,go_sem ↓] Wa0
theorem XaO(tE:Nat):Good (vC tE):=Ya λas=>by
 unfold vC;split
 .exact(Wm λ_=>(Jd (λ_ _=>(.and λ_=>(.and λ_=>(.and λ_=>(.and λ_=>(.ret _)))))) _))
 .exact .of λK hk=>hk.elim
def vv(tE:Nat)(l:List AV)(K:AV->Prop):Prop:=
 match l with
 | [a,b,c]=>onMs (λp=>onR (λx=>onR (λy=>(∀t∈p,rl t.2.2<=1000000000)/\rl x<=10000/\rl y<=10000/\sz (p.map mv)<=100000000/\K (.tup [rQ (if chkB p=0 then ev (p.map mv) (rv x) (rv y) else 0),errV tE (chkB p)])) c) b) a
 | _=>False
theorem Vas tE a b c K:vv tE [a,b,c] K=(onMs (λp=>onR (λx=>onR (λy=>(∀t∈p,rl t.2.2<=1000000000)/\rl x<=10000/\rl y<=10000/\sz (p.map mv)<=100000000/\K (.tup [rQ (if chkB p=0 then ev (p.map mv) (rv x) (rv y) else 0),errV tE (chkB p)])) c) b) a):=propext Iff.rfl
@[congr] theorem vbP tE{K}{l l'}(h:l=l'):vv tE l K=vv tE l' K:=by subst h;rfl
attribute [go_sem,go_sem ↓] Vas
theorem uaE(tE:Nat):Good (vv tE):=Ya λas=>by
 unfold vv;split
 .exact(Qu λ_=>(Wm λ_=>(Wm λ_=>(.and λ_=>(.and λ_=>(.and λ_=>(.and λ_=>(.ret _))))))))
 .exact .of λK hk=>hk.elim
def Um(f0 f1 f2 tE:Nat):AC:=(.seq (.ops false [.u 2 (.box 3 (.t 0)),.u 4 (.alloc [(.lit (.bool false)),.emp,.emp]),.m 5 (.c (.one (.lit .nilIface)))])
 (.fg [1,2,4] (.seq (.seq (.ops false [.m 7 (.t 1),.u 8 (.bin .lss (.t 7) (.i (-64))),.m 9 (.t 8),.w 10 9 false (.mv (.t 1)),.w 11 9 false (.bin .gtr (.t 10) (.i 64)),.u 12 (.pick (.t 9) .tr (.t 11))])
 (.fg [1,2,4,12] (.cond (.t 12) (.seq (.ops false [.u 13 (.build [.z [(.lit (.bool false)),.emp,.emp]]),.u 14 (.iface tE (.i 3)),.n (.st none 3 (.t 4) (.t 13)),.m 5 (.t 14)])
 .ret) .skip)))
 (.fg [1,2,4] (.seq (.ops false [.u 15 (.call f0 [(.i 1)]),.u 6 (.alloc [(.lit (.bool false)),.emp,.emp]),.n (.st none 3 (.t 6) (.t 15))])
 (.fg [1,2,4,6] (.seq (.seq (.ops false [.m 16 (.t 1),.m 17 (.t 1),.u 18 (.un .neg (.t 17)),.u 19 (.max [(.t 16),(.t 18)]),.m 20 (.i 0)])
 (.fg [1,2,4,6,19,20] (.block 0 (.loop (.seq (.ops false [.u 21 (.bin .lss (.t 20) (.t 19))])
 (.fg [1,2,4,6,19,20,21] (.seq (.cond (.t 21) .skip (.exit 0))
 (.fg [1,2,4,6,19,20] (.seq (.block 1 (.ops false [.u 22 (.ld none 3 true (.t 6)),.u 23 (.ld none 3 true (.t 2)),.u 24 (.call f1 [(.t 22),(.t 23)]),.n (.st none 3 (.t 6) (.t 24))]))
 (.fg [1,2,4,6,19,20] (.ops false [.u 25 (.bin .add (.t 20) (.i 1)),.m 20 (.t 25)])))))))))))
 (.fg [1,4,6] (.seq (.seq (.ops false [.m 26 (.t 1),.u 27 (.bin .lss (.t 26) (.i 0))])
 (.fg [4,6,27] (.cond (.t 27) (.seq (.ops true [.u 28 (.call f0 [(.i 1)]),.u 29 (.ld none 3 true (.t 6)),.u 30 (.call f2 [(.t 28),(.t 29)]),.u 31 (.ext 0 (.t 30)),.u 32 (.ext 1 (.t 30)),.n (.st none 3 (.t 4) (.t 31)),.m 5 (.t 32)])
 .ret) .skip)))
 (.fg [4,6] (.seq (.ops false [.u 33 (.ld none 3 true (.t 6)),.n (.st none 3 (.t 4) (.t 33)),.m 5 (.c (.one (.lit .nilIface)))])
 .ret)))))))))))
def Vn(f0 f1 f2 f3:Nat):AC:=(.seq (.ops false [.u 4 (.box 3 (.t 1)),.u 5 (.box 3 (.t 2)),.u 6 (.alloc [(.lit (.bool false)),.emp,.emp]),.m 7 (.c (.one (.lit .nilIface)))])
 (.fg [0,4,5,6] (.seq (.seq (.ops false [.m 15 (.t 0),.u 16 (.call f0 [(.t 15)]),.m 8 (.t 16)])
 (.fg [0,4,5,6,8] (.seq (.ops false [.m 17 (.t 8),.u 18 (.binn .neq (.t 17) (.c (.one (.lit .nilIface))))])
 (.fg [0,4,5,6,8,18] (.cond (.t 18) (.seq (.ops false [.u 19 (.build [.z [(.lit (.bool false)),.emp,.emp]]),.m 20 (.t 8),.n (.st none 3 (.t 6) (.t 19)),.m 7 (.t 20)])
 .ret) .skip)))))
 (.fg [0,4,5,6] (.seq (.ops false [.u 9 (.alloc [(.lit (.bool false)),.emp,.emp])])
 (.fg [0,4,5,6,9] (.seq (.seq (.ops false [.m 21 (.t 0),.u 22 (.len (.t 21)),.m 23 (.i 0)])
 (.fg [4,5,6,9,21,22,23] (.block 0 (.loop (.seq (.ops false [.u 24 (.bin .lss (.t 23) (.t 22))])
 (.fg [4,5,6,9,21,22,23,24] (.seq (.cond (.t 24) .skip (.exit 0))
 (.fg [4,5,6,9,21,22,23] (.seq (.block 1 (.seq (.ops false [.u 25 (.idx 5 (.t 21) (.t 23)),.u 26 (.ld none 5 true (.t 25)),.u 11 (.alloc [(.lit (.int .i64 0)),(.lit (.int .i64 0)),(.lit (.bool false)),.emp,.emp]),.n (.st none 5 (.t 11) (.t 26))])
 (.fg [4,5,6,9,11,21,22,23] (.seq (.ops false [.u 28 (.ld none 3 true (.t 4)),.u 29 (.fa 0 (.t 11)),.u 30 (.ld none 1 false (.t 29)),.u 31 (.call f1 [(.t 28),(.t 30)]),.m 27 (.t 31),.u 32 (.ext 0 (.t 27)),.u 33 (.ext 1 (.t 27)),.u 12 (.alloc [(.lit (.bool false)),.emp,.emp]),.n (.st none 3 (.t 12) (.t 32)),.m 13 (.t 33)])
 (.fg [4,5,6,9,11,12,13,21,22,23] (.seq (.seq (.ops false [.m 34 (.t 13),.u 35 (.binn .neq (.t 34) (.c (.one (.lit .nilIface))))])
 (.fg [4,5,6,9,11,12,13,21,22,23,35] (.cond (.t 35) (.seq (.ops false [.u 36 (.build [.z [(.lit (.bool false)),.emp,.emp]]),.m 37 (.t 13),.n (.st none 3 (.t 6) (.t 36)),.m 7 (.t 37)])
 .ret) .skip)))
 (.fg [4,5,6,9,11,12,21,22,23] (.seq (.ops false [.u 39 (.ld none 3 true (.t 5)),.u 40 (.fa 1 (.t 11)),.u 41 (.ld none 1 false (.t 40)),.u 42 (.call f1 [(.t 39),(.t 41)]),.m 38 (.t 42),.u 43 (.ext 0 (.t 38)),.u 44 (.ext 1 (.t 38)),.u 14 (.alloc [(.lit (.bool false)),.emp,.emp]),.n (.st none 3 (.t 14) (.t 43)),.m 13 (.t 44)])
 (.fg [4,5,6,9,11,12,13,14,21,22,23] (.seq (.seq (.ops false [.m 45 (.t 13),.u 46 (.binn .neq (.t 45) (.c (.one (.lit .nilIface))))])
 (.fg [4,5,6,9,11,12,13,14,21,22,23,46] (.cond (.t 46) (.seq (.ops false [.u 47 (.build [.z [(.lit (.bool false)),.emp,.emp]]),.m 48 (.t 13),.n (.st none 3 (.t 6) (.t 47)),.m 7 (.t 48)])
 .ret) .skip)))
 (.fg [4,5,6,9,11,12,14,21,22,23] (.ops true [.u 49 (.ld none 3 true (.t 9)),.u 50 (.fa 2 (.t 11)),.u 51 (.ld none 3 true (.t 50)),.u 52 (.ld none 3 true (.t 12)),.u 53 (.ld none 3 true (.t 14)),.u 54 (.call f2 [(.t 52),(.t 53)]),.u 55 (.call f2 [(.t 51),(.t 54)]),.u 56 (.call f3 [(.t 49),(.t 55)]),.n (.st none 3 (.t 9) (.t 56))]))))))))))))
 (.fg [4,5,6,9,21,22,23] (.ops false [.u 57 (.bin .add (.t 23) (.i 1)),.m 23 (.t 57)])))))))))))
 (.fg [6,9] (.seq (.ops false [.u 58 (.ld none 3 true (.t 9)),.n (.st none 3 (.t 6) (.t 58)),.m 7 (.c (.one (.lit .nilIface)))])
 .ret)))))))))
theorem waG(hΓ:Holds P Γ){f fo fm fd tE:Nat}(ho:Γ fo=.dat false wB)(hm:Γ fm=.dat false vl)(hc:check P f=some (34,(Um fo fm fd tE).strip,[.cell 4 3 true,.tmp 5])):Sound P f (.dat false (vC tE)):=by
 refine Wa hc (XaO tE) hΓ (λargs K hcl hfi hG=>?_);match args,hG with
 | [a,b],hG=>
  obtain⟨x,rfl,hwx,hG⟩:=hG;obtain⟨k,n,rfl,rfl,h0,h1,hrx,hK⟩:=vb hG;refine⟨by simp,?_⟩
  obtain⟨N,rfl⟩:∃N:Nat,n=N:=⟨n.toNat,by omega⟩
  rw [Int.toNat_natCast,ub]at hK;have n1:¬(N:Int) < -64:=by omega
  have n2:¬(64:Int)<(N:Int):=by omega
  have n3:¬(N:Int)<0:=by omega
  simp only [go_sem,Um,ho,rA,n1,n2,YbU,rone1];refine⟨by decide,by decide,⟨by omega,by omega⟩,?_⟩
  refine Xa (λk:Nat=>⟨mkV [(1,.one (.lit (.int .i64 N))),(2,.one (.ptr 2 1 0 0)),(4,.one (.ptr 4 1 0 0)),(6,.one (.ptr 6 1 0 0)),(19,.one (.lit (.int .i64 N))),(20,.one (.lit (.int .i64 k)))],mkH [(2,⟨1,some ⟨[[cb x,cn x,cd x]],3,true⟩⟩),(4,⟨1,some ⟨[[.lit (.bool false),.emp,.emp]],3,true⟩⟩),(6,⟨1,some ⟨[[cb (rcan (pw (rv x) k)),cn (rcan (pw (rv x) k)),cd (rcan (pw (rv x) k))]],3,true⟩⟩)]⟩) (λk=>k<=N) (λk=>N-k) 0 ?_ ?_ ?_
  .exact Qa (by simp [okS,okV,okC,okL,okH,okB,okE,ja,Va,qa,ka,wsA,ws]) ⟨ZA,qaF,ZA,trivial⟩
  .exact Nat.zero_le _
  .intro k hk;have hz:=kad (rv x) k;have hz2:=Jg hwx;have hz3:k*(rz (rv x)+2)<=64*(rz (rv x)+2):=Nat.mul_le_mul_right _ (by omega)
   by_cases hlt:k<N
   .simp only [go_sem,hlt,hm,Wb];exact⟨hwx,by omega,by omega,by omega,k+1,Qa (by simp [okS,okV,okC,okL,okH,okB,okE,ja,Va,qa,ka,wsA,ws]) ⟨ZA,qaF,ZA,trivial⟩,by omega,by omega⟩
   .have ek:k=N:=by omega
    subst ek;simp only [go_sem,hlt,n3,Int.lt_irrefl,Nat.lt_irrefl];exact hK
theorem jaj(hΓ:Holds P Γ){f fk fp fm fa tE:Nat}(hk:Γ fk=.dat false (qm tE))(hp:Γ fp=.dat false (vC tE))(hm:Γ fm=.dat false vl)(ha:Γ fa=.dat false jl)(hc:check P f=some (59,(Vn fk fp fm fa).strip,[.cell 6 3 true,.tmp 7])):Sound P f (.dat false (vv tE)):=by
 refine Wa hc (uaE tE) hΓ (λargs K hcl hfi hG=>?_);match args,hG with
 | [a,b,c],hG=>
  obtain⟨p,rfl,hwp,x,rfl,hwx,y,rfl,hwy,hrp,hrx,hry,hsz,hK⟩:=hG;refine⟨by simp,?_⟩
  have hrp' : ∀t∈p,rl t.2.2<=4294967296:=λt ht=>Nat.le_trans (hrp t ht) (by decide)
  by_cases h0:chkB p=0
  .have e0:=ub tE;rw [if_pos h0,h0,ub]at hK;rw [<-h0]at e0;obtain⟨i1,j1,l1⟩:=xB h0 hwp;simp only [go_sem,Vn,hk,rA,e0];refine⟨hwp,hrp',λ_=>?_⟩;refine Xa (λk:Nat=>⟨mkV [(4,.one (.ptr 4 1 0 0)),(5,.one (.ptr 5 1 0 0)),(6,.one (.ptr 6 1 0 0)),(9,.one (.ptr 9 1 0 0)),(21,msA p),(22,.one (.lit (.int .i64 p.length))),(23,.one (.lit (.int .i64 k)))],mkH [(4,⟨1,some ⟨[[cb x,cn x,cd x]],3,true⟩⟩),(5,⟨1,some ⟨[[cb y,cn y,cd y]],3,true⟩⟩),(6,⟨1,some ⟨[[.lit (.bool false),.emp,.emp]],3,true⟩⟩),(9,⟨1,some ⟨[if k=0 then [.lit (.bool false),.emp,.emp] else [cb (rcan (ev ((p.take k).map mv) (rv x) (rv y))),cn (rcan (ev ((p.take k).map mv) (rv x) (rv y))),cd (rcan (ev ((p.take k).map mv) (rv x) (rv y)))]],3,true⟩⟩)]⟩) (λk=>k<=p.length) (λk=>p.length-k) 0 ?_ ?_ ?_
   .rw [if_pos rfl];exact Qa (by simp [okS,okV,okC,okL,okH,okB,okE,ja,Va,qa,ka,wsA,ws,msA,ms]) ⟨ZA,ZA,qaF,qaF,trivial⟩
   .exact Nat.zero_le _
   .intro k hk2;by_cases hlt:k<p.length
    .obtain⟨t,ht⟩:∃t,p.getD k mo0=t:=⟨_,rfl⟩;have ht0:=getDm hlt ht;have htm:=List.mem_of_getElem? ht0;obtain⟨t1,t2,t3⟩:=i1 t htm;have hwt:=(hwp t htm).2.2;have hrt:=hrp t htm;have het:=zbw ht0 (rv x) (rv y);have z0:=rz_0;have z1:=Jg hwx;have z2:=Jg hwy;have z3:=Jg hwt;have z4:=kad (rv x) t.1.toNat;have z5:=kad (rv y) t.2.1.toNat;have z6:t.1.toNat*(rz (rv x)+2)<=24*(rz (rv x)+2):=Nat.mul_le_mul_right _ (by omega)
     have z7:t.2.1.toNat*(rz (rv y)+2)<=24*(rz (rv y)+2):=Nat.mul_le_mul_right _ (by omega)
     have z8:=qc (pw (rv x) t.1.toNat) (pw (rv y) t.2.1.toNat);have z9:=qc (rv t.2.2) (pw (rv x) t.1.toNat*pw (rv y) t.2.1.toNat);have z10:rz (ev ((p.take k).map mv) (rv x) (rv y))<=1000000000:=by
      have w1:=XbF (l:=(p.take k).map mv) (λu hu=>by
       obtain⟨v,hv,rfl⟩:=List.mem_map.1 hu;exact i1 v (List.mem_of_mem_take hv)) (rv x) (rv y)
      have w2:=UG (p.map mv) k;rw [<-List.map_take]at w2;rw [List.length_map,List.length_take]at w1;have w3:=Nat.mul_le_mul (show min k p.length<=325 by omega) (show 24*(rz (rv x)+2)+24*(rz (rv y)+2)+8<=24*10002+24*10002+8 by omega)
      omega
     have e1:=ub tE;by_cases hk0:k=0
     .subst hk0;simp only [go_sem,hlt,ht,hp,hm,ha,mC,e1,Wb,rQ];repeat first | refine Ja (by omega) ?_ | refine Ja (by assumption) ?_ | refine Ja rfl ?_ | refine Ja ⟨rfl,by omega⟩ ?_ | refine Ja ⟨rfl,by omega,by omega⟩ ?_ | intro _
      refine⟨1,?_,by omega,by omega⟩
      rw [if_neg (by decide)]
      have het0:ev ((p.take 1).map mv) (rv x) (rv y)=0+rv t.2.2*(pw (rv x) t.1.toNat*pw (rv y) t.2.1.toNat):=het;rw [het0];exact Qa (by simp [okS,okV,okC,okL,okH,okB,okE,ja,Va,qa,ka,wsA,ws,msA,ms]) ⟨ZA,ZA,qaF,ZA,trivial⟩
     .simp only [go_sem,hlt,ht,hp,hm,ha,mC,e1,Wb,rQ,hk0];repeat first | refine Ja (by omega) ?_ | refine Ja (by assumption) ?_ | refine Ja rfl ?_ | refine Ja ⟨rfl,by omega⟩ ?_ | refine Ja ⟨rfl,by omega,by omega⟩ ?_ | intro _
      refine⟨k+1,?_,by omega,by omega⟩
      rw [if_neg (by omega),het]
      exact Qa (by simp [okS,okV,okC,okL,okH,okB,okE,ja,Va,qa,ka,wsA,ws,msA,ms]) ⟨ZA,ZA,qaF,ZA,trivial⟩
    .have ek:p.take k=p:=List.take_of_length_le (by omega)
     by_cases hk0:k=0
     .subst hk0;simp only [go_sem,hlt,rQ];have hp0:p=[]:=List.length_eq_zero_iff.1 (by omega)
      subst hp0;have e00:ev (([]:List Mo).map mv) (rv x) (rv y)=0:=rfl;rw [e00,rQ_0]at hK;exact hK
     .simp only [go_sem,hlt,rQ,hk0,ek];exact hK
  .have e0:=vc tE h0;rw [if_neg h0,e0]at hK;simp only [go_sem,Vn,hk,rA,e0];rw [rQ_0]at hK;exact⟨hwp,hrp',hK⟩
end Go.Abs
end
section
namespace Go.Num
abbrev CpR:=V2×V2×Rat×Rat×Rat×Rat×Rat
structure CB (c:CpR):Prop where
 o1:rz c.1.1<=4000
 o2:rz c.1.2<=4000
 q1:rz c.2.1.1<=4000
 q2:rz c.2.1.2<=4000
 a2:rz c.2.2.1<=4000
 b2:rz c.2.2.2.1<=4000
 c2:rz c.2.2.2.2.1<=4000
 u:rz c.2.2.2.2.2.1<=4000
 v:rz c.2.2.2.2.2.2<=4000
def lxB(o:V2):BQ×BQ:=(linB false o.1,linB true o.2)
def timB(v:BQ×BQ)(u w:Rat):BQ×BQ:=(subB (sclB u v.1) (sclB w v.2),addB (sclB u v.2) (sclB w v.1))
def nrmB(v:BQ×BQ):BQ:=addB (mulB v.1 v.1) (mulB v.2 v.2)
def cRe(c:CpR):Rat:=1-c.2.2.2.2.2.1
def cAl(c:CpR):BQ×BQ:=timB (lxB c.1) c.2.2.2.2.2.1 (-c.2.2.2.2.2.2)
def cBe(c:CpR):BQ×BQ:=timB (lxB c.2.1) (cRe c) c.2.2.2.2.2.2
def cFi(c:CpR):Rat:=sqQ (c.2.2.2.2.2.1,c.2.2.2.2.2.2)*c.2.2.2.1-c.2.2.1
def cSe(c:CpR):Rat:=c.2.2.2.2.1-sqQ (cRe c,c.2.2.2.2.2.2)*c.2.2.2.1
def cE(c:CpR):BQ:=addB (nrmB (lxB c.1)) (conB (cFi c))
def cF(c:CpR):BQ:=subB (conB (cSe c)) (nrmB (lxB c.2.1))
def cM(c:CpR):BQ:=subB (mulB (cAl c).1 (cBe c).2) (mulB (cAl c).2 (cBe c).1)
def cX(c:CpR):BQ:=subB (mulB (cE c) (cBe c).2) (mulB (cF c) (cAl c).2)
def cY(c:CpR):BQ:=subB (mulB (cF c) (cAl c).1) (mulB (cE c) (cBe c).1)
def cMM(c:CpR):BQ:=mulB (cM c) (cM c)
def cLa(c:CpR):BQ:=sclB (4*c.2.2.2.1) (cMM c)
def cNo(c:CpR):BQ:=nrmB (cX c,cY c)
def cCur(c:CpR):BQ:=subB (cNo c) (cLa c)
theorem PB.lx{c:Rat}{b:Bool}(h:rz c<=4000):PB 1 4006 (linB b c):=(PB.lin b c).mono (Nat.le_refl _) (by omega)
theorem PB.nrm{v:BQ×BQ}{d s:Nat}(h1:PB d s v.1)(h2:PB d s v.2)(hd:d+d<=24):PB (d+d) (4*(tri (d+1)*s)) (nrmB v):=
 ((h1.mul h1 hd).add (h2.mul h2 hd)).mono (Nat.le_refl _) (by omega)
def timQ(a:V2)(u w:Rat):V2:=(a.1*u-a.2*w,a.2*u+a.1*w)
def wAl(c:CpR)(p:V2):V2:=timQ (subQ p c.1) c.2.2.2.2.2.1 (-c.2.2.2.2.2.2)
def wBe(c:CpR)(p:V2):V2:=timQ (subQ p c.2.1) (cRe c) c.2.2.2.2.2.2
def wE(c:CpR)(p:V2):Rat:=sqQ (subQ p c.1)+cFi c
def wF(c:CpR)(p:V2):Rat:=cSe c-sqQ (subQ p c.2.1)
def wM(c:CpR)(p:V2):Rat:=(wAl c p).1*(wBe c p).2-(wAl c p).2*(wBe c p).1
def wN(c:CpR)(p:V2):V2:=(wE c p*(wBe c p).2-wF c p*(wAl c p).2,wF c p*(wAl c p).1-wE c p*(wBe c p).1)
def wV(c:CpR)(p:V2):Rat:=sqQ (wN c p)-4*c.2.2.2.1*(wM c p*wM c p)
end Go.Num
end
section
namespace Go.Num
def cW(c:CpR):V2:=(c.2.2.2.2.2.1,c.2.2.2.2.2.2)
def zL(c:CpR)(p:V2):V2:=((wN c p).1 / (2*wM c p),(wN c p).2 / (2*wM c p))
def endA(c:CpR)(p z:V2):V2:=subQ p (timQ z c.2.2.2.2.2.1 c.2.2.2.2.2.2)
def endB(c:CpR)(p z:V2):V2:=addQ p (timQ z (cRe c) (-c.2.2.2.2.2.2))
def ptQ(c:CpR)(a b:V2):V2:=addQ a (timQ (subQ b a) c.2.2.2.2.2.1 c.2.2.2.2.2.2)
def hldQ(c:CpR)(a b:V2):Prop:=sqQ (subQ a c.1)=c.2.2.1/\sqQ (subQ b c.2.1)=c.2.2.2.2.1/\sqQ (subQ a b)=c.2.2.2.1
def movQ38(c:CpR)(g:PsQ):CpR:=(appQ g c.1,appQ g c.2.1,c.2.2)
def sclQ38(c:CpR)(k:Rat):CpR:=((c.1.1*k,c.1.2*k),(c.2.1.1*k,c.2.1.2*k),c.2.2.1*(k*k),c.2.2.2.1*(k*k),c.2.2.2.2.1*(k*k),c.2.2.2.2.2.1,c.2.2.2.2.2.2)
end Go.Num
end
