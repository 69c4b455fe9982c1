/-
  Parts of the proof, merged: ArgB, ArgC, PolyA.
-/
import Derived.Test.YthoibmokhnoccaaGreatDoorM4
import Derived.Below
import Derived.RowKit
import Derived.ChangeSame
set_option linter.unusedVariables false
set_option linter.unusedSimpArgs false
section
namespace Go.Abs
open Go.Num
variable {H:Type} {enc:TypeId×Value->H} {bulk:DataW H->Nat} {P:Program} {w:World} {α:Type}
theorem Opens.imp{t:TypeId}{e:α->List C}{ok ok' : Nat->α->Prop}(h:Opens enc bulk P w t e ok)(hi:∀n a,ok n a->ok' n a):Opens enc bulk P w t e ok':=by
 intro fuel cs x hx;obtain⟨a,h1,h2⟩:=h fuel cs x hx;exact⟨a,hi _ _ h1,h2⟩
def okW(n:Nat)(l:List Nat):Prop:=l.length<=n/\WL l
def okR(n:Nat)(x:R):Prop:=rl x<=n/\WLR x
def okArc(n:Nat)(x:Arc):Prop:=okA n x
theorem Wam(n n' : Nat)(a:List Nat)(h:n<=n')(k:okW n a):okW n' a:=⟨Nat.le_trans k.1 h,k.2⟩
theorem xU(n n' : Nat)(a:R)(h:n<=n')(k:okR n a):okR n' a:=⟨Nat.le_trans k.1 h,k.2⟩
theorem jao{t u:TypeId}(B:Bk bulk)(ht:P.underlying t=some (.slice u))(hu:P.underlying u=some (.int .u32))(hc:P.cellsOf u=1):Opens enc bulk P w t (λl:List Nat=>[ws l]) okW:=by
 have:=xG (enc:=enc) (w:=w) (e:=wc) (ok:=λ_ n=>n<4294967296) B ht (by omega) (λa=>by rw [hc];rfl) (λa c hc=>by rw [jbd,List.mem_singleton]at hc;subst hc;exact .lit _) (λ_ _ _ _ h=>h) (kaQ hu)
 exact this.imp λn l h=>⟨h.1,λx hx=>h.2 x hx⟩
structure RatT (P:Program) (t:TypeId):Prop where
 ex:∃f0 f1 f2 u:_,P.underlying t=some (.struct #[f0,f1,f2])/\f0.offset=0/\f1.offset=1/\f2.offset=2/\P.cellsOf t=3/\P.cellsOf f0.type=1/\P.cellsOf f1.type=1/\P.cellsOf f2.type=1/\
  P.underlying f0.type=some .bool/\P.underlying f1.type=some (.slice u)/\P.underlying f2.type=some (.slice u)/\P.underlying u=some (.int .u32)/\P.cellsOf u=1
theorem XH{t:TypeId}(B:Bk bulk)(h:RatT P t):Opens enc bulk P w t (λx:R=>[cb x,cn x,cd x]) okR:=by
 obtain⟨f0,f1,f2,u,ht,o0,o1,o2,hs,c0,c1,c2,t0,t1,t2,hu,hc⟩:=h.ex;have:=JB (enc:=enc) (w:=w) B ht o0 (by omega) (by omega) (by omega) (λ_ _ _ _ h=>h) Wam Wam (Uay (enc:=enc) (bulk:=bulk) (w:=w) t0) (jao (enc:=enc) (w:=w) B t1 hu hc) (jao (enc:=enc) (w:=w) B t2 hu hc)
 exact this.imp λn x h=>⟨Nat.max_le.2 ⟨h.2.1.1,h.2.2.1⟩,h.2.1.2,h.2.2.2⟩
structure ArcT (P:Program) (t:TypeId):Prop where
 ex:∃f0 f1:Field,P.underlying t=some (.struct #[f0,f1])/\f0.offset=0/\f1.offset=3/\P.cellsOf t=6/\P.cellsOf f0.type=3/\P.cellsOf f1.type=3/\RatT P f0.type/\RatT P f1.type
structure ArcsT (P:Program) (t:TypeId):Prop where
 ex:∃u,P.underlying t=some (.slice u)/\P.cellsOf u=6/\ArcT P u
structure ArcssT (P:Program) (t:TypeId):Prop where
 ex:∃u,P.underlying t=some (.slice u)/\P.cellsOf u=1/\ArcsT P u
theorem RL.inv1{m:M}{I:Nat->Prop}{h:Array Obj}{c:C}{vs:List Value}(hr:RL m I h [c] vs):∃v,vs=[v]/\RC m I h c v:=by
 match vs,hr.1 with
 | [v],_=>exact⟨v,rfl,hr.2 0 c v rfl rfl⟩
theorem uah{r:Reach}{b0:Nat}{t u:TypeId}{v:Value}{d:DataW H}{ps:List MemPlace}{e:α->List C}{c:α->C}{ok:Nat->α->Prop}(ht:P.underlying t=some (.slice u))(hval:Value.okWide P w r b0 t v)
  (hd:DataW.Trod enc P w 0 (λ_=>true) true t v d ps) (ho:Opens enc bulk P w t (λa=>[c a]) ok):∃a,ok (bulk d) a/\RA M0 (Old w) w.heap (.one (c a)) v:=by
 obtain⟨a,len,cap,rfl⟩:=Go.WideShapes.okWide_slice ht hval;obtain⟨fuel,hf⟩:=hd;obtain⟨x,hx,hr⟩:=ho _ _ _ hf;obtain⟨v,hv,hc⟩:=RL.inv1 hr;simp [Value.cells]at hv;subst hv;exact⟨x,hx,.one _ _ hc⟩
theorem Ret.below{w' : World}{I I' : Nat->Prop}(h:Ret w I w' I'):Go.RowKit.Below w.heap.size w w':=⟨h.os,h.tape,h.out,h.grow,λk hk=>h.keep k hk⟩
theorem Ret.frozen{w' : World}{I I' : Nat->Prop}(h:Ret w I w' I')(a:Addr)(hb:a.block<w.heap.size):w'.frozen? a=w.frozen? a:=h.below.frozen hb
theorem zaQ{f:FuncId}{G:List AV->(AV->Prop)->Prop}{sc:Bool}{Γ:Nat->Spec}(hΓ:Holds P Γ)(hf:Γ f=.dat sc G){as:List AV}{vals:List Value}
  (hr:RAs M0 (Old w) w.heap as vals) (hc:∀a∈as,CleanV a) (hG:G as (λr=>r=.one (.lit (.bool true)))):Calls P f ⟨vals⟩ w λe w'=>e=.returned (.bool true)/\Go.RowKit.Below w.heap.size w w'/\∀a:Addr,a.block<w.heap.size->w'.frozen? a=w.frozen? a:=by
 have hs:=hΓ f;rw [hf]at hs;refine(hs.2.2 as vals w (Old w) _ (λb hb=>hb) hr hc hG).mono λe w' ⟨v,r,I',he,hK,hra,hcl,hret⟩=>?_;subst hK;cases hra with
 | one c v hrc=>
  cases hrc with
  | lit v hv=>exact⟨he,hret.below,hret.frozen⟩
theorem RAs.nil{m:M}{I:Nat->Prop}{h:Array Obj}:RAs m I h [] []:=⟨rfl,λi a v hc=>by simp at hc⟩
theorem RAs.cons{m:M}{I:Nat->Prop}{h:Array Obj}{a:AV}{v:Value}{l:List AV}{vs:List Value}(h1:RA m I h a v)(h2:RAs m I h l vs):RAs m I h (a::l) (v::vs):=
 ⟨by simp [h2.1],λi a' v' ha hv=>by
  cases i with
  | zero=>simp at ha hv;subst ha hv;exact h1
  | succ i=>exact h2.2 i a' v' (by simpa using ha) (by simpa using hv)⟩
end Go.Abs
end
section
namespace Go.Abs
open Go.Num
variable {P:Program}
def Gl:List (Nat×Spec)->Nat->Spec
 | [],_=>.none
 | (f,s)::L,g=>if g=f then s else Gl L g
theorem uZ:Holds P (Gl []):=λf=>trivial
theorem Za{L:List (Nat×Spec)}{f:Nat}{s:Spec}(h:Holds P (Gl L))(hs:Sound P f s):Holds P (Gl ((f,s)::L)):=by
 intro g;unfold Gl;split
 .rename_i e;subst e;exact hs
 .exact h g
theorem ZaW{w:World}{I:Nat->Prop}(hI:∀b,I b->b<w.heap.size):Ret w I w I:=
  { grow:=Nat.le_refl _,keep:=λ_ _=>rfl,sub:=λ_ h=>h,new:=λ_ h=>.inl h,imb:=hI,
    os:=rfl,tape:=rfl,out:=rfl }
theorem waC{f:FuncId}{G:List AV->(AV->Prop)->Prop}{g:Int->Int}(hE:Enters P f)(hg:Good G)
  (hG:∀args K,G args K->∃n:Int,args=[.one (.lit (.int .u32 n))]/\0<=n/\n<=4294967295/\K (.one (.lit (.int .i64 (g n)))))
  (hc:∀(n:Int) (w:World),0<=n->n<=4294967295->Calls P f #[.int .u32 n] w λe w'=>e=.returned (.int .i64 (g n))/\w' = w):Sound P f (.dat true G):=by
 refine⟨hE,hg,λargs vals w I K hI hr _ hGK=>?_⟩;obtain⟨n,rfl,h0,h1,hK⟩:=hG args K hGK;match vals,hr.1 with
 | [v],_=>
  have hv:=hr.2 0 _ v rfl rfl;cases hv with
  | one c v hv=>
   cases hv with
   | lit v hv=>
    refine(hc n w h0 h1).mono λe w' ⟨he,hw⟩=>?_;subst hw;exact⟨_,_,I,he,hK,.one _ _ (.lit _ rfl),.lit _,ZaW hI⟩
theorem vbg(args:List AV)(K:AV->Prop)(h:lz_G args K):∃n:Int,args=[.one (.lit (.int .u32 n))]/\0<=n/\n<=4294967295/\K (.one (.lit (.int .i64 (32-(Lib.bitLen n.toNat:Int))))):=by
 match args,h with
 | [a],h=>
  obtain⟨k,n,rfl,rfl,h0,h1,hK⟩:=Xa h;exact⟨n,rfl,h0,by omega,hK⟩
end Go.Abs
end
section
namespace Go.Num
open Go.Abs
abbrev Mo:=Int×Int×R
def i64r(n:Int):Prop:=-9223372036854775808<=n/\n<9223372036854775808
def WLM(t:Mo):Prop:=i64r t.1/\i64r t.2.1/\WLR t.2.2
def inM(t:Mo):Prop:=0<=t.1/\0<=t.2.1/\t.1+t.2.1<=24
def okM(t:Mo):Prop:=WLM t/\inM t
def okMs(l:List Mo):Prop:=∀x∈l,okM x
def mo0:Mo:=(0,0,(false,[],[]))
def tri:Nat->Nat
 | 0=>0
 | n+1=>tri n+(n+1)
theorem waK{a b:Nat}(h:a<=b):tri a<=tri b:=by
 induction b with
 | zero=>rw [Nat.le_zero.1 h];exact Nat.le_refl _
 | succ b ih=>
  rcases Nat.lt_or_ge b a with h1 | h1
  .rw [show a=b+1 by omega];exact Nat.le_refl _
  .have:=ih h1;show tri a<=tri b+(b+1);omega
theorem ya4{a b:Nat}(h:a<b):tri a+a<tri b:=by
 have h1:=waK (a:=a+1) (b:=b) h;have h2:tri (a+1)=tri a+(a+1):=rfl;omega
def kM(t:Mo):Nat:=tri (t.1+t.2.1).toNat+t.1.toNat
def ordK(a b:Nat):Int:=if a<b then -1 else if b<a then 1 else 0
theorem XJ(a b:Nat):(ordK a b<0)=(a<b):=by
 unfold ordK;refine propext ⟨λh=>?_,λh=>by rw [if_pos h];decide⟩
 by_cases h1:a<b
 .exact h1
 .rw [if_neg h1]at h;by_cases h2:b<a
  .rw [if_pos h2]at h;exact absurd h (by decide)
  .rw [if_neg h2]at h;exact absurd h (by decide)
theorem zaA(a b:Nat):(ordK a b=0)=(a=b):=by
 unfold ordK;refine propext ⟨λh=>?_,λh=>by rw [if_neg (by omega),if_neg (by omega)]⟩
 by_cases h1:a<b
 .rw [if_pos h1]at h;exact absurd h (by decide)
 .rw [if_neg h1]at h;by_cases h2:b<a
  .rw [if_pos h2]at h;exact absurd h (by decide)
  .omega
theorem ZaB(a b:Nat):(0<=ordK a b)=(b<=a):=by
 have h:=XJ a b;refine propext ⟨λh1=>?_,λh1=>?_⟩
 .have:¬a<b:=by rw [<-h];omega
  omega
 .have:¬ordK a b<0:=by rw [h];omega
  omega
theorem Vaz{s t:Mo}(hs:inM s)(ht:inM t):kM s<kM t↔s.1+s.2.1<t.1+t.2.1∨(s.1+s.2.1=t.1+t.2.1/\s.1<t.1):=by
 obtain⟨a1,a2,a3⟩:=hs;obtain⟨b1,b2,b3⟩:=ht;unfold kM;rcases Int.lt_trichotomy (s.1+s.2.1) (t.1+t.2.1) with h | h | h
 .have:=ya4 (a:=(s.1+s.2.1).toNat) (b:=(t.1+t.2.1).toNat) (by omega)
  exact⟨λ_=>.inl h,λ_=>by omega⟩
 .rw [h];exact⟨λh1=>.inr ⟨rfl,by omega⟩,λh1=>by omega⟩
 .have:=ya4 (a:=(t.1+t.2.1).toNat) (b:=(s.1+s.2.1).toNat) (by omega)
  exact⟨λh1=>by omega,λh1=>by omega⟩
theorem xbr{s t:Mo}(hs:inM s)(ht:inM t):kM s=kM t↔s.1=t.1/\s.2.1=t.2.1:=by
 have h1:=Vaz hs ht;have h2:=Vaz ht hs;constructor
 .intro e;have n1:¬kM s<kM t:=by omega
  have n2:¬kM t<kM s:=by omega
  rw [h1]at n1;rw [h2]at n2;omega
 .intro e;have n1:¬kM s<kM t:=by rw [h1];omega
  have n2:¬kM t<kM s:=by rw [h2];omega
  omega
theorem ubu{s:Mo}(hs:inM s):kM s<325:=by
 obtain⟨a1,a2,a3⟩:=hs;have h:=waK (a:=(s.1+s.2.1).toNat) (b:=24) (by omega)
 have h24:tri 24=300:=rfl;unfold kM;omega
theorem Vaq{l:List Mo}(h:okMs l){i:Nat}(hi:i<l.length):okM (l.getD i mo0):=by
 rw [List.getD_eq_getElem?_getD,List.getElem?_eq_getElem hi];exact h _ (List.getElem_mem hi)
theorem Jh{l m:List Mo}:okMs (l++m)↔okMs l/\okMs m:=by
 unfold okMs;simp only [List.mem_append];exact⟨λh=>⟨λx hx=>h x (.inl hx),λx hx=>h x (.inr hx)⟩,λh x hx=>hx.elim (h.1 x) (h.2 x)⟩
theorem WH{l m:List Mo}(p:l.Perm m)(h:okMs l):okMs m:=λx hx=>h x (p.mem_iff.2 hx)
def SortM(l:List Mo):Prop:=l.Pairwise λx y=>kM x<=kM y
theorem YM{x:Mo}{v:List Mo}(h:SortM v)(hx:∀y∈v,kM x<kM y):SortM (x::v):=
 List.pairwise_cons.2 ⟨λy hy=>Nat.le_of_lt (hx y hy),h⟩
theorem qaN{x y:Mo}{u v:List Mo}(h:SortM (u++[y]++v))(hyx:kM y<=kM x)(hx:∀y∈v,kM x<kM y):SortM (u++[y]++x::v):=by
 unfold SortM at *
 obtain⟨h1,h2,h3⟩:=List.pairwise_append.1 h;refine List.pairwise_append.2 ⟨h1,YM h2 hx,λa ha b hb=>?_⟩;have hay:kM a<=kM x:=by
  obtain⟨_,_,h6⟩:=List.pairwise_append.1 h1;rcases List.mem_append.1 ha with ha | ha
  .exact Nat.le_trans (h6 a ha y (by simp)) hyx
  .rw [List.mem_singleton]at ha;subst ha;exact hyx
 rcases List.mem_cons.1 hb with rfl | hb
 .exact hay
 .exact h3 a ha b hb
end Go.Num
namespace Go.Abs
open Go.Num
def mC(t:Mo):List C:=[.lit (.int .i64 t.1),.lit (.int .i64 t.2.1),cb t.2.2,cn t.2.2,cd t.2.2]
def mA(t:Mo):AV:=.agg (mC t)
theorem qZ(t:Mo):mC t=[.lit (.int .i64 t.1),.lit (.int .i64 t.2.1),cb t.2.2,cn t.2.2,cd t.2.2]:=eq_of_heq (HEq.refl _)
theorem wa4{x y:Mo}(h:mC x=mC y):x=y:=by
 simp only [mC,List.cons.injEq,and_true,C.lit.injEq,Value.int.injEq,true_and]at h;obtain⟨h1,h2,h3,h4,h5⟩:=h;have e1:=Yq x.2.2 y.2.2 (by simp only [rA];rw [h3,h4,h5])
 exact Prod.ext h1 (Prod.ext h2 e1)
theorem zaL(x y:Mo)(h:mA x=mA y):x=y:=wa4 (by simpa [mA] using h)
def ms(l:List Mo):C:=.slice (l.map mC)
def msA(l:List Mo):AV:=.one (ms l)
theorem jm{x y:List Mo}(h:x.map mC=y.map mC):x=y:=List.map_inj_right (λ_ _=>wa4) |>.1 h
theorem xaf(x y:List Mo)(h:msA x=msA y):x=y:=by
 simp only [msA,ms,AV.one.injEq,C.slice.injEq]at h;exact jm h
def onM(k:Mo->Prop)(a:AV):Prop:=onE mA (λx=>WLM x/\k x) a
@[congr] theorem wbw{k:Mo->Prop}{a a'}(h:a=a'):onM k a=onM k a':=by subst h;rfl
theorem zbk(k:Mo->Prop)(x:Mo):onM k (.agg (mC x))=(WLM x/\k x):=yf zaL (λx=>WLM x/\k x) x
theorem Jbh(k:Mo->Prop)(i j:Int)(x:R):onM k (.agg [.lit (.int .i64 i),.lit (.int .i64 j),cb x,cn x,cd x])=(WLM (i,j,x)/\k (i,j,x)):=yf zaL (λx=>WLM x/\k x) (i,j,x)
theorem WV{β:Type}{T:Mo->(β->Prop)->Prop}(h:∀x,GoodT (T x)){a:AV}:GoodT λK=>onM (λx=>T x K) a:=
 xz (e:=mA) (T:=λx K=>WLM x/\T x K) zaL λx=>GoodT.and (c:=WLM x) (T:=T x) λ_=>h x
def onMx(k:List Mo->Prop)(a:AV):Prop:=∃l,(a=.one (ms l)∨a=.one (.full (l.map mC))∨(a=.one .emp/\l=[]))/\(∀x∈l,WLM x)/\k l
@[congr] theorem zbw{k:List Mo->Prop}{a a'}(h:a=a'):onMx k a=onMx k a':=by subst h;rfl
theorem zat(k:List Mo->Prop)(l:List Mo):onMx k (.one (.slice (l.map mC)))=((∀x∈l,WLM x)/\k l):=by
 refine propext ⟨λ⟨x,h,h1,h2⟩=>?_,λh=>⟨l,.inl rfl,h⟩⟩;rcases h with h | h | h
 .have:=xaf l x h;subst this;exact⟨h1,h2⟩
 .simp at h
 .simp at h
theorem qaL(k:List Mo->Prop)(l:List Mo):onMx k (.one (.full (l.map mC)))=((∀x∈l,WLM x)/\k l):=by
 refine propext ⟨λ⟨x,h,h1,h2⟩=>?_,λh=>⟨l,.inr (.inl rfl),h⟩⟩;rcases h with h | h | h
 .simp [ms]at h
 .have:=jm (x:=l) (y:=x) (by simpa using h);subst this;exact⟨h1,h2⟩
 .simp at h
theorem yaM(k:List Mo->Prop):onMx k (.one .emp)=k []:=by
 refine propext ⟨λ⟨x,h,h1,h2⟩=>?_,λh=>⟨[],.inr (.inr ⟨rfl,rfl⟩),by simp,h⟩⟩
 rcases h with h | h | h
 .simp [ms]at h
 .simp at h
 .obtain⟨_,rfl⟩:=h;exact h2
theorem Vak(k:List Mo->Prop):onMx k (.one (.slice []))=k []:=by
 have:=zat k [];simp only [List.map_nil,List.not_mem_nil,false_implies,implies_true,true_and]at this;exact this
theorem zbp{β:Type}{T:List Mo->(β->Prop)->Prop}(h:∀l,GoodT (T l)){a:AV}:GoodT λK=>onMx (λl=>T l K) a:=
 .of λK hx=>by
  obtain⟨l,ha,hw,hk⟩:=hx;rcases ha with ha | ha | ⟨ha,rfl⟩
  .have:(λK=>onMx (λl=>T l K) a)=λK=>(∀x∈l,WLM x)/\T l K:=funext λK=>by rw [ha];exact zat _ l
   rw [this];exact .and λ_=>h l
  .have:(λK=>onMx (λl=>T l K) a)=λK=>(∀x∈l,WLM x)/\T l K:=funext λK=>by rw [ha];exact qaL _ l
   rw [this];exact .and λ_=>h l
  .have:(λK=>onMx (λl=>T l K) a)=T []:=funext λK=>by rw [ha];exact yaM _
   rw [this];exact h []
theorem waA(K:List C->Prop)(l:List Mo)(i:Nat):getE K (l.map mC) i=(i<l.length/\K (mC (l.getD i mo0))):=by
 simp only [getE,List.length_map,List.getElem?_map];refine propext ⟨λh=>⟨h.1,h.2 _ (by simp [h.1,List.getD_eq_getElem?_getD])⟩,λh=>⟨h.1,λe he=>?_⟩⟩
 simp [h.1]at he;subst he;have:=h.2;simpa [List.getD_eq_getElem?_getD,h.1] using this
theorem Qao(x:Mo):CleanL (mC x):=by
 intro c hc;simp only [mC,List.mem_cons,List.not_mem_nil,or_false]at hc;rcases hc with rfl | rfl | rfl | rfl | rfl
 .exact .lit _
 .exact .lit _
 .exact of_eq_true (Vj _)
 .exact of_eq_true (Yj _)
 .exact of_eq_true (Wj _)
theorem Yg(l:List Mo):CleanR (l.map mC)=True:=eq_true λe he c hc=>by
 obtain⟨x,_,rfl⟩:=List.mem_map.1 he;exact Qao x c hc
theorem Uw(l:List Mo):Clean (.slice (l.map mC))=True:=eq_true (.slice _ (of_eq_true (Yg l)))
theorem Qa1(x:Mo):(mC x).length=5:=eq_of_heq (HEq.refl _)
theorem Za5(l:List Mo):(∀e∈l.map mC,e.length=5)=True:=eq_true λe he=>by
 obtain⟨x,_,rfl⟩:=List.mem_map.1 he;rfl
theorem vbk(l:List Mo)(n:Nat)(i j:Int)(x:R):(l.map mC).set n [.lit (.int .i64 i),.lit (.int .i64 j),cb x,cn x,cd x]=(l.set n (i,j,x)).map mC:=by
 rw [List.map_set];rfl
theorem Vbe(l:List Mo)(i:Nat)(x:Mo):(l.map mC).set i (mC x)=(l.set i x).map mC:=by rw [List.map_set]
theorem ua2(h:Nat->HB)(x:Mo):(mC x).map (datC h)=mC x:=eq_of_heq (HEq.refl _)
theorem ua3(x:Mo):(mC x).flatMap ownC=[]:=eq_of_heq (HEq.refl _)
theorem zbo(l:List Mo)(i j:Int)(x:R):l.map mC++[[.lit (.int .i64 i),.lit (.int .i64 j),cb x,cn x,cd x]]=(l++[(i,j,x)]).map mC:=by simp [mC]
theorem vaP(l:List Mo)(n:Nat):(l.map mC).take n=(l.take n).map mC:=by rw [List.map_take]
theorem vbe(l:List Mo)(n:Nat):(l.map mC).drop n=(l.drop n).map mC:=by rw [List.map_drop]
theorem WaH(l m:List Mo):l.map mC++m.map mC=(l++m).map mC:=by rw [List.map_append]
theorem WaZ(l:List Mo):msA l=.one (.slice (l.map mC)):=eq_of_heq (HEq.refl _)
theorem ubi(l:List Mo):ms l=.slice (l.map mC):=eq_of_heq (HEq.refl _)
theorem jbi(x:Mo):mA x=.agg (mC x):=eq_of_heq (HEq.refl _)
theorem Wi{h' : Nat->HB}{k v v' z:Nat}{b:Bool}{es:List (List C)}{l' : List Mo}{r:List (Nat×HB)}(e:es=l'.map mC):okH (mkH ((k,⟨v,some ⟨es,z,b⟩⟩)::r)) h' [(k,⟨v',some ⟨l'.map mC,z,b⟩⟩)]:=by
 subst e;have:CleanR (l'.map mC):=of_eq_true (Yg l');simp [okH,qa,okB,this]
theorem xc{h h' : Nat->HB}{z:Nat}{b:Bool}{es:List (List C)}{l' : List Mo}(e:es=l'.map mC):okB h h' (some ⟨es,z,b⟩) (some ⟨l'.map mC,z,b⟩):=by
 subst e;exact⟨⟨rfl,rfl⟩,.inl ⟨rfl,of_eq_true (Yg l')⟩⟩
attribute [go_sem] zbk Jbh zat qaL yaM Vak waA Yg Uw Qa1 Za5 ua2 ua3 vbk Vbe vaP vbe WaH WaZ ubi jbi
attribute [go_sem ↓] zbk Jbh zat qaL yaM Vak waA Yg Uw Qa1 Za5 ua2 ua3 WaZ ubi jbi
def Yy:q_T:=q_c2 λa b K=>onM (λx=>onM (λy=>inM x/\inM y/\K (.one (.lit (.int .i64 (ordK (kM x) (kM y)))))) b) a
theorem zaF:Good Yy:=q_g2 λ_ _=>(WV λ_=>(WV λ_=>(.and λ_=>(.and λ_=>(.ret _)))))
attribute [go_sem] Yy
end Go.Abs
end
