/-
  Parts of the proof, merged: ChartG, ChartQ, ChartH, ChartR, ChartW, ChartX, ComA, ChartRow, ComB, PoseD, PoseE, PoseT.
-/
import Derived.Test.YtneiiodebbmcaaaGreatDoorM6
set_option linter.unusedVariables false
set_option linter.unusedSimpArgs false
set_option maxRecDepth 100000
section
namespace Go.Num
def sh1(by' : Rat)(a:Q2):List Q2:=
 let f:=frac (a.1+by')
 let t:=f+(a.2-a.1)
 if 1<t then (0,t-1)::(if f<1 then [(f,1)] else []) else (if f<t then [(f,t)] else [])
def shL(by' : Rat)(l:List Q2):List Q2:=l.flatMap (sh1 by')
def lim64(l:List Q2):List Q2:=if 64<l.length then [] else l
def code64(l:List Q2):Nat:=if 64<l.length then 4 else 0
def shOut(l:List Arc)(y:R):List Q2:=if chk [l]=0/\vldR y=true then lim64 (nrm (shL (rv y) (vals l))) else []
def shCode(l:List Arc)(y:R):Nat:=if chk [l]=0 then (if vldR y=true then code64 (nrm (shL (rv y) (vals l))) else 3) else chk [l]
end Go.Num
namespace Go.Abs
open Go.Num
variable {P:Program} {Γ:Nat->Spec}
def Z5(tE m:Nat)(l:List AV)(K:AV->Prop):Prop:=
 match l with
 | [a,b]=>onAs (λl=>onR (λy=>(chk [l]=0->2*l.length<=m)/\okAs 10000000 l/\rl y<=10000000/\K (.tup [.one (.slice (((shOut l y).map acan).map aC)),errV tE (shCode l y)])) b) a
 | _=>False
theorem zag tE m a b K:Z5 tE m [a,b] K=(onAs (λl=>onR (λy=>(chk [l]=0->2*l.length<=m)/\okAs 10000000 l/\rl y<=10000000/\K (.tup [.one (.slice (((shOut l y).map acan).map aC)),errV tE (shCode l y)])) b) a):=propext Iff.rfl
@[congr] theorem wbO tE m{K}{l l'}(h:l=l'):Z5 tE m l K=Z5 tE m l' K:=by subst h;rfl
attribute [go_sem,go_sem ↓] zag
end Go.Abs
end
section
namespace Go.Num
end Go.Num
end
section
namespace Go.Num
end Go.Num
namespace Go.Abs
open Go.Num
variable {P:Program} {Γ:Nat->Spec}
theorem jbw(k:List Arc->Prop)(x y:R):onAs k (.one (.slice [[cb x,cn x,cd x,cb y,cn y,cd y]]))=((∀z∈[(x,y)],WLA z)/\k [(x,y)]):=wS k [(x,y)]
theorem Wbx(k:List Arc->Prop)(x y x' y' : R):onAs k (.one (.slice [[cb x,cn x,cd x,cb y,cn y,cd y],[cb x',cn x',cd x',cb y',cn y',cd y']]))=((∀z∈[(x,y),(x',y')],WLA z)/\k [(x,y),(x',y')]):=wS k [(x,y),(x',y')]
theorem za3(k:List Arc->Prop)(x:Arc):onAs k (.one (.slice [aC x]))=((∀z∈[x],WLA z)/\k [x]):=wS k [x]
theorem Qbc(k:List Arc->Prop)(x y:Arc):onAs k (.one (.slice [aC x,aC y]))=((∀z∈[x,y],WLA z)/\k [x,y]):=wS k [x,y]
theorem vbc(k:List Arc->Prop)(y x' y' : R):onAs k (.one (.slice [[.lit (.bool false),.slice [],.slice [],cb y,cn y,cd y],[cb x',cn x',cd x',cb y',cn y',cd y']]))=((∀z∈[(rcan 0,y),(x',y')],WLA z)/\k [(rcan 0,y),(x',y')]):=by
 rw [ub];exact wS k [((false,[],[]),y),(x',y')]
attribute [go_sem,go_sem ↓] jbw Wbx za3 Qbc vbc
def J7(l:List AV)(K:AV->Prop):Prop:=
 match l with
 | []=>K (.one (.lit (.bool true)))
 | _=>False
theorem Vaj K:J7 [] K=(K (.one (.lit (.bool true)))):=propext Iff.rfl
@[congr] theorem ZbT{K}{l l'}(h:l=l'):J7 l K=J7 l' K:=by subst h;rfl
attribute [go_sem,go_sem ↓] Vaj
end Go.Abs
end
section
namespace Go.Num
instance(x:Rat)(a:Q2):Decidable (mem x a):=by unfold mem;infer_instance
instance(x:Rat)(l:List Q2):Decidable (memL x l):=by unfold memL;infer_instance
end Go.Num
end
section
namespace Go.Num
def not1(f t:Rat):List Q2:=if f<t then [(f,t)] else []
def notGo:Rat->List Q2->List Q2
 | f,[]=>not1 f 1
 | f,a::l=>not1 f a.1++notGo a.2 l
def notL(l:List Q2):List Q2:=notGo 0 l
def meet1(x y:Q2):List Q2:=not1 (mxQ x.1 y.1) (mnQ x.2 y.2)
def meetL(a b:List Q2):List Q2:=a.flatMap λx=>b.flatMap λy=>meet1 x y
end Go.Num
namespace Go.Abs
open Go.Num
variable {P:Program} {Γ:Nat->Spec}
def UaZ(l:List AV)(K:AV->Prop):Prop:=
 match l with
 | [a]=>onAs (λl=>l.length<=1000/\okAs 1000000000 l/\K (.one (.slice (((notL (vals l)).map acan).map aC)))) a
 | _=>False
theorem za5 a K:UaZ [a] K=(onAs (λl=>l.length<=1000/\okAs 1000000000 l/\K (.one (.slice (((notL (vals l)).map acan).map aC)))) a):=propext Iff.rfl
@[congr] theorem kcd{K}{l l'}(h:l=l'):UaZ l K=UaZ l' K:=by subst h;rfl
attribute [go_sem,go_sem ↓] za5
def Xat(l:List AV)(K:AV->Prop):Prop:=
 match l with
 | [a,b]=>onAs (λl=>onAs (λm=>l.length<=1000/\m.length<=1000/\okAs 1000000000 l/\okAs 1000000000 m/\K (.one (.slice (((meetL (vals l) (vals m)).map acan).map aC)))) b) a
 | _=>False
theorem xaF a b K:Xat [a,b] K=(onAs (λl=>onAs (λm=>l.length<=1000/\m.length<=1000/\okAs 1000000000 l/\okAs 1000000000 m/\K (.one (.slice (((meetL (vals l) (vals m)).map acan).map aC)))) b) a):=propext Iff.rfl
@[congr] theorem wb1{K}{l l'}(h:l=l'):Xat l K=Xat l' K:=by subst h;rfl
attribute [go_sem,go_sem ↓] xaF
end Go.Abs
end
section
namespace Go.Num
def res(c:Nat)(L:List Q2):List Q2:=if c=0 then lim64 L else []
def cod(c:Nat)(L:List Q2):Nat:=if c=0 then code64 L else c
end Go.Num
namespace Go.Abs
open Go.Num
variable {P:Program} {Γ:Nat->Spec}
def Y5(tE m:Nat)(l:List AV)(K:AV->Prop):Prop:=
 match l with
 | [a,b]=>onAs (λl=>onAs (λk=>(chk [l,k]=0->l.length+k.length<=m)/\okAs 10000000 l/\okAs 10000000 k/\K (.tup [.one (.slice (((res (chk [l,k]) (nrm (vals l++vals k))).map acan).map aC)),errV tE (cod (chk [l,k]) (nrm (vals l++vals k)))])) b) a
 | _=>False
theorem Wal tE m a b K:Y5 tE m [a,b] K=(onAs (λl=>onAs (λk=>(chk [l,k]=0->l.length+k.length<=m)/\okAs 10000000 l/\okAs 10000000 k/\K (.tup [.one (.slice (((res (chk [l,k]) (nrm (vals l++vals k))).map acan).map aC)),errV tE (cod (chk [l,k]) (nrm (vals l++vals k)))])) b) a):=propext Iff.rfl
@[congr] theorem kbP tE m{K}{l l'}(h:l=l'):Y5 tE m l K=Y5 tE m l' K:=by subst h;rfl
attribute [go_sem,go_sem ↓] Wal
def xat(tE m:Nat)(l:List AV)(K:AV->Prop):Prop:=
 match l with
 | [a,b]=>onAs (λl=>onAs (λk=>(chk [l,k]=0->l.length<=m/\k.length<=m)/\okAs 10000000 l/\okAs 10000000 k/\K (.tup [.one (.slice (((res (chk [l,k]) (meetL (nrm (vals l)) (nrm (vals k)))).map acan).map aC)),errV tE (cod (chk [l,k]) (meetL (nrm (vals l)) (nrm (vals k))))])) b) a
 | _=>False
theorem qaI tE m a b K:xat tE m [a,b] K=(onAs (λl=>onAs (λk=>(chk [l,k]=0->l.length<=m/\k.length<=m)/\okAs 10000000 l/\okAs 10000000 k/\K (.tup [.one (.slice (((res (chk [l,k]) (meetL (nrm (vals l)) (nrm (vals k)))).map acan).map aC)),errV tE (cod (chk [l,k]) (meetL (nrm (vals l)) (nrm (vals k))))])) b) a):=propext Iff.rfl
@[congr] theorem Zb6 tE m{K}{l l'}(h:l=l'):xat tE m l K=xat tE m l' K:=by subst h;rfl
attribute [go_sem,go_sem ↓] qaI
def Wa2(tE m:Nat)(l:List AV)(K:AV->Prop):Prop:=
 match l with
 | [a]=>onAs (λl=>(chk [l]=0->l.length<=m)/\okAs 10000000 l/\K (.tup [.one (.slice (((res (chk [l]) (notL (nrm (vals l)))).map acan).map aC)),errV tE (cod (chk [l]) (notL (nrm (vals l))))])) a
 | _=>False
theorem qbl tE m a K:Wa2 tE m [a] K=(onAs (λl=>(chk [l]=0->l.length<=m)/\okAs 10000000 l/\K (.tup [.one (.slice (((res (chk [l]) (notL (nrm (vals l)))).map acan).map aC)),errV tE (cod (chk [l]) (notL (nrm (vals l))))])) a):=propext Iff.rfl
@[congr] theorem Vcg tE m{K}{l l'}(h:l=l'):Wa2 tE m l K=Wa2 tE m l' K:=by subst h;rfl
attribute [go_sem,go_sem ↓] qbl
end Go.Abs
end
section
namespace Go.Abs
open Go.Num
variable {P:Program} {Γ:Nat->Spec}
def xaa(tE:Nat)(l:List AV)(K:AV->Prop):Prop:=
 match l with
 | [a,e,b,n]=>onAs (λl=>onErr tE (λc=>onAs (λm=>asInt (λk n=>k=.i64/\okAs 1073741824 l/\okAs 1073741824 m/\K (.one (.lit (.bool (decide ((c:Int)=n) && decide (vals l=vals m)))))) n) b) e) a
 | _=>False
theorem Zae tE a e b n K:xaa tE [a,e,b,n] K=(onAs (λl=>onErr tE (λc=>onAs (λm=>asInt (λk n=>k=.i64/\okAs 1073741824 l/\okAs 1073741824 m/\K (.one (.lit (.bool (decide ((c:Int)=n) && decide (vals l=vals m)))))) n) b) e) a):=propext Iff.rfl
@[congr] theorem jbW tE{K}{l l'}(h:l=l'):xaa tE l K=xaa tE l' K:=by subst h;rfl
attribute [go_sem,go_sem ↓] Zae
def Qbi(l:List AV)(K:AV->Prop):Prop:=
 match l with
 | [a,b]=>onAs (λl=>onR (λy=>okAs 1073741824 l/\rl y<=1073741824/\K (.one (.lit (.bool (l.any (inA (rv y))))))) b) a
 | _=>False
theorem Qa3 a b K:Qbi [a,b] K=(onAs (λl=>onR (λy=>okAs 1073741824 l/\rl y<=1073741824/\K (.one (.lit (.bool (l.any (inA (rv y))))))) b) a):=propext Iff.rfl
@[congr] theorem vcd{K}{l l'}(h:l=l'):Qbi l K=Qbi l' K:=by subst h;rfl
attribute [go_sem,go_sem ↓] Qa3
def xab(l:List AV)(K:AV->Prop):Prop:=
 match l with
 | [a,b]=>onL (λL=>onR (λy=>(∀l∈L,okAs 1073741824 l)/\rl y<=1073741824/\L.length<=1000000/\K (.one (.lit (.int .i64 (L.countP (λl=>l.any (inA (rv y))):Nat))))) b) a
 | _=>False
theorem qam a b K:xab [a,b] K=(onL (λL=>onR (λy=>(∀l∈L,okAs 1073741824 l)/\rl y<=1073741824/\L.length<=1000000/\K (.one (.lit (.int .i64 (L.countP (λl=>l.any (inA (rv y))):Nat))))) b) a):=propext Iff.rfl
@[congr] theorem ybT{K}{l l'}(h:l=l'):xab l K=xab l' K:=by subst h;rfl
attribute [go_sem,go_sem ↓] qam
end Go.Abs
end
section
namespace Go.Abs
open Go.Num
def rC(x:R):List C:=[cb x,cn x,cd x]
theorem XU(x:R):rC x=[cb x,cn x,cd x]:=eq_of_heq (HEq.refl _)
theorem jbA(x:R):(rC x).length=3:=eq_of_heq (HEq.refl _)
theorem Zbb(K:List C->Prop)(L:List R)(i:Nat):getE K (L.map rC) i=(i<L.length/\K (rC (L.getD i (rcan 0)))):=by
 simp only [getE,List.length_map,List.getElem?_map];refine propext ⟨λh=>⟨h.1,h.2 _ (by simp [h.1,List.getD_eq_getElem?_getD])⟩,λh=>⟨h.1,λe he=>?_⟩⟩
 simp [h.1]at he;subst he;have:=h.2;simpa [List.getD_eq_getElem?_getD,h.1] using this
theorem wJ(l:List R):jc (l.map rC)=True:=eq_true λe he c hc=>by
 obtain⟨x,_,rfl⟩:=List.mem_map.1 he;exact J0 x c hc
theorem ZbA(L:List R):(∀e∈L.map rC,e.length=3)=True:=eq_true λe he=>by
 obtain⟨l,_,rfl⟩:=List.mem_map.1 he;rfl
theorem waZ(h:Nat->HB)(L:List R):(L.map rC).map (λx=>x.map (datC h))=L.map rC:=by
 rw [List.map_map];exact List.map_congr_left λx _=>rfl
theorem Zbh(L:List R):(L.map rC).flatMap (λx=>x.flatMap ownC)=[]:=by
 rw [List.flatMap_map];exact List.flatMap_eq_nil_iff.2 λx _=>rfl
theorem ybe(h:Nat->HB)(L:List (List Arc)):(L.map lC).map (λx=>x.map (datC h))=L.map lC:=by
 rw [List.map_map];exact List.map_congr_left λx _=>rfl
theorem Ubc(L:List (List Arc)):(L.map lC).flatMap (λx=>x.flatMap ownC)=[]:=by
 rw [List.flatMap_map];exact List.flatMap_eq_nil_iff.2 λx _=>rfl
theorem wbj(h:Nat->HB):frz [] h=h:=eq_of_heq (HEq.refl _)
attribute [go_sem,go_sem ↓] jbA Zbb wJ ZbA waZ Zbh ybe Ubc wbj
theorem YV{h h' : Nat->HB}{z:Nat}{b:Bool}{es:List (List C)}{S:List R}(e:es=S.map rC):okB h h' (some ⟨es,z,b⟩) (some ⟨S.map rC,z,b⟩):=by
 subst e;exact⟨⟨rfl,rfl⟩,.inl ⟨rfl,of_eq_true (wJ S)⟩⟩
end Go.Abs
end
section
namespace Go.Num
def posR:List R->Rat->Nat
 | [],_=>0
 | x::l,q=>if rv x<q then posR l q+1 else 0
def insR(l:List R)(y:R):List R:=if (l.drop (posR l (rv y))).head?.map rv=some (rv y) then l else l.take (posR l (rv y))++y::l.drop (posR l (rv y))
def okRs(b:Nat)(l:List R):Prop:=∀x∈l,WLR x/\rl x<=b
def insA(S:List R)(x:Arc):List R:=insR (insR S x.1) x.2
def marksR(L:List (List Arc)):List R:=L.flatten.foldl insA [rcan 0,rcan 1]
end Go.Num
namespace Go.Abs
open Go.Num
variable {P:Program} {Γ:Nat->Spec}
def rsA(l:List R):AV:=.one (.slice (l.map rC))
theorem zbA{x y:R}(h:rC x=rC y):x=y:=Yt x y (by simpa [rC,rA] using h)
theorem Ybg(x y:List R)(h:rsA x=rsA y):x=y:=by
 simp only [rsA,AV.one.injEq,C.slice.injEq]at h;exact List.map_inj_right (λ_ _=>zbA) |>.1 h
def onRs(k:List R->Prop)(a:AV):Prop:=onE rsA (λl=>(∀x∈l,WLR x)/\k l) a
@[congr] theorem yb7{k:List R->Prop}{a a'}(h:a=a'):onRs k a=onRs k a':=by subst h;rfl
theorem wby(k:List R->Prop)(l:List R):onRs k (.one (.slice (l.map rC)))=((∀x∈l,WLR x)/\k l):=Zq Ybg (λl=>(∀x∈l,WLR x)/\k l) l
theorem Ybj{β:Type}{T:List R->(β->Prop)->Prop}(h:∀l,GoodT (T l)){a:AV}:GoodT λK=>onRs (λl=>T l K) a:=
 ZJ (e:=rsA) (T:=λl K=>(∀x∈l,WLR x)/\T l K) Ybg λl=>GoodT.and (c:=∀x∈l,WLR x) (T:=T l) λ_=>h l
theorem Yaz(l:List R):Clean (.slice (l.map rC))=True:=eq_true (.slice _ (of_eq_true (wJ l)))
theorem zbL(l:List R)(n:Nat):(l.map rC).take n=(l.take n).map rC:=by rw [List.map_take]
theorem JbH(l:List R)(n:Nat):(l.map rC).drop n=(l.drop n).map rC:=by rw [List.map_drop]
theorem zbs(l:List R):rsA l=.one (.slice (l.map rC)):=eq_of_heq (HEq.refl _)
attribute [go_sem] wby Yaz zbs zbL JbH
attribute [go_sem ↓] wby Yaz zbs
def U9(l:List AV)(K:AV->Prop):Prop:=
 match l with
 | [a]=>onL (λL=>(∀l∈L,okAs 1073741824 l)/\L.flatten.length<=100000/\K (.one (.slice ((marksR L).map rC)))) a
 | _=>False
theorem wad a K:U9 [a] K=(onL (λL=>(∀l∈L,okAs 1073741824 l)/\L.flatten.length<=100000/\K (.one (.slice ((marksR L).map rC)))) a):=propext Iff.rfl
@[congr] theorem YbR{K}{l l'}(h:l=l'):U9 l K=U9 l' K:=by subst h;rfl
attribute [go_sem,go_sem ↓] wad
def kS(l:List AV)(K:AV->Prop):Prop:=
 match l with
 | [a,b]=>onRs (λl=>onR (λy=>okRs 1073741824 l/\rl y<=1073741824/\l.length<=1000000/\K (.one (.slice ((insR l y).map rC)))) b) a
 | _=>False
theorem QX a b K:kS [a,b] K=(onRs (λl=>onR (λy=>okRs 1073741824 l/\rl y<=1073741824/\l.length<=1000000/\K (.one (.slice ((insR l y).map rC)))) b) a):=propext Iff.rfl
@[congr] theorem ubM{K}{l l'}(h:l=l'):kS l K=kS l' K:=by subst h;rfl
attribute [go_sem,go_sem ↓] QX
end Go.Abs
end
section
namespace Go.Num
open Go.Abs
theorem xbq{α:Type}{f:α->Bool}{l:List α}{k:Nat}{x:α}(h:l[k]?=some x)(hb:f x=false):l.all f=false:=by
 rw [List.all_eq_false];exact⟨x,List.mem_of_getElem? h,by simp [hb]⟩
theorem wO{α:Type}{f:α->Bool}{l:List α}{k:Nat}{x:α}(h:l[k]?=some x)(ht:(l.take k).all f=true)(hb:f x=true):(l.take (k+1)).all f=true:=by
 rw [List.take_add_one,h,List.all_append,ht];simp [hb]
theorem JB{α:Type}{l:List α}{k:Nat}{x d:α}(hk:k<l.length)(h:l.getD k d=x):l[k]?=some x:=by
 rw [<-h,List.getD_eq_getElem?_getD,List.getElem?_eq_getElem hk];rfl
def sR(n:Nat)(x:R):Bool:=decide (x.2.1.length<=n) && decide (x.2.2.length<=n)
def sP(p:Ps):Bool:=sR 2 p.1.1 && (sR 2 p.2.1 && sR 2 p.2.2)
def sA(p:Arc):Bool:=sR 2 p.1 && sR 2 p.2
def placeC(l:List Arc):Nat:=if l.all avld then 0 else 2
def chkC(l:List Ps)(m:List Arc):Nat:=if threeC l≠0 then threeC l else placeC m
theorem WbJ{n:Nat}{x:R}(h:sR n x=true):rl x<=n:=by
 simp only [sR,Bool.and_eq_true,decide_eq_true_eq]at h;exact Nat.max_le.2 h
end Go.Num
namespace Go.Abs
open Go.Num
variable {P:Program} {Γ:Nat->Spec}
def qsA(l:List V2):AV:=.one (.slice ((l.map acan).map aC))
theorem qby(l:List V2):qsA l=.one (.slice ((l.map acan).map aC)):=eq_of_heq (HEq.refl _)
theorem vbd(k:List Arc->Prop)(a b c d e f:C):onAs k (.one (.slice [[a,b,c,d,e,f]]))=onO (λx=>onO (λy=>WLA (x,y)/\k [(x,y)]) (dR d e f)) (dR a b c):=by
 refine propext ⟨λ⟨t,h,h1⟩=>?_,λh=>?_⟩
 .simp only [asA,as,AV.one.injEq,C.slice.injEq]at h;match t,h with
  | [z],h=>
   simp only [List.map_cons,List.map_nil,aC,List.cons.injEq,and_true]at h;obtain⟨rfl,rfl,rfl,rfl,rfl,rfl⟩:=h;simp only [dR_e,VP];exact⟨h1.1 _ (by simp),h1.2⟩
 .obtain⟨x,h1,q1⟩:=Uc.1 h;obtain⟨y,h2,q2⟩:=Uc.1 q1;obtain⟨rfl,rfl,rfl⟩:=jd.1 h1;obtain⟨rfl,rfl,rfl⟩:=jd.1 h2;exact⟨[(x,y)],rfl,λz hz=>by rw [List.mem_singleton.1 hz];exact q2.1,q2.2⟩
theorem va6(k:List Arc->Prop)(a b c d e f a' b' c' d' e' f' : C):onAs k (.one (.slice [[a,b,c,d,e,f],[a',b',c',d',e',f']]))=onO (λx=>onO (λy=>onO (λz=>onO (λw=>WLA (x,y)/\WLA (z,w)/\k [(x,y),(z,w)]) (dR d' e' f')) (dR a' b' c')) (dR d e f)) (dR a b c):=by
 refine propext ⟨λ⟨t,h,h1⟩=>?_,λh=>?_⟩
 .simp only [asA,as,AV.one.injEq,C.slice.injEq]at h;match t,h with
  | [z,w],h=>
   simp only [List.map_cons,List.map_nil,aC,List.cons.injEq,and_true]at h;obtain⟨⟨rfl,rfl,rfl,rfl,rfl,rfl⟩,rfl,rfl,rfl,rfl,rfl,rfl⟩:=h;simp only [dR_e,VP];exact⟨h1.1 _ (by simp),h1.1 _ (by simp),h1.2⟩
 .obtain⟨x,h1,q1⟩:=Uc.1 h;obtain⟨y,h2,q2⟩:=Uc.1 q1;obtain⟨z,h3,q3⟩:=Uc.1 q2;obtain⟨w,h4,q4⟩:=Uc.1 q3;obtain⟨rfl,rfl,rfl⟩:=jd.1 h1;obtain⟨rfl,rfl,rfl⟩:=jd.1 h2;obtain⟨rfl,rfl,rfl⟩:=jd.1 h3;obtain⟨rfl,rfl,rfl⟩:=jd.1 h4;refine⟨[(x,y),(z,w)],rfl,λv hv=>?_,q4.2.2⟩;simp only [List.mem_cons,List.not_mem_nil,or_false]at hv;rcases hv with rfl | rfl
  .exact q4.1
  .exact q4.2.1
theorem Zby(k:List R->Prop)(a b c d e f g h i:C):onRs k (.one (.slice [[a,b,c],[d,e,f],[g,h,i]]))=onO (λx=>onO (λy=>onO (λz=>(WLR x/\WLR y/\WLR z)/\k [x,y,z]) (dR g h i)) (dR d e f)) (dR a b c):=by
 refine propext ⟨λ⟨t,h,h1⟩=>?_,λh=>?_⟩
 .simp only [rsA,AV.one.injEq,C.slice.injEq]at h;match t,h with
  | [x,y,z],h=>
   simp only [List.map_cons,List.map_nil,rC,List.cons.injEq,and_true]at h;obtain⟨⟨rfl,rfl,rfl⟩,⟨rfl,rfl,rfl⟩,rfl,rfl,rfl⟩:=h;simp only [dR_e,VP];exact⟨⟨h1.1 _ (by simp),h1.1 _ (by simp),h1.1 _ (by simp)⟩,h1.2⟩
 .obtain⟨x,h1,q1⟩:=Uc.1 h;obtain⟨y,h2,q2⟩:=Uc.1 q1;obtain⟨z,h3,q3⟩:=Uc.1 q2;obtain⟨rfl,rfl,rfl⟩:=jd.1 h1;obtain⟨rfl,rfl,rfl⟩:=jd.1 h2;obtain⟨rfl,rfl,rfl⟩:=jd.1 h3;refine⟨[x,y,z],rfl,λv hv=>?_,q3.2⟩;simp only [List.mem_cons,List.not_mem_nil,or_false]at hv;rcases hv with rfl | rfl | rfl
  .exact q3.1.1
  .exact q3.1.2.1
  .exact q3.1.2.2
theorem jbx(k:List R->Prop)(a b c d e f g h i j l m n o p:C):onRs k (.one (.slice [[a,b,c],[d,e,f],[g,h,i],[j,l,m],[n,o,p]]))=onO (λx=>onO (λy=>onO (λz=>onO (λu=>onO (λv=>(WLR x/\WLR y/\WLR z/\WLR u/\WLR v)/\k [x,y,z,u,v]) (dR n o p)) (dR j l m)) (dR g h i)) (dR d e f)) (dR a b c):=by
 refine propext ⟨λ⟨t,h,h1⟩=>?_,λh=>?_⟩
 .simp only [rsA,AV.one.injEq,C.slice.injEq]at h;match t,h with
  | [x,y,z,u,v],h=>
   simp only [List.map_cons,List.map_nil,rC,List.cons.injEq,and_true]at h;obtain⟨⟨rfl,rfl,rfl⟩,⟨rfl,rfl,rfl⟩,⟨rfl,rfl,rfl⟩,⟨rfl,rfl,rfl⟩,rfl,rfl,rfl⟩:=h;simp only [dR_e,VP];exact⟨⟨h1.1 _ (by simp),h1.1 _ (by simp),h1.1 _ (by simp),h1.1 _ (by simp),h1.1 _ (by simp)⟩,h1.2⟩
 .obtain⟨x,h1,q1⟩:=Uc.1 h;obtain⟨y,h2,q2⟩:=Uc.1 q1;obtain⟨z,h3,q3⟩:=Uc.1 q2;obtain⟨u,h4,q4⟩:=Uc.1 q3;obtain⟨v,h5,q5⟩:=Uc.1 q4;obtain⟨rfl,rfl,rfl⟩:=jd.1 h1;obtain⟨rfl,rfl,rfl⟩:=jd.1 h2;obtain⟨rfl,rfl,rfl⟩:=jd.1 h3;obtain⟨rfl,rfl,rfl⟩:=jd.1 h4;obtain⟨rfl,rfl,rfl⟩:=jd.1 h5;refine⟨[x,y,z,u,v],rfl,λw hw=>?_,q5.2⟩;obtain⟨w1,w2,w3,w4,w5⟩:=q5.1;simp only [List.mem_cons,List.not_mem_nil,or_false]at hw;rcases hw with rfl | rfl | rfl | rfl | rfl <;> assumption
attribute [go_sem,go_sem ↓] vbd va6 Zby jbx qby
def kL(tE:Nat)(l:List AV)(K:AV->Prop):Prop:=
 match l with
 | [a]=>onPs (λl=>okPs 100000000 l/\K (errV tE (if l.all pvld=true then 0 else 2))) a
 | _=>False
theorem Va6 tE a K:kL tE [a] K=(onPs (λl=>okPs 100000000 l/\K (errV tE (if l.all pvld=true then 0 else 2))) a):=propext Iff.rfl
@[congr] theorem wb6 tE{K}{l l'}(h:l=l'):kL tE l K=kL tE l' K:=by subst h;rfl
attribute [go_sem,go_sem ↓] Va6
theorem Ya7(tE:Nat):Good (kL tE):=Wa λas=>by
 unfold kL;split
 .exact(Qs λ_=>(.and λ_=>(.ret _)))
 .exact .of λK hk=>hk.elim
def vN(tE:Nat)(l:List AV)(K:AV->Prop):Prop:=
 match l with
 | [a]=>onPs (λl=>okPs 100000000 l/\K (errV tE (plchk l))) a
 | _=>False
theorem qbb tE a K:vN tE [a] K=(onPs (λl=>okPs 100000000 l/\K (errV tE (plchk l))) a):=propext Iff.rfl
@[congr] theorem kb6 tE{K}{l l'}(h:l=l'):vN tE l K=vN tE l' K:=by subst h;rfl
attribute [go_sem,go_sem ↓] qbb
theorem Yba(tE:Nat):Good (vN tE):=Wa λas=>by
 unfold vN;split
 .exact(Qs λ_=>(.and λ_=>(.ret _)))
 .exact .of λK hk=>hk.elim
def jE(l:List AV)(K:AV->Prop):Prop:=
 match l with
 | [a]=>onPs (λl=>okPs 100000000 l/\K (.one (.lit (.int .i64 (plchk l:Nat))))) a
 | _=>False
theorem yaI a K:jE [a] K=(onPs (λl=>okPs 100000000 l/\K (.one (.lit (.int .i64 (plchk l:Nat))))) a):=propext Iff.rfl
@[congr] theorem Qb3{K}{l l'}(h:l=l'):jE l K=jE l' K:=by subst h;rfl
attribute [go_sem,go_sem ↓] yaI
theorem uaO:Good jE:=Wa λas=>by
 unfold jE;split
 .exact(Qs λ_=>(.and λ_=>(.ret _)))
 .exact .of λK hk=>hk.elim
def zad(l:List AV)(K:AV->Prop):Prop:=
 match l with
 | [a]=>onPs (λl=>okPs 100000000 l/\K (.one (.lit (.int .i64 (threeC l:Nat))))) a
 | _=>False
theorem jaf a K:zad [a] K=(onPs (λl=>okPs 100000000 l/\K (.one (.lit (.int .i64 (threeC l:Nat))))) a):=propext Iff.rfl
@[congr] theorem qbO{K}{l l'}(h:l=l'):zad l K=zad l' K:=by subst h;rfl
attribute [go_sem,go_sem ↓] jaf
def Jav(tE:Nat)(l:List AV)(K:AV->Prop):Prop:=
 match l with
 | [a,b]=>onPs (λl=>onA (λq=>okPs 1000000 l/\al q<=1000000/\l.length<=100000/\K (.tup [qsA (if imgC l q=0 then imgs l q else []),errV tE (imgC l q)])) b) a
 | _=>False
theorem QaC tE a b K:Jav tE [a,b] K=(onPs (λl=>onA (λq=>okPs 1000000 l/\al q<=1000000/\l.length<=100000/\K (.tup [qsA (if imgC l q=0 then imgs l q else []),errV tE (imgC l q)])) b) a):=propext Iff.rfl
@[congr] theorem Yb4 tE{K}{l l'}(h:l=l'):Jav tE l K=Jav tE l' K:=by subst h;rfl
attribute [go_sem,go_sem ↓] QaC
def ZT(l:List AV)(K:AV->Prop):Prop:=
 match l with
 | [a,b]=>onPs (λl=>onA (λq=>okPs 1000000 l/\al q<=1000000/\l.length<=100000/\K (qsA (imgs l q))) b) a
 | _=>False
theorem UW a b K:ZT [a,b] K=(onPs (λl=>onA (λq=>okPs 1000000 l/\al q<=1000000/\l.length<=100000/\K (qsA (imgs l q))) b) a):=propext Iff.rfl
@[congr] theorem QbM{K}{l l'}(h:l=l'):ZT l K=ZT l' K:=by subst h;rfl
attribute [go_sem,go_sem ↓] UW
def Wx(l:List AV)(K:AV->Prop):Prop:=
 match l with
 | [a]=>onPs (λl=>okPs 4294967296 l/\K (.one (.lit (.bool (l.all sP))))) a
 | _=>False
theorem uak a K:Wx [a] K=(onPs (λl=>okPs 4294967296 l/\K (.one (.lit (.bool (l.all sP))))) a):=propext Iff.rfl
@[congr] theorem QbQ{K}{l l'}(h:l=l'):Wx l K=Wx l' K:=by subst h;rfl
attribute [go_sem,go_sem ↓] uak
theorem Xau:Good Wx:=Wa λas=>by
 unfold Wx;split
 .exact(Qs λ_=>(.and λ_=>(.ret _)))
 .exact .of λK hk=>hk.elim
def zaa(l:List AV)(K:AV->Prop):Prop:=
 match l with
 | [a]=>onAs (λl=>okAs 4294967296 l/\K (.one (.lit (.bool (l.all sA))))) a
 | _=>False
theorem Qak a K:zaa [a] K=(onAs (λl=>okAs 4294967296 l/\K (.one (.lit (.bool (l.all sA))))) a):=propext Iff.rfl
@[congr] theorem kbU{K}{l l'}(h:l=l'):zaa l K=zaa l' K:=by subst h;rfl
attribute [go_sem,go_sem ↓] Qak
def Zx(l:List AV)(K:AV->Prop):Prop:=
 match l with
 | [a]=>onPs (λl=>okPs 4294967296 l/\K (.one (.lit (.bool (decide (l.length<=20) && l.all sP))))) a
 | _=>False
theorem Jae a K:Zx [a] K=(onPs (λl=>okPs 4294967296 l/\K (.one (.lit (.bool (decide (l.length<=20) && l.all sP))))) a):=propext Iff.rfl
@[congr] theorem vb0{K}{l l'}(h:l=l'):Zx l K=Zx l' K:=by subst h;rfl
attribute [go_sem,go_sem ↓] Jae
theorem Yav:Good Zx:=Wa λas=>by
 unfold Zx;split
 .exact(Qs λ_=>(.and λ_=>(.ret _)))
 .exact .of λK hk=>hk.elim
def qav(tE:Nat)(l:List AV)(K:AV->Prop):Prop:=
 match l with
 | [a,b]=>onPs (λl=>onAs (λm=>okPs 100000000 l/\okAs 100000000 m/\K (errV tE (chkC l m))) b) a
 | _=>False
theorem waE tE a b K:qav tE [a,b] K=(onPs (λl=>onAs (λm=>okPs 100000000 l/\okAs 100000000 m/\K (errV tE (chkC l m))) b) a):=propext Iff.rfl
@[congr] theorem vb1 tE{K}{l l'}(h:l=l'):qav tE l K=qav tE l' K:=by subst h;rfl
attribute [go_sem,go_sem ↓] waE
def qE(l:List AV)(K:AV->Prop):Prop:=
 match l with
 | [a,b]=>onRs (λl=>onRs (λm=>okRs 4294967296 l/\K (.one (.lit (.bool (decide (l=m)))))) b) a
 | _=>False
theorem zaH a b K:qE [a,b] K=(onRs (λl=>onRs (λm=>okRs 4294967296 l/\K (.one (.lit (.bool (decide (l=m)))))) b) a):=propext Iff.rfl
@[congr] theorem kb1{K}{l l'}(h:l=l'):qE l K=qE l' K:=by subst h;rfl
attribute [go_sem,go_sem ↓] zaH
theorem VaR:Good qE:=Wa λas=>by
 unfold qE;split
 .exact(Ybj λ_=>(Ybj λ_=>(.and λ_=>(.ret _))))
 .exact .of λK hk=>hk.elim
def jm(f0:Nat):AC:=(.o [.m 4 .fa] [0,1] (.f (.o [.M 6 0,.Z 7 6,.M 8 1,.Z 9 8,.B 10 .neq 7 9] [0,1,10] (.cond (.t 10) (.seq (.p [.m 4 .fa]) .ret) .skip)) [0,1] (.f (.o [.N 5 0] [0,1,5] (.block 0 (.loop (.f (.o [.M 11 5,.M 12 0,.Z 13 12,.B 14 .lss 11 13] [0,1,5,14] (.cond (.t 14) .skip (.exit 0))) [0,1,5] (.f (.block 1 (.f (.y [.M 17 0,.M 18 5,.J 19 3 17 18,.L 20 3 19,.M 21 1,.M 22 5,.J 23 3 21 22,.L 24 3 23,.D 25 f0 20 24,.u 26 (.un .not (.t 25))]) [0,1,5,26] (.cond (.t 26) (.seq (.p [.m 4 .fa]) .ret) .skip))) [0,1,5] (.p [.M 15 5,.I 16 .add 15 1,.M 5 16])))))) [] (.seq (.p [.m 4 .tr]) .ret))))
def yy(f0 tE:Nat):AC:=(.o [.m 2 (.c (.one (.lit .nilIface)))] [0] (.f (.o [.M 5 0,.Z 6 5,.N 7 0] [5,6,7] (.block 0 (.loop (.o [.B 8 .lss 7 6] [5,6,7,8] (.f (.cond (.t 8) .skip (.exit 0)) [5,6,7] (.f (.block 1 (.o [.J 9 10 5 7,.L 10 10 9,.G 4 [.z,.emp,.emp,.z,.z,.emp,.emp,.z,.emp,.emp],.S 10 4 10] [4,5,6,7] (.o [.L 11 10 4,.H 12 f0 11,.u 13 (.un .not (.t 12))] [5,6,7,13] (.cond (.t 13) (.seq (.p [.u 14 (.iface tE (.i 2)),.M 2 14]) .ret) .skip)))) [5,6,7] (.p [.I 15 .add 7 1,.M 7 15]))))))) [] (.seq (.p [.m 2 (.c (.one (.lit .nilIface)))]) .ret)))
def Qz(f0 tE:Nat):AC:=(.o [.m 2 (.c (.one (.lit .nilIface)))] [0] (.f (.o [.M 3 0,.Z 4 3,.I 5 .lss 4 2] [0,5] (.cond (.t 5) (.seq (.p [.u 6 (.iface tE (.i 10)),.M 2 6]) .ret) .skip)) [0] (.f (.o [.M 7 0,.Z 8 7,.I 9 .gtr 8 5] [0,9] (.cond (.t 9) (.seq (.p [.u 10 (.iface tE (.i 4)),.M 2 10]) .ret) .skip)) [0] (.seq (.p [.M 11 0,.H 12 f0 11,.M 2 12]) .ret))))
def Xi(f0:Nat):AC:=(.o [.N 2 0] [0] (.f (.block 0 (.o [.M 6 0,.Z 7 6,.I 8 .lss 7 2,.M 5 8] [0,5] (.cond (.t 5) (.seq (.p [.N 2 10]) .ret) (.o [.M 10 0,.Z 11 10,.I 12 .gtr 11 5,.M 9 12] [0,9] (.cond (.t 9) (.seq (.p [.N 2 4]) .ret) .skip))))) [0] (.f (.o [.M 13 0,.Z 14 13,.N 15 0] [13,14,15] (.block 1 (.loop (.o [.B 16 .lss 15 14] [13,14,15,16] (.f (.cond (.t 16) .skip (.exit 1)) [13,14,15] (.f (.block 2 (.o [.J 17 10 13 15,.L 18 10 17,.G 4 [.z,.emp,.emp,.z,.z,.emp,.emp,.z,.emp,.emp],.S 10 4 18] [4,13,14,15] (.o [.L 19 10 4,.H 20 f0 19,.u 21 (.un .not (.t 20))] [13,14,15,21] (.cond (.t 21) (.seq (.p [.N 2 2]) .ret) .skip)))) [13,14,15] (.p [.I 22 .add 15 1,.M 15 22]))))))) [] (.seq (.p [.N 2 0]) .ret))))
def vi:AC:=(.o [.m 2 .fa] [0] (.f (.o [.M 7 0,.Z 8 7,.N 9 0] [7,8,9] (.block 0 (.loop (.o [.B 10 .lss 9 8] [7,8,9,10] (.f (.cond (.t 10) .skip (.exit 0)) [7,8,9] (.f (.block 1 (.o [.J 11 10 7 9,.L 12 10 11,.G 4 [.z,.emp,.emp,.z,.z,.emp,.emp,.z,.emp,.emp],.S 10 4 12] [4,7,8,9] (.o [.A 13 0 4,.A 14 0 13,.L 15 3 14,.A 16 4 4,.A 17 0 16,.L 18 3 17,.A 19 4 4,.A 20 3 19,.L 21 3 20,.u 22 (.row 3 [[.x 3 (.t 15)],[.x 3 (.t 18)],[.x 3 (.t 21)]]),.Z 23 22,.N 24 0] [7,8,9,22,23,24] (.block 2 (.loop (.o [.B 25 .lss 24 23] [7,8,9,22,23,24,25] (.f (.cond (.t 25) .skip (.exit 2)) [7,8,9,22,23,24] (.f (.block 3 (.o [.J 26 3 22 24,.L 27 3 26,.G 6 [.z,.emp,.emp],.S 3 6 27] [6,7,8,9,22,23,24] (.o [.A 28 1 6,.F 29 1 28,.Z 30 29,.I 31 .gtr 30 2,.M 32 31,.T 33 32 false 2 6,.U 34 32 false 1 false 33,.w 35 32 false (.len (.t 34)),.w 36 32 false (.bin .gtr (.t 35) (.i 2)),.Q 37 32 36] [7,8,9,22,23,24,37] (.cond (.t 37) (.seq (.p [.m 2 .fa]) .ret) .skip)))) [7,8,9,22,23,24] (.p [.I 38 .add 24 1,.M 24 38]))))))))) [7,8,9] (.p [.I 39 .add 9 1,.M 9 39]))))))) [] (.seq (.p [.m 2 .tr]) .ret)))
def yi(f0:Nat):AC:=(.o [.m 2 .fa] [0] (.seq (.p [.M 3 0,.Z 4 3,.I 5 .leq 4 20,.M 6 5,.V 7 6 true 0,.W 8 6 true f0 7,.P 9 6 8,.M 2 9]) .ret))
theorem ZaS(hΓ:Xa P Γ){f fv tE:Nat}(hv:Γ fv=.dat true vA)(hc:check P f=some (16,(yy fv tE).strip,[.tmp 2])):ua P f (.dat false (kL tE)):=by
 refine ka hc (Ya7 tE) hΓ (λargs K hcl hfi hG=>?_);match args,hG with
 | [a],hG=>
  obtain⟨l,rfl,hwl,hok,hK⟩:=hG;refine⟨by simp,?_⟩
  simp only [go_sem,yy,hv];intro _;refine Ya (λk:Nat=>⟨mkV [(5,psA l),(6,.one (.lit (.int .i64 l.length))),(7,.one (.lit (.int .i64 k)))],mkH []⟩) (λk=>k<=l.length/\(l.take k).all pvld=true) (λk=>l.length-k) 0 ?_ ?_ ?_
  .exact Qa (by simp [okS,okV,okC,okL,okH,okB,okE,ja,Ja,qa,Va,wsA,ws,psA,psC]) trivial
  .exact⟨Nat.zero_le _,rfl⟩
  .rintro k ⟨hk,hall⟩;by_cases hlt:k<l.length
   .obtain⟨p,hp⟩:∃p,l.getD k p0=p:=⟨_,rfl⟩;have hp0:=JB hlt hp;obtain⟨hp1,hp2⟩:=hok p (List.mem_of_getElem? hp0);cases hb:pvld p with
    | true=>
     simp only [go_sem,hlt,hp,hv,hb,xaM];exact⟨hp1,hp2,by omega,k+1,Qa (by simp [okS,okV,okC,okL,okH,okB,okE,ja,Ja,qa,Va,wsA,ws,psA,psC]) trivial,⟨by omega,wO hp0 hall hb⟩,by omega⟩
    | false=>
     rw [xbq hp0 hb,if_neg (by decide),Zd tE (by decide)]at hK
     simp only [go_sem,hlt,hp,hv,hb,xaM];exact⟨hp1,hp2,hK⟩
   .rw [List.take_of_length_le (by omega)]at hall
    rw [hall,if_pos rfl,Qc]at hK;simp only [go_sem,hlt];exact hK
theorem kaN(hΓ:Xa P Γ){f fk tE:Nat}(hk:Γ fk=.dat false (kL tE))(hc:check P f=some (13,(Qz fk tE).strip,[.tmp 2])):ua P f (.dat false (vN tE)):=by
 refine ka hc (Yba tE) hΓ (λargs K hcl hfi hG=>?_);match args,hG with
 | [a],hG=>
  obtain⟨l,rfl,hwl,hok,hK⟩:=hG;refine⟨by simp,?_⟩
  simp only [go_sem,Qz,hk];unfold plchk at hK;refine λ_=>⟨λh=>?_,λh _=>⟨λh'=>?_,λh'=>⟨hwl,hok,?_⟩⟩⟩
  .rw [if_pos (by omega),Zd tE (by decide)]at hK;exact hK
  .rw [if_neg (by omega),if_pos (by omega),Zd tE (by decide)]at hK;exact hK
  .rw [if_neg (by omega),if_neg (by omega)]at hK;exact hK
theorem vav(hΓ:Xa P Γ){f fv:Nat}(hv:Γ fv=.dat true vA)(hc:check P f=some (23,(Xi fv).strip,[.tmp 2])):ua P f (.dat true jE):=by
 refine ka hc uaO hΓ (λargs K hcl hfi hG=>?_);match args,hG with
 | [a],hG=>
  obtain⟨l,rfl,hwl,hok,hK⟩:=hG;refine⟨by simp,?_⟩
  simp only [go_sem,Xi,hv];unfold plchk at hK;refine λ_=>⟨λh=>?_,λh _=>⟨λh'=>?_,λh' _=>?_⟩⟩
  .rw [if_pos (by omega)]at hK;exact hK
  .rw [if_neg (by omega),if_pos (by omega)]at hK;exact hK
  rw [if_neg (by omega),if_neg (by omega)]at hK
  refine Ya (λk:Nat=>⟨mkV [(13,psA l),(14,.one (.lit (.int .i64 l.length))),(15,.one (.lit (.int .i64 k)))],mkH []⟩) (λk=>k<=l.length/\(l.take k).all pvld=true) (λk=>l.length-k) 0 ?_ ?_ ?_
  .exact Qa (by simp [okS,okV,okC,okL,okH,okB,okE,ja,Ja,qa,Va,wsA,ws,psA,psC]) trivial
  .exact⟨Nat.zero_le _,rfl⟩
  .rintro k ⟨hk,hall⟩;by_cases hlt:k<l.length
   .obtain⟨p,hp⟩:∃p,l.getD k p0=p:=⟨_,rfl⟩;have hp0:=JB hlt hp;obtain⟨hp1,hp2⟩:=hok p (List.mem_of_getElem? hp0);cases hb:pvld p with
    | true=>
     simp only [go_sem,hlt,hp,hv,hb,xaM];exact⟨hp1,hp2,by omega,k+1,Qa (by simp [okS,okV,okC,okL,okH,okB,okE,ja,Ja,qa,Va,wsA,ws,psA,psC]) trivial,⟨by omega,wO hp0 hall hb⟩,by omega⟩
    | false=>
     rw [xbq hp0 hb,if_neg (by decide)]at hK
     simp only [go_sem,hlt,hp,hv,hb,xaM];exact⟨hp1,hp2,hK⟩
   .rw [List.take_of_length_le (by omega)]at hall
    rw [hall,if_pos rfl]at hK;simp only [go_sem,hlt];exact hK
theorem xbW{b:Nat}{p:Ps}(h:okP b p):rl p.1.1<=b/\al p.2<=b:=⟨Nat.le_trans (Nat.le_max_left _ _) h.2,Nat.le_trans (Nat.le_max_right _ _) h.2⟩
theorem Yad(hΓ:Xa P Γ){f fs:Nat}(hs:Γ fs=.dat true Wx)(hc:check P f=some (10,(yi fs).strip,[.tmp 2])):ua P f (.dat true Zx):=by
 refine ka hc Yav hΓ (λargs K hcl hfi hG=>?_);match args,hG with
 | [a],hG=>
  obtain⟨l,rfl,hwl,hok,hK⟩:=hG;refine⟨by simp,?_⟩
  simp only [go_sem,yi,hs];refine λ_=>⟨λh=>⟨hwl,hok,?_⟩,λh=>?_⟩
  .rw [decide_eq_true (by omega:l.length<=20),Bool.true_and]at hK;exact hK
  .rw [decide_eq_false (by omega:¬l.length<=20),Bool.false_and]at hK;exact hK
theorem xaf(hΓ:Xa P Γ){f:Nat}(hc:check P f=some (40,vi.strip,[.tmp 2])):ua P f (.dat true Wx):=by
 refine ka hc Xau hΓ (λargs K hcl hfi hG=>?_);match args,hG with
 | [a],hG=>
  obtain⟨l,rfl,hwl,hok,hK⟩:=hG;refine⟨by simp,?_⟩
  simp only [go_sem,vi];intro _;refine Ya (λk:Nat=>⟨mkV [(7,psA l),(8,.one (.lit (.int .i64 l.length))),(9,.one (.lit (.int .i64 k)))],mkH []⟩) (λk=>k<=l.length/\(l.take k).all sP=true) (λk=>l.length-k) 0 ?_ ?_ ?_
  .exact Qa (by simp [okS,okV,okC,okL,okH,okB,okE,ja,Ja,qa,Va,wsA,ws,psA,psC]) trivial
  .exact⟨Nat.zero_le _,rfl⟩
  .rintro k ⟨hk,hall⟩;by_cases hlt:k<l.length
   .obtain⟨p,hp⟩:∃p,l.getD k p0=p:=⟨_,rfl⟩;have hp0:=JB hlt hp;obtain⟨hp1,hp2⟩:=hok p (List.mem_of_getElem? hp0);obtain⟨xs,hxs⟩:∃xs:List R,xs=[p.1.1,p.2.1,p.2.2]:=⟨_,rfl⟩;have hlx:xs.length=3:=by rw [hxs];rfl
    have hwx:∀x∈xs,rl x<=4294967296:=by
     intro x hx;rw [hxs]at hx;simp only [List.mem_cons,List.not_mem_nil,or_false]at hx;obtain⟨l1,l2⟩:=xbW ⟨hp1,hp2⟩;obtain⟨l3,l4⟩:=al1 l2;rcases hx with rfl | rfl | rfl <;> assumption
    have hex:xs.all (sR 2)=sP p:=by rw [hxs];simp only [List.all_cons,List.all_nil,Bool.and_true];rfl
    simp only [go_sem,hlt,hp,xaM];refine Ya (λj:Nat=>⟨mkV [(7,psA l),(8,.one (.lit (.int .i64 l.length))),(9,.one (.lit (.int .i64 k))),(22,.one (.full (xs.map rC))),(23,.one (.lit (.int .i64 3))),(24,.one (.lit (.int .i64 j)))],mkH []⟩) (λj=>j<=3/\(xs.take j).all (sR 2)=true) (λj=>3-j) 0 ?_ ?_ ?_
    .exact Qa (by rw [hxs];simp [okS,okV,okC,okL,okH,okB,okE,ja,Ja,qa,Va,wsA,ws,psA,psC,rC]) trivial
    .exact⟨Nat.zero_le _,rfl⟩
    .rintro j ⟨hj,hallj⟩;by_cases hltj:j<3
     .obtain⟨x,hx⟩:∃x,xs.getD j (rcan 0)=x:=⟨_,rfl⟩;have hx0:=JB (by omega:j<xs.length) hx
      have hxr:=hwx x (List.mem_of_getElem? hx0);have hjx:j<xs.length:=by omega
      obtain⟨b,n,d⟩:=x;have w1:n.length<=4294967296:=Nat.le_trans (Nat.le_max_left _ _) hxr;have w2:d.length<=4294967296:=Nat.le_trans (Nat.le_max_right _ _) hxr;have bad:¬(sR 2 (b,n,d)=true)->K (.one (.lit (.bool false))):=by
       intro hb;have e1:sP p=false:=by rw [<-hex];exact xbq hx0 (by simpa using hb)
       rw [xbq hp0 e1]at hK;exact hK
      have hsr:sR 2 (b,n,d)=true↔n.length<=2/\d.length<=2:=by simp [sR]
      simp only [go_sem,hltj,hjx,hx,XU,cb,cn,cd,ws,hlx];exact⟨λ_ _=>⟨λh=>bad (λe=>by have:=hsr.1 e;omega),λh _=>⟨λh'=>bad (λe=>by have:=hsr.1 e;omega),λh'=>⟨by omega,j+1,Qa (by simp [okS,okV,okC,okL,okH,okB,okE,ja,Ja,qa,Va,wsA,ws,psA,psC]) trivial,⟨by omega,wO hx0 hallj (hsr.2 ⟨by omega,by omega⟩)⟩,by omega⟩⟩⟩,λh=>absurd (by omega) h⟩
     .rw [List.take_of_length_le (by omega),hex]at hallj
      simp only [go_sem,hltj];exact⟨λh=>absurd h (by omega),λ_=>⟨by omega,k+1,Qa (by simp [okS,okV,okC,okL,okH,okB,okE,ja,Ja,qa,Va,wsA,ws,psA,psC]) trivial,⟨by omega,wO hp0 hall hallj⟩,by omega⟩⟩
   .rw [List.take_of_length_le (by omega)]at hall
    rw [hall]at hK;simp only [go_sem,hlt];exact hK
theorem yav(hΓ:Xa P Γ){f fr:Nat}(hr:Γ fr=.dat true kH)(hc:check P f=some (27,(jm fr).strip,[.tmp 4])):ua P f (.dat true qE):=by
 refine ka hc VaR hΓ (λargs K hcl hfi hG=>?_);match args,hG with
 | [a,b],hG=>
  obtain⟨x,rfl,hx,y,rfl,hy,hxl,hK⟩:=hG;refine⟨by simp,?_⟩
  simp only [go_sem,jm,hr];intro h1 h2;refine⟨λhl=>?_,λhne=>?_⟩
  rotate_left
  .rw [decide_eq_false (λh=>hne (by rw [h]))]at hK;exact hK
  refine Ya (λn:Nat=>⟨mkV [(0,rsA x),(1,rsA y),(5,.one (.lit (.int .i64 n)))],mkH []⟩) (λn=>n<=x.length/\x.take n=y.take n) (λn=>x.length-n) 0 ?_ ?_ ?_
  .exact Qa (by simp [okS,okV,okC,okL,okH,okB,okE,ja,Ja,qa,Va,wsA,ws,rsA]) trivial
  .exact⟨Nat.zero_le _,rfl⟩
  .rintro n ⟨hn,hd⟩;by_cases hlt:n<x.length
   .have hlt' : n<y.length:=by omega
    obtain⟨u,hu⟩:∃u,x.getD n (rcan 0)=u:=⟨_,rfl⟩;obtain⟨v,hv⟩:∃v,y.getD n (rcan 0)=v:=⟨_,rfl⟩;have hu0:=JB hlt hu;have hv0:=JB hlt' hv;obtain⟨u1,u2⟩:=hxl u (List.mem_of_getElem? hu0);have v1:=hy v (List.mem_of_getElem? hv0);by_cases he:u=v
    .simp only [go_sem,hr,hlt,hlt',hu,hv,XU,decide_eq_true he];exact λ_=>⟨u1,v1,u2,by omega,n+1,Qa (by simp [okS,okV,okC,okL,okH,okB,okE,ja,Ja,qa,Va,wsA,ws,rsA]) trivial,⟨by omega,by rw [List.take_add_one,List.take_add_one,hu0,hv0,hd,he]⟩,by omega⟩
    .have hne:decide (x=y)=false:=decide_eq_false λh=>by
      subst h;rw [hu0]at hv0;exact he (Option.some.inj hv0)
     rw [hne]at hK;simp only [go_sem,hr,hlt,hlt',hu,hv,XU,decide_eq_false he];exact λ_=>⟨u1,v1,u2,hK⟩
   .simp only [go_sem,hlt];rw [List.take_of_length_le (by omega),List.take_of_length_le (by omega)]at hd
    rw [decide_eq_true hd]at hK;exact λ_=>hK
end Go.Abs
end
section
namespace Go.Num
open Go.Abs
def ctrQ(p u v:V2):V2:=(p.1+(sqQ u*v.2-sqQ v*u.2) / (2*Je u v),p.2+(sqQ v*u.1-sqQ u*v.1) / (2*Je u v))
def ciQ(p u v:V2):V2:=if Je u v=0 then (0,0) else ctrQ p u v
def ciL(l:List Arc):V2:=ciQ (av (l.getD 0 a0)) (subQ (av (l.getD 1 a0)) (av (l.getD 0 a0))) (subQ (av (l.getD 2 a0)) (av (l.getD 0 a0)))
def crL(l:List Arc):Rat:=Je (subQ (av (l.getD 1 a0)) (av (l.getD 0 a0))) (subQ (av (l.getD 2 a0)) (av (l.getD 0 a0)))
end Go.Num
namespace Go.Abs
open Go.Num
variable {P:Program} {Γ:Nat->Spec}
def qar(tE:Nat)(l:List AV)(K:AV->Prop):Prop:=
 match l with
 | [a]=>onAs (λl=>okAs 1000000 l/\3<=l.length/\K (.tup [pQ (ciL l),errV tE (if crL l=0 then 8 else 0)])) a
 | _=>False
theorem XaH tE a K:qar tE [a] K=(onAs (λl=>okAs 1000000 l/\3<=l.length/\K (.tup [pQ (ciL l),errV tE (if crL l=0 then 8 else 0)])) a):=propext Iff.rfl
@[congr] theorem Wb3 tE{K}{l l'}(h:l=l'):qar tE l K=qar tE l' K:=by subst h;rfl
attribute [go_sem,go_sem ↓] XaH
def War(l:List AV)(K:AV->Prop):Prop:=
 match l with
 | [a]=>onAs (λl=>okAs 1000000 l/\3<=l.length/\K (.tup [pQ (ciL l),.one (.lit (.bool (decide (crL l≠0))))])) a
 | _=>False
theorem VaC a K:War [a] K=(onAs (λl=>okAs 1000000 l/\3<=l.length/\K (.tup [pQ (ciL l),.one (.lit (.bool (decide (crL l≠0))))])) a):=propext Iff.rfl
@[congr] theorem Wb4{K}{l l'}(h:l=l'):War l K=War l' K:=by subst h;rfl
attribute [go_sem,go_sem ↓] VaC
end Go.Abs
end
section
namespace Go.Abs
open Go.Num
variable {P:Program} {Γ:Nat->Spec}
def vac(l:List AV)(K:AV->Prop):Prop:=
 match l with
 | [a]=>asInt (λk n=>k=.i64/\n=1/\K (.one (.lit (.string ⟨#[49]⟩)))) a
 | _=>False
theorem zae a K:vac [a] K=(asInt (λk n=>k=.i64/\n=1/\K (.one (.lit (.string ⟨#[49]⟩)))) a):=propext Iff.rfl
@[congr] theorem ZbX{K}{l l'}(h:l=l'):vac l K=vac l' K:=by subst h;rfl
attribute [go_sem,go_sem ↓] zae
def Jar(l:List AV)(K:AV->Prop):Prop:=
 match l with
 | [a,b]=>asInt (λk n=>k=.i64/\n=1/\asInt (λk m=>k=.i64/\m=10/\K (.one (.lit (.string ⟨#[49]⟩)))) b) a
 | _=>False
theorem UaF a b K:Jar [a,b] K=(asInt (λk n=>k=.i64/\n=1/\asInt (λk m=>k=.i64/\m=10/\K (.one (.lit (.string ⟨#[49]⟩)))) b) a):=propext Iff.rfl
@[congr] theorem vb4{K}{l l'}(h:l=l'):Jar l K=Jar l' K:=by subst h;rfl
attribute [go_sem,go_sem ↓] UaF
def zau(l:List AV)(K:AV->Prop):Prop:=
 match l with
 | [a]=>asInt (λk n=>k=.i64/\n=1/\K (.one (.lit (.string ⟨#[49]⟩)))) a
 | _=>False
theorem JaG a K:zau [a] K=(asInt (λk n=>k=.i64/\n=1/\K (.one (.lit (.string ⟨#[49]⟩)))) a):=propext Iff.rfl
@[congr] theorem ub4{K}{l l'}(h:l=l'):zau l K=zau l' K:=by subst h;rfl
attribute [go_sem,go_sem ↓] JaG
def Xap(l:List AV)(K:AV->Prop):Prop:=
 match l with
 | [a,b]=>a=.one (.slice [[.lit (.string ⟨#[49]⟩)]])/\b=.one (.lit (.string ⟨#[]⟩))/\K (.one (.lit (.string ⟨#[49]⟩)))
 | _=>False
theorem VaE a b K:Xap [a,b] K=(a=.one (.slice [[.lit (.string ⟨#[49]⟩)]])/\b=.one (.lit (.string ⟨#[]⟩))/\K (.one (.lit (.string ⟨#[49]⟩)))):=propext Iff.rfl
@[congr] theorem Ub5{K}{l l'}(h:l=l'):Xap l K=Xap l' K:=by subst h;rfl
attribute [go_sem,go_sem ↓] VaE
def xau(l:List AV)(K:AV->Prop):Prop:=
 match l with
 | [a]=>onW (λw=>zv w=1/\K (.one (.lit (.string ⟨#[49]⟩)))) a
 | _=>False
theorem qaL a K:xau [a] K=(onW (λw=>zv w=1/\K (.one (.lit (.string ⟨#[49]⟩)))) a):=propext Iff.rfl
@[congr] theorem vb2{K}{l l'}(h:l=l'):xau l K=xau l' K:=by subst h;rfl
attribute [go_sem,go_sem ↓] qaL
def jap(l:List AV)(K:AV->Prop):Prop:=
 match l with
 | [a]=>onR (λx=>rv x=1/\rl x<=4294967296/\K (.one (.lit (.string ⟨#[49]⟩)))) a
 | _=>False
theorem ZaG a K:jap [a] K=(onR (λx=>rv x=1/\rl x<=4294967296/\K (.one (.lit (.string ⟨#[49]⟩)))) a):=propext Iff.rfl
@[congr] theorem kb5{K}{l l'}(h:l=l'):jap l K=jap l' K:=by subst h;rfl
attribute [go_sem,go_sem ↓] ZaG
def xc:AC:=(.o [.m 2 (.c (.one (.lit (.string ⟨#[]⟩))))] [0] (.f (.o [.M 3 0,.I 4 .lss 3 10] [0,4] (.cond (.t 4) (.seq (.p [.M 5 0,.M 6 0,.I 7 .add 6 1,.u 8 (.sop 0 [(.c (.one (.lit (.string ⟨#[48,49,50,51,52,53,54,55,56,57,97,98,99,100,101,102,103,104,105,106,107,108,109,110,111,112,113,114,115,116,117,118,119,120,121,122]⟩)))),(.t 5),(.t 7)]),.M 2 8]) .ret) .skip)) [0] (.seq (.p [.M 9 0,.I 10 .mul 9 2,.M 11 0,.I 12 .mul 11 2,.I 13 .add 12 2,.u 14 (.sop 0 [(.c (.one (.lit (.string ⟨#[48,48,48,49,48,50,48,51,48,52,48,53,48,54,48,55,48,56,48,57,49,48,49,49,49,50,49,51,49,52,49,53,49,54,49,55,49,56,49,57,50,48,50,49,50,50,50,51,50,52,50,53,50,54,50,55,50,56,50,57,51,48,51,49,51,50,51,51,51,52,51,53,51,54,51,55,51,56,51,57,52,48,52,49,52,50,52,51,52,52,52,53,52,54,52,55,52,56,52,57,53,48,53,49,53,50,53,51,53,52,53,53,53,54,53,55,53,56,53,57,54,48,54,49,54,50,54,51,54,52,54,53,54,54,54,55,54,56,54,57,55,48,55,49,55,50,55,51,55,52,55,53,55,54,55,55,55,56,55,57,56,48,56,49,56,50,56,51,56,52,56,53,56,54,56,55,56,56,56,57,57,48,57,49,57,50,57,51,57,52,57,53,57,54,57,55,57,56,57,57]⟩)))),(.t 10),(.t 13)]),.M 2 14]) .ret)))
def ve(f0 f1 f2 f3:Nat):AC:=(.o [.m 4 (.c (.one (.lit (.string ⟨#[]⟩))))] [0,1] (.f (.o [.M 10 1,.I 11 .eql 10 10] [0,1,11] (.cond (.t 11) (.f (.o [.M 12 0,.u 13 (.bin .leq (.i 0) (.t 12)),.M 14 13,.V 15 14 true 0,.w 16 14 true (.bin .lss (.t 15) (.i 100)),.P 17 14 16] [0,17] (.cond (.t 17) (.seq (.p [.M 18 0,.H 19 f0 18,.M 4 19]) .ret) .skip)) [0] (.o [.G 5 [(.lit (.int .u8 0)),(.lit (.int .u8 0)),(.lit (.int .u8 0)),(.lit (.int .u8 0)),(.lit (.int .u8 0)),(.lit (.int .u8 0)),(.lit (.int .u8 0)),(.lit (.int .u8 0)),(.lit (.int .u8 0)),(.lit (.int .u8 0)),(.lit (.int .u8 0)),(.lit (.int .u8 0)),(.lit (.int .u8 0)),(.lit (.int .u8 0)),(.lit (.int .u8 0)),(.lit (.int .u8 0)),(.lit (.int .u8 0)),(.lit (.int .u8 0)),(.lit (.int .u8 0)),(.lit (.int .u8 0)),(.lit (.int .u8 0)),(.lit (.int .u8 0)),(.lit (.int .u8 0)),(.lit (.int .u8 0))]] [0,5] (.o [.M 20 0,.u 21 (.conv .u64 (.t 20)),.M 6 21] [0,5,6] (.f (.o [.M 22 0,.I 23 .lss 22 0] [0,5,6,23] (.cond (.t 23) (.p [.M 24 6,.u 25 (.un .neg (.t 24)),.M 6 25]) .skip)) [0,5,6] (.o [.M 26 6,.H 27 f1 26,.M 7 27] [0,5,6,7] (.o [.M 28 7,.u 29 (.bin .add (.i 1) (.t 28)),.u 30 (.rsb 1 24 (.t 5) (some (.i 1)) (some (.t 29))),.M 31 6,.D 32 f2 30 31] [0,5,7] (.f (.o [.M 33 0,.I 34 .lss 33 0] [5,7,34] (.cond (.t 34) (.o [.u 35 (.ai 1 24 (.t 5) (.i 0)),.n (.st none 1 (.t 35) (.c (.one (.lit (.int .u8 45)))))] [5,7] (.seq (.p [.M 36 7,.u 37 (.bin .add (.i 1) (.t 36)),.u 38 (.rsb 1 24 (.t 5) none (some (.t 37))),.u 39 (.bad),.M 4 39]) .ret)) .skip)) [5,7] (.seq (.p [.M 40 7,.u 41 (.bin .add (.i 1) (.t 40)),.u 42 (.rsb 1 24 (.t 5) (some (.i 1)) (some (.t 41))),.u 43 (.bad),.M 4 43]) .ret)))))))) .skip)) [0,1] (.o [.M 45 0,.u 46 (.conv .u64 (.t 45)),.M 47 1,.M 48 0,.I 49 .lss 48 0,.u 50 (.call f3 [(.c (.one .emp)),(.t 46),(.t 47),(.t 49),.fa]),.M 44 50,.X 51 0 44,.X 52 1 44,.M 8 51,.M 9 52] [9] (.seq (.p [.M 53 9,.M 4 53]) .ret))))
def xg(f0:Nat):AC:=(.o [.m 2 (.c (.one (.lit (.string ⟨#[]⟩))))] [0] (.seq (.p [.M 3 0,.u 4 (.call f0 [(.t 3),(.i 10)]),.M 2 4]) .ret))
def Jw(f0:Nat):AC:=(.o [.m 2 (.c (.one (.lit (.string ⟨#[]⟩))))] [0] (.seq (.p [.M 3 0,.H 4 f0 3,.M 2 4]) .ret))
def yv(f0 f1 f2:Nat):AC:=(.o [.m 4 (.c (.one (.lit (.string ⟨#[]⟩))))] [0,1] (.f (.o [.M 11 0,.Z 12 11] [0,1,12] (.block 0 (.o [.I 14 .eql 12 0,.M 13 14] [0,1,12,13] (.cond (.t 13) (.seq (.p [.m 4 (.c (.one (.lit (.string ⟨#[]⟩))))]) .ret) (.o [.I 16 .eql 12 1,.M 15 16] [0,1,15] (.cond (.t 15) (.seq (.p [.M 17 0,.u 18 (.idx 1 (.t 17) (.i 0)),.F 19 1 18,.M 4 19]) .ret) .skip)))))) [0,1] (.o [.N 5 0] [0,1,5] (.f (.o [.M 20 1,.u 21 (.bad),.I 22 .gtr 21 0] [0,1,5,22] (.cond (.t 22) (.f (.o [.M 23 1,.u 24 (.bad),.M 25 0,.Z 26 25,.I 27 .sub 26 1,.u 28 (.bin .quo (.i 9223372036854775807) (.t 27)),.B 29 .geq 24 28] [0,1,5,29] (.cond (.t 29) (.p [.u 30 (.bad),.n (.bad)]) .skip)) [0,1,5] (.p [.M 31 5,.M 32 1,.u 33 (.bad),.M 34 0,.Z 35 34,.I 36 .sub 35 1,.B 37 .mul 33 36,.B 38 .add 31 37,.M 5 38])) .skip)) [0,1,5] (.f (.o [.M 39 0,.Z 40 39,.N 41 0] [0,1,5,39,40,41] (.block 1 (.loop (.o [.B 42 .lss 41 40] [0,1,5,39,40,41,42] (.f (.cond (.t 42) .skip (.exit 1)) [0,1,5,39,40,41] (.f (.block 2 (.o [.J 43 1 39 41,.F 44 1 43,.M 7 44] [0,1,5,7,39,40,41] (.f (.o [.M 45 7,.u 46 (.bad),.M 47 5,.u 48 (.bin .sub (.i 9223372036854775807) (.t 47)),.B 49 .gtr 46 48] [0,1,5,7,39,40,41,49] (.cond (.t 49) (.p [.u 50 (.bad),.n (.bad)]) .skip)) [0,1,5,7,39,40,41] (.p [.M 51 5,.M 52 7,.u 53 (.bad),.B 54 .add 51 53,.M 5 54])))) [0,1,5,39,40,41] (.p [.I 55 .add 41 1,.M 41 55]))))))) [0,1,5] (.o [.G 8 [(.lit (.pointer none)),.emp]] [0,1,5,8] (.o [.M 56 5,.D 57 f0 8 56] [0,1,8] (.o [.M 58 0,.u 59 (.idx 1 (.t 58) (.i 0)),.F 60 1 59,.D 61 f1 8 60] [0,1,8] (.f (.o [.M 62 0,.u 63 (.sl 1 (.t 62) (some (.i 1)) none),.Z 64 63,.N 65 0] [1,8,63,64,65] (.block 3 (.loop (.o [.B 66 .lss 65 64] [1,8,63,64,65,66] (.f (.cond (.t 66) .skip (.exit 3)) [1,8,63,64,65] (.f (.block 4 (.o [.J 67 1 63 65,.F 68 1 67,.M 10 68] [1,8,10,63,64,65] (.o [.M 69 1,.D 70 f1 8 69] [1,8,10,63,64,65] (.p [.M 71 10,.D 72 f1 8 71])))) [1,8,63,64,65] (.p [.I 73 .add 65 1,.M 65 73]))))))) [8] (.seq (.p [.H 74 f2 8,.M 4 74]) .ret))))))))))
def Zw(f0 f1 f2 f3 f4 f5:Nat):AC:=(.o [.K 1 2 0,.m 2 (.c (.one (.lit (.string ⟨#[]⟩))))] [1] (.o [.L 8 2 1,.H 9 f0 8,.M 3 9] [1,3] (.f (.o [.M 10 3,.Z 11 10,.I 12 .eql 11 0] [1,3,12] (.cond (.t 12) (.seq (.p [.m 2 (.c (.one (.lit (.string ⟨#[48]⟩))))]) .ret) .skip)) [1,3] (.o [.m 4 (.c (.one .emp))] [1,3,4] (.f (.block 0 (.loop (.f (.o [.M 13 3,.Z 14 13,.I 15 .gtr 14 0] [1,3,4,15] (.cond (.t 15) .skip (.exit 0))) [1,3,4] (.block 1 (.o [.m 5 (.c (.one (.lit (.int .u32 0))))] [1,3,4] (.o [.M 17 3,.u 18 (.call f1 [(.t 17),(.c (.one (.lit (.int .u32 1000000000))))]),.M 16 18,.X 19 0 16,.X 20 1 16,.M 3 19,.M 5 20] [1,3,4,5] (.o [.M 21 5,.u 22 (.conv .i64 (.t 21)),.H 23 f2 22,.M 6 23] [1,3,4,6] (.f (.o [.M 24 3,.Z 25 24,.I 26 .gtr 25 0] [1,3,4,6,26] (.cond (.t 26) (.p [.M 27 6,.u 28 (.bad),.u 29 (.bin .sub (.i 9) (.t 28)),.u 30 (.call f3 [(.c (.one (.lit (.string ⟨#[48]⟩)))),(.t 29)]),.M 31 6,.u 32 (.sop 2 [(.t 30),(.t 31)]),.M 6 32]) .skip)) [1,3,4,6] (.p [.M 33 6,.u 34 (.row 1 [[.x 1 (.t 33)]]),.M 35 4,.u 36 (.app 1 (.t 34) (.t 35)),.M 4 36]))))))))) [1,4] (.o [.M 37 4,.u 38 (.call f4 [(.t 37),(.c (.one (.lit (.string ⟨#[]⟩))))]),.M 7 38] [1,7] (.f (.o [.L 39 2 1,.H 40 f5 39] [7,40] (.cond (.t 40) (.p [.M 41 7,.u 42 (.sop 2 [(.c (.one (.lit (.string ⟨#[45]⟩)))),(.t 41)]),.M 7 42]) .skip)) [7] (.seq (.p [.M 43 7,.M 2 43]) .ret))))))))
def Vn(f0 f1 f2 f3:Nat):AC:=(.o [.K 1 3 0,.m 2 (.c (.one (.lit (.string ⟨#[]⟩))))] [1] (.o [.L 6 3 1,.H 7 f0 6,.M 5 7,.X 8 0 5,.X 9 1 5,.G 3 [.z,.emp],.G 4 [.z,.emp],.S 2 3 8,.S 2 4 9] [3,4] (.f (.f (.y [.L 10 2 4,.u 11 (.call f1 []),.D 12 f2 10 11,.I 13 .eql 12 0]) [3,4,13] (.cond (.t 13) (.seq (.p [.L 14 2 3,.H 15 f3 14,.M 2 15]) .ret) .skip)) [3,4] (.seq (.y [.L 16 2 3,.H 17 f3 16,.u 18 (.sop 2 [(.t 17),(.c (.one (.lit (.string ⟨#[47]⟩))))]),.L 19 2 4,.H 20 f3 19,.u 21 (.sop 2 [(.t 18),(.t 20)]),.M 2 21]) .ret))))
end Go.Abs
end
