/-
  Parts of the proof, merged: ChartG, ChartQ, ChartH, ChartR, ChartW, ChartX, ComA, ChartRow, ComB, PoseD, PoseE, PoseT.
-/
import Derived.Test.YtneiiodebbmcaaaGreatDoorM6
set_option linter.unusedVariables false
set_option linter.unusedSimpArgs false
set_option maxRecDepth 100000
section
namespace Go.Num
def sh1(by' : Rat)(a:Q2):List Q2:=
 let f:=frac (a.1+by')
 let t:=f+(a.2-a.1)
 if 1<t then (0,t-1)::(if f<1 then [(f,1)] else []) else (if f<t then [(f,t)] else [])
def shL(by' : Rat)(l:List Q2):List Q2:=l.flatMap (sh1 by')
def lim64(l:List Q2):List Q2:=if 64<l.length then [] else l
def code64(l:List Q2):Nat:=if 64<l.length then 4 else 0
def shOut(l:List Arc)(y:R):List Q2:=if chk [l]=0/\vldR y=true then lim64 (nrm (shL (rv y) (vals l))) else []
def shCode(l:List Arc)(y:R):Nat:=if chk [l]=0 then (if vldR y=true then code64 (nrm (shL (rv y) (vals l))) else 3) else chk [l]
end Go.Num
namespace Go.Abs
open Go.Num
variable {P:Program} {Γ:Nat->Spec}
def QX(tE m:Nat)(l:List AV)(K:AV->Prop):Prop:=
 match l with
 | [a,b]=>onAs (λl=>onR (λy=>(chk [l]=0->2*l.length<=m)/\okAs 10000000 l/\rl y<=10000000/\K (.tup [.one (.slice (((shOut l y).map acan).map aC)),errV tE (shCode l y)])) b) a
 | _=>False
theorem Z0 tE m a b K:QX tE m [a,b] K=(onAs (λl=>onR (λy=>(chk [l]=0->2*l.length<=m)/\okAs 10000000 l/\rl y<=10000000/\K (.tup [.one (.slice (((shOut l y).map acan).map aC)),errV tE (shCode l y)])) b) a):=propext Iff.rfl
@[congr] theorem xbF tE m{K}{l l'}(h:l=l'):QX tE m l K=QX tE m l' K:=by subst h;rfl
attribute [go_sem,go_sem ↓] Z0
end Go.Abs
end
section
namespace Go.Num
end Go.Num
end
section
namespace Go.Num
end Go.Num
namespace Go.Abs
open Go.Num
variable {P:Program} {Γ:Nat->Spec}
theorem Zbi(k:List Arc->Prop)(x y:R):onAs k (.one (.slice [[cb x,cn x,cd x,cb y,cn y,cd y]]))=((∀z∈[(x,y)],WLA z)/\k [(x,y)]):=jO k [(x,y)]
theorem xbk(k:List Arc->Prop)(x y x' y' : R):onAs k (.one (.slice [[cb x,cn x,cd x,cb y,cn y,cd y],[cb x',cn x',cd x',cb y',cn y',cd y']]))=((∀z∈[(x,y),(x',y')],WLA z)/\k [(x,y),(x',y')]):=jO k [(x,y),(x',y')]
theorem vaP(k:List Arc->Prop)(x:Arc):onAs k (.one (.slice [aC x]))=((∀z∈[x],WLA z)/\k [x]):=jO k [x]
theorem ya0(k:List Arc->Prop)(x y:Arc):onAs k (.one (.slice [aC x,aC y]))=((∀z∈[x,y],WLA z)/\k [x,y]):=jO k [x,y]
theorem qa0(k:List Arc->Prop)(y x' y' : R):onAs k (.one (.slice [[.lit (.bool false),.slice [],.slice [],cb y,cn y,cd y],[cb x',cn x',cd x',cb y',cn y',cd y']]))=((∀z∈[(rcan 0,y),(x',y')],WLA z)/\k [(rcan 0,y),(x',y')]):=by
 rw [Yb];exact jO k [((false,[],[]),y),(x',y')]
attribute [go_sem,go_sem ↓] Zbi xbk vaP ya0 qa0
def yV(l:List AV)(K:AV->Prop):Prop:=
 match l with
 | []=>K (.one (.lit (.bool true)))
 | _=>False
theorem V3 K:yV [] K=(K (.one (.lit (.bool true)))):=propext Iff.rfl
@[congr] theorem YbC{K}{l l'}(h:l=l'):yV l K=yV l' K:=by subst h;rfl
attribute [go_sem,go_sem ↓] V3
end Go.Abs
end
section
namespace Go.Num
instance(x:Rat)(a:Q2):Decidable (mem x a):=by unfold mem;infer_instance
instance(x:Rat)(l:List Q2):Decidable (memL x l):=by unfold memL;infer_instance
end Go.Num
end
section
namespace Go.Num
def not1(f t:Rat):List Q2:=if f<t then [(f,t)] else []
def notGo:Rat->List Q2->List Q2
 | f,[]=>not1 f 1
 | f,a::l=>not1 f a.1++notGo a.2 l
def notL(l:List Q2):List Q2:=notGo 0 l
def meet1(x y:Q2):List Q2:=not1 (mxQ x.1 y.1) (mnQ x.2 y.2)
def meetL(a b:List Q2):List Q2:=a.flatMap λx=>b.flatMap λy=>meet1 x y
end Go.Num
namespace Go.Abs
open Go.Num
variable {P:Program} {Γ:Nat->Spec}
def qaU(l:List AV)(K:AV->Prop):Prop:=
 match l with
 | [a]=>onAs (λl=>l.length<=1000/\okAs 1000000000 l/\K (.one (.slice (((notL (vals l)).map acan).map aC)))) a
 | _=>False
theorem vaX a K:qaU [a] K=(onAs (λl=>l.length<=1000/\okAs 1000000000 l/\K (.one (.slice (((notL (vals l)).map acan).map aC)))) a):=propext Iff.rfl
@[congr] theorem vbZ{K}{l l'}(h:l=l'):qaU l K=qaU l' K:=by subst h;rfl
attribute [go_sem,go_sem ↓] vaX
def Jah(l:List AV)(K:AV->Prop):Prop:=
 match l with
 | [a,b]=>onAs (λl=>onAs (λm=>l.length<=1000/\m.length<=1000/\okAs 1000000000 l/\okAs 1000000000 m/\K (.one (.slice (((meetL (vals l) (vals m)).map acan).map aC)))) b) a
 | _=>False
theorem Vao a b K:Jah [a,b] K=(onAs (λl=>onAs (λm=>l.length<=1000/\m.length<=1000/\okAs 1000000000 l/\okAs 1000000000 m/\K (.one (.slice (((meetL (vals l) (vals m)).map acan).map aC)))) b) a):=propext Iff.rfl
@[congr] theorem JbP{K}{l l'}(h:l=l'):Jah l K=Jah l' K:=by subst h;rfl
attribute [go_sem,go_sem ↓] Vao
end Go.Abs
end
section
namespace Go.Num
def res(c:Nat)(L:List Q2):List Q2:=if c=0 then lim64 L else []
def cod(c:Nat)(L:List Q2):Nat:=if c=0 then code64 L else c
end Go.Num
namespace Go.Abs
open Go.Num
variable {P:Program} {Γ:Nat->Spec}
def XV(tE m:Nat)(l:List AV)(K:AV->Prop):Prop:=
 match l with
 | [a,b]=>onAs (λl=>onAs (λk=>(chk [l,k]=0->l.length+k.length<=m)/\okAs 10000000 l/\okAs 10000000 k/\K (.tup [.one (.slice (((res (chk [l,k]) (nrm (vals l++vals k))).map acan).map aC)),errV tE (cod (chk [l,k]) (nrm (vals l++vals k)))])) b) a
 | _=>False
theorem V8 tE m a b K:XV tE m [a,b] K=(onAs (λl=>onAs (λk=>(chk [l,k]=0->l.length+k.length<=m)/\okAs 10000000 l/\okAs 10000000 k/\K (.tup [.one (.slice (((res (chk [l,k]) (nrm (vals l++vals k))).map acan).map aC)),errV tE (cod (chk [l,k]) (nrm (vals l++vals k)))])) b) a):=propext Iff.rfl
@[congr] theorem qbI tE m{K}{l l'}(h:l=l'):XV tE m l K=XV tE m l' K:=by subst h;rfl
attribute [go_sem,go_sem ↓] V8
def zai(tE m:Nat)(l:List AV)(K:AV->Prop):Prop:=
 match l with
 | [a,b]=>onAs (λl=>onAs (λk=>(chk [l,k]=0->l.length<=m/\k.length<=m)/\okAs 10000000 l/\okAs 10000000 k/\K (.tup [.one (.slice (((res (chk [l,k]) (meetL (nrm (vals l)) (nrm (vals k)))).map acan).map aC)),errV tE (cod (chk [l,k]) (meetL (nrm (vals l)) (nrm (vals k))))])) b) a
 | _=>False
theorem Xax tE m a b K:zai tE m [a,b] K=(onAs (λl=>onAs (λk=>(chk [l,k]=0->l.length<=m/\k.length<=m)/\okAs 10000000 l/\okAs 10000000 k/\K (.tup [.one (.slice (((res (chk [l,k]) (meetL (nrm (vals l)) (nrm (vals k)))).map acan).map aC)),errV tE (cod (chk [l,k]) (meetL (nrm (vals l)) (nrm (vals k))))])) b) a):=propext Iff.rfl
@[congr] theorem QbP tE m{K}{l l'}(h:l=l'):zai tE m l K=zai tE m l' K:=by subst h;rfl
attribute [go_sem,go_sem ↓] Xax
def kaT(tE m:Nat)(l:List AV)(K:AV->Prop):Prop:=
 match l with
 | [a]=>onAs (λl=>(chk [l]=0->l.length<=m)/\okAs 10000000 l/\K (.tup [.one (.slice (((res (chk [l]) (notL (nrm (vals l)))).map acan).map aC)),errV tE (cod (chk [l]) (notL (nrm (vals l))))])) a
 | _=>False
theorem XaW tE m a K:kaT tE m [a] K=(onAs (λl=>(chk [l]=0->l.length<=m)/\okAs 10000000 l/\K (.tup [.one (.slice (((res (chk [l]) (notL (nrm (vals l)))).map acan).map aC)),errV tE (cod (chk [l]) (notL (nrm (vals l))))])) a):=propext Iff.rfl
@[congr] theorem XbT tE m{K}{l l'}(h:l=l'):kaT tE m l K=kaT tE m l' K:=by subst h;rfl
attribute [go_sem,go_sem ↓] XaW
end Go.Abs
end
section
namespace Go.Abs
open Go.Num
variable {P:Program} {Γ:Nat->Spec}
def uU(tE:Nat)(l:List AV)(K:AV->Prop):Prop:=
 match l with
 | [a,e,b,n]=>onAs (λl=>onErr tE (λc=>onAs (λm=>asInt (λk n=>k=.i64/\okAs 1073741824 l/\okAs 1073741824 m/\K (.one (.lit (.bool (decide ((c:Int)=n) && decide (vals l=vals m)))))) n) b) e) a
 | _=>False
theorem Jaf tE a e b n K:uU tE [a,e,b,n] K=(onAs (λl=>onErr tE (λc=>onAs (λm=>asInt (λk n=>k=.i64/\okAs 1073741824 l/\okAs 1073741824 m/\K (.one (.lit (.bool (decide ((c:Int)=n) && decide (vals l=vals m)))))) n) b) e) a):=propext Iff.rfl
@[congr] theorem wbI tE{K}{l l'}(h:l=l'):uU tE l K=uU tE l' K:=by subst h;rfl
attribute [go_sem,go_sem ↓] Jaf
def Xa9(l:List AV)(K:AV->Prop):Prop:=
 match l with
 | [a,b]=>onAs (λl=>onR (λy=>okAs 1073741824 l/\rl y<=1073741824/\K (.one (.lit (.bool (l.any (inA (rv y))))))) b) a
 | _=>False
theorem qa1 a b K:Xa9 [a,b] K=(onAs (λl=>onR (λy=>okAs 1073741824 l/\rl y<=1073741824/\K (.one (.lit (.bool (l.any (inA (rv y))))))) b) a):=propext Iff.rfl
@[congr] theorem VbY{K}{l l'}(h:l=l'):Xa9 l K=Xa9 l' K:=by subst h;rfl
attribute [go_sem,go_sem ↓] qa1
def vX(l:List AV)(K:AV->Prop):Prop:=
 match l with
 | [a,b]=>onL (λL=>onR (λy=>(∀l∈L,okAs 1073741824 l)/\rl y<=1073741824/\L.length<=1000000/\K (.one (.lit (.int .i64 (L.countP (λl=>l.any (inA (rv y))):Nat))))) b) a
 | _=>False
theorem Q7 a b K:vX [a,b] K=(onL (λL=>onR (λy=>(∀l∈L,okAs 1073741824 l)/\rl y<=1073741824/\L.length<=1000000/\K (.one (.lit (.int .i64 (L.countP (λl=>l.any (inA (rv y))):Nat))))) b) a):=propext Iff.rfl
@[congr] theorem WbM{K}{l l'}(h:l=l'):vX l K=vX l' K:=by subst h;rfl
attribute [go_sem,go_sem ↓] Q7
end Go.Abs
end
section
namespace Go.Abs
open Go.Num
def rC(x:R):List C:=[cb x,cn x,cd x]
theorem jac(x:R):rC x=[cb x,cn x,cd x]:=eq_of_heq (HEq.refl _)
theorem wbo(x:R):(rC x).length=3:=eq_of_heq (HEq.refl _)
theorem Wa6(K:List C->Prop)(L:List R)(i:Nat):getE K (L.map rC) i=(i<L.length/\K (rC (L.getD i (rcan 0)))):=by
 simp only [getE,List.length_map,List.getElem?_map];refine propext ⟨λh=>⟨h.1,h.2 _ (by simp [h.1,List.getD_eq_getElem?_getD])⟩,λh=>⟨h.1,λe he=>?_⟩⟩
 simp [h.1]at he;subst he;have:=h.2;simpa [List.getD_eq_getElem?_getD,h.1] using this
theorem qG(l:List R):CleanR (l.map rC)=True:=eq_true λe he c hc=>by
 obtain⟨x,_,rfl⟩:=List.mem_map.1 he;exact yaF x c hc
theorem qbl(L:List R):(∀e∈L.map rC,e.length=3)=True:=eq_true λe he=>by
 obtain⟨l,_,rfl⟩:=List.mem_map.1 he;rfl
theorem zaV(h:Nat->HB)(L:List R):(L.map rC).map (λx=>x.map (datC h))=L.map rC:=by
 rw [List.map_map];exact List.map_congr_left λx _=>rfl
theorem Xa4(L:List R):(L.map rC).flatMap (λx=>x.flatMap ownC)=[]:=by
 rw [List.flatMap_map];exact List.flatMap_eq_nil_iff.2 λx _=>rfl
theorem xa0(h:Nat->HB)(L:List (List Arc)):(L.map lC).map (λx=>x.map (datC h))=L.map lC:=by
 rw [List.map_map];exact List.map_congr_left λx _=>rfl
theorem ua1(L:List (List Arc)):(L.map lC).flatMap (λx=>x.flatMap ownC)=[]:=by
 rw [List.flatMap_map];exact List.flatMap_eq_nil_iff.2 λx _=>rfl
theorem WaK(h:Nat->HB):frz [] h=h:=eq_of_heq (HEq.refl _)
attribute [go_sem,go_sem ↓] wbo Wa6 qG qbl zaV Xa4 xa0 ua1 WaK
theorem WQ{h h' : Nat->HB}{z:Nat}{b:Bool}{es:List (List C)}{S:List R}(e:es=S.map rC):okB h h' (some ⟨es,z,b⟩) (some ⟨S.map rC,z,b⟩):=by
 subst e;exact⟨⟨rfl,rfl⟩,.inl ⟨rfl,of_eq_true (qG S)⟩⟩
end Go.Abs
end
section
namespace Go.Num
def posR:List R->Rat->Nat
 | [],_=>0
 | x::l,q=>if rv x<q then posR l q+1 else 0
def insR(l:List R)(y:R):List R:=if (l.drop (posR l (rv y))).head?.map rv=some (rv y) then l else l.take (posR l (rv y))++y::l.drop (posR l (rv y))
def okRs(b:Nat)(l:List R):Prop:=∀x∈l,WLR x/\rl x<=b
def insA(S:List R)(x:Arc):List R:=insR (insR S x.1) x.2
def marksR(L:List (List Arc)):List R:=L.flatten.foldl insA [rcan 0,rcan 1]
end Go.Num
namespace Go.Abs
open Go.Num
variable {P:Program} {Γ:Nat->Spec}
def rsA(l:List R):AV:=.one (.slice (l.map rC))
theorem wbE{x y:R}(h:rC x=rC y):x=y:=Yp x y (by simpa [rC,rA] using h)
theorem vaR(x y:List R)(h:rsA x=rsA y):x=y:=by
 simp only [rsA,AV.one.injEq,C.slice.injEq]at h;exact List.map_inj_right (λ_ _=>wbE) |>.1 h
def onRs(k:List R->Prop)(a:AV):Prop:=onE rsA (λl=>(∀x∈l,WLR x)/\k l) a
@[congr] theorem kb2{k:List R->Prop}{a a'}(h:a=a'):onRs k a=onRs k a':=by subst h;rfl
theorem Xbm(k:List R->Prop)(l:List R):onRs k (.one (.slice (l.map rC)))=((∀x∈l,WLR x)/\k l):=Qn vaR (λl=>(∀x∈l,WLR x)/\k l) l
theorem YbD{β:Type}{T:List R->(β->Prop)->Prop}(h:∀l,GoodT (T l)){a:AV}:GoodT λK=>onRs (λl=>T l K) a:=
 JD (e:=rsA) (T:=λl K=>(∀x∈l,WLR x)/\T l K) vaR λl=>GoodT.and (c:=∀x∈l,WLR x) (T:=T l) λ_=>h l
theorem Uav(l:List R):Clean (.slice (l.map rC))=True:=eq_true (.slice _ (of_eq_true (qG l)))
theorem ybt(l:List R)(n:Nat):(l.map rC).take n=(l.take n).map rC:=by rw [List.map_take]
theorem Ybu(l:List R)(n:Nat):(l.map rC).drop n=(l.drop n).map rC:=by rw [List.map_drop]
theorem vbk(l:List R):rsA l=.one (.slice (l.map rC)):=eq_of_heq (HEq.refl _)
attribute [go_sem] Xbm Uav vbk ybt Ybu
attribute [go_sem ↓] Xbm Uav vbk
def zW(l:List AV)(K:AV->Prop):Prop:=
 match l with
 | [a]=>onL (λL=>(∀l∈L,okAs 1073741824 l)/\L.flatten.length<=100000/\K (.one (.slice ((marksR L).map rC)))) a
 | _=>False
theorem W0 a K:zW [a] K=(onL (λL=>(∀l∈L,okAs 1073741824 l)/\L.flatten.length<=100000/\K (.one (.slice ((marksR L).map rC)))) a):=propext Iff.rfl
@[congr] theorem wbJ{K}{l l'}(h:l=l'):zW l K=zW l' K:=by subst h;rfl
attribute [go_sem,go_sem ↓] W0
def uJ(l:List AV)(K:AV->Prop):Prop:=
 match l with
 | [a,b]=>onRs (λl=>onR (λy=>okRs 1073741824 l/\rl y<=1073741824/\l.length<=1000000/\K (.one (.slice ((insR l y).map rC)))) b) a
 | _=>False
theorem kQ a b K:uJ [a,b] K=(onRs (λl=>onR (λy=>okRs 1073741824 l/\rl y<=1073741824/\l.length<=1000000/\K (.one (.slice ((insR l y).map rC)))) b) a):=propext Iff.rfl
@[congr] theorem Wbz{K}{l l'}(h:l=l'):uJ l K=uJ l' K:=by subst h;rfl
attribute [go_sem,go_sem ↓] kQ
end Go.Abs
end
section
namespace Go.Num
open Go.Abs
theorem JaO{α:Type}{f:α->Bool}{l:List α}{k:Nat}{x:α}(h:l[k]?=some x)(hb:f x=false):l.all f=false:=by
 rw [List.all_eq_false];exact⟨x,List.mem_of_getElem? h,by simp [hb]⟩
theorem qC{α:Type}{f:α->Bool}{l:List α}{k:Nat}{x:α}(h:l[k]?=some x)(ht:(l.take k).all f=true)(hb:f x=true):(l.take (k+1)).all f=true:=by
 rw [List.take_add_one,h,List.all_append,ht];simp [hb]
theorem Xu{α:Type}{l:List α}{k:Nat}{x d:α}(hk:k<l.length)(h:l.getD k d=x):l[k]?=some x:=by
 rw [<-h,List.getD_eq_getElem?_getD,List.getElem?_eq_getElem hk];rfl
def sR(n:Nat)(x:R):Bool:=decide (x.2.1.length<=n) && decide (x.2.2.length<=n)
def sP(p:Ps):Bool:=sR 2 p.1.1 && (sR 2 p.2.1 && sR 2 p.2.2)
def sA(p:Arc):Bool:=sR 2 p.1 && sR 2 p.2
def placeC(l:List Arc):Nat:=if l.all avld then 0 else 2
def chkC(l:List Ps)(m:List Arc):Nat:=if threeC l≠0 then threeC l else placeC m
theorem ja2{n:Nat}{x:R}(h:sR n x=true):rl x<=n:=by
 simp only [sR,Bool.and_eq_true,decide_eq_true_eq]at h;exact Nat.max_le.2 h
end Go.Num
namespace Go.Abs
open Go.Num
variable {P:Program} {Γ:Nat->Spec}
def qsA(l:List V2):AV:=.one (.slice ((l.map acan).map aC))
theorem uaV(l:List V2):qsA l=.one (.slice ((l.map acan).map aC)):=eq_of_heq (HEq.refl _)
theorem ZaZ(k:List Arc->Prop)(a b c d e f:C):onAs k (.one (.slice [[a,b,c,d,e,f]]))=onO (λx=>onO (λy=>WLA (x,y)/\k [(x,y)]) (dR d e f)) (dR a b c):=by
 refine propext ⟨λ⟨t,h,h1⟩=>?_,λh=>?_⟩
 .simp only [asA,as,AV.one.injEq,C.slice.injEq]at h;match t,h with
  | [z],h=>
   simp only [List.map_cons,List.map_nil,aC,List.cons.injEq,and_true]at h;obtain⟨rfl,rfl,rfl,rfl,rfl,rfl⟩:=h;simp only [dR_e,qN];exact⟨h1.1 _ (by simp),h1.2⟩
 .obtain⟨x,h1,q1⟩:=Qc.1 h;obtain⟨y,h2,q2⟩:=Qc.1 q1;obtain⟨rfl,rfl,rfl⟩:=Jc.1 h1;obtain⟨rfl,rfl,rfl⟩:=Jc.1 h2;exact⟨[(x,y)],rfl,λz hz=>by rw [List.mem_singleton.1 hz];exact q2.1,q2.2⟩
theorem waX(k:List Arc->Prop)(a b c d e f a' b' c' d' e' f' : C):onAs k (.one (.slice [[a,b,c,d,e,f],[a',b',c',d',e',f']]))=onO (λx=>onO (λy=>onO (λz=>onO (λw=>WLA (x,y)/\WLA (z,w)/\k [(x,y),(z,w)]) (dR d' e' f')) (dR a' b' c')) (dR d e f)) (dR a b c):=by
 refine propext ⟨λ⟨t,h,h1⟩=>?_,λh=>?_⟩
 .simp only [asA,as,AV.one.injEq,C.slice.injEq]at h;match t,h with
  | [z,w],h=>
   simp only [List.map_cons,List.map_nil,aC,List.cons.injEq,and_true]at h;obtain⟨⟨rfl,rfl,rfl,rfl,rfl,rfl⟩,rfl,rfl,rfl,rfl,rfl,rfl⟩:=h;simp only [dR_e,qN];exact⟨h1.1 _ (by simp),h1.1 _ (by simp),h1.2⟩
 .obtain⟨x,h1,q1⟩:=Qc.1 h;obtain⟨y,h2,q2⟩:=Qc.1 q1;obtain⟨z,h3,q3⟩:=Qc.1 q2;obtain⟨w,h4,q4⟩:=Qc.1 q3;obtain⟨rfl,rfl,rfl⟩:=Jc.1 h1;obtain⟨rfl,rfl,rfl⟩:=Jc.1 h2;obtain⟨rfl,rfl,rfl⟩:=Jc.1 h3;obtain⟨rfl,rfl,rfl⟩:=Jc.1 h4;refine⟨[(x,y),(z,w)],rfl,λv hv=>?_,q4.2.2⟩;simp only [List.mem_cons,List.not_mem_nil,or_false]at hv;rcases hv with rfl | rfl
  .exact q4.1
  .exact q4.2.1
theorem Ybm(k:List R->Prop)(a b c d e f g h i:C):onRs k (.one (.slice [[a,b,c],[d,e,f],[g,h,i]]))=onO (λx=>onO (λy=>onO (λz=>(WLR x/\WLR y/\WLR z)/\k [x,y,z]) (dR g h i)) (dR d e f)) (dR a b c):=by
 refine propext ⟨λ⟨t,h,h1⟩=>?_,λh=>?_⟩
 .simp only [rsA,AV.one.injEq,C.slice.injEq]at h;match t,h with
  | [x,y,z],h=>
   simp only [List.map_cons,List.map_nil,rC,List.cons.injEq,and_true]at h;obtain⟨⟨rfl,rfl,rfl⟩,⟨rfl,rfl,rfl⟩,rfl,rfl,rfl⟩:=h;simp only [dR_e,qN];exact⟨⟨h1.1 _ (by simp),h1.1 _ (by simp),h1.1 _ (by simp)⟩,h1.2⟩
 .obtain⟨x,h1,q1⟩:=Qc.1 h;obtain⟨y,h2,q2⟩:=Qc.1 q1;obtain⟨z,h3,q3⟩:=Qc.1 q2;obtain⟨rfl,rfl,rfl⟩:=Jc.1 h1;obtain⟨rfl,rfl,rfl⟩:=Jc.1 h2;obtain⟨rfl,rfl,rfl⟩:=Jc.1 h3;refine⟨[x,y,z],rfl,λv hv=>?_,q3.2⟩;simp only [List.mem_cons,List.not_mem_nil,or_false]at hv;rcases hv with rfl | rfl | rfl
  .exact q3.1.1
  .exact q3.1.2.1
  .exact q3.1.2.2
theorem Qbh(k:List R->Prop)(a b c d e f g h i j l m n o p:C):onRs k (.one (.slice [[a,b,c],[d,e,f],[g,h,i],[j,l,m],[n,o,p]]))=onO (λx=>onO (λy=>onO (λz=>onO (λu=>onO (λv=>(WLR x/\WLR y/\WLR z/\WLR u/\WLR v)/\k [x,y,z,u,v]) (dR n o p)) (dR j l m)) (dR g h i)) (dR d e f)) (dR a b c):=by
 refine propext ⟨λ⟨t,h,h1⟩=>?_,λh=>?_⟩
 .simp only [rsA,AV.one.injEq,C.slice.injEq]at h;match t,h with
  | [x,y,z,u,v],h=>
   simp only [List.map_cons,List.map_nil,rC,List.cons.injEq,and_true]at h;obtain⟨⟨rfl,rfl,rfl⟩,⟨rfl,rfl,rfl⟩,⟨rfl,rfl,rfl⟩,⟨rfl,rfl,rfl⟩,rfl,rfl,rfl⟩:=h;simp only [dR_e,qN];exact⟨⟨h1.1 _ (by simp),h1.1 _ (by simp),h1.1 _ (by simp),h1.1 _ (by simp),h1.1 _ (by simp)⟩,h1.2⟩
 .obtain⟨x,h1,q1⟩:=Qc.1 h;obtain⟨y,h2,q2⟩:=Qc.1 q1;obtain⟨z,h3,q3⟩:=Qc.1 q2;obtain⟨u,h4,q4⟩:=Qc.1 q3;obtain⟨v,h5,q5⟩:=Qc.1 q4;obtain⟨rfl,rfl,rfl⟩:=Jc.1 h1;obtain⟨rfl,rfl,rfl⟩:=Jc.1 h2;obtain⟨rfl,rfl,rfl⟩:=Jc.1 h3;obtain⟨rfl,rfl,rfl⟩:=Jc.1 h4;obtain⟨rfl,rfl,rfl⟩:=Jc.1 h5;refine⟨[x,y,z,u,v],rfl,λw hw=>?_,q5.2⟩;obtain⟨w1,w2,w3,w4,w5⟩:=q5.1;simp only [List.mem_cons,List.not_mem_nil,or_false]at hw;rcases hw with rfl | rfl | rfl | rfl | rfl <;> assumption
attribute [go_sem,go_sem ↓] ZaZ waX Ybm Qbh uaV
def UD(tE:Nat)(l:List AV)(K:AV->Prop):Prop:=
 match l with
 | [a]=>onPs (λl=>okPs 100000000 l/\K (errV tE (if l.all pvld=true then 0 else 2))) a
 | _=>False
theorem QaM tE a K:UD tE [a] K=(onPs (λl=>okPs 100000000 l/\K (errV tE (if l.all pvld=true then 0 else 2))) a):=propext Iff.rfl
@[congr] theorem QbZ tE{K}{l l'}(h:l=l'):UD tE l K=UD tE l' K:=by subst h;rfl
attribute [go_sem,go_sem ↓] QaM
theorem Ya4(tE:Nat):Good (UD tE):=Ya λas=>by
 unfold UD;split
 .exact(VB λ_=>(.and λ_=>(.ret _)))
 .exact .of λK hk=>hk.elim
def XF(tE:Nat)(l:List AV)(K:AV->Prop):Prop:=
 match l with
 | [a]=>onPs (λl=>okPs 100000000 l/\K (errV tE (plchk l))) a
 | _=>False
theorem uaQ tE a K:XF tE [a] K=(onPs (λl=>okPs 100000000 l/\K (errV tE (plchk l))) a):=propext Iff.rfl
@[congr] theorem UbU tE{K}{l l'}(h:l=l'):XF tE l K=XF tE l' K:=by subst h;rfl
attribute [go_sem,go_sem ↓] uaQ
theorem QaS(tE:Nat):Good (XF tE):=Ya λas=>by
 unfold XF;split
 .exact(VB λ_=>(.and λ_=>(.ret _)))
 .exact .of λK hk=>hk.elim
def waj(l:List AV)(K:AV->Prop):Prop:=
 match l with
 | [a]=>onPs (λl=>okPs 100000000 l/\K (.one (.lit (.int .i64 (plchk l:Nat))))) a
 | _=>False
theorem qau a K:waj [a] K=(onPs (λl=>okPs 100000000 l/\K (.one (.lit (.int .i64 (plchk l:Nat))))) a):=propext Iff.rfl
@[congr] theorem XbN{K}{l l'}(h:l=l'):waj l K=waj l' K:=by subst h;rfl
attribute [go_sem,go_sem ↓] qau
def vY(l:List AV)(K:AV->Prop):Prop:=
 match l with
 | [a]=>onPs (λl=>okPs 100000000 l/\K (.one (.lit (.int .i64 (threeC l:Nat))))) a
 | _=>False
theorem jaa a K:vY [a] K=(onPs (λl=>okPs 100000000 l/\K (.one (.lit (.int .i64 (threeC l:Nat))))) a):=propext Iff.rfl
@[congr] theorem VbB{K}{l l'}(h:l=l'):vY l K=vY l' K:=by subst h;rfl
attribute [go_sem,go_sem ↓] jaa
def uaj(tE:Nat)(l:List AV)(K:AV->Prop):Prop:=
 match l with
 | [a,b]=>onPs (λl=>onA (λq=>okPs 1000000 l/\al q<=1000000/\l.length<=100000/\K (.tup [qsA (if imgC l q=0 then imgs l q else []),errV tE (imgC l q)])) b) a
 | _=>False
theorem Waw tE a b K:uaj tE [a,b] K=(onPs (λl=>onA (λq=>okPs 1000000 l/\al q<=1000000/\l.length<=100000/\K (.tup [qsA (if imgC l q=0 then imgs l q else []),errV tE (imgC l q)])) b) a):=propext Iff.rfl
@[congr] theorem wbO tE{K}{l l'}(h:l=l'):uaj tE l K=uaj tE l' K:=by subst h;rfl
attribute [go_sem,go_sem ↓] Waw
def JM(l:List AV)(K:AV->Prop):Prop:=
 match l with
 | [a,b]=>onPs (λl=>onA (λq=>okPs 1000000 l/\al q<=1000000/\l.length<=100000/\K (qsA (imgs l q))) b) a
 | _=>False
theorem QR a b K:JM [a,b] K=(onPs (λl=>onA (λq=>okPs 1000000 l/\al q<=1000000/\l.length<=100000/\K (qsA (imgs l q))) b) a):=propext Iff.rfl
@[congr] theorem Vbz{K}{l l'}(h:l=l'):JM l K=JM l' K:=by subst h;rfl
attribute [go_sem,go_sem ↓] QR
def qq(l:List AV)(K:AV->Prop):Prop:=
 match l with
 | [a]=>onPs (λl=>okPs 4294967296 l/\K (.one (.lit (.bool (l.all sP))))) a
 | _=>False
theorem yae a K:qq [a] K=(onPs (λl=>okPs 4294967296 l/\K (.one (.lit (.bool (l.all sP))))) a):=propext Iff.rfl
@[congr] theorem xbD{K}{l l'}(h:l=l'):qq l K=qq l' K:=by subst h;rfl
attribute [go_sem,go_sem ↓] yae
theorem yal:Good qq:=Ya λas=>by
 unfold qq;split
 .exact(VB λ_=>(.and λ_=>(.ret _)))
 .exact .of λK hk=>hk.elim
def jq(l:List AV)(K:AV->Prop):Prop:=
 match l with
 | [a]=>onAs (λl=>okAs 4294967296 l/\K (.one (.lit (.bool (l.all sA))))) a
 | _=>False
theorem W8 a K:jq [a] K=(onAs (λl=>okAs 4294967296 l/\K (.one (.lit (.bool (l.all sA))))) a):=propext Iff.rfl
@[congr] theorem ybM{K}{l l'}(h:l=l'):jq l K=jq l' K:=by subst h;rfl
attribute [go_sem,go_sem ↓] W8
theorem Yaf:Good jq:=Ya λas=>by
 unfold jq;split
 .exact(VbJ λ_=>(.and λ_=>(.ret _)))
 .exact .of λK hk=>hk.elim
def Yr(l:List AV)(K:AV->Prop):Prop:=
 match l with
 | [a]=>onPs (λl=>okPs 4294967296 l/\K (.one (.lit (.bool (decide (l.length<=20) && l.all sP))))) a
 | _=>False
theorem xaa a K:Yr [a] K=(onPs (λl=>okPs 4294967296 l/\K (.one (.lit (.bool (decide (l.length<=20) && l.all sP))))) a):=propext Iff.rfl
@[congr] theorem ybD{K}{l l'}(h:l=l'):Yr l K=Yr l' K:=by subst h;rfl
attribute [go_sem,go_sem ↓] xaa
theorem Uaf:Good Yr:=Ya λas=>by
 unfold Yr;split
 .exact(VB λ_=>(.and λ_=>(.ret _)))
 .exact .of λK hk=>hk.elim
def Wah(tE:Nat)(l:List AV)(K:AV->Prop):Prop:=
 match l with
 | [a,b]=>onPs (λl=>onAs (λm=>okPs 100000000 l/\okAs 100000000 m/\K (errV tE (chkC l m))) b) a
 | _=>False
theorem Jay tE a b K:Wah tE [a,b] K=(onPs (λl=>onAs (λm=>okPs 100000000 l/\okAs 100000000 m/\K (errV tE (chkC l m))) b) a):=propext Iff.rfl
@[congr] theorem zbP tE{K}{l l'}(h:l=l'):Wah tE l K=Wah tE l' K:=by subst h;rfl
attribute [go_sem,go_sem ↓] Jay
def jal(l:List AV)(K:AV->Prop):Prop:=
 match l with
 | [a,b]=>onRs (λl=>onRs (λm=>okRs 4294967296 l/\K (.one (.lit (.bool (decide (l=m)))))) b) a
 | _=>False
theorem VaC a b K:jal [a,b] K=(onRs (λl=>onRs (λm=>okRs 4294967296 l/\K (.one (.lit (.bool (decide (l=m)))))) b) a):=propext Iff.rfl
@[congr] theorem YbO{K}{l l'}(h:l=l'):jal l K=jal l' K:=by subst h;rfl
attribute [go_sem,go_sem ↓] VaC
def Uv(f0 tE:Nat):AC:=(.seq (.ops false [.m 2 (.c (.one (.lit .nilIface)))])
 (.fg [0] (.seq (.seq (.ops false [.m 5 (.t 0),.u 6 (.len (.t 5)),.m 7 (.i 0)])
 (.fg [5,6,7] (.block 0 (.loop (.seq (.ops false [.u 8 (.bin .lss (.t 7) (.t 6))])
 (.fg [5,6,7,8] (.seq (.cond (.t 8) .skip (.exit 0))
 (.fg [5,6,7] (.seq (.block 1 (.seq (.ops false [.u 9 (.idx 10 (.t 5) (.t 7)),.u 10 (.ld none 10 true (.t 9)),.u 4 (.alloc [(.lit (.bool false)),.emp,.emp,(.lit (.bool false)),(.lit (.bool false)),.emp,.emp,(.lit (.bool false)),.emp,.emp]),.n (.st none 10 (.t 4) (.t 10))])
 (.fg [4,5,6,7] (.seq (.ops false [.u 11 (.ld none 10 true (.t 4)),.u 12 (.call f0 [(.t 11)]),.u 13 (.un .not (.t 12))])
 (.fg [5,6,7,13] (.cond (.t 13) (.seq (.ops false [.u 14 (.iface tE (.i 2)),.m 2 (.t 14)])
 .ret) .skip))))))
 (.fg [5,6,7] (.ops false [.u 15 (.bin .add (.t 7) (.i 1)),.m 7 (.t 15)])))))))))))
 (.fg [] (.seq (.ops false [.m 2 (.c (.one (.lit .nilIface)))])
 .ret)))))
def Jv(f0 tE:Nat):AC:=(.seq (.ops false [.m 2 (.c (.one (.lit .nilIface)))])
 (.fg [0] (.seq (.seq (.ops false [.m 3 (.t 0),.u 4 (.len (.t 3)),.u 5 (.bin .lss (.t 4) (.i 2))])
 (.fg [0,5] (.cond (.t 5) (.seq (.ops false [.u 6 (.iface tE (.i 10)),.m 2 (.t 6)])
 .ret) .skip)))
 (.fg [0] (.seq (.seq (.ops false [.m 7 (.t 0),.u 8 (.len (.t 7)),.u 9 (.bin .gtr (.t 8) (.i 5))])
 (.fg [0,9] (.cond (.t 9) (.seq (.ops false [.u 10 (.iface tE (.i 4)),.m 2 (.t 10)])
 .ret) .skip)))
 (.fg [0] (.seq (.ops false [.m 11 (.t 0),.u 12 (.call f0 [(.t 11)]),.m 2 (.t 12)])
 .ret)))))))
def yg:AC:=(.seq (.ops false [.m 2 .fa])
 (.fg [0] (.seq (.seq (.ops false [.m 7 (.t 0),.u 8 (.len (.t 7)),.m 9 (.i 0)])
 (.fg [7,8,9] (.block 0 (.loop (.seq (.ops false [.u 10 (.bin .lss (.t 9) (.t 8))])
 (.fg [7,8,9,10] (.seq (.cond (.t 10) .skip (.exit 0))
 (.fg [7,8,9] (.seq (.block 1 (.seq (.ops false [.u 11 (.idx 10 (.t 7) (.t 9)),.u 12 (.ld none 10 true (.t 11)),.u 4 (.alloc [(.lit (.bool false)),.emp,.emp,(.lit (.bool false)),(.lit (.bool false)),.emp,.emp,(.lit (.bool false)),.emp,.emp]),.n (.st none 10 (.t 4) (.t 12))])
 (.fg [4,7,8,9] (.seq (.ops false [.u 13 (.fa 0 (.t 4)),.u 14 (.fa 0 (.t 13)),.u 15 (.ld none 3 true (.t 14)),.u 16 (.fa 4 (.t 4)),.u 17 (.fa 0 (.t 16)),.u 18 (.ld none 3 true (.t 17)),.u 19 (.fa 4 (.t 4)),.u 20 (.fa 3 (.t 19)),.u 21 (.ld none 3 true (.t 20)),.u 22 (.row 3 [[.x 3 (.t 15)],[.x 3 (.t 18)],[.x 3 (.t 21)]]),.u 23 (.len (.t 22)),.m 24 (.i 0)])
 (.fg [7,8,9,22,23,24] (.block 2 (.loop (.seq (.ops false [.u 25 (.bin .lss (.t 24) (.t 23))])
 (.fg [7,8,9,22,23,24,25] (.seq (.cond (.t 25) .skip (.exit 2))
 (.fg [7,8,9,22,23,24] (.seq (.block 3 (.seq (.ops false [.u 26 (.idx 3 (.t 22) (.t 24)),.u 27 (.ld none 3 true (.t 26)),.u 6 (.alloc [(.lit (.bool false)),.emp,.emp]),.n (.st none 3 (.t 6) (.t 27))])
 (.fg [6,7,8,9,22,23,24] (.seq (.ops false [.u 28 (.fa 1 (.t 6)),.u 29 (.ld none 1 false (.t 28)),.u 30 (.len (.t 29)),.u 31 (.bin .gtr (.t 30) (.i 2)),.m 32 (.t 31),.w 33 32 false (.fa 2 (.t 6)),.w 34 32 false (.ld none 1 false (.t 33)),.w 35 32 false (.len (.t 34)),.w 36 32 false (.bin .gtr (.t 35) (.i 2)),.u 37 (.pick (.t 32) .tr (.t 36))])
 (.fg [7,8,9,22,23,24,37] (.cond (.t 37) (.seq (.ops false [.m 2 .fa])
 .ret) .skip))))))
 (.fg [7,8,9,22,23,24] (.ops false [.u 38 (.bin .add (.t 24) (.i 1)),.m 24 (.t 38)]))))))))))))))
 (.fg [7,8,9] (.ops false [.u 39 (.bin .add (.t 9) (.i 1)),.m 9 (.t 39)])))))))))))
 (.fg [] (.seq (.ops false [.m 2 .tr])
 .ret)))))
def qe:AC:=(.seq (.ops false [.m 2 .fa])
 (.fg [0] (.seq (.seq (.ops false [.m 7 (.t 0),.u 8 (.len (.t 7)),.m 9 (.i 0)])
 (.fg [7,8,9] (.block 0 (.loop (.seq (.ops false [.u 10 (.bin .lss (.t 9) (.t 8))])
 (.fg [7,8,9,10] (.seq (.cond (.t 10) .skip (.exit 0))
 (.fg [7,8,9] (.seq (.block 1 (.seq (.ops false [.u 11 (.idx 6 (.t 7) (.t 9)),.u 12 (.ld none 6 true (.t 11)),.u 4 (.alloc [(.lit (.bool false)),.emp,.emp,(.lit (.bool false)),.emp,.emp]),.n (.st none 6 (.t 4) (.t 12))])
 (.fg [4,7,8,9] (.seq (.ops false [.u 13 (.fa 0 (.t 4)),.u 14 (.ld none 3 true (.t 13)),.u 15 (.fa 3 (.t 4)),.u 16 (.ld none 3 true (.t 15)),.u 17 (.row 3 [[.x 3 (.t 14)],[.x 3 (.t 16)]]),.u 18 (.len (.t 17)),.m 19 (.i 0)])
 (.fg [7,8,9,17,18,19] (.block 2 (.loop (.seq (.ops false [.u 20 (.bin .lss (.t 19) (.t 18))])
 (.fg [7,8,9,17,18,19,20] (.seq (.cond (.t 20) .skip (.exit 2))
 (.fg [7,8,9,17,18,19] (.seq (.block 3 (.seq (.ops false [.u 21 (.idx 3 (.t 17) (.t 19)),.u 22 (.ld none 3 true (.t 21)),.u 6 (.alloc [(.lit (.bool false)),.emp,.emp]),.n (.st none 3 (.t 6) (.t 22))])
 (.fg [6,7,8,9,17,18,19] (.seq (.ops false [.u 23 (.fa 1 (.t 6)),.u 24 (.ld none 1 false (.t 23)),.u 25 (.len (.t 24)),.u 26 (.bin .gtr (.t 25) (.i 2)),.m 27 (.t 26),.w 28 27 false (.fa 2 (.t 6)),.w 29 27 false (.ld none 1 false (.t 28)),.w 30 27 false (.len (.t 29)),.w 31 27 false (.bin .gtr (.t 30) (.i 2)),.u 32 (.pick (.t 27) .tr (.t 31))])
 (.fg [7,8,9,17,18,19,32] (.cond (.t 32) (.seq (.ops false [.m 2 .fa])
 .ret) .skip))))))
 (.fg [7,8,9,17,18,19] (.ops false [.u 33 (.bin .add (.t 19) (.i 1)),.m 19 (.t 33)]))))))))))))))
 (.fg [7,8,9] (.ops false [.u 34 (.bin .add (.t 9) (.i 1)),.m 9 (.t 34)])))))))))))
 (.fg [] (.seq (.ops false [.m 2 .tr])
 .ret)))))
def zh(f0:Nat):AC:=(.seq (.ops false [.m 2 .fa])
 (.fg [0] (.seq (.ops false [.m 3 (.t 0),.u 4 (.len (.t 3)),.u 5 (.bin .leq (.t 4) (.i 20)),.m 6 (.t 5),.w 7 6 true (.mv (.t 0)),.w 8 6 true (.call f0 [(.t 7)]),.u 9 (.pick (.t 6) (.t 8) .fa),.m 2 (.t 9)])
 .ret)))
theorem VaH(hΓ:Holds P Γ){f fv tE:Nat}(hv:Γ fv=.dat true Yu)(hc:check P f=some (16,(Uv fv tE).strip,[.tmp 2])):Sound P f (.dat false (UD tE)):=by
 refine Wa hc (Ya4 tE) hΓ (λargs K hcl hfi hG=>?_);match args,hG with
 | [a],hG=>
  obtain⟨l,rfl,hwl,hok,hK⟩:=hG;refine⟨by simp,?_⟩
  simp only [go_sem,Uv,hv];intro _;refine Xa (λk:Nat=>⟨mkV [(5,psA l),(6,.one (.lit (.int .i64 l.length))),(7,.one (.lit (.int .i64 k)))],mkH []⟩) (λk=>k<=l.length/\(l.take k).all pvld=true) (λk=>l.length-k) 0 ?_ ?_ ?_
  .exact Qa (by simp [okS,okV,okC,okL,okH,okB,okE,ja,Va,qa,ka,wsA,ws,psA,psC]) trivial
  .exact⟨Nat.zero_le _,rfl⟩
  .rintro k ⟨hk,hall⟩;by_cases hlt:k<l.length
   .obtain⟨p,hp⟩:∃p,l.getD k p0=p:=⟨_,rfl⟩;have hp0:=Xu hlt hp;obtain⟨hp1,hp2⟩:=hok p (List.mem_of_getElem? hp0);cases hb:pvld p with
    | true=>
     simp only [go_sem,hlt,hp,hv,hb,xa3];exact⟨hp1,hp2,by omega,k+1,Qa (by simp [okS,okV,okC,okL,okH,okB,okE,ja,Va,qa,ka,wsA,ws,psA,psC]) trivial,⟨by omega,qC hp0 hall hb⟩,by omega⟩
    | false=>
     rw [JaO hp0 hb,if_neg (by decide),vc tE (by decide)]at hK
     simp only [go_sem,hlt,hp,hv,hb,xa3];exact⟨hp1,hp2,hK⟩
   .rw [List.take_of_length_le (by omega)]at hall
    rw [hall,if_pos rfl,ub]at hK;simp only [go_sem,hlt];exact hK
theorem xaI(hΓ:Holds P Γ){f fk tE:Nat}(hk:Γ fk=.dat false (UD tE))(hc:check P f=some (13,(Jv fk tE).strip,[.tmp 2])):Sound P f (.dat false (XF tE)):=by
 refine Wa hc (QaS tE) hΓ (λargs K hcl hfi hG=>?_);match args,hG with
 | [a],hG=>
  obtain⟨l,rfl,hwl,hok,hK⟩:=hG;refine⟨by simp,?_⟩
  simp only [go_sem,Jv,hk];unfold plchk at hK;refine λ_=>⟨λh=>?_,λh _=>⟨λh'=>?_,λh'=>⟨hwl,hok,?_⟩⟩⟩
  .rw [if_pos (by omega),vc tE (by decide)]at hK;exact hK
  .rw [if_neg (by omega),if_pos (by omega),vc tE (by decide)]at hK;exact hK
  .rw [if_neg (by omega),if_neg (by omega)]at hK;exact hK
theorem vbJ{b:Nat}{p:Ps}(h:okP b p):rl p.1.1<=b/\al p.2<=b:=⟨Nat.le_trans (Nat.le_max_left _ _) h.2,Nat.le_trans (Nat.le_max_right _ _) h.2⟩
theorem Zac(hΓ:Holds P Γ){f fs:Nat}(hs:Γ fs=.dat true qq)(hc:check P f=some (10,(zh fs).strip,[.tmp 2])):Sound P f (.dat true Yr):=by
 refine Wa hc Uaf hΓ (λargs K hcl hfi hG=>?_);match args,hG with
 | [a],hG=>
  obtain⟨l,rfl,hwl,hok,hK⟩:=hG;refine⟨by simp,?_⟩
  simp only [go_sem,zh,hs];refine λ_=>⟨λh=>⟨hwl,hok,?_⟩,λh=>?_⟩
  .rw [decide_eq_true (by omega:l.length<=20),Bool.true_and]at hK;exact hK
  .rw [decide_eq_false (by omega:¬l.length<=20),Bool.false_and]at hK;exact hK
theorem Q0(hΓ:Holds P Γ){f:Nat}(hc:check P f=some (40,yg.strip,[.tmp 2])):Sound P f (.dat true qq):=by
 refine Wa hc yal hΓ (λargs K hcl hfi hG=>?_);match args,hG with
 | [a],hG=>
  obtain⟨l,rfl,hwl,hok,hK⟩:=hG;refine⟨by simp,?_⟩
  simp only [go_sem,yg];intro _;refine Xa (λk:Nat=>⟨mkV [(7,psA l),(8,.one (.lit (.int .i64 l.length))),(9,.one (.lit (.int .i64 k)))],mkH []⟩) (λk=>k<=l.length/\(l.take k).all sP=true) (λk=>l.length-k) 0 ?_ ?_ ?_
  .exact Qa (by simp [okS,okV,okC,okL,okH,okB,okE,ja,Va,qa,ka,wsA,ws,psA,psC]) trivial
  .exact⟨Nat.zero_le _,rfl⟩
  .rintro k ⟨hk,hall⟩;by_cases hlt:k<l.length
   .obtain⟨p,hp⟩:∃p,l.getD k p0=p:=⟨_,rfl⟩;have hp0:=Xu hlt hp;obtain⟨hp1,hp2⟩:=hok p (List.mem_of_getElem? hp0);obtain⟨xs,hxs⟩:∃xs:List R,xs=[p.1.1,p.2.1,p.2.2]:=⟨_,rfl⟩;have hlx:xs.length=3:=by rw [hxs];rfl
    have hwx:∀x∈xs,rl x<=4294967296:=by
     intro x hx;rw [hxs]at hx;simp only [List.mem_cons,List.not_mem_nil,or_false]at hx;obtain⟨l1,l2⟩:=vbJ ⟨hp1,hp2⟩;obtain⟨l3,l4⟩:=al1 l2;rcases hx with rfl | rfl | rfl <;> assumption
    have hex:xs.all (sR 2)=sP p:=by rw [hxs];simp only [List.all_cons,List.all_nil,Bool.and_true];rfl
    simp only [go_sem,hlt,hp,xa3];refine Xa (λj:Nat=>⟨mkV [(7,psA l),(8,.one (.lit (.int .i64 l.length))),(9,.one (.lit (.int .i64 k))),(22,.one (.full (xs.map rC))),(23,.one (.lit (.int .i64 3))),(24,.one (.lit (.int .i64 j)))],mkH []⟩) (λj=>j<=3/\(xs.take j).all (sR 2)=true) (λj=>3-j) 0 ?_ ?_ ?_
    .exact Qa (by rw [hxs];simp [okS,okV,okC,okL,okH,okB,okE,ja,Va,qa,ka,wsA,ws,psA,psC,rC]) trivial
    .exact⟨Nat.zero_le _,rfl⟩
    .rintro j ⟨hj,hallj⟩;by_cases hltj:j<3
     .obtain⟨x,hx⟩:∃x,xs.getD j (rcan 0)=x:=⟨_,rfl⟩;have hx0:=Xu (by omega:j<xs.length) hx
      have hxr:=hwx x (List.mem_of_getElem? hx0);have hjx:j<xs.length:=by omega
      obtain⟨b,n,d⟩:=x;have w1:n.length<=4294967296:=Nat.le_trans (Nat.le_max_left _ _) hxr;have w2:d.length<=4294967296:=Nat.le_trans (Nat.le_max_right _ _) hxr;have bad:¬(sR 2 (b,n,d)=true)->K (.one (.lit (.bool false))):=by
       intro hb;have e1:sP p=false:=by rw [<-hex];exact JaO hx0 (by simpa using hb)
       rw [JaO hp0 e1]at hK;exact hK
      have hsr:sR 2 (b,n,d)=true↔n.length<=2/\d.length<=2:=by simp [sR]
      simp only [go_sem,hltj,hjx,hx,jac,cb,cn,cd,ws,hlx];exact⟨λ_ _=>⟨λh=>bad (λe=>by have:=hsr.1 e;omega),λh _=>⟨λh'=>bad (λe=>by have:=hsr.1 e;omega),λh'=>⟨by omega,j+1,Qa (by simp [okS,okV,okC,okL,okH,okB,okE,ja,Va,qa,ka,wsA,ws,psA,psC]) trivial,⟨by omega,qC hx0 hallj (hsr.2 ⟨by omega,by omega⟩)⟩,by omega⟩⟩⟩,λh=>absurd (by omega) h⟩
     .rw [List.take_of_length_le (by omega),hex]at hallj
      simp only [go_sem,hltj];exact⟨λh=>absurd h (by omega),λ_=>⟨by omega,k+1,Qa (by simp [okS,okV,okC,okL,okH,okB,okE,ja,Va,qa,ka,wsA,ws,psA,psC]) trivial,⟨by omega,qC hp0 hall hallj⟩,by omega⟩⟩
   .rw [List.take_of_length_le (by omega)]at hall
    rw [hall]at hK;simp only [go_sem,hlt];exact hK
theorem Z6(hΓ:Holds P Γ){f:Nat}(hc:check P f=some (35,qe.strip,[.tmp 2])):Sound P f (.dat true jq):=by
 refine Wa hc Yaf hΓ (λargs K hcl hfi hG=>?_);match args,hG with
 | [a],hG=>
  obtain⟨l,rfl,hwl,hok,hK⟩:=hG;refine⟨by simp,?_⟩
  simp only [go_sem,qe];intro _;refine Xa (λk:Nat=>⟨mkV [(7,asA l),(8,.one (.lit (.int .i64 l.length))),(9,.one (.lit (.int .i64 k)))],mkH []⟩) (λk=>k<=l.length/\(l.take k).all sA=true) (λk=>l.length-k) 0 ?_ ?_ ?_
  .exact Qa (by simp [okS,okV,okC,okL,okH,okB,okE,ja,Va,qa,ka,wsA,ws,asA,as]) trivial
  .exact⟨Nat.zero_le _,rfl⟩
  .rintro k ⟨hk,hall⟩;by_cases hlt:k<l.length
   .obtain⟨p,hp⟩:∃p,l.getD k a0=p:=⟨_,rfl⟩;have hp0:=Xu hlt hp;obtain⟨hp1,hp2⟩:=hok p (List.mem_of_getElem? hp0);obtain⟨xs,hxs⟩:∃xs:List R,xs=[p.1,p.2]:=⟨_,rfl⟩;have hlx:xs.length=2:=by rw [hxs];rfl
    have hwx:∀x∈xs,rl x<=4294967296:=by
     intro x hx;rw [hxs]at hx;simp only [List.mem_cons,List.not_mem_nil,or_false]at hx;obtain⟨l3,l4⟩:=al1 hp2;rcases hx with rfl | rfl <;> assumption
    have hex:xs.all (sR 2)=sA p:=by rw [hxs];simp only [List.all_cons,List.all_nil,Bool.and_true];rfl
    simp only [go_sem,hlt,hp,Wc];refine Xa (λj:Nat=>⟨mkV [(7,asA l),(8,.one (.lit (.int .i64 l.length))),(9,.one (.lit (.int .i64 k))),(17,.one (.full (xs.map rC))),(18,.one (.lit (.int .i64 2))),(19,.one (.lit (.int .i64 j)))],mkH []⟩) (λj=>j<=2/\(xs.take j).all (sR 2)=true) (λj=>2-j) 0 ?_ ?_ ?_
    .exact Qa (by rw [hxs];simp [okS,okV,okC,okL,okH,okB,okE,ja,Va,qa,ka,wsA,ws,asA,as,rC]) trivial
    .exact⟨Nat.zero_le _,rfl⟩
    .rintro j ⟨hj,hallj⟩;by_cases hltj:j<2
     .obtain⟨x,hx⟩:∃x,xs.getD j (rcan 0)=x:=⟨_,rfl⟩;have hx0:=Xu (by omega:j<xs.length) hx
      have hxr:=hwx x (List.mem_of_getElem? hx0);have hjx:j<xs.length:=by omega
      obtain⟨b,n,d⟩:=x;have w1:n.length<=4294967296:=Nat.le_trans (Nat.le_max_left _ _) hxr;have w2:d.length<=4294967296:=Nat.le_trans (Nat.le_max_right _ _) hxr;have bad:¬(sR 2 (b,n,d)=true)->K (.one (.lit (.bool false))):=by
       intro hb;have e1:sA p=false:=by rw [<-hex];exact JaO hx0 (by simpa using hb)
       rw [JaO hp0 e1]at hK;exact hK
      have hsr:sR 2 (b,n,d)=true↔n.length<=2/\d.length<=2:=by simp [sR]
      simp only [go_sem,hltj,hjx,hx,jac,cb,cn,cd,ws,hlx];exact⟨λ_ _=>⟨λh=>bad (λe=>by have:=hsr.1 e;omega),λh _=>⟨λh'=>bad (λe=>by have:=hsr.1 e;omega),λh'=>⟨by omega,j+1,Qa (by simp [okS,okV,okC,okL,okH,okB,okE,ja,Va,qa,ka,wsA,ws,asA,as]) trivial,⟨by omega,qC hx0 hallj (hsr.2 ⟨by omega,by omega⟩)⟩,by omega⟩⟩⟩,λh=>absurd (by omega) h⟩
     .rw [List.take_of_length_le (by omega),hex]at hallj
      simp only [go_sem,hltj];exact⟨λh=>absurd h (by omega),λ_=>⟨by omega,k+1,Qa (by simp [okS,okV,okC,okL,okH,okB,okE,ja,Va,qa,ka,wsA,ws,asA,as]) trivial,⟨by omega,qC hp0 hall hallj⟩,by omega⟩⟩
   .rw [List.take_of_length_le (by omega)]at hall
    rw [hall]at hK;simp only [go_sem,hlt];exact hK
end Go.Abs
end
section
namespace Go.Num
open Go.Abs
def ctrQ(p u v:V2):V2:=(p.1+(sqQ u*v.2-sqQ v*u.2) / (2*crossQ u v),p.2+(sqQ v*u.1-sqQ u*v.1) / (2*crossQ u v))
def ciQ(p u v:V2):V2:=if crossQ u v=0 then (0,0) else ctrQ p u v
def ciL(l:List Arc):V2:=ciQ (av (l.getD 0 a0)) (subQ (av (l.getD 1 a0)) (av (l.getD 0 a0))) (subQ (av (l.getD 2 a0)) (av (l.getD 0 a0)))
def crL(l:List Arc):Rat:=crossQ (subQ (av (l.getD 1 a0)) (av (l.getD 0 a0))) (subQ (av (l.getD 2 a0)) (av (l.getD 0 a0)))
end Go.Num
namespace Go.Abs
open Go.Num
variable {P:Program} {Γ:Nat->Spec}
def zah(tE:Nat)(l:List AV)(K:AV->Prop):Prop:=
 match l with
 | [a]=>onAs (λl=>okAs 1000000 l/\3<=l.length/\K (.tup [pQ (ciL l),errV tE (if crL l=0 then 8 else 0)])) a
 | _=>False
theorem uat tE a K:zah tE [a] K=(onAs (λl=>okAs 1000000 l/\3<=l.length/\K (.tup [pQ (ciL l),errV tE (if crL l=0 then 8 else 0)])) a):=propext Iff.rfl
@[congr] theorem kbR tE{K}{l l'}(h:l=l'):zah tE l K=zah tE l' K:=by subst h;rfl
attribute [go_sem,go_sem ↓] uat
def Zai(l:List AV)(K:AV->Prop):Prop:=
 match l with
 | [a]=>onAs (λl=>okAs 1000000 l/\3<=l.length/\K (.tup [pQ (ciL l),.one (.lit (.bool (decide (crL l≠0))))])) a
 | _=>False
theorem kat a K:Zai [a] K=(onAs (λl=>okAs 1000000 l/\3<=l.length/\K (.tup [pQ (ciL l),.one (.lit (.bool (decide (crL l≠0))))])) a):=propext Iff.rfl
@[congr] theorem zbR{K}{l l'}(h:l=l'):Zai l K=Zai l' K:=by subst h;rfl
attribute [go_sem,go_sem ↓] kat
end Go.Abs
end
section
namespace Go.Abs
open Go.Num
variable {P:Program} {Γ:Nat->Spec}
def JZ(l:List AV)(K:AV->Prop):Prop:=
 match l with
 | [a]=>asInt (λk n=>k=.i64/\n=1/\K (.one (.lit (.string ⟨#[49]⟩)))) a
 | _=>False
theorem Vaf a K:JZ [a] K=(asInt (λk n=>k=.i64/\n=1/\K (.one (.lit (.string ⟨#[49]⟩)))) a):=propext Iff.rfl
@[congr] theorem ubB{K}{l l'}(h:l=l'):JZ l K=JZ l' K:=by subst h;rfl
attribute [go_sem,go_sem ↓] Vaf
def xal(l:List AV)(K:AV->Prop):Prop:=
 match l with
 | [a,b]=>asInt (λk n=>k=.i64/\n=1/\asInt (λk m=>k=.i64/\m=10/\K (.one (.lit (.string ⟨#[49]⟩)))) b) a
 | _=>False
theorem QaC a b K:xal [a,b] K=(asInt (λk n=>k=.i64/\n=1/\asInt (λk m=>k=.i64/\m=10/\K (.one (.lit (.string ⟨#[49]⟩)))) b) a):=propext Iff.rfl
@[congr] theorem WbQ{K}{l l'}(h:l=l'):xal l K=xal l' K:=by subst h;rfl
attribute [go_sem,go_sem ↓] QaC
def Vah(l:List AV)(K:AV->Prop):Prop:=
 match l with
 | [a]=>asInt (λk n=>k=.i64/\n=1/\K (.one (.lit (.string ⟨#[49]⟩)))) a
 | _=>False
theorem VaD a K:Vah [a] K=(asInt (λk n=>k=.i64/\n=1/\K (.one (.lit (.string ⟨#[49]⟩)))) a):=propext Iff.rfl
@[congr] theorem jbQ{K}{l l'}(h:l=l'):Vah l K=Vah l' K:=by subst h;rfl
attribute [go_sem,go_sem ↓] VaD
def jag(l:List AV)(K:AV->Prop):Prop:=
 match l with
 | [a,b]=>a=.one (.slice [[.lit (.string ⟨#[49]⟩)]])/\b=.one (.lit (.string ⟨#[]⟩))/\K (.one (.lit (.string ⟨#[49]⟩)))
 | _=>False
theorem ZaB a b K:jag [a,b] K=(a=.one (.slice [[.lit (.string ⟨#[49]⟩)]])/\b=.one (.lit (.string ⟨#[]⟩))/\K (.one (.lit (.string ⟨#[49]⟩)))):=propext Iff.rfl
@[congr] theorem wbP{K}{l l'}(h:l=l'):jag l K=jag l' K:=by subst h;rfl
attribute [go_sem,go_sem ↓] ZaB
def wan(l:List AV)(K:AV->Prop):Prop:=
 match l with
 | [a]=>onW (λw=>zv w=1/\K (.one (.lit (.string ⟨#[49]⟩)))) a
 | _=>False
theorem Zay a K:wan [a] K=(onW (λw=>zv w=1/\K (.one (.lit (.string ⟨#[49]⟩)))) a):=propext Iff.rfl
@[congr] theorem YbR{K}{l l'}(h:l=l'):wan l K=wan l' K:=by subst h;rfl
attribute [go_sem,go_sem ↓] Zay
def Yam(l:List AV)(K:AV->Prop):Prop:=
 match l with
 | [a]=>onR (λx=>rv x=1/\rl x<=4294967296/\K (.one (.lit (.string ⟨#[49]⟩)))) a
 | _=>False
theorem jap a K:Yam [a] K=(onR (λx=>rv x=1/\rl x<=4294967296/\K (.one (.lit (.string ⟨#[49]⟩)))) a):=propext Iff.rfl
@[congr] theorem xbP{K}{l l'}(h:l=l'):Yam l K=Yam l' K:=by subst h;rfl
attribute [go_sem,go_sem ↓] jap
def Xb:AC:=(.seq (.ops false [.m 2 (.c (.one (.lit (.string ⟨#[]⟩))))])
 (.fg [0] (.seq (.seq (.ops false [.m 3 (.t 0),.u 4 (.bin .lss (.t 3) (.i 10))])
 (.fg [0,4] (.cond (.t 4) (.seq (.ops false [.m 5 (.t 0),.m 6 (.t 0),.u 7 (.bin .add (.t 6) (.i 1)),.u 8 (.sop 0 [(.c (.one (.lit (.string ⟨#[48,49,50,51,52,53,54,55,56,57,97,98,99,100,101,102,103,104,105,106,107,108,109,110,111,112,113,114,115,116,117,118,119,120,121,122]⟩)))),(.t 5),(.t 7)]),.m 2 (.t 8)])
 .ret) .skip)))
 (.fg [0] (.seq (.ops false [.m 9 (.t 0),.u 10 (.bin .mul (.t 9) (.i 2)),.m 11 (.t 0),.u 12 (.bin .mul (.t 11) (.i 2)),.u 13 (.bin .add (.t 12) (.i 2)),.u 14 (.sop 0 [(.c (.one (.lit (.string ⟨#[48,48,48,49,48,50,48,51,48,52,48,53,48,54,48,55,48,56,48,57,49,48,49,49,49,50,49,51,49,52,49,53,49,54,49,55,49,56,49,57,50,48,50,49,50,50,50,51,50,52,50,53,50,54,50,55,50,56,50,57,51,48,51,49,51,50,51,51,51,52,51,53,51,54,51,55,51,56,51,57,52,48,52,49,52,50,52,51,52,52,52,53,52,54,52,55,52,56,52,57,53,48,53,49,53,50,53,51,53,52,53,53,53,54,53,55,53,56,53,57,54,48,54,49,54,50,54,51,54,52,54,53,54,54,54,55,54,56,54,57,55,48,55,49,55,50,55,51,55,52,55,53,55,54,55,55,55,56,55,57,56,48,56,49,56,50,56,51,56,52,56,53,56,54,56,55,56,56,56,57,57,48,57,49,57,50,57,51,57,52,57,53,57,54,57,55,57,56,57,57]⟩)))),(.t 10),(.t 13)]),.m 2 (.t 14)])
 .ret)))))
def Wd(f0 f1 f2 f3:Nat):AC:=(.seq (.ops false [.m 4 (.c (.one (.lit (.string ⟨#[]⟩))))])
 (.fg [0,1] (.seq (.seq (.ops false [.m 10 (.t 1),.u 11 (.bin .eql (.t 10) (.i 10))])
 (.fg [0,1,11] (.cond (.t 11) (.seq (.seq (.ops false [.m 12 (.t 0),.u 13 (.bin .leq (.i 0) (.t 12)),.m 14 (.t 13),.w 15 14 true (.mv (.t 0)),.w 16 14 true (.bin .lss (.t 15) (.i 100)),.u 17 (.pick (.t 14) (.t 16) .fa)])
 (.fg [0,17] (.cond (.t 17) (.seq (.ops false [.m 18 (.t 0),.u 19 (.call f0 [(.t 18)]),.m 4 (.t 19)])
 .ret) .skip)))
 (.fg [0] (.seq (.ops false [.u 5 (.alloc [(.lit (.int .u8 0)),(.lit (.int .u8 0)),(.lit (.int .u8 0)),(.lit (.int .u8 0)),(.lit (.int .u8 0)),(.lit (.int .u8 0)),(.lit (.int .u8 0)),(.lit (.int .u8 0)),(.lit (.int .u8 0)),(.lit (.int .u8 0)),(.lit (.int .u8 0)),(.lit (.int .u8 0)),(.lit (.int .u8 0)),(.lit (.int .u8 0)),(.lit (.int .u8 0)),(.lit (.int .u8 0)),(.lit (.int .u8 0)),(.lit (.int .u8 0)),(.lit (.int .u8 0)),(.lit (.int .u8 0)),(.lit (.int .u8 0)),(.lit (.int .u8 0)),(.lit (.int .u8 0)),(.lit (.int .u8 0))])])
 (.fg [0,5] (.seq (.ops false [.m 20 (.t 0),.u 21 (.conv .u64 (.t 20)),.m 6 (.t 21)])
 (.fg [0,5,6] (.seq (.seq (.ops false [.m 22 (.t 0),.u 23 (.bin .lss (.t 22) (.i 0))])
 (.fg [0,5,6,23] (.cond (.t 23) (.ops false [.m 24 (.t 6),.u 25 (.un .neg (.t 24)),.m 6 (.t 25)]) .skip)))
 (.fg [0,5,6] (.seq (.ops false [.m 26 (.t 6),.u 27 (.call f1 [(.t 26)]),.m 7 (.t 27)])
 (.fg [0,5,6,7] (.seq (.ops false [.m 28 (.t 7),.u 29 (.bin .add (.i 1) (.t 28)),.u 30 (.rsb 1 24 (.t 5) (some (.i 1)) (some (.t 29))),.m 31 (.t 6),.u 32 (.call f2 [(.t 30),(.t 31)])])
 (.fg [0,5,7] (.seq (.seq (.ops false [.m 33 (.t 0),.u 34 (.bin .lss (.t 33) (.i 0))])
 (.fg [5,7,34] (.cond (.t 34) (.seq (.ops false [.u 35 (.ai 1 24 (.t 5) (.i 0)),.n (.st none 1 (.t 35) (.c (.one (.lit (.int .u8 45)))))])
 (.fg [5,7] (.seq (.ops false [.m 36 (.t 7),.u 37 (.bin .add (.i 1) (.t 36)),.u 38 (.rsb 1 24 (.t 5) none (some (.t 37))),.u 39 (.bad),.m 4 (.t 39)])
 .ret))) .skip)))
 (.fg [5,7] (.seq (.ops false [.m 40 (.t 7),.u 41 (.bin .add (.i 1) (.t 40)),.u 42 (.rsb 1 24 (.t 5) (some (.i 1)) (some (.t 41))),.u 43 (.bad),.m 4 (.t 43)])
 .ret))))))))))))))) .skip)))
 (.fg [0,1] (.seq (.ops false [.m 45 (.t 0),.u 46 (.conv .u64 (.t 45)),.m 47 (.t 1),.m 48 (.t 0),.u 49 (.bin .lss (.t 48) (.i 0)),.u 50 (.call f3 [(.c (.one .emp)),(.t 46),(.t 47),(.t 49),.fa]),.m 44 (.t 50),.u 51 (.ext 0 (.t 44)),.u 52 (.ext 1 (.t 44)),.m 8 (.t 51),.m 9 (.t 52)])
 (.fg [9] (.seq (.ops false [.m 53 (.t 9),.m 4 (.t 53)])
 .ret)))))))
def kf(f0:Nat):AC:=(.seq (.ops false [.m 2 (.c (.one (.lit (.string ⟨#[]⟩))))])
 (.fg [0] (.seq (.ops false [.m 3 (.t 0),.u 4 (.call f0 [(.t 3),(.i 10)]),.m 2 (.t 4)])
 .ret)))
def yt(f0:Nat):AC:=(.seq (.ops false [.m 2 (.c (.one (.lit (.string ⟨#[]⟩))))])
 (.fg [0] (.seq (.ops false [.m 3 (.t 0),.u 4 (.call f0 [(.t 3)]),.m 2 (.t 4)])
 .ret)))
def Wt(f0 f1 f2:Nat):AC:=(.seq (.ops false [.m 4 (.c (.one (.lit (.string ⟨#[]⟩))))])
 (.fg [0,1] (.seq (.seq (.ops false [.m 11 (.t 0),.u 12 (.len (.t 11))])
 (.fg [0,1,12] (.block 0 (.seq (.ops false [.u 14 (.bin .eql (.t 12) (.i 0)),.m 13 (.t 14)])
 (.fg [0,1,12,13] (.cond (.t 13) (.seq (.ops false [.m 4 (.c (.one (.lit (.string ⟨#[]⟩))))])
 .ret) (.seq (.ops false [.u 16 (.bin .eql (.t 12) (.i 1)),.m 15 (.t 16)])
 (.fg [0,1,15] (.cond (.t 15) (.seq (.ops false [.m 17 (.t 0),.u 18 (.idx 1 (.t 17) (.i 0)),.u 19 (.ld none 1 false (.t 18)),.m 4 (.t 19)])
 .ret) .skip)))))))))
 (.fg [0,1] (.seq (.ops false [.m 5 (.i 0)])
 (.fg [0,1,5] (.seq (.seq (.ops false [.m 20 (.t 1),.u 21 (.bad),.u 22 (.bin .gtr (.t 21) (.i 0))])
 (.fg [0,1,5,22] (.cond (.t 22) (.seq (.seq (.ops false [.m 23 (.t 1),.u 24 (.bad),.m 25 (.t 0),.u 26 (.len (.t 25)),.u 27 (.bin .sub (.t 26) (.i 1)),.u 28 (.bin .quo (.i 9223372036854775807) (.t 27)),.u 29 (.bin .geq (.t 24) (.t 28))])
 (.fg [0,1,5,29] (.cond (.t 29) (.ops false [.u 30 (.bad),.n (.bad)]) .skip)))
 (.fg [0,1,5] (.ops false [.m 31 (.t 5),.m 32 (.t 1),.u 33 (.bad),.m 34 (.t 0),.u 35 (.len (.t 34)),.u 36 (.bin .sub (.t 35) (.i 1)),.u 37 (.bin .mul (.t 33) (.t 36)),.u 38 (.bin .add (.t 31) (.t 37)),.m 5 (.t 38)]))) .skip)))
 (.fg [0,1,5] (.seq (.seq (.ops false [.m 39 (.t 0),.u 40 (.len (.t 39)),.m 41 (.i 0)])
 (.fg [0,1,5,39,40,41] (.block 1 (.loop (.seq (.ops false [.u 42 (.bin .lss (.t 41) (.t 40))])
 (.fg [0,1,5,39,40,41,42] (.seq (.cond (.t 42) .skip (.exit 1))
 (.fg [0,1,5,39,40,41] (.seq (.block 2 (.seq (.ops false [.u 43 (.idx 1 (.t 39) (.t 41)),.u 44 (.ld none 1 false (.t 43)),.m 7 (.t 44)])
 (.fg [0,1,5,7,39,40,41] (.seq (.seq (.ops false [.m 45 (.t 7),.u 46 (.bad),.m 47 (.t 5),.u 48 (.bin .sub (.i 9223372036854775807) (.t 47)),.u 49 (.bin .gtr (.t 46) (.t 48))])
 (.fg [0,1,5,7,39,40,41,49] (.cond (.t 49) (.ops false [.u 50 (.bad),.n (.bad)]) .skip)))
 (.fg [0,1,5,7,39,40,41] (.ops false [.m 51 (.t 5),.m 52 (.t 7),.u 53 (.bad),.u 54 (.bin .add (.t 51) (.t 53)),.m 5 (.t 54)]))))))
 (.fg [0,1,5,39,40,41] (.ops false [.u 55 (.bin .add (.t 41) (.i 1)),.m 41 (.t 55)])))))))))))
 (.fg [0,1,5] (.seq (.ops false [.u 8 (.alloc [(.lit (.pointer none)),.emp])])
 (.fg [0,1,5,8] (.seq (.ops false [.m 56 (.t 5),.u 57 (.call f0 [(.t 8),(.t 56)])])
 (.fg [0,1,8] (.seq (.ops false [.m 58 (.t 0),.u 59 (.idx 1 (.t 58) (.i 0)),.u 60 (.ld none 1 false (.t 59)),.u 61 (.call f1 [(.t 8),(.t 60)])])
 (.fg [0,1,8] (.seq (.seq (.ops false [.m 62 (.t 0),.u 63 (.sl 1 (.t 62) (some (.i 1)) none),.u 64 (.len (.t 63)),.m 65 (.i 0)])
 (.fg [1,8,63,64,65] (.block 3 (.loop (.seq (.ops false [.u 66 (.bin .lss (.t 65) (.t 64))])
 (.fg [1,8,63,64,65,66] (.seq (.cond (.t 66) .skip (.exit 3))
 (.fg [1,8,63,64,65] (.seq (.block 4 (.seq (.ops false [.u 67 (.idx 1 (.t 63) (.t 65)),.u 68 (.ld none 1 false (.t 67)),.m 10 (.t 68)])
 (.fg [1,8,10,63,64,65] (.seq (.ops false [.m 69 (.t 1),.u 70 (.call f1 [(.t 8),(.t 69)])])
 (.fg [1,8,10,63,64,65] (.ops false [.m 71 (.t 10),.u 72 (.call f1 [(.t 8),(.t 71)])]))))))
 (.fg [1,8,63,64,65] (.ops false [.u 73 (.bin .add (.t 65) (.i 1)),.m 65 (.t 73)])))))))))))
 (.fg [8] (.seq (.ops false [.u 74 (.call f2 [(.t 8)]),.m 4 (.t 74)])
 .ret)))))))))))))))))))
def Qs(f0 f1 f2 f3 f4 f5:Nat):AC:=(.seq (.ops false [.u 1 (.box 2 (.t 0)),.m 2 (.c (.one (.lit (.string ⟨#[]⟩))))])
 (.fg [1] (.seq (.ops false [.u 8 (.ld none 2 true (.t 1)),.u 9 (.call f0 [(.t 8)]),.m 3 (.t 9)])
 (.fg [1,3] (.seq (.seq (.ops false [.m 10 (.t 3),.u 11 (.len (.t 10)),.u 12 (.bin .eql (.t 11) (.i 0))])
 (.fg [1,3,12] (.cond (.t 12) (.seq (.ops false [.m 2 (.c (.one (.lit (.string ⟨#[48]⟩))))])
 .ret) .skip)))
 (.fg [1,3] (.seq (.ops false [.m 4 (.c (.one .emp))])
 (.fg [1,3,4] (.seq (.block 0 (.loop (.seq (.seq (.ops false [.m 13 (.t 3),.u 14 (.len (.t 13)),.u 15 (.bin .gtr (.t 14) (.i 0))])
 (.fg [1,3,4,15] (.cond (.t 15) .skip (.exit 0))))
 (.fg [1,3,4] (.block 1 (.seq (.ops false [.m 5 (.c (.one (.lit (.int .u32 0))))])
 (.fg [1,3,4] (.seq (.ops false [.m 17 (.t 3),.u 18 (.call f1 [(.t 17),(.c (.one (.lit (.int .u32 1000000000))))]),.m 16 (.t 18),.u 19 (.ext 0 (.t 16)),.u 20 (.ext 1 (.t 16)),.m 3 (.t 19),.m 5 (.t 20)])
 (.fg [1,3,4,5] (.seq (.ops false [.m 21 (.t 5),.u 22 (.conv .i64 (.t 21)),.u 23 (.call f2 [(.t 22)]),.m 6 (.t 23)])
 (.fg [1,3,4,6] (.seq (.seq (.ops false [.m 24 (.t 3),.u 25 (.len (.t 24)),.u 26 (.bin .gtr (.t 25) (.i 0))])
 (.fg [1,3,4,6,26] (.cond (.t 26) (.ops false [.m 27 (.t 6),.u 28 (.bad),.u 29 (.bin .sub (.i 9) (.t 28)),.u 30 (.call f3 [(.c (.one (.lit (.string ⟨#[48]⟩)))),(.t 29)]),.m 31 (.t 6),.u 32 (.sop 2 [(.t 30),(.t 31)]),.m 6 (.t 32)]) .skip)))
 (.fg [1,3,4,6] (.ops false [.m 33 (.t 6),.u 34 (.row 1 [[.x 1 (.t 33)]]),.m 35 (.t 4),.u 36 (.app 1 (.t 34) (.t 35)),.m 4 (.t 36)]))))))))))))))
 (.fg [1,4] (.seq (.ops false [.m 37 (.t 4),.u 38 (.call f4 [(.t 37),(.c (.one (.lit (.string ⟨#[]⟩))))]),.m 7 (.t 38)])
 (.fg [1,7] (.seq (.seq (.ops false [.u 39 (.ld none 2 true (.t 1)),.u 40 (.call f5 [(.t 39)])])
 (.fg [7,40] (.cond (.t 40) (.ops false [.m 41 (.t 7),.u 42 (.sop 2 [(.c (.one (.lit (.string ⟨#[45]⟩)))),(.t 41)]),.m 7 (.t 42)]) .skip)))
 (.fg [7] (.seq (.ops false [.m 43 (.t 7),.m 2 (.t 43)])
 .ret)))))))))))))))
def Vk(f0 f1 f2 f3:Nat):AC:=(.seq (.ops false [.u 1 (.box 3 (.t 0)),.m 2 (.c (.one (.lit (.string ⟨#[]⟩))))])
 (.fg [1] (.seq (.ops false [.u 6 (.ld none 3 true (.t 1)),.u 7 (.call f0 [(.t 6)]),.m 5 (.t 7),.u 8 (.ext 0 (.t 5)),.u 9 (.ext 1 (.t 5)),.u 3 (.alloc [(.lit (.bool false)),.emp]),.u 4 (.alloc [(.lit (.bool false)),.emp]),.n (.st none 2 (.t 3) (.t 8)),.n (.st none 2 (.t 4) (.t 9))])
 (.fg [3,4] (.seq (.seq (.ops true [.u 10 (.ld none 2 true (.t 4)),.u 11 (.call f1 []),.u 12 (.call f2 [(.t 10),(.t 11)]),.u 13 (.bin .eql (.t 12) (.i 0))])
 (.fg [3,4,13] (.cond (.t 13) (.seq (.ops false [.u 14 (.ld none 2 true (.t 3)),.u 15 (.call f3 [(.t 14)]),.m 2 (.t 15)])
 .ret) .skip)))
 (.fg [3,4] (.seq (.ops true [.u 16 (.ld none 2 true (.t 3)),.u 17 (.call f3 [(.t 16)]),.u 18 (.sop 2 [(.t 17),(.c (.one (.lit (.string ⟨#[47]⟩))))]),.u 19 (.ld none 2 true (.t 4)),.u 20 (.call f3 [(.t 19)]),.u 21 (.sop 2 [(.t 18),(.t 20)]),.m 2 (.t 21)])
 .ret)))))))
end Go.Abs
end
