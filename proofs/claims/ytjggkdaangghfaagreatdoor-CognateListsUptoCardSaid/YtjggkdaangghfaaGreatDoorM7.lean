/-
  Parts of the proof, merged: ChartG, ChartQ, ChartH, ChartR, ChartW, ChartX, ComA, ChartRow, ComB, PoseD, PoseE, PoseT.
-/
import Derived.Test.YtjggkdaangghfaaGreatDoorM6
set_option linter.unusedVariables false
set_option linter.unusedSimpArgs false
set_option maxRecDepth 100000
section
namespace Go.Num
def sh1(by' : Rat)(a:Q2):List Q2:=
 let f:=frac (a.1+by')
 let t:=f+(a.2-a.1)
 if 1<t then (0,t-1)::(if f<1 then [(f,1)] else []) else (if f<t then [(f,t)] else [])
def shL(by' : Rat)(l:List Q2):List Q2:=l.flatMap (sh1 by')
def lim64(l:List Q2):List Q2:=if 64<l.length then [] else l
def code64(l:List Q2):Nat:=if 64<l.length then 4 else 0
def shOut(l:List Arc)(y:R):List Q2:=if chk [l]=0/\vldR y=true then lim64 (nrm (shL (rv y) (vals l))) else []
def shCode(l:List Arc)(y:R):Nat:=if chk [l]=0 then (if vldR y=true then code64 (nrm (shL (rv y) (vals l))) else 3) else chk [l]
end Go.Num
namespace Go.Abs
open Go.Num
variable {P:Program} {Γ:Nat->Spec}
def YV(tE m:Nat)(l:List AV)(K:AV->Prop):Prop:=
 match l with
 | [a,b]=>onAs (λl=>onR (λy=>(chk [l]=0->2*l.length<=m)/\okAs 10000000 l/\rl y<=10000000/\K (.tup [.one (.slice (((shOut l y).map acan).map aC)),errV tE (shCode l y)])) b) a
 | _=>False
theorem Q9(tE m:Nat)(a b:AV)(K:AV->Prop):YV tE m [a,b] K=(onAs (λl=>onR (λy=>(chk [l]=0->2*l.length<=m)/\okAs 10000000 l/\rl y<=10000000/\K (.tup [.one (.slice (((shOut l y).map acan).map aC)),errV tE (shCode l y)])) b) a):=propext Iff.rfl
@[congr] theorem XbD (tE m:Nat) {K:AV->Prop} {l l' : List AV} (h:l=l'):YV tE m l K=YV tE m l' K:=by subst h;rfl
attribute [go_sem,go_sem ↓] Q9
end Go.Abs
end
section
namespace Go.Num
end Go.Num
end
section
namespace Go.Num
end Go.Num
namespace Go.Abs
open Go.Num
variable {P:Program} {Γ:Nat->Spec}
theorem Zbi(k:List Arc->Prop)(x y:R):onAs k (.one (.slice [[cb x,cn x,cd x,cb y,cn y,cd y]]))=((∀z∈[(x,y)],WLA z)/\k [(x,y)]):=uM k [(x,y)]
theorem Jbg(k:List Arc->Prop)(x y x' y' : R):onAs k (.one (.slice [[cb x,cn x,cd x,cb y,cn y,cd y],[cb x',cn x',cd x',cb y',cn y',cd y']]))=((∀z∈[(x,y),(x',y')],WLA z)/\k [(x,y),(x',y')]):=uM k [(x,y),(x',y')]
theorem ZaV(k:List Arc->Prop)(x:Arc):onAs k (.one (.slice [aC x]))=((∀z∈[x],WLA z)/\k [x]):=uM k [x]
theorem uaW(k:List Arc->Prop)(x y:Arc):onAs k (.one (.slice [aC x,aC y]))=((∀z∈[x,y],WLA z)/\k [x,y]):=uM k [x,y]
theorem ua6(k:List Arc->Prop)(y x' y' : R):onAs k (.one (.slice [[.lit (.bool false),.slice [],.slice [],cb y,cn y,cd y],[cb x',cn x',cd x',cb y',cn y',cd y']]))=((∀z∈[(rcan 0,y),(x',y')],WLA z)/\k [(rcan 0,y),(x',y')]):=by
 rw [xc];exact uM k [((false,[],[]),y),(x',y')]
attribute [go_sem,go_sem ↓] Zbi Jbg ZaV uaW ua6
def WV(l:List AV)(K:AV->Prop):Prop:=
 match l with
 | []=>K (.one (.lit (.bool true)))
 | _=>False
theorem Y8(K:AV->Prop):WV [] K=(K (.one (.lit (.bool true)))):=propext Iff.rfl
@[congr] theorem ubw {K:AV->Prop} {l l' : List AV} (h:l=l'):WV l K=WV l' K:=by subst h;rfl
attribute [go_sem,go_sem ↓] Y8
end Go.Abs
end
section
namespace Go.Num
instance(x:Rat)(a:Q2):Decidable (mem x a):=by unfold mem;infer_instance
instance(x:Rat)(l:List Q2):Decidable (memL x l):=by unfold memL;infer_instance
end Go.Num
end
section
namespace Go.Num
def not1(f t:Rat):List Q2:=if f<t then [(f,t)] else []
def notGo:Rat->List Q2->List Q2
 | f,[]=>not1 f 1
 | f,a::l=>not1 f a.1++notGo a.2 l
def notL(l:List Q2):List Q2:=notGo 0 l
def meet1(x y:Q2):List Q2:=not1 (mxQ x.1 y.1) (mnQ x.2 y.2)
def meetL(a b:List Q2):List Q2:=a.flatMap λx=>b.flatMap λy=>meet1 x y
end Go.Num
namespace Go.Abs
open Go.Num
variable {P:Program} {Γ:Nat->Spec}
def uaV(l:List AV)(K:AV->Prop):Prop:=
 match l with
 | [a]=>onAs (λl=>l.length<=1000/\okAs 1000000000 l/\K (.one (.slice (((notL (vals l)).map acan).map aC)))) a
 | _=>False
theorem XaJ(a:AV)(K:AV->Prop):uaV [a] K=(onAs (λl=>l.length<=1000/\okAs 1000000000 l/\K (.one (.slice (((notL (vals l)).map acan).map aC)))) a):=propext Iff.rfl
@[congr] theorem wbV {K:AV->Prop} {l l' : List AV} (h:l=l'):uaV l K=uaV l' K:=by subst h;rfl
attribute [go_sem,go_sem ↓] XaJ
def Qak(l:List AV)(K:AV->Prop):Prop:=
 match l with
 | [a,b]=>onAs (λl=>onAs (λm=>l.length<=1000/\m.length<=1000/\okAs 1000000000 l/\okAs 1000000000 m/\K (.one (.slice (((meetL (vals l) (vals m)).map acan).map aC)))) b) a
 | _=>False
theorem xaq(a b:AV)(K:AV->Prop):Qak [a,b] K=(onAs (λl=>onAs (λm=>l.length<=1000/\m.length<=1000/\okAs 1000000000 l/\okAs 1000000000 m/\K (.one (.slice (((meetL (vals l) (vals m)).map acan).map aC)))) b) a):=propext Iff.rfl
@[congr] theorem ZbL {K:AV->Prop} {l l' : List AV} (h:l=l'):Qak l K=Qak l' K:=by subst h;rfl
attribute [go_sem,go_sem ↓] xaq
end Go.Abs
end
section
namespace Go.Num
def res(c:Nat)(L:List Q2):List Q2:=if c=0 then lim64 L else []
def cod(c:Nat)(L:List Q2):Nat:=if c=0 then code64 L else c
end Go.Num
namespace Go.Abs
open Go.Num
variable {P:Program} {Γ:Nat->Spec}
def YX(tE m:Nat)(l:List AV)(K:AV->Prop):Prop:=
 match l with
 | [a,b]=>onAs (λl=>onAs (λk=>(chk [l,k]=0->l.length+k.length<=m)/\okAs 10000000 l/\okAs 10000000 k/\K (.tup [.one (.slice (((res (chk [l,k]) (nrm (vals l++vals k))).map acan).map aC)),errV tE (cod (chk [l,k]) (nrm (vals l++vals k)))])) b) a
 | _=>False
theorem W8(tE m:Nat)(a b:AV)(K:AV->Prop):YX tE m [a,b] K=(onAs (λl=>onAs (λk=>(chk [l,k]=0->l.length+k.length<=m)/\okAs 10000000 l/\okAs 10000000 k/\K (.tup [.one (.slice (((res (chk [l,k]) (nrm (vals l++vals k))).map acan).map aC)),errV tE (cod (chk [l,k]) (nrm (vals l++vals k)))])) b) a):=propext Iff.rfl
@[congr] theorem Wbz (tE m:Nat) {K:AV->Prop} {l l' : List AV} (h:l=l'):YX tE m l K=YX tE m l' K:=by subst h;rfl
attribute [go_sem,go_sem ↓] W8
def Wal(tE m:Nat)(l:List AV)(K:AV->Prop):Prop:=
 match l with
 | [a,b]=>onAs (λl=>onAs (λk=>(chk [l,k]=0->l.length<=m/\k.length<=m)/\okAs 10000000 l/\okAs 10000000 k/\K (.tup [.one (.slice (((res (chk [l,k]) (meetL (nrm (vals l)) (nrm (vals k)))).map acan).map aC)),errV tE (cod (chk [l,k]) (meetL (nrm (vals l)) (nrm (vals k))))])) b) a
 | _=>False
theorem Yas(tE m:Nat)(a b:AV)(K:AV->Prop):Wal tE m [a,b] K=(onAs (λl=>onAs (λk=>(chk [l,k]=0->l.length<=m/\k.length<=m)/\okAs 10000000 l/\okAs 10000000 k/\K (.tup [.one (.slice (((res (chk [l,k]) (meetL (nrm (vals l)) (nrm (vals k)))).map acan).map aC)),errV tE (cod (chk [l,k]) (meetL (nrm (vals l)) (nrm (vals k))))])) b) a):=propext Iff.rfl
@[congr] theorem YbK (tE m:Nat) {K:AV->Prop} {l l' : List AV} (h:l=l'):Wal tE m l K=Wal tE m l' K:=by subst h;rfl
attribute [go_sem,go_sem ↓] Yas
def va4(tE m:Nat)(l:List AV)(K:AV->Prop):Prop:=
 match l with
 | [a]=>onAs (λl=>(chk [l]=0->l.length<=m)/\okAs 10000000 l/\K (.tup [.one (.slice (((res (chk [l]) (notL (nrm (vals l)))).map acan).map aC)),errV tE (cod (chk [l]) (notL (nrm (vals l))))])) a
 | _=>False
theorem Wa5(tE m:Nat)(a:AV)(K:AV->Prop):va4 tE m [a] K=(onAs (λl=>(chk [l]=0->l.length<=m)/\okAs 10000000 l/\K (.tup [.one (.slice (((res (chk [l]) (notL (nrm (vals l)))).map acan).map aC)),errV tE (cod (chk [l]) (notL (nrm (vals l))))])) a):=propext Iff.rfl
@[congr] theorem UbS (tE m:Nat) {K:AV->Prop} {l l' : List AV} (h:l=l'):va4 tE m l K=va4 tE m l' K:=by subst h;rfl
attribute [go_sem,go_sem ↓] Wa5
end Go.Abs
end
section
namespace Go.Abs
open Go.Num
variable {P:Program} {Γ:Nat->Spec}
def qY(tE:Nat)(l:List AV)(K:AV->Prop):Prop:=
 match l with
 | [a,e,b,n]=>onAs (λl=>onErr tE (λc=>onAs (λm=>asInt (λk n=>k=.i64/\okAs 1073741824 l/\okAs 1073741824 m/\K (.one (.lit (.bool (decide ((c:Int)=n) && decide (vals l=vals m)))))) n) b) e) a
 | _=>False
theorem jaf(tE:Nat)(a e b n:AV)(K:AV->Prop):qY tE [a,e,b,n] K=(onAs (λl=>onErr tE (λc=>onAs (λm=>asInt (λk n=>k=.i64/\okAs 1073741824 l/\okAs 1073741824 m/\K (.one (.lit (.bool (decide ((c:Int)=n) && decide (vals l=vals m)))))) n) b) e) a):=propext Iff.rfl
@[congr] theorem qbH (tE:Nat) {K:AV->Prop} {l l' : List AV} (h:l=l'):qY tE l K=qY tE l' K:=by subst h;rfl
attribute [go_sem,go_sem ↓] jaf
def wa1(l:List AV)(K:AV->Prop):Prop:=
 match l with
 | [a,b]=>onAs (λl=>onR (λy=>okAs 1073741824 l/\rl y<=1073741824/\K (.one (.lit (.bool (l.any (inA (rv y))))))) b) a
 | _=>False
theorem ZaN(a b:AV)(K:AV->Prop):wa1 [a,b] K=(onAs (λl=>onR (λy=>okAs 1073741824 l/\rl y<=1073741824/\K (.one (.lit (.bool (l.any (inA (rv y))))))) b) a):=propext Iff.rfl
@[congr] theorem vbT {K:AV->Prop} {l l' : List AV} (h:l=l'):wa1 l K=wa1 l' K:=by subst h;rfl
attribute [go_sem,go_sem ↓] ZaN
def JX(l:List AV)(K:AV->Prop):Prop:=
 match l with
 | [a,b]=>onL (λL=>onR (λy=>(∀l∈L,okAs 1073741824 l)/\rl y<=1073741824/\L.length<=1000000/\K (.one (.lit (.int .i64 (L.countP (λl=>l.any (inA (rv y))):Nat))))) b) a
 | _=>False
theorem zaf(a b:AV)(K:AV->Prop):JX [a,b] K=(onL (λL=>onR (λy=>(∀l∈L,okAs 1073741824 l)/\rl y<=1073741824/\L.length<=1000000/\K (.one (.lit (.int .i64 (L.countP (λl=>l.any (inA (rv y))):Nat))))) b) a):=propext Iff.rfl
@[congr] theorem vbH {K:AV->Prop} {l l' : List AV} (h:l=l'):JX l K=JX l' K:=by subst h;rfl
attribute [go_sem,go_sem ↓] zaf
end Go.Abs
end
section
namespace Go.Abs
open Go.Num
def rC(x:R):List C:=[cb x,cn x,cd x]
theorem wbb(x:R):rC x=[cb x,cn x,cd x]:=eq_of_heq (HEq.refl _)
theorem zbk(x:R):(rC x).length=3:=eq_of_heq (HEq.refl _)
theorem Qx(K:List C->Prop)(L:List R)(i:Nat):getE K (L.map rC) i=(i<L.length/\K (rC (L.getD i (rcan 0)))):=by
 simp only [getE,List.length_map,List.getElem?_map];refine propext ⟨λh=>⟨h.1,h.2 _ (by simp [h.1,List.getD_eq_getElem?_getD])⟩,λh=>⟨h.1,λe he=>?_⟩⟩
 simp [h.1]at he;subst he;have:=h.2;simpa [List.getD_eq_getElem?_getD,h.1] using this
theorem VJ(l:List R):CleanR (l.map rC)=True:=eq_true λe he c hc=>by
 obtain⟨x,_,rfl⟩:=List.mem_map.1 he;exact JaF x c hc
theorem wbh(L:List R):(∀e∈L.map rC,e.length=3)=True:=eq_true λe he=>by
 obtain⟨l,_,rfl⟩:=List.mem_map.1 he;rfl
theorem Qa3(h:Nat->HB)(L:List R):(L.map rC).map (λx=>x.map (datC h))=L.map rC:=by
 rw [List.map_map];exact List.map_congr_left λx _=>rfl
theorem xaP(L:List R):(L.map rC).flatMap (λx=>x.flatMap ownC)=[]:=by
 rw [List.flatMap_map];exact List.flatMap_eq_nil_iff.2 λx _=>rfl
theorem uaK(h:Nat->HB)(L:List (List Arc)):(L.map lC).map (λx=>x.map (datC h))=L.map lC:=by
 rw [List.map_map];exact List.map_congr_left λx _=>rfl
theorem za3(L:List (List Arc)):(L.map lC).flatMap (λx=>x.flatMap ownC)=[]:=by
 rw [List.flatMap_map];exact List.flatMap_eq_nil_iff.2 λx _=>rfl
theorem VaN(h:Nat->HB):frz [] h=h:=eq_of_heq (HEq.refl _)
attribute [go_sem,go_sem ↓] zbk Qx VJ wbh Qa3 xaP uaK za3 VaN
end Go.Abs
end
section
namespace Go.Num
def posR:List R->Rat->Nat
 | [],_=>0
 | x::l,q=>if rv x<q then posR l q+1 else 0
def insR(l:List R)(y:R):List R:=if (l.drop (posR l (rv y))).head?.map rv=some (rv y) then l else l.take (posR l (rv y))++y::l.drop (posR l (rv y))
def okRs(b:Nat)(l:List R):Prop:=∀x∈l,WLR x/\rl x<=b
def insA(S:List R)(x:Arc):List R:=insR (insR S x.1) x.2
def marksR(L:List (List Arc)):List R:=L.flatten.foldl insA [rcan 0,rcan 1]
end Go.Num
namespace Go.Abs
open Go.Num
variable {P:Program} {Γ:Nat->Spec}
def rsA(l:List R):AV:=.one (.slice (l.map rC))
theorem QbE{x y:R}(h:rC x=rC y):x=y:=Yu x y (by simpa [rC,rA] using h)
theorem ya7(x y:List R)(h:rsA x=rsA y):x=y:=by
 simp only [rsA,AV.one.injEq,C.slice.injEq]at h;exact List.map_inj_right (λ_ _=>QbE) |>.1 h
def onRs(k:List R->Prop)(a:AV):Prop:=onE rsA (λl=>(∀x∈l,WLR x)/\k l) a
@[congr] theorem wbO {k:List R->Prop} {a a' : AV} (h:a=a'):onRs k a=onRs k a':=by subst h;rfl
theorem Qbh(k:List R->Prop)(l:List R):onRs k (.one (.slice (l.map rC)))=((∀x∈l,WLR x)/\k l):=Qp ya7 (λl=>(∀x∈l,WLR x)/\k l) l
theorem Qbk{β:Type}{T:List R->(β->Prop)->Prop}(h:∀l,GoodT (T l)){a:AV}:GoodT λK=>onRs (λl=>T l K) a:=
 zI (e:=rsA) (T:=λl K=>(∀x∈l,WLR x)/\T l K) ya7 λl=>GoodT.and (c:=∀x∈l,WLR x) (T:=T l) λ_=>h l
theorem yaA(l:List R):Clean (.slice (l.map rC))=True:=eq_true (.slice _ (of_eq_true (VJ l)))
theorem zbr(l:List R)(n:Nat):(l.map rC).take n=(l.take n).map rC:=by rw [List.map_take]
theorem Jbq(l:List R)(n:Nat):(l.map rC).drop n=(l.drop n).map rC:=by rw [List.map_drop]
theorem Vbe(l:List R):rsA l=.one (.slice (l.map rC)):=eq_of_heq (HEq.refl _)
attribute [go_sem] Qbh yaA Vbe zbr Jbq
attribute [go_sem ↓] Qbh yaA Vbe
def uV(l:List AV)(K:AV->Prop):Prop:=
 match l with
 | [a]=>onL (λL=>(∀l∈L,okAs 1073741824 l)/\L.flatten.length<=100000/\K (.one (.slice ((marksR L).map rC)))) a
 | _=>False
theorem J1(a:AV)(K:AV->Prop):uV [a] K=(onL (λL=>(∀l∈L,okAs 1073741824 l)/\L.flatten.length<=100000/\K (.one (.slice ((marksR L).map rC)))) a):=propext Iff.rfl
@[congr] theorem qbA {K:AV->Prop} {l l' : List AV} (h:l=l'):uV l K=uV l' K:=by subst h;rfl
attribute [go_sem,go_sem ↓] J1
def QL(l:List AV)(K:AV->Prop):Prop:=
 match l with
 | [a,b]=>onRs (λl=>onR (λy=>okRs 1073741824 l/\rl y<=1073741824/\l.length<=1000000/\K (.one (.slice ((insR l y).map rC)))) b) a
 | _=>False
theorem VT(a b:AV)(K:AV->Prop):QL [a,b] K=(onRs (λl=>onR (λy=>okRs 1073741824 l/\rl y<=1073741824/\l.length<=1000000/\K (.one (.slice ((insR l y).map rC)))) b) a):=propext Iff.rfl
@[congr] theorem Ybu {K:AV->Prop} {l l' : List AV} (h:l=l'):QL l K=QL l' K:=by subst h;rfl
attribute [go_sem,go_sem ↓] VT
end Go.Abs
end
section
namespace Go.Num
open Go.Abs
theorem Ybo{α:Type}{f:α->Bool}{l:List α}{k:Nat}{x:α}(h:l[k]?=some x)(hb:f x=false):l.all f=false:=by
 rw [List.all_eq_false];exact⟨x,List.mem_of_getElem? h,by simp [hb]⟩
theorem VX{α:Type}{f:α->Bool}{l:List α}{k:Nat}{x:α}(h:l[k]?=some x)(ht:(l.take k).all f=true)(hb:f x=true):(l.take (k+1)).all f=true:=by
 rw [List.take_add_one,h,List.all_append,ht];simp [hb]
theorem vC{α:Type}{l:List α}{k:Nat}{x d:α}(hk:k<l.length)(h:l.getD k d=x):l[k]?=some x:=by
 rw [<-h,List.getD_eq_getElem?_getD,List.getElem?_eq_getElem hk];rfl
def sR(n:Nat)(x:R):Bool:=decide (x.2.1.length<=n) && decide (x.2.2.length<=n)
def sP(p:Ps):Bool:=sR 2 p.1.1 && (sR 2 p.2.1 && sR 2 p.2.2)
def sA(p:Arc):Bool:=sR 2 p.1 && sR 2 p.2
def placeC(l:List Arc):Nat:=if l.all avld then 0 else 2
def chkC(l:List Ps)(m:List Arc):Nat:=if threeC l≠0 then threeC l else placeC m
theorem WM{n:Nat}{x:R}(h:sR n x=true):rl x<=n:=by
 simp only [sR,Bool.and_eq_true,decide_eq_true_eq]at h;exact Nat.max_le.2 h
end Go.Num
namespace Go.Abs
open Go.Num
variable {P:Program} {Γ:Nat->Spec}
def qsA(l:List V2):AV:=.one (.slice ((l.map acan).map aC))
theorem jbk(l:List V2):qsA l=.one (.slice ((l.map acan).map aC)):=eq_of_heq (HEq.refl _)
theorem XaW(k:List Arc->Prop)(a b c d e f:C):onAs k (.one (.slice [[a,b,c,d,e,f]]))=onO (λx=>onO (λy=>WLA (x,y)/\k [(x,y)]) (dR d e f)) (dR a b c):=by
 refine propext ⟨λ⟨t,h,h1⟩=>?_,λh=>?_⟩
 .simp only [asA,as,AV.one.injEq,C.slice.injEq]at h;match t,h with
  | [z],h=>
   simp only [List.map_cons,List.map_nil,aC,List.cons.injEq,and_true]at h;obtain⟨rfl,rfl,rfl,rfl,rfl,rfl⟩:=h;simp only [dR_e,XJ];exact⟨h1.1 _ (by simp),h1.2⟩
 .obtain⟨x,h1,q1⟩:=qc.1 h;obtain⟨y,h2,q2⟩:=qc.1 q1;obtain⟨rfl,rfl,rfl⟩:=Zc.1 h1;obtain⟨rfl,rfl,rfl⟩:=Zc.1 h2;exact⟨[(x,y)],rfl,λz hz=>by rw [List.mem_singleton.1 hz];exact q2.1,q2.2⟩
theorem YaK(k:List Arc->Prop)(a b c d e f a' b' c' d' e' f' : C):onAs k (.one (.slice [[a,b,c,d,e,f],[a',b',c',d',e',f']]))=onO (λx=>onO (λy=>onO (λz=>onO (λw=>WLA (x,y)/\WLA (z,w)/\k [(x,y),(z,w)]) (dR d' e' f')) (dR a' b' c')) (dR d e f)) (dR a b c):=by
 refine propext ⟨λ⟨t,h,h1⟩=>?_,λh=>?_⟩
 .simp only [asA,as,AV.one.injEq,C.slice.injEq]at h;match t,h with
  | [z,w],h=>
   simp only [List.map_cons,List.map_nil,aC,List.cons.injEq,and_true]at h;obtain⟨⟨rfl,rfl,rfl,rfl,rfl,rfl⟩,rfl,rfl,rfl,rfl,rfl,rfl⟩:=h;simp only [dR_e,XJ];exact⟨h1.1 _ (by simp),h1.1 _ (by simp),h1.2⟩
 .obtain⟨x,h1,q1⟩:=qc.1 h;obtain⟨y,h2,q2⟩:=qc.1 q1;obtain⟨z,h3,q3⟩:=qc.1 q2;obtain⟨w,h4,q4⟩:=qc.1 q3;obtain⟨rfl,rfl,rfl⟩:=Zc.1 h1;obtain⟨rfl,rfl,rfl⟩:=Zc.1 h2;obtain⟨rfl,rfl,rfl⟩:=Zc.1 h3;obtain⟨rfl,rfl,rfl⟩:=Zc.1 h4;refine⟨[(x,y),(z,w)],rfl,λv hv=>?_,q4.2.2⟩;simp only [List.mem_cons,List.not_mem_nil,or_false]at hv;rcases hv with rfl|rfl
  .exact q4.1
  .exact q4.2.1
theorem Ybg(k:List R->Prop)(a b c d e f g h i:C):onRs k (.one (.slice [[a,b,c],[d,e,f],[g,h,i]]))=onO (λx=>onO (λy=>onO (λz=>(WLR x/\WLR y/\WLR z)/\k [x,y,z]) (dR g h i)) (dR d e f)) (dR a b c):=by
 refine propext ⟨λ⟨t,h,h1⟩=>?_,λh=>?_⟩
 .simp only [rsA,AV.one.injEq,C.slice.injEq]at h;match t,h with
  | [x,y,z],h=>
   simp only [List.map_cons,List.map_nil,rC,List.cons.injEq,and_true]at h;obtain⟨⟨rfl,rfl,rfl⟩,⟨rfl,rfl,rfl⟩,rfl,rfl,rfl⟩:=h;simp only [dR_e,XJ];exact⟨⟨h1.1 _ (by simp),h1.1 _ (by simp),h1.1 _ (by simp)⟩,h1.2⟩
 .obtain⟨x,h1,q1⟩:=qc.1 h;obtain⟨y,h2,q2⟩:=qc.1 q1;obtain⟨z,h3,q3⟩:=qc.1 q2;obtain⟨rfl,rfl,rfl⟩:=Zc.1 h1;obtain⟨rfl,rfl,rfl⟩:=Zc.1 h2;obtain⟨rfl,rfl,rfl⟩:=Zc.1 h3;refine⟨[x,y,z],rfl,λv hv=>?_,q3.2⟩;simp only [List.mem_cons,List.not_mem_nil,or_false]at hv;rcases hv with rfl|rfl|rfl
  .exact q3.1.1
  .exact q3.1.2.1
  .exact q3.1.2.2
theorem Qbf(k:List R->Prop)(a b c d e f g h i j l m n o p:C):onRs k (.one (.slice [[a,b,c],[d,e,f],[g,h,i],[j,l,m],[n,o,p]]))=onO (λx=>onO (λy=>onO (λz=>onO (λu=>onO (λv=>(WLR x/\WLR y/\WLR z/\WLR u/\WLR v)/\k [x,y,z,u,v]) (dR n o p)) (dR j l m)) (dR g h i)) (dR d e f)) (dR a b c):=by
 refine propext ⟨λ⟨t,h,h1⟩=>?_,λh=>?_⟩
 .simp only [rsA,AV.one.injEq,C.slice.injEq]at h;match t,h with
  | [x,y,z,u,v],h=>
   simp only [List.map_cons,List.map_nil,rC,List.cons.injEq,and_true]at h;obtain⟨⟨rfl,rfl,rfl⟩,⟨rfl,rfl,rfl⟩,⟨rfl,rfl,rfl⟩,⟨rfl,rfl,rfl⟩,rfl,rfl,rfl⟩:=h;simp only [dR_e,XJ];exact⟨⟨h1.1 _ (by simp),h1.1 _ (by simp),h1.1 _ (by simp),h1.1 _ (by simp),h1.1 _ (by simp)⟩,h1.2⟩
 .obtain⟨x,h1,q1⟩:=qc.1 h;obtain⟨y,h2,q2⟩:=qc.1 q1;obtain⟨z,h3,q3⟩:=qc.1 q2;obtain⟨u,h4,q4⟩:=qc.1 q3;obtain⟨v,h5,q5⟩:=qc.1 q4;obtain⟨rfl,rfl,rfl⟩:=Zc.1 h1;obtain⟨rfl,rfl,rfl⟩:=Zc.1 h2;obtain⟨rfl,rfl,rfl⟩:=Zc.1 h3;obtain⟨rfl,rfl,rfl⟩:=Zc.1 h4;obtain⟨rfl,rfl,rfl⟩:=Zc.1 h5;refine⟨[x,y,z,u,v],rfl,λw hw=>?_,q5.2⟩;obtain⟨w1,w2,w3,w4,w5⟩:=q5.1;simp only [List.mem_cons,List.not_mem_nil,or_false]at hw;rcases hw with rfl|rfl|rfl|rfl|rfl <;> assumption
attribute [go_sem,go_sem ↓] XaW YaK Ybg Qbf jbk
def ZaW(tE:Nat)(l:List AV)(K:AV->Prop):Prop:=
 match l with
 | [a]=>onPs (λl=>okPs 100000000 l/\K (errV tE (if l.all pvld=true then 0 else 2))) a
 | _=>False
theorem uaL(tE:Nat)(a:AV)(K:AV->Prop):ZaW tE [a] K=(onPs (λl=>okPs 100000000 l/\K (errV tE (if l.all pvld=true then 0 else 2))) a):=propext Iff.rfl
@[congr] theorem vbN (tE:Nat) {K:AV->Prop} {l l' : List AV} (h:l=l'):ZaW tE l K=ZaW tE l' K:=by subst h;rfl
attribute [go_sem,go_sem ↓] uaL
def qa5(tE:Nat)(l:List AV)(K:AV->Prop):Prop:=
 match l with
 | [a]=>onPs (λl=>okPs 100000000 l/\K (errV tE (plchk l))) a
 | _=>False
theorem Wa4(tE:Nat)(a:AV)(K:AV->Prop):qa5 tE [a] K=(onPs (λl=>okPs 100000000 l/\K (errV tE (plchk l))) a):=propext Iff.rfl
@[congr] theorem kbP (tE:Nat) {K:AV->Prop} {l l' : List AV} (h:l=l'):qa5 tE l K=qa5 tE l' K:=by subst h;rfl
attribute [go_sem,go_sem ↓] Wa4
def jan(l:List AV)(K:AV->Prop):Prop:=
 match l with
 | [a]=>onPs (λl=>okPs 100000000 l/\K (.one (.lit (.int .i64 (plchk l:Nat))))) a
 | _=>False
theorem jao(a:AV)(K:AV->Prop):jan [a] K=(onPs (λl=>okPs 100000000 l/\K (.one (.lit (.int .i64 (plchk l:Nat))))) a):=propext Iff.rfl
@[congr] theorem UbK {K:AV->Prop} {l l' : List AV} (h:l=l'):jan l K=jan l' K:=by subst h;rfl
attribute [go_sem,go_sem ↓] jao
def JZ(l:List AV)(K:AV->Prop):Prop:=
 match l with
 | [a]=>onPs (λl=>okPs 100000000 l/\K (.one (.lit (.int .i64 (threeC l:Nat))))) a
 | _=>False
theorem Uae(a:AV)(K:AV->Prop):JZ [a] K=(onPs (λl=>okPs 100000000 l/\K (.one (.lit (.int .i64 (threeC l:Nat))))) a):=propext Iff.rfl
@[congr] theorem ZbB {K:AV->Prop} {l l' : List AV} (h:l=l'):JZ l K=JZ l' K:=by subst h;rfl
attribute [go_sem,go_sem ↓] Uae
def Xam(tE:Nat)(l:List AV)(K:AV->Prop):Prop:=
 match l with
 | [a,b]=>onPs (λl=>onA (λq=>okPs 1000000 l/\al q<=1000000/\l.length<=100000/\K (.tup [qsA (if imgC l q=0 then imgs l q else []),errV tE (imgC l q)])) b) a
 | _=>False
theorem Vau(tE:Nat)(a b:AV)(K:AV->Prop):Xam tE [a,b] K=(onPs (λl=>onA (λq=>okPs 1000000 l/\al q<=1000000/\l.length<=100000/\K (.tup [qsA (if imgC l q=0 then imgs l q else []),errV tE (imgC l q)])) b) a):=propext Iff.rfl
@[congr] theorem YbH (tE:Nat) {K:AV->Prop} {l l' : List AV} (h:l=l'):Xam tE l K=Xam tE l' K:=by subst h;rfl
attribute [go_sem,go_sem ↓] Vau
def kK(l:List AV)(K:AV->Prop):Prop:=
 match l with
 | [a,b]=>onPs (λl=>onA (λq=>okPs 1000000 l/\al q<=1000000/\l.length<=100000/\K (qsA (imgs l q))) b) a
 | _=>False
theorem ZT(a b:AV)(K:AV->Prop):kK [a,b] K=(onPs (λl=>onA (λq=>okPs 1000000 l/\al q<=1000000/\l.length<=100000/\K (qsA (imgs l q))) b) a):=propext Iff.rfl
@[congr] theorem zbu {K:AV->Prop} {l l' : List AV} (h:l=l'):kK l K=kK l' K:=by subst h;rfl
attribute [go_sem,go_sem ↓] ZT
def zY(l:List AV)(K:AV->Prop):Prop:=
 match l with
 | [a]=>onPs (λl=>okPs 4294967296 l/\K (.one (.lit (.bool (l.all sP))))) a
 | _=>False
theorem jab(a:AV)(K:AV->Prop):zY [a] K=(onPs (λl=>okPs 4294967296 l/\K (.one (.lit (.bool (l.all sP))))) a):=propext Iff.rfl
@[congr] theorem YbB {K:AV->Prop} {l l' : List AV} (h:l=l'):zY l K=zY l' K:=by subst h;rfl
attribute [go_sem,go_sem ↓] jab
def Xs(l:List AV)(K:AV->Prop):Prop:=
 match l with
 | [a]=>onAs (λl=>okAs 4294967296 l/\K (.one (.lit (.bool (l.all sA))))) a
 | _=>False
theorem Qag(a:AV)(K:AV->Prop):Xs [a] K=(onAs (λl=>okAs 4294967296 l/\K (.one (.lit (.bool (l.all sA))))) a):=propext Iff.rfl
@[congr] theorem zbw {K:AV->Prop} {l l' : List AV} (h:l=l'):Xs l K=Xs l' K:=by subst h;rfl
attribute [go_sem,go_sem ↓] Qag
theorem zah:Good Xs:=Xa λas=>by
 unfold Xs;split
 .exact(vbj λ_=>(.and λ_=>(.ret _)))
 .exact .of λK hk=>hk.elim
def YZ(l:List AV)(K:AV->Prop):Prop:=
 match l with
 | [a]=>onPs (λl=>okPs 4294967296 l/\K (.one (.lit (.bool (decide (l.length<=20) && l.all sP))))) a
 | _=>False
theorem jac(a:AV)(K:AV->Prop):YZ [a] K=(onPs (λl=>okPs 4294967296 l/\K (.one (.lit (.bool (decide (l.length<=20) && l.all sP))))) a):=propext Iff.rfl
@[congr] theorem QbH {K:AV->Prop} {l l' : List AV} (h:l=l'):YZ l K=YZ l' K:=by subst h;rfl
attribute [go_sem,go_sem ↓] jac
def ual(tE:Nat)(l:List AV)(K:AV->Prop):Prop:=
 match l with
 | [a,b]=>onPs (λl=>onAs (λm=>okPs 100000000 l/\okAs 100000000 m/\K (errV tE (chkC l m))) b) a
 | _=>False
theorem ZaB(tE:Nat)(a b:AV)(K:AV->Prop):ual tE [a,b] K=(onPs (λl=>onAs (λm=>okPs 100000000 l/\okAs 100000000 m/\K (errV tE (chkC l m))) b) a):=propext Iff.rfl
@[congr] theorem WbH (tE:Nat) {K:AV->Prop} {l l' : List AV} (h:l=l'):ual tE l K=ual tE l' K:=by subst h;rfl
attribute [go_sem,go_sem ↓] ZaB
def Jz(l:List AV)(K:AV->Prop):Prop:=
 match l with
 | [a,b]=>onRs (λl=>onRs (λm=>okRs 4294967296 l/\K (.one (.lit (.bool (decide (l=m)))))) b) a
 | _=>False
theorem XaA(a b:AV)(K:AV->Prop):Jz [a,b] K=(onRs (λl=>onRs (λm=>okRs 4294967296 l/\K (.one (.lit (.bool (decide (l=m)))))) b) a):=propext Iff.rfl
@[congr] theorem wbJ {K:AV->Prop} {l l' : List AV} (h:l=l'):Jz l K=Jz l' K:=by subst h;rfl
attribute [go_sem,go_sem ↓] XaA
theorem WaE:Good Jz:=Xa λas=>by
 unfold Jz;split
 .exact(Qbk λ_=>(Qbk λ_=>(.and λ_=>(.ret _))))
 .exact .of λK hk=>hk.elim
def jl(f0:Nat):AC:=(.seq (.ops false [.m 4 .fa])
 (.fg [0,1] (.seq (.seq (.ops false [.m 6 (.t 0),.u 7 (.len (.t 6)),.m 8 (.t 1),.u 9 (.len (.t 8)),.u 10 (.bin .neq (.t 7) (.t 9))])
 (.fg [0,1,10] (.cond (.t 10) (.seq (.ops false [.m 4 .fa])
 .ret) .skip)))
 (.fg [0,1] (.seq (.seq (.ops false [.m 5 (.i 0)])
 (.fg [0,1,5] (.block 0 (.loop (.seq (.seq (.ops false [.m 11 (.t 5),.m 12 (.t 0),.u 13 (.len (.t 12)),.u 14 (.bin .lss (.t 11) (.t 13))])
 (.fg [0,1,5,14] (.cond (.t 14) .skip (.exit 0))))
 (.fg [0,1,5] (.seq (.block 1 (.seq (.ops true [.m 17 (.t 0),.m 18 (.t 5),.u 19 (.idx 3 (.t 17) (.t 18)),.u 20 (.ld none 3 true (.t 19)),.m 21 (.t 1),.m 22 (.t 5),.u 23 (.idx 3 (.t 21) (.t 22)),.u 24 (.ld none 3 true (.t 23)),.u 25 (.call f0 [(.t 20),(.t 24)]),.u 26 (.un .not (.t 25))])
 (.fg [0,1,5,26] (.cond (.t 26) (.seq (.ops false [.m 4 .fa])
 .ret) .skip))))
 (.fg [0,1,5] (.ops false [.m 15 (.t 5),.u 16 (.bin .add (.t 15) (.i 1)),.m 5 (.t 16)])))))))))
 (.fg [] (.seq (.ops false [.m 4 .tr])
 .ret)))))))
def je:AC:=(.seq (.ops false [.m 2 .fa])
 (.fg [0] (.seq (.seq (.ops false [.m 7 (.t 0),.u 8 (.len (.t 7)),.m 9 (.i 0)])
 (.fg [7,8,9] (.block 0 (.loop (.seq (.ops false [.u 10 (.bin .lss (.t 9) (.t 8))])
 (.fg [7,8,9,10] (.seq (.cond (.t 10) .skip (.exit 0))
 (.fg [7,8,9] (.seq (.block 1 (.seq (.ops false [.u 11 (.idx 6 (.t 7) (.t 9)),.u 12 (.ld none 6 true (.t 11)),.u 4 (.alloc [(.lit (.bool false)),.emp,.emp,(.lit (.bool false)),.emp,.emp]),.n (.st none 6 (.t 4) (.t 12))])
 (.fg [4,7,8,9] (.seq (.ops false [.u 13 (.fa 0 (.t 4)),.u 14 (.ld none 3 true (.t 13)),.u 15 (.fa 3 (.t 4)),.u 16 (.ld none 3 true (.t 15)),.u 17 (.row 3 [[.x 3 (.t 14)],[.x 3 (.t 16)]]),.u 18 (.len (.t 17)),.m 19 (.i 0)])
 (.fg [7,8,9,17,18,19] (.block 2 (.loop (.seq (.ops false [.u 20 (.bin .lss (.t 19) (.t 18))])
 (.fg [7,8,9,17,18,19,20] (.seq (.cond (.t 20) .skip (.exit 2))
 (.fg [7,8,9,17,18,19] (.seq (.block 3 (.seq (.ops false [.u 21 (.idx 3 (.t 17) (.t 19)),.u 22 (.ld none 3 true (.t 21)),.u 6 (.alloc [(.lit (.bool false)),.emp,.emp]),.n (.st none 3 (.t 6) (.t 22))])
 (.fg [6,7,8,9,17,18,19] (.seq (.ops false [.u 23 (.fa 1 (.t 6)),.u 24 (.ld none 1 false (.t 23)),.u 25 (.len (.t 24)),.u 26 (.bin .gtr (.t 25) (.i 2)),.m 27 (.t 26),.w 28 27 false (.fa 2 (.t 6)),.w 29 27 false (.ld none 1 false (.t 28)),.w 30 27 false (.len (.t 29)),.w 31 27 false (.bin .gtr (.t 30) (.i 2)),.u 32 (.pick (.t 27) .tr (.t 31))])
 (.fg [7,8,9,17,18,19,32] (.cond (.t 32) (.seq (.ops false [.m 2 .fa])
 .ret) .skip))))))
 (.fg [7,8,9,17,18,19] (.ops false [.u 33 (.bin .add (.t 19) (.i 1)),.m 19 (.t 33)]))))))))))))))
 (.fg [7,8,9] (.ops false [.u 34 (.bin .add (.t 9) (.i 1)),.m 9 (.t 34)])))))))))))
 (.fg [] (.seq (.ops false [.m 2 .tr])
 .ret)))))
theorem wac(hΓ:Holds P Γ){f:Nat}(hc:check P f=some (35,je.strip,[.tmp 2])):Sound P f (.dat true Xs):=by
 refine Va hc zah hΓ (λargs K hcl hfi hG=>?_);match args,hG with
 | [a],hG=>
  obtain⟨l,rfl,hwl,hok,hK⟩:=hG;refine⟨by simp,?_⟩
  simp only [go_sem,je];intro _;refine ua (λk:Nat=>⟨mkV [(7,asA l),(8,.one (.lit (.int .i64 l.length))),(9,.one (.lit (.int .i64 k)))],mkH []⟩) (λk=>k<=l.length/\(l.take k).all sA=true) (λk=>l.length-k) 0 ?_ ?_ ?_
  .exact ja (by simp [okS,okV,okC,okL,okH,okB,okE,Qa,Wa,Za,Ya,wsA,ws,asA,as]) trivial
  .exact⟨Nat.zero_le _,rfl⟩
  .rintro k ⟨hk,hall⟩;by_cases hlt:k<l.length
   .obtain⟨p,hp⟩:∃p,l.getD k a0=p:=⟨_,rfl⟩;have hp0:=vC hlt hp;obtain⟨hp1,hp2⟩:=hok p (List.mem_of_getElem? hp0);obtain⟨xs,hxs⟩:∃xs:List R,xs=[p.1,p.2]:=⟨_,rfl⟩;have hlx:xs.length=2:=by rw [hxs];rfl
    have hwx:∀x∈xs,rl x<=4294967296:=by
     intro x hx;rw [hxs]at hx;simp only [List.mem_cons,List.not_mem_nil,or_false]at hx;obtain⟨l3,l4⟩:=al1 hp2;rcases hx with rfl|rfl <;> assumption
    have hex:xs.all (sR 2)=sA p:=by rw [hxs];simp only [List.all_cons,List.all_nil,Bool.and_true];rfl
    simp only [go_sem,hlt,hp,ud];refine ua (λj:Nat=>⟨mkV [(7,asA l),(8,.one (.lit (.int .i64 l.length))),(9,.one (.lit (.int .i64 k))),(17,.one (.full (xs.map rC))),(18,.one (.lit (.int .i64 2))),(19,.one (.lit (.int .i64 j)))],mkH []⟩) (λj=>j<=2/\(xs.take j).all (sR 2)=true) (λj=>2-j) 0 ?_ ?_ ?_
    .exact ja (by rw [hxs];simp [okS,okV,okC,okL,okH,okB,okE,Qa,Wa,Za,Ya,wsA,ws,asA,as,rC]) trivial
    .exact⟨Nat.zero_le _,rfl⟩
    .rintro j ⟨hj,hallj⟩;by_cases hltj:j<2
     .obtain⟨x,hx⟩:∃x,xs.getD j (rcan 0)=x:=⟨_,rfl⟩;have hx0:=vC (by omega:j<xs.length) hx
      have hxr:=hwx x (List.mem_of_getElem? hx0);have hjx:j<xs.length:=by omega
      obtain⟨b,n,d⟩:=x;have w1:n.length<=4294967296:=Nat.le_trans (Nat.le_max_left _ _) hxr;have w2:d.length<=4294967296:=Nat.le_trans (Nat.le_max_right _ _) hxr;have bad:¬(sR 2 (b,n,d)=true)->K (.one (.lit (.bool false))):=by
       intro hb;have e1:sA p=false:=by rw [<-hex];exact Ybo hx0 (by simpa using hb)
       rw [Ybo hp0 e1]at hK;exact hK
      have hsr:sR 2 (b,n,d)=true↔n.length<=2/\d.length<=2:=by simp [sR]
      simp only [go_sem,hltj,hjx,hx,wbb,cb,cn,cd,ws,hlx];exact⟨λ_ _=>⟨λh=>bad (λe=>by have:=hsr.1 e;omega),λh _=>⟨λh'=>bad (λe=>by have:=hsr.1 e;omega),λh'=>⟨by omega,j+1,ja (by simp [okS,okV,okC,okL,okH,okB,okE,Qa,Wa,Za,Ya,wsA,ws,asA,as]) trivial,⟨by omega,VX hx0 hallj (hsr.2 ⟨by omega,by omega⟩)⟩,by omega⟩⟩⟩,λh=>absurd (by omega) h⟩
     .rw [List.take_of_length_le (by omega),hex]at hallj
      simp only [go_sem,hltj];exact⟨λh=>absurd h (by omega),λ_=>⟨by omega,k+1,ja (by simp [okS,okV,okC,okL,okH,okB,okE,Qa,Wa,Za,Ya,wsA,ws,asA,as]) trivial,⟨by omega,VX hp0 hall hallj⟩,by omega⟩⟩
   .rw [List.take_of_length_le (by omega)]at hall
    rw [hall]at hK;simp only [go_sem,hlt];exact hK
theorem Uam(hΓ:Holds P Γ){f fr:Nat}(hr:Γ fr=.dat true JD)(hc:check P f=some (27,(jl fr).strip,[.tmp 4])):Sound P f (.dat true Jz):=by
 refine Va hc WaE hΓ (λargs K hcl hfi hG=>?_);match args,hG with
 | [a,b],hG=>
  obtain⟨x,rfl,hx,y,rfl,hy,hxl,hK⟩:=hG;refine⟨by simp,?_⟩
  simp only [go_sem,jl,hr];intro h1 h2;refine⟨λhl=>?_,λhne=>?_⟩
  rotate_left
  .rw [decide_eq_false (λh=>hne (by rw [h]))]at hK;exact hK
  refine ua (λn:Nat=>⟨mkV [(0,rsA x),(1,rsA y),(5,.one (.lit (.int .i64 n)))],mkH []⟩) (λn=>n<=x.length/\x.take n=y.take n) (λn=>x.length-n) 0 ?_ ?_ ?_
  .exact ja (by simp [okS,okV,okC,okL,okH,okB,okE,Qa,Wa,Za,Ya,wsA,ws,rsA]) trivial
  .exact⟨Nat.zero_le _,rfl⟩
  .rintro n ⟨hn,hd⟩;by_cases hlt:n<x.length
   .have hlt' : n<y.length:=by omega
    obtain⟨u,hu⟩:∃u,x.getD n (rcan 0)=u:=⟨_,rfl⟩;obtain⟨v,hv⟩:∃v,y.getD n (rcan 0)=v:=⟨_,rfl⟩;have hu0:=vC hlt hu;have hv0:=vC hlt' hv;obtain⟨u1,u2⟩:=hxl u (List.mem_of_getElem? hu0);have v1:=hy v (List.mem_of_getElem? hv0);by_cases he:u=v
    .simp only [go_sem,hr,hlt,hlt',hu,hv,wbb,decide_eq_true he];exact λ_=>⟨u1,v1,u2,by omega,n+1,ja (by simp [okS,okV,okC,okL,okH,okB,okE,Qa,Wa,Za,Ya,wsA,ws,rsA]) trivial,⟨by omega,by rw [List.take_add_one,List.take_add_one,hu0,hv0,hd,he]⟩,by omega⟩
    .have hne:decide (x=y)=false:=decide_eq_false λh=>by
      subst h;rw [hu0]at hv0;exact he (Option.some.inj hv0)
     rw [hne]at hK;simp only [go_sem,hr,hlt,hlt',hu,hv,wbb,decide_eq_false he];exact λ_=>⟨u1,v1,u2,hK⟩
   .simp only [go_sem,hlt];rw [List.take_of_length_le (by omega),List.take_of_length_le (by omega)]at hd
    rw [decide_eq_true hd]at hK;exact λ_=>hK
end Go.Abs
end
section
namespace Go.Num
open Go.Abs
def ctrQ(p u v:V2):V2:=(p.1+(sqQ u*v.2-sqQ v*u.2) / (2*crossQ u v),p.2+(sqQ v*u.1-sqQ u*v.1) / (2*crossQ u v))
def ciQ(p u v:V2):V2:=if crossQ u v=0 then (0,0) else ctrQ p u v
def ciL(l:List Arc):V2:=ciQ (av (l.getD 0 a0)) (subQ (av (l.getD 1 a0)) (av (l.getD 0 a0))) (subQ (av (l.getD 2 a0)) (av (l.getD 0 a0)))
def crL(l:List Arc):Rat:=crossQ (subQ (av (l.getD 1 a0)) (av (l.getD 0 a0))) (subQ (av (l.getD 2 a0)) (av (l.getD 0 a0)))
end Go.Num
namespace Go.Abs
open Go.Num
variable {P:Program} {Γ:Nat->Spec}
def Xak(tE:Nat)(l:List AV)(K:AV->Prop):Prop:=
 match l with
 | [a]=>onAs (λl=>okAs 1000000 l/\3<=l.length/\K (.tup [pQ (ciL l),errV tE (if crL l=0 then 8 else 0)])) a
 | _=>False
theorem JaC(tE:Nat)(a:AV)(K:AV->Prop):Xak tE [a] K=(onAs (λl=>okAs 1000000 l/\3<=l.length/\K (.tup [pQ (ciL l),errV tE (if crL l=0 then 8 else 0)])) a):=propext Iff.rfl
@[congr] theorem VbJ (tE:Nat) {K:AV->Prop} {l l' : List AV} (h:l=l'):Xak tE l K=Xak tE l' K:=by subst h;rfl
attribute [go_sem,go_sem ↓] JaC
def jai(l:List AV)(K:AV->Prop):Prop:=
 match l with
 | [a]=>onAs (λl=>okAs 1000000 l/\3<=l.length/\K (.tup [pQ (ciL l),.one (.lit (.bool (decide (crL l≠0))))])) a
 | _=>False
theorem Uau(a:AV)(K:AV->Prop):jai [a] K=(onAs (λl=>okAs 1000000 l/\3<=l.length/\K (.tup [pQ (ciL l),.one (.lit (.bool (decide (crL l≠0))))])) a):=propext Iff.rfl
@[congr] theorem wbL {K:AV->Prop} {l l' : List AV} (h:l=l'):jai l K=jai l' K:=by subst h;rfl
attribute [go_sem,go_sem ↓] Uau
end Go.Abs
end
section
namespace Go.Abs
open Go.Num
variable {P:Program} {Γ:Nat->Spec}
def QY(l:List AV)(K:AV->Prop):Prop:=
 match l with
 | [a]=>asInt (λk n=>k=.i64/\n=1/\K (.one (.lit (.string ⟨#[49]⟩)))) a
 | _=>False
theorem Vad(a:AV)(K:AV->Prop):QY [a] K=(asInt (λk n=>k=.i64/\n=1/\K (.one (.lit (.string ⟨#[49]⟩)))) a):=propext Iff.rfl
@[congr] theorem XbC {K:AV->Prop} {l l' : List AV} (h:l=l'):QY l K=QY l' K:=by subst h;rfl
attribute [go_sem,go_sem ↓] Vad
def Uag(l:List AV)(K:AV->Prop):Prop:=
 match l with
 | [a,b]=>asInt (λk n=>k=.i64/\n=1/\asInt (λk m=>k=.i64/\m=10/\K (.one (.lit (.string ⟨#[49]⟩)))) b) a
 | _=>False
theorem vav(a b:AV)(K:AV->Prop):Uag [a,b] K=(asInt (λk n=>k=.i64/\n=1/\asInt (λk m=>k=.i64/\m=10/\K (.one (.lit (.string ⟨#[49]⟩)))) b) a):=propext Iff.rfl
@[congr] theorem QbJ {K:AV->Prop} {l l' : List AV} (h:l=l'):Uag l K=Uag l' K:=by subst h;rfl
attribute [go_sem,go_sem ↓] vav
def vag(l:List AV)(K:AV->Prop):Prop:=
 match l with
 | [a]=>asInt (λk n=>k=.i64/\n=1/\K (.one (.lit (.string ⟨#[49]⟩)))) a
 | _=>False
theorem qaA(a:AV)(K:AV->Prop):vag [a] K=(asInt (λk n=>k=.i64/\n=1/\K (.one (.lit (.string ⟨#[49]⟩)))) a):=propext Iff.rfl
@[congr] theorem WbI {K:AV->Prop} {l l' : List AV} (h:l=l'):vag l K=vag l' K:=by subst h;rfl
attribute [go_sem,go_sem ↓] qaA
def uai(l:List AV)(K:AV->Prop):Prop:=
 match l with
 | [a,b]=>a=.one (.slice [[.lit (.string ⟨#[49]⟩)]])/\b=.one (.lit (.string ⟨#[]⟩))/\K (.one (.lit (.string ⟨#[49]⟩)))
 | _=>False
theorem uav(a b:AV)(K:AV->Prop):uai [a,b] K=(a=.one (.slice [[.lit (.string ⟨#[49]⟩)]])/\b=.one (.lit (.string ⟨#[]⟩))/\K (.one (.lit (.string ⟨#[49]⟩)))):=propext Iff.rfl
@[congr] theorem qbI {K:AV->Prop} {l l' : List AV} (h:l=l'):uai l K=uai l' K:=by subst h;rfl
attribute [go_sem,go_sem ↓] uav
def wai(l:List AV)(K:AV->Prop):Prop:=
 match l with
 | [a]=>onW (λw=>zv w=1/\K (.one (.lit (.string ⟨#[49]⟩)))) a
 | _=>False
theorem xaz(a:AV)(K:AV->Prop):wai [a] K=(onW (λw=>zv w=1/\K (.one (.lit (.string ⟨#[49]⟩)))) a):=propext Iff.rfl
@[congr] theorem XbK {K:AV->Prop} {l l' : List AV} (h:l=l'):wai l K=wai l' K:=by subst h;rfl
attribute [go_sem,go_sem ↓] xaz
def Qan(l:List AV)(K:AV->Prop):Prop:=
 match l with
 | [a]=>onR (λx=>rv x=1/\rl x<=4294967296/\K (.one (.lit (.string ⟨#[49]⟩)))) a
 | _=>False
theorem Wat(a:AV)(K:AV->Prop):Qan [a] K=(onR (λx=>rv x=1/\rl x<=4294967296/\K (.one (.lit (.string ⟨#[49]⟩)))) a):=propext Iff.rfl
@[congr] theorem vbJ {K:AV->Prop} {l l' : List AV} (h:l=l'):Qan l K=Qan l' K:=by subst h;rfl
attribute [go_sem,go_sem ↓] Wat
def Ub:AC:=(.seq (.ops false [.m 2 (.c (.one (.lit (.string ⟨#[]⟩))))])
 (.fg [0] (.seq (.seq (.ops false [.m 3 (.t 0),.u 4 (.bin .lss (.t 3) (.i 10))])
 (.fg [0,4] (.cond (.t 4) (.seq (.ops false [.m 5 (.t 0),.m 6 (.t 0),.u 7 (.bin .add (.t 6) (.i 1)),.u 8 (.sop 0 [(.c (.one (.lit (.string ⟨#[48,49,50,51,52,53,54,55,56,57,97,98,99,100,101,102,103,104,105,106,107,108,109,110,111,112,113,114,115,116,117,118,119,120,121,122]⟩)))),(.t 5),(.t 7)]),.m 2 (.t 8)])
 .ret) .skip)))
 (.fg [0] (.seq (.ops false [.m 9 (.t 0),.u 10 (.bin .mul (.t 9) (.i 2)),.m 11 (.t 0),.u 12 (.bin .mul (.t 11) (.i 2)),.u 13 (.bin .add (.t 12) (.i 2)),.u 14 (.sop 0 [(.c (.one (.lit (.string ⟨#[48,48,48,49,48,50,48,51,48,52,48,53,48,54,48,55,48,56,48,57,49,48,49,49,49,50,49,51,49,52,49,53,49,54,49,55,49,56,49,57,50,48,50,49,50,50,50,51,50,52,50,53,50,54,50,55,50,56,50,57,51,48,51,49,51,50,51,51,51,52,51,53,51,54,51,55,51,56,51,57,52,48,52,49,52,50,52,51,52,52,52,53,52,54,52,55,52,56,52,57,53,48,53,49,53,50,53,51,53,52,53,53,53,54,53,55,53,56,53,57,54,48,54,49,54,50,54,51,54,52,54,53,54,54,54,55,54,56,54,57,55,48,55,49,55,50,55,51,55,52,55,53,55,54,55,55,55,56,55,57,56,48,56,49,56,50,56,51,56,52,56,53,56,54,56,55,56,56,56,57,57,48,57,49,57,50,57,51,57,52,57,53,57,54,57,55,57,56,57,57]⟩)))),(.t 10),(.t 13)]),.m 2 (.t 14)])
 .ret)))))
def Vd(f0 f1 f2 f3:Nat):AC:=(.seq (.ops false [.m 4 (.c (.one (.lit (.string ⟨#[]⟩))))])
 (.fg [0,1] (.seq (.seq (.ops false [.m 10 (.t 1),.u 11 (.bin .eql (.t 10) (.i 10))])
 (.fg [0,1,11] (.cond (.t 11) (.seq (.seq (.ops false [.m 12 (.t 0),.u 13 (.bin .leq (.i 0) (.t 12)),.m 14 (.t 13),.w 15 14 true (.mv (.t 0)),.w 16 14 true (.bin .lss (.t 15) (.i 100)),.u 17 (.pick (.t 14) (.t 16) .fa)])
 (.fg [0,17] (.cond (.t 17) (.seq (.ops false [.m 18 (.t 0),.u 19 (.call f0 [(.t 18)]),.m 4 (.t 19)])
 .ret) .skip)))
 (.fg [0] (.seq (.ops false [.u 5 (.alloc [(.lit (.int .u8 0)),(.lit (.int .u8 0)),(.lit (.int .u8 0)),(.lit (.int .u8 0)),(.lit (.int .u8 0)),(.lit (.int .u8 0)),(.lit (.int .u8 0)),(.lit (.int .u8 0)),(.lit (.int .u8 0)),(.lit (.int .u8 0)),(.lit (.int .u8 0)),(.lit (.int .u8 0)),(.lit (.int .u8 0)),(.lit (.int .u8 0)),(.lit (.int .u8 0)),(.lit (.int .u8 0)),(.lit (.int .u8 0)),(.lit (.int .u8 0)),(.lit (.int .u8 0)),(.lit (.int .u8 0)),(.lit (.int .u8 0)),(.lit (.int .u8 0)),(.lit (.int .u8 0)),(.lit (.int .u8 0))])])
 (.fg [0,5] (.seq (.ops false [.m 20 (.t 0),.u 21 (.conv .u64 (.t 20)),.m 6 (.t 21)])
 (.fg [0,5,6] (.seq (.seq (.ops false [.m 22 (.t 0),.u 23 (.bin .lss (.t 22) (.i 0))])
 (.fg [0,5,6,23] (.cond (.t 23) (.ops false [.m 24 (.t 6),.u 25 (.un .neg (.t 24)),.m 6 (.t 25)]) .skip)))
 (.fg [0,5,6] (.seq (.ops false [.m 26 (.t 6),.u 27 (.call f1 [(.t 26)]),.m 7 (.t 27)])
 (.fg [0,5,6,7] (.seq (.ops false [.m 28 (.t 7),.u 29 (.bin .add (.i 1) (.t 28)),.u 30 (.bad),.m 31 (.t 6),.u 32 (.call f2 [(.t 30),(.t 31)])])
 (.fg [0,5,7] (.seq (.seq (.ops false [.m 33 (.t 0),.u 34 (.bin .lss (.t 33) (.i 0))])
 (.fg [5,7,34] (.cond (.t 34) (.seq (.ops false [.u 35 (.ai 1 24 (.t 5) (.i 0)),.n (.st none 1 (.t 35) (.c (.one (.lit (.int .u8 45)))))])
 (.fg [7] (.seq (.ops false [.m 36 (.t 7),.u 37 (.bin .add (.i 1) (.t 36)),.u 38 (.bad),.u 39 (.bad),.m 4 (.t 39)])
 .ret))) .skip)))
 (.fg [7] (.seq (.ops false [.m 40 (.t 7),.u 41 (.bin .add (.i 1) (.t 40)),.u 42 (.bad),.u 43 (.bad),.m 4 (.t 43)])
 .ret))))))))))))))) .skip)))
 (.fg [0,1] (.seq (.ops false [.m 45 (.t 0),.u 46 (.conv .u64 (.t 45)),.m 47 (.t 1),.m 48 (.t 0),.u 49 (.bin .lss (.t 48) (.i 0)),.u 50 (.call f3 [(.c (.one .emp)),(.t 46),(.t 47),(.t 49),.fa]),.m 44 (.t 50),.u 51 (.ext 0 (.t 44)),.u 52 (.ext 1 (.t 44)),.m 8 (.t 51),.m 9 (.t 52)])
 (.fg [9] (.seq (.ops false [.m 53 (.t 9),.m 4 (.t 53)])
 .ret)))))))
def Zg(f0:Nat):AC:=(.seq (.ops false [.m 2 (.c (.one (.lit (.string ⟨#[]⟩))))])
 (.fg [0] (.seq (.ops false [.m 3 (.t 0),.u 4 (.call f0 [(.t 3),(.i 10)]),.m 2 (.t 4)])
 .ret)))
def yv(f0:Nat):AC:=(.seq (.ops false [.m 2 (.c (.one (.lit (.string ⟨#[]⟩))))])
 (.fg [0] (.seq (.ops false [.m 3 (.t 0),.u 4 (.call f0 [(.t 3)]),.m 2 (.t 4)])
 .ret)))
def ju(f0 f1 f2:Nat):AC:=(.seq (.ops false [.m 4 (.c (.one (.lit (.string ⟨#[]⟩))))])
 (.fg [0,1] (.seq (.seq (.ops false [.m 11 (.t 0),.u 12 (.len (.t 11))])
 (.fg [0,1,12] (.block 0 (.seq (.ops false [.u 14 (.bin .eql (.t 12) (.i 0)),.m 13 (.t 14)])
 (.fg [0,1,12,13] (.cond (.t 13) (.seq (.ops false [.m 4 (.c (.one (.lit (.string ⟨#[]⟩))))])
 .ret) (.seq (.ops false [.u 16 (.bin .eql (.t 12) (.i 1)),.m 15 (.t 16)])
 (.fg [0,1,15] (.cond (.t 15) (.seq (.ops false [.m 17 (.t 0),.u 18 (.idx 1 (.t 17) (.i 0)),.u 19 (.ld none 1 false (.t 18)),.m 4 (.t 19)])
 .ret) .skip)))))))))
 (.fg [0,1] (.seq (.ops false [.m 5 (.i 0)])
 (.fg [0,1,5] (.seq (.seq (.ops false [.m 20 (.t 1),.u 21 (.bad),.u 22 (.bin .gtr (.t 21) (.i 0))])
 (.fg [0,1,5,22] (.cond (.t 22) (.seq (.seq (.ops false [.m 23 (.t 1),.u 24 (.bad),.m 25 (.t 0),.u 26 (.len (.t 25)),.u 27 (.bin .sub (.t 26) (.i 1)),.u 28 (.bin .quo (.i 9223372036854775807) (.t 27)),.u 29 (.bin .geq (.t 24) (.t 28))])
 (.fg [0,1,5,29] (.cond (.t 29) (.ops false [.u 30 (.bad),.n (.bad)]) .skip)))
 (.fg [0,1,5] (.ops false [.m 31 (.t 5),.m 32 (.t 1),.u 33 (.bad),.m 34 (.t 0),.u 35 (.len (.t 34)),.u 36 (.bin .sub (.t 35) (.i 1)),.u 37 (.bin .mul (.t 33) (.t 36)),.u 38 (.bin .add (.t 31) (.t 37)),.m 5 (.t 38)]))) .skip)))
 (.fg [0,1,5] (.seq (.seq (.ops false [.m 39 (.t 0),.u 40 (.len (.t 39)),.m 41 (.i 0)])
 (.fg [0,1,5,39,40,41] (.block 1 (.loop (.seq (.ops false [.u 42 (.bin .lss (.t 41) (.t 40))])
 (.fg [0,1,5,39,40,41,42] (.seq (.cond (.t 42) .skip (.exit 1))
 (.fg [0,1,5,39,40,41] (.seq (.block 2 (.seq (.ops false [.u 43 (.idx 1 (.t 39) (.t 41)),.u 44 (.ld none 1 false (.t 43)),.m 7 (.t 44)])
 (.fg [0,1,5,7,39,40,41] (.seq (.seq (.ops false [.m 45 (.t 7),.u 46 (.bad),.m 47 (.t 5),.u 48 (.bin .sub (.i 9223372036854775807) (.t 47)),.u 49 (.bin .gtr (.t 46) (.t 48))])
 (.fg [0,1,5,7,39,40,41,49] (.cond (.t 49) (.ops false [.u 50 (.bad),.n (.bad)]) .skip)))
 (.fg [0,1,5,7,39,40,41] (.ops false [.m 51 (.t 5),.m 52 (.t 7),.u 53 (.bad),.u 54 (.bin .add (.t 51) (.t 53)),.m 5 (.t 54)]))))))
 (.fg [0,1,5,39,40,41] (.ops false [.u 55 (.bin .add (.t 41) (.i 1)),.m 41 (.t 55)])))))))))))
 (.fg [0,1,5] (.seq (.ops false [.u 8 (.alloc [(.lit (.pointer none)),.emp])])
 (.fg [0,1,5,8] (.seq (.ops false [.m 56 (.t 5),.u 57 (.call f0 [(.t 8),(.t 56)])])
 (.fg [0,1,8] (.seq (.ops false [.m 58 (.t 0),.u 59 (.idx 1 (.t 58) (.i 0)),.u 60 (.ld none 1 false (.t 59)),.u 61 (.call f1 [(.t 8),(.t 60)])])
 (.fg [0,1,8] (.seq (.seq (.ops false [.m 62 (.t 0),.u 63 (.sl 1 (.t 62) (some (.i 1)) none),.u 64 (.len (.t 63)),.m 65 (.i 0)])
 (.fg [1,8,63,64,65] (.block 3 (.loop (.seq (.ops false [.u 66 (.bin .lss (.t 65) (.t 64))])
 (.fg [1,8,63,64,65,66] (.seq (.cond (.t 66) .skip (.exit 3))
 (.fg [1,8,63,64,65] (.seq (.block 4 (.seq (.ops false [.u 67 (.idx 1 (.t 63) (.t 65)),.u 68 (.ld none 1 false (.t 67)),.m 10 (.t 68)])
 (.fg [1,8,10,63,64,65] (.seq (.ops false [.m 69 (.t 1),.u 70 (.call f1 [(.t 8),(.t 69)])])
 (.fg [1,8,10,63,64,65] (.ops false [.m 71 (.t 10),.u 72 (.call f1 [(.t 8),(.t 71)])]))))))
 (.fg [1,8,63,64,65] (.ops false [.u 73 (.bin .add (.t 65) (.i 1)),.m 65 (.t 73)])))))))))))
 (.fg [8] (.seq (.ops false [.u 74 (.call f2 [(.t 8)]),.m 4 (.t 74)])
 .ret)))))))))))))))))))
def ut(f0 f1 f2 f3 f4 f5:Nat):AC:=(.seq (.ops false [.u 1 (.box 2 (.t 0)),.m 2 (.c (.one (.lit (.string ⟨#[]⟩))))])
 (.fg [1] (.seq (.ops false [.u 8 (.ld none 2 true (.t 1)),.u 9 (.call f0 [(.t 8)]),.m 3 (.t 9)])
 (.fg [1,3] (.seq (.seq (.ops false [.m 10 (.t 3),.u 11 (.len (.t 10)),.u 12 (.bin .eql (.t 11) (.i 0))])
 (.fg [1,3,12] (.cond (.t 12) (.seq (.ops false [.m 2 (.c (.one (.lit (.string ⟨#[48]⟩))))])
 .ret) .skip)))
 (.fg [1,3] (.seq (.ops false [.m 4 (.c (.one .emp))])
 (.fg [1,3,4] (.seq (.block 0 (.loop (.seq (.seq (.ops false [.m 13 (.t 3),.u 14 (.len (.t 13)),.u 15 (.bin .gtr (.t 14) (.i 0))])
 (.fg [1,3,4,15] (.cond (.t 15) .skip (.exit 0))))
 (.fg [1,3,4] (.block 1 (.seq (.ops false [.m 5 (.c (.one (.lit (.int .u32 0))))])
 (.fg [1,3,4] (.seq (.ops false [.m 17 (.t 3),.u 18 (.call f1 [(.t 17),(.c (.one (.lit (.int .u32 1000000000))))]),.m 16 (.t 18),.u 19 (.ext 0 (.t 16)),.u 20 (.ext 1 (.t 16)),.m 3 (.t 19),.m 5 (.t 20)])
 (.fg [1,3,4,5] (.seq (.ops false [.m 21 (.t 5),.u 22 (.conv .i64 (.t 21)),.u 23 (.call f2 [(.t 22)]),.m 6 (.t 23)])
 (.fg [1,3,4,6] (.seq (.seq (.ops false [.m 24 (.t 3),.u 25 (.len (.t 24)),.u 26 (.bin .gtr (.t 25) (.i 0))])
 (.fg [1,3,4,6,26] (.cond (.t 26) (.ops false [.m 27 (.t 6),.u 28 (.bad),.u 29 (.bin .sub (.i 9) (.t 28)),.u 30 (.call f3 [(.c (.one (.lit (.string ⟨#[48]⟩)))),(.t 29)]),.m 31 (.t 6),.u 32 (.sop 2 [(.t 30),(.t 31)]),.m 6 (.t 32)]) .skip)))
 (.fg [1,3,4,6] (.ops false [.m 33 (.t 6),.u 34 (.row 1 [[.x 1 (.t 33)]]),.m 35 (.t 4),.u 36 (.app 1 (.t 34) (.t 35)),.m 4 (.t 36)]))))))))))))))
 (.fg [1,4] (.seq (.ops false [.m 37 (.t 4),.u 38 (.call f4 [(.t 37),(.c (.one (.lit (.string ⟨#[]⟩))))]),.m 7 (.t 38)])
 (.fg [1,7] (.seq (.seq (.ops false [.u 39 (.ld none 2 true (.t 1)),.u 40 (.call f5 [(.t 39)])])
 (.fg [7,40] (.cond (.t 40) (.ops false [.m 41 (.t 7),.u 42 (.sop 2 [(.c (.one (.lit (.string ⟨#[45]⟩)))),(.t 41)]),.m 7 (.t 42)]) .skip)))
 (.fg [7] (.seq (.ops false [.m 43 (.t 7),.m 2 (.t 43)])
 .ret)))))))))))))))
def Wm(f0 f1 f2 f3:Nat):AC:=(.seq (.ops false [.u 1 (.box 3 (.t 0)),.m 2 (.c (.one (.lit (.string ⟨#[]⟩))))])
 (.fg [1] (.seq (.ops false [.u 6 (.ld none 3 true (.t 1)),.u 7 (.call f0 [(.t 6)]),.m 5 (.t 7),.u 8 (.ext 0 (.t 5)),.u 9 (.ext 1 (.t 5)),.u 3 (.alloc [(.lit (.bool false)),.emp]),.u 4 (.alloc [(.lit (.bool false)),.emp]),.n (.st none 2 (.t 3) (.t 8)),.n (.st none 2 (.t 4) (.t 9))])
 (.fg [3,4] (.seq (.seq (.ops true [.u 10 (.ld none 2 true (.t 4)),.u 11 (.call f1 []),.u 12 (.call f2 [(.t 10),(.t 11)]),.u 13 (.bin .eql (.t 12) (.i 0))])
 (.fg [3,4,13] (.cond (.t 13) (.seq (.ops false [.u 14 (.ld none 2 true (.t 3)),.u 15 (.call f3 [(.t 14)]),.m 2 (.t 15)])
 .ret) .skip)))
 (.fg [3,4] (.seq (.ops true [.u 16 (.ld none 2 true (.t 3)),.u 17 (.call f3 [(.t 16)]),.u 18 (.sop 2 [(.t 17),(.c (.one (.lit (.string ⟨#[47]⟩))))]),.u 19 (.ld none 2 true (.t 4)),.u 20 (.call f3 [(.t 19)]),.u 21 (.sop 2 [(.t 18),(.t 20)]),.m 2 (.t 21)])
 .ret)))))))
end Go.Abs
end
