/-
  Parts of the proof, merged: ChartG, ChartQ, ChartH, ChartR, ChartW, ChartX, ComA, ChartRow, ComB, PoseD, PoseE, PoseT.
-/
import Derived.Test.YtegaodlldjpcaaaGreatDoorM6
set_option linter.unusedVariables false
set_option linter.unusedSimpArgs false
set_option maxRecDepth 100000
section
namespace Go.Num
def sh1(by' : Rat)(a:Q2):List Q2:=
 let f:=frac (a.1+by')
 let t:=f+(a.2-a.1)
 if 1<t then (0,t-1)::(if f<1 then [(f,1)] else []) else (if f<t then [(f,t)] else [])
def shL(by' : Rat)(l:List Q2):List Q2:=l.flatMap (sh1 by')
def lim64(l:List Q2):List Q2:=if 64<l.length then [] else l
def code64(l:List Q2):Nat:=if 64<l.length then 4 else 0
def shOut(l:List Arc)(y:R):List Q2:=if chk [l]=0/\vldR y=true then lim64 (nrm (shL (rv y) (vals l))) else []
def shCode(l:List Arc)(y:R):Nat:=if chk [l]=0 then (if vldR y=true then code64 (nrm (shL (rv y) (vals l))) else 3) else chk [l]
end Go.Num
namespace Go.Abs
open Go.Num
variable {P:Program} {Γ:Nat->Spec}
def UU(tE m:Nat)(l:List AV)(K:AV->Prop):Prop:=
 match l with
 | [a,b]=>onAs (λl=>onR (λy=>(chk [l]=0->2*l.length<=m)/\okAs 10000000 l/\rl y<=10000000/\K (.tup [.one (.slice (((shOut l y).map acan).map aC)),errV tE (shCode l y)])) b) a
 | _=>False
theorem QZ(tE m:Nat)(a b:AV)(K:AV->Prop):UU tE m [a,b] K=(onAs (λl=>onR (λy=>(chk [l]=0->2*l.length<=m)/\okAs 10000000 l/\rl y<=10000000/\K (.tup [.one (.slice (((shOut l y).map acan).map aC)),errV tE (shCode l y)])) b) a):=propext Iff.rfl
@[congr] theorem ybB (tE m:Nat) {K:AV->Prop} {l l' : List AV} (h:l=l'):UU tE m l K=UU tE m l' K:=by subst h;rfl
attribute [go_sem,go_sem ↓] QZ
end Go.Abs
end
section
namespace Go.Num
end Go.Num
end
section
namespace Go.Num
theorem kau(l:List Q2):∀z∈l.map acan,WLA z:=λz hz=>by
 obtain⟨q,_,rfl⟩:=List.mem_map.1 hz;exact qB q
end Go.Num
namespace Go.Abs
open Go.Num
variable {P:Program} {Γ:Nat->Spec}
theorem jbe(k:List Arc->Prop)(x y:R):onAs k (.one (.slice [[cb x,cn x,cd x,cb y,cn y,cd y]]))=((∀z∈[(x,y)],WLA z)/\k [(x,y)]):=yN k [(x,y)]
theorem ubd(k:List Arc->Prop)(x y x' y' : R):onAs k (.one (.slice [[cb x,cn x,cd x,cb y,cn y,cd y],[cb x',cn x',cd x',cb y',cn y',cd y']]))=((∀z∈[(x,y),(x',y')],WLA z)/\k [(x,y),(x',y')]):=yN k [(x,y),(x',y')]
theorem zaP(k:List Arc->Prop)(x:Arc):onAs k (.one (.slice [aC x]))=((∀z∈[x],WLA z)/\k [x]):=yN k [x]
theorem XaK(k:List Arc->Prop)(x y:Arc):onAs k (.one (.slice [aC x,aC y]))=((∀z∈[x,y],WLA z)/\k [x,y]):=yN k [x,y]
theorem JaR(k:List Arc->Prop)(y x' y' : R):onAs k (.one (.slice [[.lit (.bool false),.slice [],.slice [],cb y,cn y,cd y],[cb x',cn x',cd x',cb y',cn y',cd y']]))=((∀z∈[(rcan 0,y),(x',y')],WLA z)/\k [(rcan 0,y),(x',y')]):=by
 rw [ub];exact yN k [((false,[],[]),y),(x',y')]
attribute [go_sem,go_sem ↓] jbe ubd zaP XaK JaR
def yU(l:List AV)(K:AV->Prop):Prop:=
 match l with
 | []=>K (.one (.lit (.bool true)))
 | _=>False
theorem W9(K:AV->Prop):yU [] K=(K (.one (.lit (.bool true)))):=propext Iff.rfl
@[congr] theorem ubC {K:AV->Prop} {l l' : List AV} (h:l=l'):yU l K=yU l' K:=by subst h;rfl
attribute [go_sem,go_sem ↓] W9
end Go.Abs
end
section
namespace Go.Num
instance(x:Rat)(a:Q2):Decidable (mem x a):=by unfold mem;infer_instance
instance(x:Rat)(l:List Q2):Decidable (memL x l):=by unfold memL;infer_instance
end Go.Num
end
section
namespace Go.Num
def not1(f t:Rat):List Q2:=if f<t then [(f,t)] else []
def notGo:Rat->List Q2->List Q2
 | f,[]=>not1 f 1
 | f,a::l=>not1 f a.1++notGo a.2 l
def notL(l:List Q2):List Q2:=notGo 0 l
def meet1(x y:Q2):List Q2:=not1 (mxQ x.1 y.1) (mnQ x.2 y.2)
def meetL(a b:List Q2):List Q2:=a.flatMap λx=>b.flatMap λy=>meet1 x y
end Go.Num
namespace Go.Abs
open Go.Num
variable {P:Program} {Γ:Nat->Spec}
def ja1(l:List AV)(K:AV->Prop):Prop:=
 match l with
 | [a]=>onAs (λl=>l.length<=1000/\okAs 1000000000 l/\K (.one (.slice (((notL (vals l)).map acan).map aC)))) a
 | _=>False
theorem qaN(a:AV)(K:AV->Prop):ja1 [a] K=(onAs (λl=>l.length<=1000/\okAs 1000000000 l/\K (.one (.slice (((notL (vals l)).map acan).map aC)))) a):=propext Iff.rfl
@[congr] theorem kbP {K:AV->Prop} {l l' : List AV} (h:l=l'):ja1 l K=ja1 l' K:=by subst h;rfl
attribute [go_sem,go_sem ↓] qaN
def wak(l:List AV)(K:AV->Prop):Prop:=
 match l with
 | [a,b]=>onAs (λl=>onAs (λm=>l.length<=1000/\m.length<=1000/\okAs 1000000000 l/\okAs 1000000000 m/\K (.one (.slice (((meetL (vals l) (vals m)).map acan).map aC)))) b) a
 | _=>False
theorem zay(a b:AV)(K:AV->Prop):wak [a,b] K=(onAs (λl=>onAs (λm=>l.length<=1000/\m.length<=1000/\okAs 1000000000 l/\okAs 1000000000 m/\K (.one (.slice (((meetL (vals l) (vals m)).map acan).map aC)))) b) a):=propext Iff.rfl
@[congr] theorem ubL {K:AV->Prop} {l l' : List AV} (h:l=l'):wak l K=wak l' K:=by subst h;rfl
attribute [go_sem,go_sem ↓] zay
end Go.Abs
end
section
namespace Go.Num
def res(c:Nat)(L:List Q2):List Q2:=if c=0 then lim64 L else []
def cod(c:Nat)(L:List Q2):Nat:=if c=0 then code64 L else c
end Go.Num
namespace Go.Abs
open Go.Num
variable {P:Program} {Γ:Nat->Spec}
def UV(tE m:Nat)(l:List AV)(K:AV->Prop):Prop:=
 match l with
 | [a,b]=>onAs (λl=>onAs (λk=>(chk [l,k]=0->l.length+k.length<=m)/\okAs 10000000 l/\okAs 10000000 k/\K (.tup [.one (.slice (((res (chk [l,k]) (nrm (vals l++vals k))).map acan).map aC)),errV tE (cod (chk [l,k]) (nrm (vals l++vals k)))])) b) a
 | _=>False
theorem xab(tE m:Nat)(a b:AV)(K:AV->Prop):UV tE m [a,b] K=(onAs (λl=>onAs (λk=>(chk [l,k]=0->l.length+k.length<=m)/\okAs 10000000 l/\okAs 10000000 k/\K (.tup [.one (.slice (((res (chk [l,k]) (nrm (vals l++vals k))).map acan).map aC)),errV tE (cod (chk [l,k]) (nrm (vals l++vals k)))])) b) a):=propext Iff.rfl
@[congr] theorem ubD (tE m:Nat) {K:AV->Prop} {l l' : List AV} (h:l=l'):UV tE m l K=UV tE m l' K:=by subst h;rfl
attribute [go_sem,go_sem ↓] xab
def yak(tE m:Nat)(l:List AV)(K:AV->Prop):Prop:=
 match l with
 | [a,b]=>onAs (λl=>onAs (λk=>(chk [l,k]=0->l.length<=m/\k.length<=m)/\okAs 10000000 l/\okAs 10000000 k/\K (.tup [.one (.slice (((res (chk [l,k]) (meetL (nrm (vals l)) (nrm (vals k)))).map acan).map aC)),errV tE (cod (chk [l,k]) (meetL (nrm (vals l)) (nrm (vals k))))])) b) a
 | _=>False
theorem Jay(tE m:Nat)(a b:AV)(K:AV->Prop):yak tE m [a,b] K=(onAs (λl=>onAs (λk=>(chk [l,k]=0->l.length<=m/\k.length<=m)/\okAs 10000000 l/\okAs 10000000 k/\K (.tup [.one (.slice (((res (chk [l,k]) (meetL (nrm (vals l)) (nrm (vals k)))).map acan).map aC)),errV tE (cod (chk [l,k]) (meetL (nrm (vals l)) (nrm (vals k))))])) b) a):=propext Iff.rfl
@[congr] theorem jbK (tE m:Nat) {K:AV->Prop} {l l' : List AV} (h:l=l'):yak tE m l K=yak tE m l' K:=by subst h;rfl
attribute [go_sem,go_sem ↓] Jay
def Qa7(tE m:Nat)(l:List AV)(K:AV->Prop):Prop:=
 match l with
 | [a]=>onAs (λl=>(chk [l]=0->l.length<=m)/\okAs 10000000 l/\K (.tup [.one (.slice (((res (chk [l]) (notL (nrm (vals l)))).map acan).map aC)),errV tE (cod (chk [l]) (notL (nrm (vals l))))])) a
 | _=>False
theorem va4(tE m:Nat)(a:AV)(K:AV->Prop):Qa7 tE m [a] K=(onAs (λl=>(chk [l]=0->l.length<=m)/\okAs 10000000 l/\K (.tup [.one (.slice (((res (chk [l]) (notL (nrm (vals l)))).map acan).map aC)),errV tE (cod (chk [l]) (notL (nrm (vals l))))])) a):=propext Iff.rfl
@[congr] theorem ZbP (tE m:Nat) {K:AV->Prop} {l l' : List AV} (h:l=l'):Qa7 tE m l K=Qa7 tE m l' K:=by subst h;rfl
attribute [go_sem,go_sem ↓] va4
end Go.Abs
end
section
namespace Go.Abs
open Go.Num
variable {P:Program} {Γ:Nat->Spec}
def YX(tE:Nat)(l:List AV)(K:AV->Prop):Prop:=
 match l with
 | [a,e,b,n]=>onAs (λl=>onErr tE (λc=>onAs (λm=>asInt (λk n=>k=.i64/\okAs 1073741824 l/\okAs 1073741824 m/\K (.one (.lit (.bool (decide ((c:Int)=n) && decide (vals l=vals m)))))) n) b) e) a
 | _=>False
theorem wZ(tE:Nat)(a e b n:AV)(K:AV->Prop):YX tE [a,e,b,n] K=(onAs (λl=>onErr tE (λc=>onAs (λm=>asInt (λk n=>k=.i64/\okAs 1073741824 l/\okAs 1073741824 m/\K (.one (.lit (.bool (decide ((c:Int)=n) && decide (vals l=vals m)))))) n) b) e) a):=propext Iff.rfl
@[congr] theorem ybA (tE:Nat) {K:AV->Prop} {l l' : List AV} (h:l=l'):YX tE l K=YX tE l' K:=by subst h;rfl
attribute [go_sem,go_sem ↓] wZ
def qa4(l:List AV)(K:AV->Prop):Prop:=
 match l with
 | [a,b]=>onAs (λl=>onR (λy=>okAs 1073741824 l/\rl y<=1073741824/\K (.one (.lit (.bool (l.any (inA (rv y))))))) b) a
 | _=>False
theorem zaS(a b:AV)(K:AV->Prop):qa4 [a,b] K=(onAs (λl=>onR (λy=>okAs 1073741824 l/\rl y<=1073741824/\K (.one (.lit (.bool (l.any (inA (rv y))))))) b) a):=propext Iff.rfl
@[congr] theorem xbO {K:AV->Prop} {l l' : List AV} (h:l=l'):qa4 l K=qa4 l' K:=by subst h;rfl
attribute [go_sem,go_sem ↓] zaS
def WY(l:List AV)(K:AV->Prop):Prop:=
 match l with
 | [a,b]=>onL (λL=>onR (λy=>(∀l∈L,okAs 1073741824 l)/\rl y<=1073741824/\L.length<=1000000/\K (.one (.lit (.int .i64 (L.countP (λl=>l.any (inA (rv y))):Nat))))) b) a
 | _=>False
theorem Uab(a b:AV)(K:AV->Prop):WY [a,b] K=(onL (λL=>onR (λy=>(∀l∈L,okAs 1073741824 l)/\rl y<=1073741824/\L.length<=1000000/\K (.one (.lit (.int .i64 (L.countP (λl=>l.any (inA (rv y))):Nat))))) b) a):=propext Iff.rfl
@[congr] theorem zbH {K:AV->Prop} {l l' : List AV} (h:l=l'):WY l K=WY l' K:=by subst h;rfl
attribute [go_sem,go_sem ↓] Uab
end Go.Abs
end
section
namespace Go.Abs
open Go.Num
def rC(x:R):List C:=[cb x,cn x,cd x]
theorem xbD(x:R):rC x=[cb x,cn x,cd x]:=eq_of_heq (HEq.refl _)
theorem Zbg(x:R):(rC x).length=3:=eq_of_heq (HEq.refl _)
theorem VaS(K:List C->Prop)(L:List R)(i:Nat):getE K (L.map rC) i=(i<L.length/\K (rC (L.getD i (rcan 0)))):=by
 simp only [getE,List.length_map,List.getElem?_map];refine propext ⟨λh=>⟨h.1,h.2 _ (by simp [h.1,List.getD_eq_getElem?_getD])⟩,λh=>⟨h.1,λe he=>?_⟩⟩
 simp [h.1]at he;subst he;have:=h.2;simpa [List.getD_eq_getElem?_getD,h.1] using this
theorem VX(l:List R):CleanR (l.map rC)=True:=eq_true λe he c hc=>by
 obtain⟨x,_,rfl⟩:=List.mem_map.1 he;exact YaG x c hc
theorem kbd(L:List R):(∀e∈L.map rC,e.length=3)=True:=eq_true λe he=>by
 obtain⟨l,_,rfl⟩:=List.mem_map.1 he;rfl
theorem vaS(h:Nat->HB)(L:List R):(L.map rC).map (λx=>x.map (datC h))=L.map rC:=by
 rw [List.map_map];exact List.map_congr_left λx _=>rfl
theorem Ya1(L:List R):(L.map rC).flatMap (λx=>x.flatMap ownC)=[]:=by
 rw [List.flatMap_map];exact List.flatMap_eq_nil_iff.2 λx _=>rfl
theorem WaQ(h:Nat->HB)(L:List (List Arc)):(L.map lC).map (λx=>x.map (datC h))=L.map lC:=by
 rw [List.map_map];exact List.map_congr_left λx _=>rfl
theorem jaX(L:List (List Arc)):(L.map lC).flatMap (λx=>x.flatMap ownC)=[]:=by
 rw [List.flatMap_map];exact List.flatMap_eq_nil_iff.2 λx _=>rfl
theorem ua3(h:Nat->HB):frz [] h=h:=eq_of_heq (HEq.refl _)
attribute [go_sem,go_sem ↓] Zbg VaS VX kbd vaS Ya1 WaQ jaX ua3
end Go.Abs
end
section
namespace Go.Num
def posR:List R->Rat->Nat
 | [],_=>0
 | x::l,q=>if rv x<q then posR l q+1 else 0
def insR(l:List R)(y:R):List R:=if (l.drop (posR l (rv y))).head?.map rv=some (rv y) then l else l.take (posR l (rv y))++y::l.drop (posR l (rv y))
def okRs(b:Nat)(l:List R):Prop:=∀x∈l,WLR x/\rl x<=b
def insA(S:List R)(x:Arc):List R:=insR (insR S x.1) x.2
def marksR(L:List (List Arc)):List R:=L.flatten.foldl insA [rcan 0,rcan 1]
end Go.Num
namespace Go.Abs
open Go.Num
variable {P:Program} {Γ:Nat->Spec}
def rsA(l:List R):AV:=.one (.slice (l.map rC))
theorem zbE{x y:R}(h:rC x=rC y):x=y:=Yk x y (by simpa [rC,rA] using h)
theorem Zbp(x y:List R)(h:rsA x=rsA y):x=y:=by
 simp only [rsA,AV.one.injEq,C.slice.injEq]at h;exact List.map_inj_right (λ_ _=>zbE) |>.1 h
def onRs(k:List R->Prop)(a:AV):Prop:=onE rsA (λl=>(∀x∈l,WLR x)/\k l) a
@[congr] theorem WbP {k:List R->Prop} {a a' : AV} (h:a=a'):onRs k a=onRs k a':=by subst h;rfl
theorem ubj(k:List R->Prop)(l:List R):onRs k (.one (.slice (l.map rC)))=((∀x∈l,WLR x)/\k l):=Jp Zbp (λl=>(∀x∈l,WLR x)/\k l) l
theorem jaA(l:List R):Clean (.slice (l.map rC))=True:=eq_true (.slice _ (of_eq_true (VX l)))
theorem ybo(l:List R)(n:Nat):(l.map rC).take n=(l.take n).map rC:=by rw [List.map_take]
theorem qbt(l:List R)(n:Nat):(l.map rC).drop n=(l.drop n).map rC:=by rw [List.map_drop]
theorem wbh(l:List R):rsA l=.one (.slice (l.map rC)):=eq_of_heq (HEq.refl _)
attribute [go_sem] ubj jaA wbh ybo qbt
attribute [go_sem ↓] ubj jaA wbh
def jY(l:List AV)(K:AV->Prop):Prop:=
 match l with
 | [a]=>onL (λL=>(∀l∈L,okAs 1073741824 l)/\L.flatten.length<=100000/\K (.one (.slice ((marksR L).map rC)))) a
 | _=>False
theorem J4(a:AV)(K:AV->Prop):jY [a] K=(onL (λL=>(∀l∈L,okAs 1073741824 l)/\L.flatten.length<=100000/\K (.one (.slice ((marksR L).map rC)))) a):=propext Iff.rfl
@[congr] theorem jbE {K:AV->Prop} {l l' : List AV} (h:l=l'):jY l K=jY l' K:=by subst h;rfl
attribute [go_sem,go_sem ↓] J4
def XM(l:List AV)(K:AV->Prop):Prop:=
 match l with
 | [a,b]=>onRs (λl=>onR (λy=>okRs 1073741824 l/\rl y<=1073741824/\l.length<=1000000/\K (.one (.slice ((insR l y).map rC)))) b) a
 | _=>False
theorem YQ(a b:AV)(K:AV->Prop):XM [a,b] K=(onRs (λl=>onR (λy=>okRs 1073741824 l/\rl y<=1073741824/\l.length<=1000000/\K (.one (.slice ((insR l y).map rC)))) b) a):=propext Iff.rfl
@[congr] theorem Ubu {K:AV->Prop} {l l' : List AV} (h:l=l'):XM l K=XM l' K:=by subst h;rfl
attribute [go_sem,go_sem ↓] YQ
end Go.Abs
end
section
namespace Go.Num
open Go.Abs
theorem V9{α:Type}{f:α->Bool}{l:List α}{k:Nat}{x:α}(h:l[k]?=some x)(hb:f x=false):l.all f=false:=by
 rw [List.all_eq_false];exact⟨x,List.mem_of_getElem? h,by simp [hb]⟩
theorem Zt{α:Type}{f:α->Bool}{l:List α}{k:Nat}{x:α}(h:l[k]?=some x)(ht:(l.take k).all f=true)(hb:f x=true):(l.take (k+1)).all f=true:=by
 rw [List.take_add_one,h,List.all_append,ht];simp [hb]
theorem Uk{α:Type}{l:List α}{k:Nat}{x d:α}(hk:k<l.length)(h:l.getD k d=x):l[k]?=some x:=by
 rw [<-h,List.getD_eq_getElem?_getD,List.getElem?_eq_getElem hk];rfl
def sR(n:Nat)(x:R):Bool:=decide (x.2.1.length<=n) && decide (x.2.2.length<=n)
def sP(p:Ps):Bool:=sR 2 p.1.1 && (sR 2 p.2.1 && sR 2 p.2.2)
def sA(p:Arc):Bool:=sR 2 p.1 && sR 2 p.2
def placeC(l:List Arc):Nat:=if l.all avld then 0 else 2
def chkC(l:List Ps)(m:List Arc):Nat:=if threeC l≠0 then threeC l else placeC m
theorem xa3{n:Nat}{x:R}(h:sR n x=true):rl x<=n:=by
 simp only [sR,Bool.and_eq_true,decide_eq_true_eq]at h;exact Nat.max_le.2 h
theorem WI(l:List Ps)(q:Arc):(imgs l q).length=l.length:=by unfold imgs;rw [List.length_map]
theorem ZaR{l:List Ps}{q:Arc}{k:Nat}{p:Ps}(h:l[k]?=some p):imgs (l.take (k+1)) q=imgs (l.take k) q++[appQ (pv p) (av q)]:=by
 unfold imgs;rw [List.take_add_one,h];simp
end Go.Num
namespace Go.Abs
open Go.Num
variable {P:Program} {Γ:Nat->Spec}
def qsA(l:List V2):AV:=.one (.slice ((l.map acan).map aC))
theorem zaT(l:List V2):qsA l=.one (.slice ((l.map acan).map aC)):=eq_of_heq (HEq.refl _)
theorem VaR(k:List Arc->Prop)(a b c d e f:C):onAs k (.one (.slice [[a,b,c,d,e,f]]))=onO (λx=>onO (λy=>WLA (x,y)/\k [(x,y)]) (dR d e f)) (dR a b c):=by
 refine propext ⟨λ⟨t,h,h1⟩=>?_,λh=>?_⟩
 .simp only [asA,as,AV.one.injEq,C.slice.injEq]at h;match t,h with
  | [z],h=>
   simp only [List.map_cons,List.map_nil,aC,List.cons.injEq,and_true]at h;obtain⟨rfl,rfl,rfl,rfl,rfl,rfl⟩:=h;simp only [dR_e,QK];exact⟨h1.1 _ (by simp),h1.2⟩
 .obtain⟨x,h1,q1⟩:=Qc.1 h;obtain⟨y,h2,q2⟩:=Qc.1 q1;obtain⟨rfl,rfl,rfl⟩:=vc.1 h1;obtain⟨rfl,rfl,rfl⟩:=vc.1 h2;exact⟨[(x,y)],rfl,λz hz=>by rw [List.mem_singleton.1 hz];exact q2.1,q2.2⟩
theorem YaO(k:List Arc->Prop)(a b c d e f a' b' c' d' e' f' : C):onAs k (.one (.slice [[a,b,c,d,e,f],[a',b',c',d',e',f']]))=onO (λx=>onO (λy=>onO (λz=>onO (λw=>WLA (x,y)/\WLA (z,w)/\k [(x,y),(z,w)]) (dR d' e' f')) (dR a' b' c')) (dR d e f)) (dR a b c):=by
 refine propext ⟨λ⟨t,h,h1⟩=>?_,λh=>?_⟩
 .simp only [asA,as,AV.one.injEq,C.slice.injEq]at h;match t,h with
  | [z,w],h=>
   simp only [List.map_cons,List.map_nil,aC,List.cons.injEq,and_true]at h;obtain⟨⟨rfl,rfl,rfl,rfl,rfl,rfl⟩,rfl,rfl,rfl,rfl,rfl,rfl⟩:=h;simp only [dR_e,QK];exact⟨h1.1 _ (by simp),h1.1 _ (by simp),h1.2⟩
 .obtain⟨x,h1,q1⟩:=Qc.1 h;obtain⟨y,h2,q2⟩:=Qc.1 q1;obtain⟨z,h3,q3⟩:=Qc.1 q2;obtain⟨w,h4,q4⟩:=Qc.1 q3;obtain⟨rfl,rfl,rfl⟩:=vc.1 h1;obtain⟨rfl,rfl,rfl⟩:=vc.1 h2;obtain⟨rfl,rfl,rfl⟩:=vc.1 h3;obtain⟨rfl,rfl,rfl⟩:=vc.1 h4;refine⟨[(x,y),(z,w)],rfl,λv hv=>?_,q4.2.2⟩;simp only [List.mem_cons,List.not_mem_nil,or_false]at hv;rcases hv with rfl|rfl
  .exact q4.1
  .exact q4.2.1
theorem Vbf(k:List R->Prop)(a b c d e f g h i:C):onRs k (.one (.slice [[a,b,c],[d,e,f],[g,h,i]]))=onO (λx=>onO (λy=>onO (λz=>(WLR x/\WLR y/\WLR z)/\k [x,y,z]) (dR g h i)) (dR d e f)) (dR a b c):=by
 refine propext ⟨λ⟨t,h,h1⟩=>?_,λh=>?_⟩
 .simp only [rsA,AV.one.injEq,C.slice.injEq]at h;match t,h with
  | [x,y,z],h=>
   simp only [List.map_cons,List.map_nil,rC,List.cons.injEq,and_true]at h;obtain⟨⟨rfl,rfl,rfl⟩,⟨rfl,rfl,rfl⟩,rfl,rfl,rfl⟩:=h;simp only [dR_e,QK];exact⟨⟨h1.1 _ (by simp),h1.1 _ (by simp),h1.1 _ (by simp)⟩,h1.2⟩
 .obtain⟨x,h1,q1⟩:=Qc.1 h;obtain⟨y,h2,q2⟩:=Qc.1 q1;obtain⟨z,h3,q3⟩:=Qc.1 q2;obtain⟨rfl,rfl,rfl⟩:=vc.1 h1;obtain⟨rfl,rfl,rfl⟩:=vc.1 h2;obtain⟨rfl,rfl,rfl⟩:=vc.1 h3;refine⟨[x,y,z],rfl,λv hv=>?_,q3.2⟩;simp only [List.mem_cons,List.not_mem_nil,or_false]at hv;rcases hv with rfl|rfl|rfl
  .exact q3.1.1
  .exact q3.1.2.1
  .exact q3.1.2.2
theorem zbj(k:List R->Prop)(a b c d e f g h i j l m n o p:C):onRs k (.one (.slice [[a,b,c],[d,e,f],[g,h,i],[j,l,m],[n,o,p]]))=onO (λx=>onO (λy=>onO (λz=>onO (λu=>onO (λv=>(WLR x/\WLR y/\WLR z/\WLR u/\WLR v)/\k [x,y,z,u,v]) (dR n o p)) (dR j l m)) (dR g h i)) (dR d e f)) (dR a b c):=by
 refine propext ⟨λ⟨t,h,h1⟩=>?_,λh=>?_⟩
 .simp only [rsA,AV.one.injEq,C.slice.injEq]at h;match t,h with
  | [x,y,z,u,v],h=>
   simp only [List.map_cons,List.map_nil,rC,List.cons.injEq,and_true]at h;obtain⟨⟨rfl,rfl,rfl⟩,⟨rfl,rfl,rfl⟩,⟨rfl,rfl,rfl⟩,⟨rfl,rfl,rfl⟩,rfl,rfl,rfl⟩:=h;simp only [dR_e,QK];exact⟨⟨h1.1 _ (by simp),h1.1 _ (by simp),h1.1 _ (by simp),h1.1 _ (by simp),h1.1 _ (by simp)⟩,h1.2⟩
 .obtain⟨x,h1,q1⟩:=Qc.1 h;obtain⟨y,h2,q2⟩:=Qc.1 q1;obtain⟨z,h3,q3⟩:=Qc.1 q2;obtain⟨u,h4,q4⟩:=Qc.1 q3;obtain⟨v,h5,q5⟩:=Qc.1 q4;obtain⟨rfl,rfl,rfl⟩:=vc.1 h1;obtain⟨rfl,rfl,rfl⟩:=vc.1 h2;obtain⟨rfl,rfl,rfl⟩:=vc.1 h3;obtain⟨rfl,rfl,rfl⟩:=vc.1 h4;obtain⟨rfl,rfl,rfl⟩:=vc.1 h5;refine⟨[x,y,z,u,v],rfl,λw hw=>?_,q5.2⟩;obtain⟨w1,w2,w3,w4,w5⟩:=q5.1;simp only [List.mem_cons,List.not_mem_nil,or_false]at hw;rcases hw with rfl|rfl|rfl|rfl|rfl <;> assumption
attribute [go_sem,go_sem ↓] VaR YaO Vbf zbj zaT
def UE(tE:Nat)(l:List AV)(K:AV->Prop):Prop:=
 match l with
 | [a]=>onPs (λl=>okPs 100000000 l/\K (errV tE (if l.all pvld=true then 0 else 2))) a
 | _=>False
theorem ja7(tE:Nat)(a:AV)(K:AV->Prop):UE tE [a] K=(onPs (λl=>okPs 100000000 l/\K (errV tE (if l.all pvld=true then 0 else 2))) a):=propext Iff.rfl
@[congr] theorem vbV (tE:Nat) {K:AV->Prop} {l l' : List AV} (h:l=l'):UE tE l K=UE tE l' K:=by subst h;rfl
attribute [go_sem,go_sem ↓] ja7
theorem jaR(tE:Nat):Good (UE tE):=Ya λas=>by
 unfold UE;split
 .exact(Jy λ_=>(.and λ_=>(.ret _)))
 .exact .of λK hk=>hk.elim
def YB(tE:Nat)(l:List AV)(K:AV->Prop):Prop:=
 match l with
 | [a]=>onPs (λl=>okPs 100000000 l/\K (errV tE (plchk l))) a
 | _=>False
theorem xaW(tE:Nat)(a:AV)(K:AV->Prop):YB tE [a] K=(onPs (λl=>okPs 100000000 l/\K (errV tE (plchk l))) a):=propext Iff.rfl
@[congr] theorem wbV (tE:Nat) {K:AV->Prop} {l l' : List AV} (h:l=l'):YB tE l K=YB tE l' K:=by subst h;rfl
attribute [go_sem,go_sem ↓] xaW
theorem JaZ(tE:Nat):Good (YB tE):=Ya λas=>by
 unfold YB;split
 .exact(Jy λ_=>(.and λ_=>(.ret _)))
 .exact .of λK hk=>hk.elim
def wah(l:List AV)(K:AV->Prop):Prop:=
 match l with
 | [a]=>onPs (λl=>okPs 100000000 l/\K (.one (.lit (.int .i64 (plchk l:Nat))))) a
 | _=>False
theorem yav(a:AV)(K:AV->Prop):wah [a] K=(onPs (λl=>okPs 100000000 l/\K (.one (.lit (.int .i64 (plchk l:Nat))))) a):=propext Iff.rfl
@[congr] theorem zbK {K:AV->Prop} {l l' : List AV} (h:l=l'):wah l K=wah l' K:=by subst h;rfl
attribute [go_sem,go_sem ↓] yav
def kU(l:List AV)(K:AV->Prop):Prop:=
 match l with
 | [a]=>onPs (λl=>okPs 100000000 l/\K (.one (.lit (.int .i64 (threeC l:Nat))))) a
 | _=>False
theorem V0(a:AV)(K:AV->Prop):kU [a] K=(onPs (λl=>okPs 100000000 l/\K (.one (.lit (.int .i64 (threeC l:Nat))))) a):=propext Iff.rfl
@[congr] theorem WbC {K:AV->Prop} {l l' : List AV} (h:l=l'):kU l K=kU l' K:=by subst h;rfl
attribute [go_sem,go_sem ↓] V0
def Qw(tE:Nat)(l:List AV)(K:AV->Prop):Prop:=
 match l with
 | [a,b]=>onPs (λl=>onA (λq=>okPs 1000000 l/\al q<=1000000/\l.length<=100000/\K (.tup [qsA (if imgC l q=0 then imgs l q else []),errV tE (imgC l q)])) b) a
 | _=>False
theorem kaw(tE:Nat)(a b:AV)(K:AV->Prop):Qw tE [a,b] K=(onPs (λl=>onA (λq=>okPs 1000000 l/\al q<=1000000/\l.length<=100000/\K (.tup [qsA (if imgC l q=0 then imgs l q else []),errV tE (imgC l q)])) b) a):=propext Iff.rfl
@[congr] theorem JbI (tE:Nat) {K:AV->Prop} {l l' : List AV} (h:l=l'):Qw tE l K=Qw tE l' K:=by subst h;rfl
attribute [go_sem,go_sem ↓] kaw
theorem jaF(tE:Nat):Good (Qw tE):=Ya λas=>by
 unfold Qw;split
 .exact(Jy λ_=>(Xw λ_=>(.and λ_=>(.and λ_=>(.and λ_=>(.ret _))))))
 .exact .of λK hk=>hk.elim
def zK(l:List AV)(K:AV->Prop):Prop:=
 match l with
 | [a,b]=>onPs (λl=>onA (λq=>okPs 1000000 l/\al q<=1000000/\l.length<=100000/\K (qsA (imgs l q))) b) a
 | _=>False
theorem yS(a b:AV)(K:AV->Prop):zK [a,b] K=(onPs (λl=>onA (λq=>okPs 1000000 l/\al q<=1000000/\l.length<=100000/\K (qsA (imgs l q))) b) a):=propext Iff.rfl
@[congr] theorem Jbu {K:AV->Prop} {l l' : List AV} (h:l=l'):zK l K=zK l' K:=by subst h;rfl
attribute [go_sem,go_sem ↓] yS
def Uq(l:List AV)(K:AV->Prop):Prop:=
 match l with
 | [a]=>onPs (λl=>okPs 4294967296 l/\K (.one (.lit (.bool (l.all sP))))) a
 | _=>False
theorem V5(a:AV)(K:AV->Prop):Uq [a] K=(onPs (λl=>okPs 4294967296 l/\K (.one (.lit (.bool (l.all sP))))) a):=propext Iff.rfl
@[congr] theorem qbG {K:AV->Prop} {l l' : List AV} (h:l=l'):Uq l K=Uq l' K:=by subst h;rfl
attribute [go_sem,go_sem ↓] V5
theorem Zah:Good Uq:=Ya λas=>by
 unfold Uq;split
 .exact(Jy λ_=>(.and λ_=>(.ret _)))
 .exact .of λK hk=>hk.elim
def Yr(l:List AV)(K:AV->Prop):Prop:=
 match l with
 | [a]=>onAs (λl=>okAs 4294967296 l/\K (.one (.lit (.bool (l.all sA))))) a
 | _=>False
theorem J6(a:AV)(K:AV->Prop):Yr [a] K=(onAs (λl=>okAs 4294967296 l/\K (.one (.lit (.bool (l.all sA))))) a):=propext Iff.rfl
@[congr] theorem jbz {K:AV->Prop} {l l' : List AV} (h:l=l'):Yr l K=Yr l' K:=by subst h;rfl
attribute [go_sem,go_sem ↓] J6
theorem Vam:Good Yr:=Ya λas=>by
 unfold Yr;split
 .exact(qaM λ_=>(.and λ_=>(.ret _)))
 .exact .of λK hk=>hk.elim
def Zs(l:List AV)(K:AV->Prop):Prop:=
 match l with
 | [a]=>onPs (λl=>okPs 4294967296 l/\K (.one (.lit (.bool (decide (l.length<=20) && l.all sP))))) a
 | _=>False
theorem qaf(a:AV)(K:AV->Prop):Zs [a] K=(onPs (λl=>okPs 4294967296 l/\K (.one (.lit (.bool (decide (l.length<=20) && l.all sP))))) a):=propext Iff.rfl
@[congr] theorem qbB {K:AV->Prop} {l l' : List AV} (h:l=l'):Zs l K=Zs l' K:=by subst h;rfl
attribute [go_sem,go_sem ↓] qaf
theorem Zal:Good Zs:=Ya λas=>by
 unfold Zs;split
 .exact(Jy λ_=>(.and λ_=>(.ret _)))
 .exact .of λK hk=>hk.elim
def Uz(tE:Nat)(l:List AV)(K:AV->Prop):Prop:=
 match l with
 | [a,b]=>onPs (λl=>onAs (λm=>okPs 100000000 l/\okAs 100000000 m/\K (errV tE (chkC l m))) b) a
 | _=>False
theorem Qav(tE:Nat)(a b:AV)(K:AV->Prop):Uz tE [a,b] K=(onPs (λl=>onAs (λm=>okPs 100000000 l/\okAs 100000000 m/\K (errV tE (chkC l m))) b) a):=propext Iff.rfl
@[congr] theorem kbJ (tE:Nat) {K:AV->Prop} {l l' : List AV} (h:l=l'):Uz tE l K=Uz tE l' K:=by subst h;rfl
attribute [go_sem,go_sem ↓] Qav
theorem JaG(tE:Nat):Good (Uz tE):=Ya λas=>by
 unfold Uz;split
 .exact(Jy λ_=>(qaM λ_=>(.and λ_=>(.and λ_=>(.ret _)))))
 .exact .of λK hk=>hk.elim
def kak(l:List AV)(K:AV->Prop):Prop:=
 match l with
 | [a,b]=>onRs (λl=>onRs (λm=>okRs 4294967296 l/\K (.one (.lit (.bool (decide (l=m)))))) b) a
 | _=>False
theorem qaw(a b:AV)(K:AV->Prop):kak [a,b] K=(onRs (λl=>onRs (λm=>okRs 4294967296 l/\K (.one (.lit (.bool (decide (l=m)))))) b) a):=propext Iff.rfl
@[congr] theorem UbI {K:AV->Prop} {l l' : List AV} (h:l=l'):kak l K=kak l' K:=by subst h;rfl
attribute [go_sem,go_sem ↓] qaw
def yw(f0 tE:Nat):AC:=(.seq (.ops false [.m 2 (.c (.one (.lit .nilIface)))])
 (.fg [0] (.seq (.seq (.ops false [.m 5 (.t 0),.u 6 (.len (.t 5)),.m 7 (.i 0)])
 (.fg [5,6,7] (.block 0 (.loop (.seq (.ops false [.u 8 (.bin .lss (.t 7) (.t 6))])
 (.fg [5,6,7,8] (.seq (.cond (.t 8) .skip (.exit 0))
 (.fg [5,6,7] (.seq (.block 1 (.seq (.ops false [.u 9 (.idx 10 (.t 5) (.t 7)),.u 10 (.ld none 10 true (.t 9)),.u 4 (.alloc [(.lit (.bool false)),.emp,.emp,(.lit (.bool false)),(.lit (.bool false)),.emp,.emp,(.lit (.bool false)),.emp,.emp]),.n (.st none 10 (.t 4) (.t 10))])
 (.fg [4,5,6,7] (.seq (.ops false [.u 11 (.ld none 10 true (.t 4)),.u 12 (.call f0 [(.t 11)]),.u 13 (.un .not (.t 12))])
 (.fg [5,6,7,13] (.cond (.t 13) (.seq (.ops false [.u 14 (.iface tE (.i 2)),.m 2 (.t 14)])
 .ret) .skip))))))
 (.fg [5,6,7] (.ops false [.u 15 (.bin .add (.t 7) (.i 1)),.m 7 (.t 15)])))))))))))
 (.fg [] (.seq (.ops false [.m 2 (.c (.one (.lit .nilIface)))])
 .ret)))))
def kw(f0 tE:Nat):AC:=(.seq (.ops false [.m 2 (.c (.one (.lit .nilIface)))])
 (.fg [0] (.seq (.seq (.ops false [.m 3 (.t 0),.u 4 (.len (.t 3)),.u 5 (.bin .lss (.t 4) (.i 2))])
 (.fg [0,5] (.cond (.t 5) (.seq (.ops false [.u 6 (.iface tE (.i 10)),.m 2 (.t 6)])
 .ret) .skip)))
 (.fg [0] (.seq (.seq (.ops false [.m 7 (.t 0),.u 8 (.len (.t 7)),.u 9 (.bin .gtr (.t 8) (.i 5))])
 (.fg [0,9] (.cond (.t 9) (.seq (.ops false [.u 10 (.iface tE (.i 4)),.m 2 (.t 10)])
 .ret) .skip)))
 (.fg [0] (.seq (.ops false [.m 11 (.t 0),.u 12 (.call f0 [(.t 11)]),.m 2 (.t 12)])
 .ret)))))))
def zn(f0:Nat):AC:=(.seq (.ops false [.u 3 (.box 6 (.t 1)),.m 4 (.c (.one .emp)),.m 5 (.c (.one (.lit .nilIface)))])
 (.fg [0,3] (.seq (.ops false [.m 6 (.c (.one .emp))])
 (.fg [0,3,6] (.seq (.seq (.ops false [.m 11 (.t 0),.u 12 (.len (.t 11)),.m 13 (.i 0)])
 (.fg [3,6,11,12,13] (.block 0 (.loop (.seq (.ops false [.u 14 (.bin .lss (.t 13) (.t 12))])
 (.fg [3,6,11,12,13,14] (.seq (.cond (.t 14) .skip (.exit 0))
 (.fg [3,6,11,12,13] (.seq (.block 1 (.seq (.ops false [.u 15 (.idx 10 (.t 11) (.t 13)),.u 16 (.ld none 10 true (.t 15)),.u 8 (.alloc [(.lit (.bool false)),.emp,.emp,(.lit (.bool false)),(.lit (.bool false)),.emp,.emp,(.lit (.bool false)),.emp,.emp]),.n (.st none 10 (.t 8) (.t 16))])
 (.fg [3,6,8,11,12,13] (.seq (.ops false [.u 18 (.ld none 10 true (.t 8)),.u 19 (.ld none 6 true (.t 3)),.u 20 (.call f0 [(.t 18),(.t 19)]),.m 17 (.t 20),.u 21 (.ext 0 (.t 17)),.u 22 (.ext 1 (.t 17)),.u 9 (.alloc [(.lit (.bool false)),.emp,.emp,(.lit (.bool false)),.emp,.emp]),.n (.st none 6 (.t 9) (.t 21)),.m 10 (.t 22)])
 (.fg [3,6,9,10,11,12,13] (.seq (.seq (.ops false [.m 23 (.t 10),.u 24 (.binn .neq (.t 23) (.c (.one (.lit .nilIface))))])
 (.fg [3,6,9,10,11,12,13,24] (.cond (.t 24) (.seq (.ops false [.m 25 (.t 10),.m 4 (.c (.one .emp)),.m 5 (.t 25)])
 .ret) .skip)))
 (.fg [3,6,9,11,12,13] (.ops false [.m 26 (.t 6),.u 27 (.ld none 6 true (.t 9)),.u 28 (.row 6 [[.x 6 (.t 27)]]),.u 29 (.app 6 (.t 26) (.t 28)),.m 6 (.t 29)]))))))))
 (.fg [3,6,11,12,13] (.ops false [.u 30 (.bin .add (.t 13) (.i 1)),.m 13 (.t 30)])))))))))))
 (.fg [6] (.seq (.ops false [.m 31 (.t 6),.m 4 (.t 31),.m 5 (.c (.one (.lit .nilIface)))])
 .ret)))))))
def ug:AC:=(.seq (.ops false [.m 2 .fa])
 (.fg [0] (.seq (.seq (.ops false [.m 7 (.t 0),.u 8 (.len (.t 7)),.m 9 (.i 0)])
 (.fg [7,8,9] (.block 0 (.loop (.seq (.ops false [.u 10 (.bin .lss (.t 9) (.t 8))])
 (.fg [7,8,9,10] (.seq (.cond (.t 10) .skip (.exit 0))
 (.fg [7,8,9] (.seq (.block 1 (.seq (.ops false [.u 11 (.idx 10 (.t 7) (.t 9)),.u 12 (.ld none 10 true (.t 11)),.u 4 (.alloc [(.lit (.bool false)),.emp,.emp,(.lit (.bool false)),(.lit (.bool false)),.emp,.emp,(.lit (.bool false)),.emp,.emp]),.n (.st none 10 (.t 4) (.t 12))])
 (.fg [4,7,8,9] (.seq (.ops false [.u 13 (.fa 0 (.t 4)),.u 14 (.fa 0 (.t 13)),.u 15 (.ld none 3 true (.t 14)),.u 16 (.fa 4 (.t 4)),.u 17 (.fa 0 (.t 16)),.u 18 (.ld none 3 true (.t 17)),.u 19 (.fa 4 (.t 4)),.u 20 (.fa 3 (.t 19)),.u 21 (.ld none 3 true (.t 20)),.u 22 (.row 3 [[.x 3 (.t 15)],[.x 3 (.t 18)],[.x 3 (.t 21)]]),.u 23 (.len (.t 22)),.m 24 (.i 0)])
 (.fg [7,8,9,22,23,24] (.block 2 (.loop (.seq (.ops false [.u 25 (.bin .lss (.t 24) (.t 23))])
 (.fg [7,8,9,22,23,24,25] (.seq (.cond (.t 25) .skip (.exit 2))
 (.fg [7,8,9,22,23,24] (.seq (.block 3 (.seq (.ops false [.u 26 (.idx 3 (.t 22) (.t 24)),.u 27 (.ld none 3 true (.t 26)),.u 6 (.alloc [(.lit (.bool false)),.emp,.emp]),.n (.st none 3 (.t 6) (.t 27))])
 (.fg [6,7,8,9,22,23,24] (.seq (.ops false [.u 28 (.fa 1 (.t 6)),.u 29 (.ld none 1 false (.t 28)),.u 30 (.len (.t 29)),.u 31 (.bin .gtr (.t 30) (.i 2)),.m 32 (.t 31),.w 33 32 false (.fa 2 (.t 6)),.w 34 32 false (.ld none 1 false (.t 33)),.w 35 32 false (.len (.t 34)),.w 36 32 false (.bin .gtr (.t 35) (.i 2)),.u 37 (.pick (.t 32) .tr (.t 36))])
 (.fg [7,8,9,22,23,24,37] (.cond (.t 37) (.seq (.ops false [.m 2 .fa])
 .ret) .skip))))))
 (.fg [7,8,9,22,23,24] (.ops false [.u 38 (.bin .add (.t 24) (.i 1)),.m 24 (.t 38)]))))))))))))))
 (.fg [7,8,9] (.ops false [.u 39 (.bin .add (.t 9) (.i 1)),.m 9 (.t 39)])))))))))))
 (.fg [] (.seq (.ops false [.m 2 .tr])
 .ret)))))
def ke:AC:=(.seq (.ops false [.m 2 .fa])
 (.fg [0] (.seq (.seq (.ops false [.m 7 (.t 0),.u 8 (.len (.t 7)),.m 9 (.i 0)])
 (.fg [7,8,9] (.block 0 (.loop (.seq (.ops false [.u 10 (.bin .lss (.t 9) (.t 8))])
 (.fg [7,8,9,10] (.seq (.cond (.t 10) .skip (.exit 0))
 (.fg [7,8,9] (.seq (.block 1 (.seq (.ops false [.u 11 (.idx 6 (.t 7) (.t 9)),.u 12 (.ld none 6 true (.t 11)),.u 4 (.alloc [(.lit (.bool false)),.emp,.emp,(.lit (.bool false)),.emp,.emp]),.n (.st none 6 (.t 4) (.t 12))])
 (.fg [4,7,8,9] (.seq (.ops false [.u 13 (.fa 0 (.t 4)),.u 14 (.ld none 3 true (.t 13)),.u 15 (.fa 3 (.t 4)),.u 16 (.ld none 3 true (.t 15)),.u 17 (.row 3 [[.x 3 (.t 14)],[.x 3 (.t 16)]]),.u 18 (.len (.t 17)),.m 19 (.i 0)])
 (.fg [7,8,9,17,18,19] (.block 2 (.loop (.seq (.ops false [.u 20 (.bin .lss (.t 19) (.t 18))])
 (.fg [7,8,9,17,18,19,20] (.seq (.cond (.t 20) .skip (.exit 2))
 (.fg [7,8,9,17,18,19] (.seq (.block 3 (.seq (.ops false [.u 21 (.idx 3 (.t 17) (.t 19)),.u 22 (.ld none 3 true (.t 21)),.u 6 (.alloc [(.lit (.bool false)),.emp,.emp]),.n (.st none 3 (.t 6) (.t 22))])
 (.fg [6,7,8,9,17,18,19] (.seq (.ops false [.u 23 (.fa 1 (.t 6)),.u 24 (.ld none 1 false (.t 23)),.u 25 (.len (.t 24)),.u 26 (.bin .gtr (.t 25) (.i 2)),.m 27 (.t 26),.w 28 27 false (.fa 2 (.t 6)),.w 29 27 false (.ld none 1 false (.t 28)),.w 30 27 false (.len (.t 29)),.w 31 27 false (.bin .gtr (.t 30) (.i 2)),.u 32 (.pick (.t 27) .tr (.t 31))])
 (.fg [7,8,9,17,18,19,32] (.cond (.t 32) (.seq (.ops false [.m 2 .fa])
 .ret) .skip))))))
 (.fg [7,8,9,17,18,19] (.ops false [.u 33 (.bin .add (.t 19) (.i 1)),.m 19 (.t 33)]))))))))))))))
 (.fg [7,8,9] (.ops false [.u 34 (.bin .add (.t 9) (.i 1)),.m 9 (.t 34)])))))))))))
 (.fg [] (.seq (.ops false [.m 2 .tr])
 .ret)))))
def Zh(f0:Nat):AC:=(.seq (.ops false [.m 2 .fa])
 (.fg [0] (.seq (.ops false [.m 3 (.t 0),.u 4 (.len (.t 3)),.u 5 (.bin .leq (.t 4) (.i 20)),.m 6 (.t 5),.w 7 6 true (.mv (.t 0)),.w 8 6 true (.call f0 [(.t 7)]),.u 9 (.pick (.t 6) (.t 8) .fa),.m 2 (.t 9)])
 .ret)))
def Xj(f0 f1 tE:Nat):AC:=(.seq (.ops false [.m 4 (.c (.one (.lit .nilIface)))])
 (.fg [0,1] (.seq (.seq (.ops false [.m 8 (.t 0),.u 9 (.call f0 [(.t 8)]),.m 5 (.t 9)])
 (.fg [0,1,5] (.seq (.ops false [.m 10 (.t 5),.u 11 (.binn .neq (.t 10) (.c (.one (.lit .nilIface))))])
 (.fg [0,1,5,11] (.cond (.t 11) (.seq (.ops false [.m 12 (.t 5),.m 4 (.t 12)])
 .ret) .skip)))))
 (.fg [0,1] (.seq (.seq (.ops false [.m 13 (.t 0),.u 14 (.len (.t 13)),.u 15 (.bin .neq (.t 14) (.i 3))])
 (.fg [1,15] (.cond (.t 15) (.seq (.ops false [.u 16 (.iface tE (.i 10)),.m 4 (.t 16)])
 .ret) .skip)))
 (.fg [1] (.seq (.seq (.ops false [.m 17 (.t 1),.u 18 (.len (.t 17)),.m 19 (.i 0)])
 (.fg [17,18,19] (.block 0 (.loop (.seq (.ops false [.u 20 (.bin .lss (.t 19) (.t 18))])
 (.fg [17,18,19,20] (.seq (.cond (.t 20) .skip (.exit 0))
 (.fg [17,18,19] (.seq (.block 1 (.seq (.ops false [.u 21 (.idx 6 (.t 17) (.t 19)),.u 22 (.ld none 6 true (.t 21)),.u 7 (.alloc [(.lit (.bool false)),.emp,.emp,(.lit (.bool false)),.emp,.emp]),.n (.st none 6 (.t 7) (.t 22))])
 (.fg [7,17,18,19] (.seq (.ops false [.u 23 (.ld none 6 true (.t 7)),.u 24 (.call f1 [(.t 23)]),.u 25 (.un .not (.t 24))])
 (.fg [17,18,19,25] (.cond (.t 25) (.seq (.ops false [.u 26 (.iface tE (.i 2)),.m 4 (.t 26)])
 .ret) .skip))))))
 (.fg [17,18,19] (.ops false [.u 27 (.bin .add (.t 19) (.i 1)),.m 19 (.t 27)])))))))))))
 (.fg [] (.seq (.ops false [.m 4 (.c (.one (.lit .nilIface)))])
 .ret)))))))))
theorem qaE(hΓ:Holds P Γ){f fv tE:Nat}(hv:Γ fv=.dat true Wv)(hc:check P f=some (16,(yw fv tE).strip,[.tmp 2])):Sound P f (.dat false (UE tE)):=by
 refine Wa hc (jaR tE) hΓ (λargs K hcl hfi hG=>?_);match args,hG with
 | [a],hG=>
  obtain⟨l,rfl,hwl,hok,hK⟩:=hG;refine⟨by simp,?_⟩
  simp only [go_sem,yw,hv];intro _;refine Xa (λk:Nat=>⟨mkV [(5,psA l),(6,.one (.lit (.int .i64 l.length))),(7,.one (.lit (.int .i64 k)))],mkH []⟩) (λk=>k<=l.length/\(l.take k).all pvld=true) (λk=>l.length-k) 0 ?_ ?_ ?_
  .exact ja (by simp [okS,okV,okC,okL,okH,okB,okE,Qa,Ja,qa,va,wsA,ws,psA,psC]) trivial
  .exact⟨Nat.zero_le _,rfl⟩
  .rintro k ⟨hk,hall⟩;by_cases hlt:k<l.length
   .obtain⟨p,hp⟩:∃p,l.getD k p0=p:=⟨_,rfl⟩;have hp0:=Uk hlt hp;obtain⟨hp1,hp2⟩:=hok p (List.mem_of_getElem? hp0);cases hb:pvld p with
    | true=>
     simp only [go_sem,hlt,hp,hv,hb,XY];exact⟨hp1,hp2,by omega,k+1,ja (by simp [okS,okV,okC,okL,okH,okB,okE,Qa,Ja,qa,va,wsA,ws,psA,psC]) trivial,⟨by omega,Zt hp0 hall hb⟩,by omega⟩
    | false=>
     rw [V9 hp0 hb,if_neg (by decide),yb tE (by decide)]at hK
     simp only [go_sem,hlt,hp,hv,hb,XY];exact⟨hp1,hp2,hK⟩
   .rw [List.take_of_length_le (by omega)]at hall
    rw [hall,if_pos rfl,kb]at hK;simp only [go_sem,hlt];exact hK
theorem XaC(hΓ:Holds P Γ){f fk tE:Nat}(hk:Γ fk=.dat false (UE tE))(hc:check P f=some (13,(kw fk tE).strip,[.tmp 2])):Sound P f (.dat false (YB tE)):=by
 refine Wa hc (JaZ tE) hΓ (λargs K hcl hfi hG=>?_);match args,hG with
 | [a],hG=>
  obtain⟨l,rfl,hwl,hok,hK⟩:=hG;refine⟨by simp,?_⟩
  simp only [go_sem,kw,hk];unfold plchk at hK;refine λ_=>⟨λh=>?_,λh _=>⟨λh'=>?_,λh'=>⟨hwl,hok,?_⟩⟩⟩
  .rw [if_pos (by omega),yb tE (by decide)]at hK;exact hK
  .rw [if_neg (by omega),if_pos (by omega),yb tE (by decide)]at hK;exact hK
  .rw [if_neg (by omega),if_neg (by omega)]at hK;exact hK
theorem Uai(hΓ:Holds P Γ){f fk fv tE:Nat}(hk:Γ fk=.dat false (YB tE))(hv:Γ fv=.dat true Vd)(hc:check P f=some (28,(Xj fk fv tE).strip,[.tmp 4])):Sound P f (.dat false (Uz tE)):=by
 refine Wa hc (JaG tE) hΓ (λargs K hcl hfi hG=>?_);match args,hG with
 | [a,b],hG=>
  obtain⟨l,rfl,hwl,m,rfl,hwm,hok,hom,hK⟩:=hG;refine⟨by simp,?_⟩
  by_cases h0:plchk l=0
  .have e3:threeC l=if l.length=3 then 0 else 10:=by unfold threeC;rw [if_neg (by omega)]
   unfold chkC at hK;simp only [go_sem,Xj,hk,hv,h0,kb];refine⟨hwl,hok,λ_=>⟨λh3=>?_,λh3=>?_⟩⟩
   rotate_left
   .rw [if_neg (by omega)]at e3
    rw [e3,if_pos (by decide),yb tE (by decide)]at hK
    exact hK
   rw [if_pos (by omega)]at e3
   rw [e3,if_neg (by decide)]at hK
   unfold placeC at hK;intro _;refine Xa (λk:Nat=>⟨mkV [(17,asA m),(18,.one (.lit (.int .i64 m.length))),(19,.one (.lit (.int .i64 k)))],mkH []⟩) (λk=>k<=m.length/\(m.take k).all avld=true) (λk=>m.length-k) 0 ?_ ?_ ?_
   .exact ja (by simp [okS,okV,okC,okL,okH,okB,okE,Qa,Ja,qa,va,wsA,ws,asA,as]) trivial
   .exact⟨Nat.zero_le _,rfl⟩
   .rintro k ⟨hk,hall⟩;by_cases hlt:k<m.length
    .obtain⟨p,hp⟩:∃p,m.getD k a0=p:=⟨_,rfl⟩;have hp0:=Uk hlt hp;obtain⟨hp1,hp2⟩:=hom p (List.mem_of_getElem? hp0);cases hb:avld p with
     | true=>
      simp only [go_sem,hlt,hp,hv,hb,Yb];exact⟨hp1,hp2,by omega,k+1,ja (by simp [okS,okV,okC,okL,okH,okB,okE,Qa,Ja,qa,va,wsA,ws,asA,as]) trivial,⟨by omega,Zt hp0 hall hb⟩,by omega⟩
     | false=>
      rw [V9 hp0 hb,if_neg (by decide),yb tE (by decide)]at hK
      simp only [go_sem,hlt,hp,hv,hb,Yb];exact⟨hp1,hp2,hK⟩
    .rw [List.take_of_length_le (by omega)]at hall
     rw [hall,if_pos rfl,kb]at hK;simp only [go_sem,hlt];exact hK
  .have e3:threeC l=plchk l:=by unfold threeC;rw [if_pos h0]
   unfold chkC at hK;rw [e3,if_pos h0,yb tE h0]at hK;simp only [go_sem,Xj,hk,hv,yb tE h0];exact⟨hwl,hok,hK⟩
theorem wbw{b:Nat}{p:Ps}(h:okP b p):rl p.1.1<=b/\al p.2<=b:=⟨Nat.le_trans (Nat.le_max_left _ _) h.2,Nat.le_trans (Nat.le_max_right _ _) h.2⟩
theorem Uah(hΓ:Holds P Γ){f fa tE:Nat}(ha:Γ fa=.dat false (XC tE))(hc:check P f=some (32,(zn fa).strip,[.tmp 4,.tmp 5])):Sound P f (.dat false (Qw tE)):=by
 refine Wa hc (jaF tE) hΓ (λargs K hcl hfi hG=>?_);match args,hG with
 | [a,b],hG=>
  obtain⟨l,rfl,hwl,q,rfl,hwq,hok,hq,hlen,hK⟩:=hG;refine⟨by simp,?_⟩
  rw [zaT]at hK;have e8:errV tE 2=.one (.lit (.iface tE (.int .i64 2))):=yb tE (by decide)
  simp only [go_sem,zn,ha];intro _;refine Xa (λk:Nat=>if k=0 then ⟨mkV [(3,.one (.ptr 3 1 0 0)),(6,.one .emp),(11,psA l),(12,.one (.lit (.int .i64 l.length))),(13,.one (.lit (.int .i64 k)))],mkH [(3,⟨1,some ⟨[aC q],6,true⟩⟩)]⟩ else ⟨mkV [(3,.one (.ptr 3 1 0 0)),(6,.one (.own 29 1 6 0 k)),(11,psA l),(12,.one (.lit (.int .i64 l.length))),(13,.one (.lit (.int .i64 k)))],mkH [(3,⟨1,some ⟨[aC q],6,true⟩⟩),(29,⟨1,some ⟨((imgs (l.take k) q).map acan).map aC,6,true⟩⟩)]⟩) (λk=>k<=l.length/\(l.take k).all (λp=>aok p q)=true) (λk=>l.length-k) 0 ?_ ?_ ?_
  .exact ja (by simp [okS,okV,okC,okL,okH,okB,okE,Qa,Ja,qa,va,wsA,ws,psA,psC]) ⟨qi (l':=[q]) rfl,trivial⟩
  .exact⟨Nat.zero_le _,rfl⟩
  .rintro k ⟨hk,hall⟩;by_cases hlt:k<l.length
   .obtain⟨p,hp⟩:∃p,l.getD k p0=p:=⟨_,rfl⟩;have hp0:=Uk hlt hp;obtain⟨hp1,hp2⟩:=hok p (List.mem_of_getElem? hp0);have hil:=WI (l.take k) q;rw [List.length_take,Nat.min_eq_left hk]at hil;have hit:=ZaR (q:=q) hp0;cases hb:aok p q with
    | false=>
     have e0:imgC l q=2:=by unfold imgC;rw [V9 hp0 hb,if_neg (by decide)]
     rw [e0,if_neg (by decide),e8]at hK
     have e9:errV tE (if aok p q=true then 0 else 2)=.one (.lit (.iface tE (.int .i64 2))):=by rw [hb,if_neg (by decide)];exact e8
     by_cases hk0:k=0
     .subst hk0;simp only [go_sem,hlt,hp,ha,XY,Yb,Vb,e9];exact⟨hp1,hwq,hp2,hq,hK⟩
     .simp only [go_sem,hlt,hp,ha,XY,Yb,Vb,e9,hk0];exact⟨hp1,hwq,hp2,hq,hK⟩
    | true=>
     have e9:errV tE (if aok p q=true then 0 else 2)=.one (.lit .nilIface):=by rw [hb,if_pos rfl];exact kb tE
     have e7:(if aok p q=true then appQ (pv p) (av q) else (0,0))=appQ (pv p) (av q):=if_pos hb
     have hall':=Zt (f:=λp=>aok p q) hp0 hall hb;by_cases hk0:k=0
     .subst hk0;rw [List.take_zero]at hit;simp only [go_sem,hlt,hp,ha,XY,Yb,Vb,e9,e7];refine⟨hp1,hwq,hp2,hq,λe he=>by rw [List.mem_singleton.1 he];rfl,by omega,1,?_,⟨by omega,hall'⟩,by omega⟩
      rw [if_neg (by decide)]
      exact ja (by simp [okS,okV,okC,okL,okH,okB,okE,Qa,Ja,qa,va,wsA,ws,psA,psC]) ⟨qi (l':=[q]) rfl,qi (by rw [hit];rfl),trivial⟩
     .have ht:((imgs (l.take k) q).map acan).take k=(imgs (l.take k) q).map acan:=List.take_of_length_le (by rw [List.length_map,hil];exact Nat.le_refl _)
      simp only [go_sem,hlt,hp,ha,XY,Yb,hk0,Vb,List.length_map,hil,ht,e9,e7];refine⟨hp1,hwq,hp2,hq,λe he=>by rw [List.mem_singleton.1 he];rfl,by omega,by omega,k+1,?_,⟨by omega,hall'⟩,by omega⟩
      rw [if_neg (by omega)]
      exact ja (by simp [okS,okV,okC,okL,okH,okB,okE,Qa,Ja,qa,va,wsA,ws,psA,psC]) ⟨qi (l':=[q]) rfl,qi (by rw [hit,List.map_append,List.map_append];rfl),trivial⟩
   .rw [List.take_of_length_le (by omega)]at hall
    have e0:imgC l q=0:=by unfold imgC;rw [hall,if_pos rfl]
    rw [e0,if_pos rfl,kb]at hK;rw [List.take_of_length_le (by omega)]
    by_cases hk0:k=0
    .subst hk0;have hl0:l=[]:=List.length_eq_zero_iff.1 (by omega)
     subst hl0;simp only [go_sem,hlt];exact hK
    .have hil:=WI l q;have:k=l.length:=by omega
     subst this;have ht:((imgs l q).map acan).take l.length=(imgs l q).map acan:=List.take_of_length_le (by rw [List.length_map,hil];exact Nat.le_refl _)
     simp only [go_sem,hlt,hk0,List.length_map,hil,ht];exact hK
theorem wae(hΓ:Holds P Γ){f fs:Nat}(hs:Γ fs=.dat true Uq)(hc:check P f=some (10,(Zh fs).strip,[.tmp 2])):Sound P f (.dat true Zs):=by
 refine Wa hc Zal hΓ (λargs K hcl hfi hG=>?_);match args,hG with
 | [a],hG=>
  obtain⟨l,rfl,hwl,hok,hK⟩:=hG;refine⟨by simp,?_⟩
  simp only [go_sem,Zh,hs];refine λ_=>⟨λh=>⟨hwl,hok,?_⟩,λh=>?_⟩
  .rw [decide_eq_true (by omega:l.length<=20),Bool.true_and]at hK;exact hK
  .rw [decide_eq_false (by omega:¬l.length<=20),Bool.false_and]at hK;exact hK
theorem zab(hΓ:Holds P Γ){f:Nat}(hc:check P f=some (40,ug.strip,[.tmp 2])):Sound P f (.dat true Uq):=by
 refine Wa hc Zah hΓ (λargs K hcl hfi hG=>?_);match args,hG with
 | [a],hG=>
  obtain⟨l,rfl,hwl,hok,hK⟩:=hG;refine⟨by simp,?_⟩
  simp only [go_sem,ug];intro _;refine Xa (λk:Nat=>⟨mkV [(7,psA l),(8,.one (.lit (.int .i64 l.length))),(9,.one (.lit (.int .i64 k)))],mkH []⟩) (λk=>k<=l.length/\(l.take k).all sP=true) (λk=>l.length-k) 0 ?_ ?_ ?_
  .exact ja (by simp [okS,okV,okC,okL,okH,okB,okE,Qa,Ja,qa,va,wsA,ws,psA,psC]) trivial
  .exact⟨Nat.zero_le _,rfl⟩
  .rintro k ⟨hk,hall⟩;by_cases hlt:k<l.length
   .obtain⟨p,hp⟩:∃p,l.getD k p0=p:=⟨_,rfl⟩;have hp0:=Uk hlt hp;obtain⟨hp1,hp2⟩:=hok p (List.mem_of_getElem? hp0);obtain⟨xs,hxs⟩:∃xs:List R,xs=[p.1.1,p.2.1,p.2.2]:=⟨_,rfl⟩;have hlx:xs.length=3:=by rw [hxs];rfl
    have hwx:∀x∈xs,rl x<=4294967296:=by
     intro x hx;rw [hxs]at hx;simp only [List.mem_cons,List.not_mem_nil,or_false]at hx;obtain⟨l1,l2⟩:=wbw ⟨hp1,hp2⟩;obtain⟨l3,l4⟩:=al1 l2;rcases hx with rfl|rfl|rfl <;> assumption
    have hex:xs.all (sR 2)=sP p:=by rw [hxs];simp only [List.all_cons,List.all_nil,Bool.and_true];rfl
    simp only [go_sem,hlt,hp,XY];refine Xa (λj:Nat=>⟨mkV [(7,psA l),(8,.one (.lit (.int .i64 l.length))),(9,.one (.lit (.int .i64 k))),(22,.one (.full (xs.map rC))),(23,.one (.lit (.int .i64 3))),(24,.one (.lit (.int .i64 j)))],mkH []⟩) (λj=>j<=3/\(xs.take j).all (sR 2)=true) (λj=>3-j) 0 ?_ ?_ ?_
    .exact ja (by rw [hxs];simp [okS,okV,okC,okL,okH,okB,okE,Qa,Ja,qa,va,wsA,ws,psA,psC,rC]) trivial
    .exact⟨Nat.zero_le _,rfl⟩
    .rintro j ⟨hj,hallj⟩;by_cases hltj:j<3
     .obtain⟨x,hx⟩:∃x,xs.getD j (rcan 0)=x:=⟨_,rfl⟩;have hx0:=Uk (by omega:j<xs.length) hx
      have hxr:=hwx x (List.mem_of_getElem? hx0);have hjx:j<xs.length:=by omega
      obtain⟨b,n,d⟩:=x;have w1:n.length<=4294967296:=Nat.le_trans (Nat.le_max_left _ _) hxr;have w2:d.length<=4294967296:=Nat.le_trans (Nat.le_max_right _ _) hxr;have bad:¬(sR 2 (b,n,d)=true)->K (.one (.lit (.bool false))):=by
       intro hb;have e1:sP p=false:=by rw [<-hex];exact V9 hx0 (by simpa using hb)
       rw [V9 hp0 e1]at hK;exact hK
      have hsr:sR 2 (b,n,d)=true↔n.length<=2/\d.length<=2:=by simp [sR]
      simp only [go_sem,hltj,hjx,hx,xbD,cb,cn,cd,ws,hlx];exact⟨λ_ _=>⟨λh=>bad (λe=>by have:=hsr.1 e;omega),λh _=>⟨λh'=>bad (λe=>by have:=hsr.1 e;omega),λh'=>⟨by omega,j+1,ja (by simp [okS,okV,okC,okL,okH,okB,okE,Qa,Ja,qa,va,wsA,ws,psA,psC]) trivial,⟨by omega,Zt hx0 hallj (hsr.2 ⟨by omega,by omega⟩)⟩,by omega⟩⟩⟩,λh=>absurd (by omega) h⟩
     .rw [List.take_of_length_le (by omega),hex]at hallj
      simp only [go_sem,hltj];exact⟨λh=>absurd h (by omega),λ_=>⟨by omega,k+1,ja (by simp [okS,okV,okC,okL,okH,okB,okE,Qa,Ja,qa,va,wsA,ws,psA,psC]) trivial,⟨by omega,Zt hp0 hall hallj⟩,by omega⟩⟩
   .rw [List.take_of_length_le (by omega)]at hall
    rw [hall]at hK;simp only [go_sem,hlt];exact hK
theorem Y3(hΓ:Holds P Γ){f:Nat}(hc:check P f=some (35,ke.strip,[.tmp 2])):Sound P f (.dat true Yr):=by
 refine Wa hc Vam hΓ (λargs K hcl hfi hG=>?_);match args,hG with
 | [a],hG=>
  obtain⟨l,rfl,hwl,hok,hK⟩:=hG;refine⟨by simp,?_⟩
  simp only [go_sem,ke];intro _;refine Xa (λk:Nat=>⟨mkV [(7,asA l),(8,.one (.lit (.int .i64 l.length))),(9,.one (.lit (.int .i64 k)))],mkH []⟩) (λk=>k<=l.length/\(l.take k).all sA=true) (λk=>l.length-k) 0 ?_ ?_ ?_
  .exact ja (by simp [okS,okV,okC,okL,okH,okB,okE,Qa,Ja,qa,va,wsA,ws,asA,as]) trivial
  .exact⟨Nat.zero_le _,rfl⟩
  .rintro k ⟨hk,hall⟩;by_cases hlt:k<l.length
   .obtain⟨p,hp⟩:∃p,l.getD k a0=p:=⟨_,rfl⟩;have hp0:=Uk hlt hp;obtain⟨hp1,hp2⟩:=hok p (List.mem_of_getElem? hp0);obtain⟨xs,hxs⟩:∃xs:List R,xs=[p.1,p.2]:=⟨_,rfl⟩;have hlx:xs.length=2:=by rw [hxs];rfl
    have hwx:∀x∈xs,rl x<=4294967296:=by
     intro x hx;rw [hxs]at hx;simp only [List.mem_cons,List.not_mem_nil,or_false]at hx;obtain⟨l3,l4⟩:=al1 hp2;rcases hx with rfl|rfl <;> assumption
    have hex:xs.all (sR 2)=sA p:=by rw [hxs];simp only [List.all_cons,List.all_nil,Bool.and_true];rfl
    simp only [go_sem,hlt,hp,Yb];refine Xa (λj:Nat=>⟨mkV [(7,asA l),(8,.one (.lit (.int .i64 l.length))),(9,.one (.lit (.int .i64 k))),(17,.one (.full (xs.map rC))),(18,.one (.lit (.int .i64 2))),(19,.one (.lit (.int .i64 j)))],mkH []⟩) (λj=>j<=2/\(xs.take j).all (sR 2)=true) (λj=>2-j) 0 ?_ ?_ ?_
    .exact ja (by rw [hxs];simp [okS,okV,okC,okL,okH,okB,okE,Qa,Ja,qa,va,wsA,ws,asA,as,rC]) trivial
    .exact⟨Nat.zero_le _,rfl⟩
    .rintro j ⟨hj,hallj⟩;by_cases hltj:j<2
     .obtain⟨x,hx⟩:∃x,xs.getD j (rcan 0)=x:=⟨_,rfl⟩;have hx0:=Uk (by omega:j<xs.length) hx
      have hxr:=hwx x (List.mem_of_getElem? hx0);have hjx:j<xs.length:=by omega
      obtain⟨b,n,d⟩:=x;have w1:n.length<=4294967296:=Nat.le_trans (Nat.le_max_left _ _) hxr;have w2:d.length<=4294967296:=Nat.le_trans (Nat.le_max_right _ _) hxr;have bad:¬(sR 2 (b,n,d)=true)->K (.one (.lit (.bool false))):=by
       intro hb;have e1:sA p=false:=by rw [<-hex];exact V9 hx0 (by simpa using hb)
       rw [V9 hp0 e1]at hK;exact hK
      have hsr:sR 2 (b,n,d)=true↔n.length<=2/\d.length<=2:=by simp [sR]
      simp only [go_sem,hltj,hjx,hx,xbD,cb,cn,cd,ws,hlx];exact⟨λ_ _=>⟨λh=>bad (λe=>by have:=hsr.1 e;omega),λh _=>⟨λh'=>bad (λe=>by have:=hsr.1 e;omega),λh'=>⟨by omega,j+1,ja (by simp [okS,okV,okC,okL,okH,okB,okE,Qa,Ja,qa,va,wsA,ws,asA,as]) trivial,⟨by omega,Zt hx0 hallj (hsr.2 ⟨by omega,by omega⟩)⟩,by omega⟩⟩⟩,λh=>absurd (by omega) h⟩
     .rw [List.take_of_length_le (by omega),hex]at hallj
      simp only [go_sem,hltj];exact⟨λh=>absurd h (by omega),λ_=>⟨by omega,k+1,ja (by simp [okS,okV,okC,okL,okH,okB,okE,Qa,Ja,qa,va,wsA,ws,asA,as]) trivial,⟨by omega,Zt hp0 hall hallj⟩,by omega⟩⟩
   .rw [List.take_of_length_le (by omega)]at hall
    rw [hall]at hK;simp only [go_sem,hlt];exact hK
end Go.Abs
end
section
namespace Go.Num
open Go.Abs
def ctrQ(p u v:V2):V2:=(p.1+(sqQ u*v.2-sqQ v*u.2) / (2*crossQ u v),p.2+(sqQ v*u.1-sqQ u*v.1) / (2*crossQ u v))
def ciQ(p u v:V2):V2:=if crossQ u v=0 then (0,0) else ctrQ p u v
def ciL(l:List Arc):V2:=ciQ (av (l.getD 0 a0)) (subQ (av (l.getD 1 a0)) (av (l.getD 0 a0))) (subQ (av (l.getD 2 a0)) (av (l.getD 0 a0)))
def crL(l:List Arc):Rat:=crossQ (subQ (av (l.getD 1 a0)) (av (l.getD 0 a0))) (subQ (av (l.getD 2 a0)) (av (l.getD 0 a0)))
end Go.Num
namespace Go.Abs
open Go.Num
variable {P:Program} {Γ:Nat->Spec}
def uz(tE:Nat)(l:List AV)(K:AV->Prop):Prop:=
 match l with
 | [a]=>onAs (λl=>okAs 1000000 l/\3<=l.length/\K (.tup [pQ (ciL l),errV tE (if crL l=0 then 8 else 0)])) a
 | _=>False
theorem jaw(tE:Nat)(a:AV)(K:AV->Prop):uz tE [a] K=(onAs (λl=>okAs 1000000 l/\3<=l.length/\K (.tup [pQ (ciL l),errV tE (if crL l=0 then 8 else 0)])) a):=propext Iff.rfl
@[congr] theorem kbK (tE:Nat) {K:AV->Prop} {l l' : List AV} (h:l=l'):uz tE l K=uz tE l' K:=by subst h;rfl
attribute [go_sem,go_sem ↓] jaw
theorem zaH(tE:Nat):Good (uz tE):=Ya λas=>by
 unfold uz;split
 .exact(qaM λ_=>(.and λ_=>(.and λ_=>(.ret _))))
 .exact .of λK hk=>hk.elim
def Qam(l:List AV)(K:AV->Prop):Prop:=
 match l with
 | [a]=>onAs (λl=>okAs 1000000 l/\3<=l.length/\K (.tup [pQ (ciL l),.one (.lit (.bool (decide (crL l≠0))))])) a
 | _=>False
theorem Zat(a:AV)(K:AV->Prop):Qam [a] K=(onAs (λl=>okAs 1000000 l/\3<=l.length/\K (.tup [pQ (ciL l),.one (.lit (.bool (decide (crL l≠0))))])) a):=propext Iff.rfl
@[congr] theorem XbJ {K:AV->Prop} {l l' : List AV} (h:l=l'):Qam l K=Qam l' K:=by subst h;rfl
attribute [go_sem,go_sem ↓] Zat
def Yd(f0 f1 f2 f3 f4 f5 f6 f7 f8 tE:Nat):AC:=(.seq (.ops false [.u 2 (.alloc [(.lit (.bool false)),.emp,.emp,(.lit (.bool false)),.emp,.emp]),.m 3 (.c (.one (.lit .nilIface)))])
 (.fg [0,2] (.seq (.ops true [.m 12 (.t 0),.u 13 (.idx 6 (.t 12) (.i 1)),.u 14 (.ld none 6 true (.t 13)),.m 15 (.t 0),.u 16 (.idx 6 (.t 15) (.i 0)),.u 17 (.ld none 6 true (.t 16)),.u 18 (.call f0 [(.t 14),(.t 17)]),.m 19 (.t 0),.u 20 (.idx 6 (.t 19) (.i 2)),.u 21 (.ld none 6 true (.t 20)),.m 22 (.t 0),.u 23 (.idx 6 (.t 22) (.i 0)),.u 24 (.ld none 6 true (.t 23)),.u 25 (.call f0 [(.t 21),(.t 24)]),.u 4 (.alloc [(.lit (.bool false)),.emp,.emp,(.lit (.bool false)),.emp,.emp]),.u 5 (.alloc [(.lit (.bool false)),.emp,.emp,(.lit (.bool false)),.emp,.emp]),.n (.st none 6 (.t 4) (.t 18)),.n (.st none 6 (.t 5) (.t 25))])
 (.fg [0,2,4,5] (.seq (.ops true [.u 26 (.call f1 [(.i 2)]),.u 27 (.ld none 6 true (.t 4)),.u 28 (.ld none 6 true (.t 5)),.u 29 (.call f2 [(.t 27),(.t 28)]),.u 30 (.call f3 [(.t 26),(.t 29)]),.u 6 (.alloc [(.lit (.bool false)),.emp,.emp]),.n (.st none 3 (.t 6) (.t 30))])
 (.fg [0,2,4,5,6] (.seq (.seq (.ops false [.u 31 (.ld none 3 true (.t 6)),.u 32 (.call f4 [(.t 31)]),.u 33 (.bin .eql (.t 32) (.i 0))])
 (.fg [0,2,4,5,6,33] (.cond (.t 33) (.seq (.ops false [.u 34 (.build [.z [(.lit (.bool false)),.emp,.emp,(.lit (.bool false)),.emp,.emp]]),.u 35 (.iface tE (.i 8)),.n (.st none 6 (.t 2) (.t 34)),.m 3 (.t 35)])
 .ret) .skip)))
 (.fg [0,2,4,5,6] (.seq (.ops true [.u 36 (.ld none 6 true (.t 4)),.u 37 (.call f5 [(.t 36)]),.u 38 (.ld none 6 true (.t 5)),.u 39 (.call f5 [(.t 38)]),.u 7 (.alloc [(.lit (.bool false)),.emp,.emp]),.u 8 (.alloc [(.lit (.bool false)),.emp,.emp]),.n (.st none 3 (.t 7) (.t 37)),.n (.st none 3 (.t 8) (.t 39))])
 (.fg [0,2,4,5,6,7,8] (.seq (.ops true [.u 41 (.ld none 3 true (.t 7)),.u 42 (.fa 3 (.t 5)),.u 43 (.ld none 3 true (.t 42)),.u 44 (.call f3 [(.t 41),(.t 43)]),.u 45 (.ld none 3 true (.t 8)),.u 46 (.fa 3 (.t 4)),.u 47 (.ld none 3 true (.t 46)),.u 48 (.call f3 [(.t 45),(.t 47)]),.u 49 (.call f6 [(.t 44),(.t 48)]),.u 50 (.ld none 3 true (.t 6)),.u 51 (.call f7 [(.t 49),(.t 50)]),.m 40 (.t 51),.u 52 (.ext 0 (.t 40)),.u 53 (.ext 1 (.t 40)),.u 9 (.alloc [(.lit (.bool false)),.emp,.emp]),.n (.st none 3 (.t 9) (.t 52)),.m 10 (.t 53)])
 (.fg [0,2,4,5,6,7,8,9,10] (.seq (.seq (.ops false [.m 54 (.t 10),.u 55 (.binn .neq (.t 54) (.c (.one (.lit .nilIface))))])
 (.fg [0,2,4,5,6,7,8,9,10,55] (.cond (.t 55) (.seq (.ops false [.u 56 (.build [.z [(.lit (.bool false)),.emp,.emp,(.lit (.bool false)),.emp,.emp]]),.m 57 (.t 10),.n (.st none 6 (.t 2) (.t 56)),.m 3 (.t 57)])
 .ret) .skip)))
 (.fg [0,2,4,5,6,7,8,9] (.seq (.ops true [.u 59 (.ld none 3 true (.t 8)),.u 60 (.fa 0 (.t 4)),.u 61 (.ld none 3 true (.t 60)),.u 62 (.call f3 [(.t 59),(.t 61)]),.u 63 (.ld none 3 true (.t 7)),.u 64 (.fa 0 (.t 5)),.u 65 (.ld none 3 true (.t 64)),.u 66 (.call f3 [(.t 63),(.t 65)]),.u 67 (.call f6 [(.t 62),(.t 66)]),.u 68 (.ld none 3 true (.t 6)),.u 69 (.call f7 [(.t 67),(.t 68)]),.m 58 (.t 69),.u 70 (.ext 0 (.t 58)),.u 71 (.ext 1 (.t 58)),.u 11 (.alloc [(.lit (.bool false)),.emp,.emp]),.n (.st none 3 (.t 11) (.t 70)),.m 10 (.t 71)])
 (.fg [0,2,9,10,11] (.seq (.seq (.ops false [.m 72 (.t 10),.u 73 (.binn .neq (.t 72) (.c (.one (.lit .nilIface))))])
 (.fg [0,2,9,10,11,73] (.cond (.t 73) (.seq (.ops false [.u 74 (.build [.z [(.lit (.bool false)),.emp,.emp,(.lit (.bool false)),.emp,.emp]]),.m 75 (.t 10),.n (.st none 6 (.t 2) (.t 74)),.m 3 (.t 75)])
 .ret) .skip)))
 (.fg [0,2,9,11] (.seq (.ops true [.m 76 (.t 0),.u 77 (.idx 6 (.t 76) (.i 0)),.u 78 (.fa 0 (.t 77)),.u 79 (.ld none 3 true (.t 78)),.u 80 (.ld none 3 true (.t 9)),.u 81 (.call f8 [(.t 79),(.t 80)]),.m 82 (.t 0),.u 83 (.idx 6 (.t 82) (.i 0)),.u 84 (.fa 3 (.t 83)),.u 85 (.ld none 3 true (.t 84)),.u 86 (.ld none 3 true (.t 11)),.u 87 (.call f8 [(.t 85),(.t 86)]),.u 88 (.build [.x 3 (.t 81),.x 3 (.t 87)]),.n (.st none 6 (.t 2) (.t 88)),.m 3 (.c (.one (.lit .nilIface)))])
 .ret)))))))))))))))))))
theorem kai(hΓ:Holds P Γ){f fs fo fc fm fg fq fb fd fa tE:Nat}(hs:Γ fs=.dat false Yi)(ho:Γ fo=.dat false yC)(hx:Γ fc=.dat false Yh)(hm:Γ fm=.dat false Zn)(hg:Γ fg=.dat true wi)(hq' : Γ fq=.dat false JE)(hb:Γ fb=.dat false Yq)(hd:Γ fd=.dat false (Yt tE))(ha:Γ fa=.dat false Uo)(hc:check P f=some (89,(Yd fs fo fc fm fg fq fb fd fa tE).strip,[.cell 2 6 true,.tmp 3])):Sound P f (.dat false (uz tE)):=by
 refine Wa hc (zaH tE) hΓ (λargs K hcl hfi hG=>?_);match args,hG with
 | [a],hG=>
  obtain⟨l,rfl,hwl,hok,hlen,hK⟩:=hG;refine⟨by simp,?_⟩
  obtain⟨p,hp⟩:∃p,l.getD 0 a0=p:=⟨_,rfl⟩;obtain⟨q,hq⟩:∃q,l.getD 1 a0=q:=⟨_,rfl⟩;obtain⟨r,hr⟩:∃r,l.getD 2 a0=r:=⟨_,rfl⟩;have g0:0<l.length:=by omega
  have g1:1<l.length:=by omega
  have g2:2<l.length:=by omega
  obtain⟨p1,p2⟩:=hok p (List.mem_of_getElem? (Uk g0 hp));obtain⟨q1,q2⟩:=hok q (List.mem_of_getElem? (Uk g1 hq));obtain⟨r1,r2⟩:=hok r (List.mem_of_getElem? (Uk g2 hr));have z0:=vI p1;have z1:=vI q1;have z2:=vI r1;have zu:=jn (av q) (av p);have zv:=jn (av r) (av p);obtain⟨u,hu⟩:∃u,subQ (av q) (av p)=u:=⟨_,rfl⟩;obtain⟨v,hv⟩:∃v,subQ (av r) (av p)=v:=⟨_,rfl⟩;rw [hu]at zu;rw [hv]at zv;have zd:=jJ u v;have su:=Vae u;have sv:=Vae v;have u1:rz u.1<=zq u:=Nat.le_max_left _ _;have u2:rz u.2<=zq u:=Nat.le_max_right _ _;have v1:rz v.1<=zq v:=Nat.le_max_left _ _;have v2:rz v.2<=zq v:=Nat.le_max_right _ _;have w1:rz (av p).1<=zq (av p):=Nat.le_max_left _ _;have w2:rz (av p).2<=zq (av p):=Nat.le_max_right _ _;have m1:=Wc (sqQ u) v.2;have m2:=Wc (sqQ v) u.2;have m3:=Wc (sqQ v) u.1;have m4:=Wc (sqQ u) v.1;have s1:=xA (sqQ u*v.2) (sqQ v*u.2);have s2:=xA (sqQ v*u.1) (sqQ u*v.1);have i1:=rz_1;unfold ciL crL at hK;rw [hp,hq,hr,hu,hv]at hK;have c1:al (rcan u.1,rcan u.2)=zq u:=rfl;have c2:al (rcan v.1,rcan v.2)=zq v:=rfl;have p3:=p1.1;have p4:=p1.2;obtain⟨p5,p6⟩:=al1 p2;have e2:(((2:Int)):Rat)=2:=rfl;have zt:=xax 2;have zt2:zs 2<=2:=XW (by decide)
  rw [e2]at zt;have md:=Wc 2 (crossQ u v);by_cases h0:crossQ u v=0
  .have h1:ordQ (2*crossQ u v) 0=0:=by rw [Wj,h0];exact Rat.mul_zero 2
   rw [if_pos h0,yb tE (by decide)]at hK
   unfold ciQ at hK;rw [if_pos h0,yaG,ub]at hK;simp only [go_sem,Yd,hs,ho,hx,hm,hg,g0,g1,g2,hp,hq,hr,Yb,Vb,Uam,jc,hu,hv,h1,e2,c1,c2];repeat first|refine Va (by omega) ?_|refine Va (by assumption) ?_|refine Va rfl ?_|refine Va ⟨rfl,by omega⟩ ?_|refine Va ⟨rfl,by omega,by omega⟩ ?_|intro _
   exact hK
  .have h1:¬ordQ (2*crossQ u v) 0=0:=by rw [Wj];intro h;exact h0 (by grind)
   have hn:¬2*crossQ u v=0:=by intro h;exact h0 (by grind)
   rw [if_neg h0,kb]at hK;unfold ciQ at hK;rw [if_neg h0]at hK;obtain⟨d,hdd⟩:∃d,2*crossQ u v=d:=⟨_,rfl⟩;unfold ctrQ at hK;rw [hdd]at hK h1 hn md;have d1:=ZI (sqQ u*v.2-sqQ v*u.2) d;have d2:=ZI (sqQ v*u.1-sqQ u*v.1) d;simp only [go_sem,Yd,hs,ho,hx,hm,hg,hq',hb,hd,ha,g0,g1,g2,hp,hq,hr,Yb,Vb,Uam,jc,hu,hv,h1,e2,hdd,hn,kb,c1,c2];repeat first|refine Va (by omega) ?_|refine Va (by assumption) ?_|refine Va rfl ?_|refine Va ⟨rfl,by omega⟩ ?_|refine Va ⟨rfl,by omega,by omega⟩ ?_|intro _
   exact hK
end Go.Abs
end
section
namespace Go.Abs
open Go.Num
variable {P:Program} {Γ:Nat->Spec}
def yV(l:List AV)(K:AV->Prop):Prop:=
 match l with
 | [a]=>asInt (λk n=>k=.i64/\n=1/\K (.one (.lit (.string ⟨#[49]⟩)))) a
 | _=>False
theorem X5(a:AV)(K:AV->Prop):yV [a] K=(asInt (λk n=>k=.i64/\n=1/\K (.one (.lit (.string ⟨#[49]⟩)))) a):=propext Iff.rfl
@[congr] theorem jbD {K:AV->Prop} {l l' : List AV} (h:l=l'):yV l K=yV l' K:=by subst h;rfl
attribute [go_sem,go_sem ↓] X5
def jag(l:List AV)(K:AV->Prop):Prop:=
 match l with
 | [a,b]=>asInt (λk n=>k=.i64/\n=1/\asInt (λk m=>k=.i64/\m=10/\K (.one (.lit (.string ⟨#[49]⟩)))) b) a
 | _=>False
theorem Var(a b:AV)(K:AV->Prop):jag [a,b] K=(asInt (λk n=>k=.i64/\n=1/\asInt (λk m=>k=.i64/\m=10/\K (.one (.lit (.string ⟨#[49]⟩)))) b) a):=propext Iff.rfl
@[congr] theorem wbI {K:AV->Prop} {l l' : List AV} (h:l=l'):jag l K=jag l' K:=by subst h;rfl
attribute [go_sem,go_sem ↓] Var
def Jai(l:List AV)(K:AV->Prop):Prop:=
 match l with
 | [a]=>asInt (λk n=>k=.i64/\n=1/\K (.one (.lit (.string ⟨#[49]⟩)))) a
 | _=>False
theorem qat(a:AV)(K:AV->Prop):Jai [a] K=(asInt (λk n=>k=.i64/\n=1/\K (.one (.lit (.string ⟨#[49]⟩)))) a):=propext Iff.rfl
@[congr] theorem WbL {K:AV->Prop} {l l' : List AV} (h:l=l'):Jai l K=Jai l' K:=by subst h;rfl
attribute [go_sem,go_sem ↓] qat
def Wam(l:List AV)(K:AV->Prop):Prop:=
 match l with
 | [a,b]=>a=.one (.slice [[.lit (.string ⟨#[49]⟩)]])/\b=.one (.lit (.string ⟨#[]⟩))/\K (.one (.lit (.string ⟨#[49]⟩)))
 | _=>False
theorem Xaz(a b:AV)(K:AV->Prop):Wam [a,b] K=(a=.one (.slice [[.lit (.string ⟨#[49]⟩)]])/\b=.one (.lit (.string ⟨#[]⟩))/\K (.one (.lit (.string ⟨#[49]⟩)))):=propext Iff.rfl
@[congr] theorem UbJ {K:AV->Prop} {l l' : List AV} (h:l=l'):Wam l K=Wam l' K:=by subst h;rfl
attribute [go_sem,go_sem ↓] Xaz
def Zam(l:List AV)(K:AV->Prop):Prop:=
 match l with
 | [a]=>onW (λw=>zv w=1/\K (.one (.lit (.string ⟨#[49]⟩)))) a
 | _=>False
theorem vav(a:AV)(K:AV->Prop):Zam [a] K=(onW (λw=>zv w=1/\K (.one (.lit (.string ⟨#[49]⟩)))) a):=propext Iff.rfl
@[congr] theorem QbL {K:AV->Prop} {l l' : List AV} (h:l=l'):Zam l K=Zam l' K:=by subst h;rfl
attribute [go_sem,go_sem ↓] vav
def wai(l:List AV)(K:AV->Prop):Prop:=
 match l with
 | [a]=>onR (λx=>rv x=1/\rl x<=4294967296/\K (.one (.lit (.string ⟨#[49]⟩)))) a
 | _=>False
theorem Vao(a:AV)(K:AV->Prop):wai [a] K=(onR (λx=>rv x=1/\rl x<=4294967296/\K (.one (.lit (.string ⟨#[49]⟩)))) a):=propext Iff.rfl
@[congr] theorem xbJ {K:AV->Prop} {l l' : List AV} (h:l=l'):wai l K=wai l' K:=by subst h;rfl
attribute [go_sem,go_sem ↓] Vao
def Ub:AC:=(.seq (.ops false [.m 2 (.c (.one (.lit (.string ⟨#[]⟩))))])
 (.fg [0] (.seq (.seq (.ops false [.m 3 (.t 0),.u 4 (.bin .lss (.t 3) (.i 10))])
 (.fg [0,4] (.cond (.t 4) (.seq (.ops false [.m 5 (.t 0),.m 6 (.t 0),.u 7 (.bin .add (.t 6) (.i 1)),.u 8 (.sop 0 [(.c (.one (.lit (.string ⟨#[48,49,50,51,52,53,54,55,56,57,97,98,99,100,101,102,103,104,105,106,107,108,109,110,111,112,113,114,115,116,117,118,119,120,121,122]⟩)))),(.t 5),(.t 7)]),.m 2 (.t 8)])
 .ret) .skip)))
 (.fg [0] (.seq (.ops false [.m 9 (.t 0),.u 10 (.bin .mul (.t 9) (.i 2)),.m 11 (.t 0),.u 12 (.bin .mul (.t 11) (.i 2)),.u 13 (.bin .add (.t 12) (.i 2)),.u 14 (.sop 0 [(.c (.one (.lit (.string ⟨#[48,48,48,49,48,50,48,51,48,52,48,53,48,54,48,55,48,56,48,57,49,48,49,49,49,50,49,51,49,52,49,53,49,54,49,55,49,56,49,57,50,48,50,49,50,50,50,51,50,52,50,53,50,54,50,55,50,56,50,57,51,48,51,49,51,50,51,51,51,52,51,53,51,54,51,55,51,56,51,57,52,48,52,49,52,50,52,51,52,52,52,53,52,54,52,55,52,56,52,57,53,48,53,49,53,50,53,51,53,52,53,53,53,54,53,55,53,56,53,57,54,48,54,49,54,50,54,51,54,52,54,53,54,54,54,55,54,56,54,57,55,48,55,49,55,50,55,51,55,52,55,53,55,54,55,55,55,56,55,57,56,48,56,49,56,50,56,51,56,52,56,53,56,54,56,55,56,56,56,57,57,48,57,49,57,50,57,51,57,52,57,53,57,54,57,55,57,56,57,57]⟩)))),(.t 10),(.t 13)]),.m 2 (.t 14)])
 .ret)))))
def Xd(f0 f1 f2 f3:Nat):AC:=(.seq (.ops false [.m 4 (.c (.one (.lit (.string ⟨#[]⟩))))])
 (.fg [0,1] (.seq (.seq (.ops false [.m 10 (.t 1),.u 11 (.bin .eql (.t 10) (.i 10))])
 (.fg [0,1,11] (.cond (.t 11) (.seq (.seq (.ops false [.m 12 (.t 0),.u 13 (.bin .leq (.i 0) (.t 12)),.m 14 (.t 13),.w 15 14 true (.mv (.t 0)),.w 16 14 true (.bin .lss (.t 15) (.i 100)),.u 17 (.pick (.t 14) (.t 16) .fa)])
 (.fg [0,17] (.cond (.t 17) (.seq (.ops false [.m 18 (.t 0),.u 19 (.call f0 [(.t 18)]),.m 4 (.t 19)])
 .ret) .skip)))
 (.fg [0] (.seq (.ops false [.u 5 (.alloc [(.lit (.int .u8 0)),(.lit (.int .u8 0)),(.lit (.int .u8 0)),(.lit (.int .u8 0)),(.lit (.int .u8 0)),(.lit (.int .u8 0)),(.lit (.int .u8 0)),(.lit (.int .u8 0)),(.lit (.int .u8 0)),(.lit (.int .u8 0)),(.lit (.int .u8 0)),(.lit (.int .u8 0)),(.lit (.int .u8 0)),(.lit (.int .u8 0)),(.lit (.int .u8 0)),(.lit (.int .u8 0)),(.lit (.int .u8 0)),(.lit (.int .u8 0)),(.lit (.int .u8 0)),(.lit (.int .u8 0)),(.lit (.int .u8 0)),(.lit (.int .u8 0)),(.lit (.int .u8 0)),(.lit (.int .u8 0))])])
 (.fg [0,5] (.seq (.ops false [.m 20 (.t 0),.u 21 (.conv .u64 (.t 20)),.m 6 (.t 21)])
 (.fg [0,5,6] (.seq (.seq (.ops false [.m 22 (.t 0),.u 23 (.bin .lss (.t 22) (.i 0))])
 (.fg [0,5,6,23] (.cond (.t 23) (.ops false [.m 24 (.t 6),.u 25 (.un .neg (.t 24)),.m 6 (.t 25)]) .skip)))
 (.fg [0,5,6] (.seq (.ops false [.m 26 (.t 6),.u 27 (.call f1 [(.t 26)]),.m 7 (.t 27)])
 (.fg [0,5,6,7] (.seq (.ops false [.m 28 (.t 7),.u 29 (.bin .add (.i 1) (.t 28)),.u 30 (.rsb 1 24 (.t 5) (some (.i 1)) (some (.t 29))),.m 31 (.t 6),.u 32 (.call f2 [(.t 30),(.t 31)])])
 (.fg [0,5,7] (.seq (.seq (.ops false [.m 33 (.t 0),.u 34 (.bin .lss (.t 33) (.i 0))])
 (.fg [5,7,34] (.cond (.t 34) (.seq (.ops false [.u 35 (.ai 1 24 (.t 5) (.i 0)),.n (.st none 1 (.t 35) (.c (.one (.lit (.int .u8 45)))))])
 (.fg [5,7] (.seq (.ops false [.m 36 (.t 7),.u 37 (.bin .add (.i 1) (.t 36)),.u 38 (.rsb 1 24 (.t 5) none (some (.t 37))),.u 39 (.bad),.m 4 (.t 39)])
 .ret))) .skip)))
 (.fg [5,7] (.seq (.ops false [.m 40 (.t 7),.u 41 (.bin .add (.i 1) (.t 40)),.u 42 (.rsb 1 24 (.t 5) (some (.i 1)) (some (.t 41))),.u 43 (.bad),.m 4 (.t 43)])
 .ret))))))))))))))) .skip)))
 (.fg [0,1] (.seq (.ops false [.m 45 (.t 0),.u 46 (.conv .u64 (.t 45)),.m 47 (.t 1),.m 48 (.t 0),.u 49 (.bin .lss (.t 48) (.i 0)),.u 50 (.call f3 [(.c (.one .emp)),(.t 46),(.t 47),(.t 49),.fa]),.m 44 (.t 50),.u 51 (.ext 0 (.t 44)),.u 52 (.ext 1 (.t 44)),.m 8 (.t 51),.m 9 (.t 52)])
 (.fg [9] (.seq (.ops false [.m 53 (.t 9),.m 4 (.t 53)])
 .ret)))))))
def Yf(f0:Nat):AC:=(.seq (.ops false [.m 2 (.c (.one (.lit (.string ⟨#[]⟩))))])
 (.fg [0] (.seq (.ops false [.m 3 (.t 0),.u 4 (.call f0 [(.t 3),(.i 10)]),.m 2 (.t 4)])
 .ret)))
def Xu(f0:Nat):AC:=(.seq (.ops false [.m 2 (.c (.one (.lit (.string ⟨#[]⟩))))])
 (.fg [0] (.seq (.ops false [.m 3 (.t 0),.u 4 (.call f0 [(.t 3)]),.m 2 (.t 4)])
 .ret)))
def kt(f0 f1 f2:Nat):AC:=(.seq (.ops false [.m 4 (.c (.one (.lit (.string ⟨#[]⟩))))])
 (.fg [0,1] (.seq (.seq (.ops false [.m 11 (.t 0),.u 12 (.len (.t 11))])
 (.fg [0,1,12] (.block 0 (.seq (.ops false [.u 14 (.bin .eql (.t 12) (.i 0)),.m 13 (.t 14)])
 (.fg [0,1,12,13] (.cond (.t 13) (.seq (.ops false [.m 4 (.c (.one (.lit (.string ⟨#[]⟩))))])
 .ret) (.seq (.ops false [.u 16 (.bin .eql (.t 12) (.i 1)),.m 15 (.t 16)])
 (.fg [0,1,15] (.cond (.t 15) (.seq (.ops false [.m 17 (.t 0),.u 18 (.idx 1 (.t 17) (.i 0)),.u 19 (.ld none 1 false (.t 18)),.m 4 (.t 19)])
 .ret) .skip)))))))))
 (.fg [0,1] (.seq (.ops false [.m 5 (.i 0)])
 (.fg [0,1,5] (.seq (.seq (.ops false [.m 20 (.t 1),.u 21 (.bad),.u 22 (.bin .gtr (.t 21) (.i 0))])
 (.fg [0,1,5,22] (.cond (.t 22) (.seq (.seq (.ops false [.m 23 (.t 1),.u 24 (.bad),.m 25 (.t 0),.u 26 (.len (.t 25)),.u 27 (.bin .sub (.t 26) (.i 1)),.u 28 (.bin .quo (.i 9223372036854775807) (.t 27)),.u 29 (.bin .geq (.t 24) (.t 28))])
 (.fg [0,1,5,29] (.cond (.t 29) (.ops false [.u 30 (.bad),.n (.bad)]) .skip)))
 (.fg [0,1,5] (.ops false [.m 31 (.t 5),.m 32 (.t 1),.u 33 (.bad),.m 34 (.t 0),.u 35 (.len (.t 34)),.u 36 (.bin .sub (.t 35) (.i 1)),.u 37 (.bin .mul (.t 33) (.t 36)),.u 38 (.bin .add (.t 31) (.t 37)),.m 5 (.t 38)]))) .skip)))
 (.fg [0,1,5] (.seq (.seq (.ops false [.m 39 (.t 0),.u 40 (.len (.t 39)),.m 41 (.i 0)])
 (.fg [0,1,5,39,40,41] (.block 1 (.loop (.seq (.ops false [.u 42 (.bin .lss (.t 41) (.t 40))])
 (.fg [0,1,5,39,40,41,42] (.seq (.cond (.t 42) .skip (.exit 1))
 (.fg [0,1,5,39,40,41] (.seq (.block 2 (.seq (.ops false [.u 43 (.idx 1 (.t 39) (.t 41)),.u 44 (.ld none 1 false (.t 43)),.m 7 (.t 44)])
 (.fg [0,1,5,7,39,40,41] (.seq (.seq (.ops false [.m 45 (.t 7),.u 46 (.bad),.m 47 (.t 5),.u 48 (.bin .sub (.i 9223372036854775807) (.t 47)),.u 49 (.bin .gtr (.t 46) (.t 48))])
 (.fg [0,1,5,7,39,40,41,49] (.cond (.t 49) (.ops false [.u 50 (.bad),.n (.bad)]) .skip)))
 (.fg [0,1,5,7,39,40,41] (.ops false [.m 51 (.t 5),.m 52 (.t 7),.u 53 (.bad),.u 54 (.bin .add (.t 51) (.t 53)),.m 5 (.t 54)]))))))
 (.fg [0,1,5,39,40,41] (.ops false [.u 55 (.bin .add (.t 41) (.i 1)),.m 41 (.t 55)])))))))))))
 (.fg [0,1,5] (.seq (.ops false [.u 8 (.alloc [(.lit (.pointer none)),.emp])])
 (.fg [0,1,5,8] (.seq (.ops false [.m 56 (.t 5),.u 57 (.call f0 [(.t 8),(.t 56)])])
 (.fg [0,1,8] (.seq (.ops false [.m 58 (.t 0),.u 59 (.idx 1 (.t 58) (.i 0)),.u 60 (.ld none 1 false (.t 59)),.u 61 (.call f1 [(.t 8),(.t 60)])])
 (.fg [0,1,8] (.seq (.seq (.ops false [.m 62 (.t 0),.u 63 (.sl 1 (.t 62) (some (.i 1)) none),.u 64 (.len (.t 63)),.m 65 (.i 0)])
 (.fg [1,8,63,64,65] (.block 3 (.loop (.seq (.ops false [.u 66 (.bin .lss (.t 65) (.t 64))])
 (.fg [1,8,63,64,65,66] (.seq (.cond (.t 66) .skip (.exit 3))
 (.fg [1,8,63,64,65] (.seq (.block 4 (.seq (.ops false [.u 67 (.idx 1 (.t 63) (.t 65)),.u 68 (.ld none 1 false (.t 67)),.m 10 (.t 68)])
 (.fg [1,8,10,63,64,65] (.seq (.ops false [.m 69 (.t 1),.u 70 (.call f1 [(.t 8),(.t 69)])])
 (.fg [1,8,10,63,64,65] (.ops false [.m 71 (.t 10),.u 72 (.call f1 [(.t 8),(.t 71)])]))))))
 (.fg [1,8,63,64,65] (.ops false [.u 73 (.bin .add (.t 65) (.i 1)),.m 65 (.t 73)])))))))))))
 (.fg [8] (.seq (.ops false [.u 74 (.call f2 [(.t 8)]),.m 4 (.t 74)])
 .ret)))))))))))))))))))
def Yu(f0 f1 f2 f3 f4 f5:Nat):AC:=(.seq (.ops false [.u 1 (.box 2 (.t 0)),.m 2 (.c (.one (.lit (.string ⟨#[]⟩))))])
 (.fg [1] (.seq (.ops false [.u 8 (.ld none 2 true (.t 1)),.u 9 (.call f0 [(.t 8)]),.m 3 (.t 9)])
 (.fg [1,3] (.seq (.seq (.ops false [.m 10 (.t 3),.u 11 (.len (.t 10)),.u 12 (.bin .eql (.t 11) (.i 0))])
 (.fg [1,3,12] (.cond (.t 12) (.seq (.ops false [.m 2 (.c (.one (.lit (.string ⟨#[48]⟩))))])
 .ret) .skip)))
 (.fg [1,3] (.seq (.ops false [.m 4 (.c (.one .emp))])
 (.fg [1,3,4] (.seq (.block 0 (.loop (.seq (.seq (.ops false [.m 13 (.t 3),.u 14 (.len (.t 13)),.u 15 (.bin .gtr (.t 14) (.i 0))])
 (.fg [1,3,4,15] (.cond (.t 15) .skip (.exit 0))))
 (.fg [1,3,4] (.block 1 (.seq (.ops false [.m 5 (.c (.one (.lit (.int .u32 0))))])
 (.fg [1,3,4] (.seq (.ops false [.m 17 (.t 3),.u 18 (.call f1 [(.t 17),(.c (.one (.lit (.int .u32 1000000000))))]),.m 16 (.t 18),.u 19 (.ext 0 (.t 16)),.u 20 (.ext 1 (.t 16)),.m 3 (.t 19),.m 5 (.t 20)])
 (.fg [1,3,4,5] (.seq (.ops false [.m 21 (.t 5),.u 22 (.conv .i64 (.t 21)),.u 23 (.call f2 [(.t 22)]),.m 6 (.t 23)])
 (.fg [1,3,4,6] (.seq (.seq (.ops false [.m 24 (.t 3),.u 25 (.len (.t 24)),.u 26 (.bin .gtr (.t 25) (.i 0))])
 (.fg [1,3,4,6,26] (.cond (.t 26) (.ops false [.m 27 (.t 6),.u 28 (.bad),.u 29 (.bin .sub (.i 9) (.t 28)),.u 30 (.call f3 [(.c (.one (.lit (.string ⟨#[48]⟩)))),(.t 29)]),.m 31 (.t 6),.u 32 (.sop 2 [(.t 30),(.t 31)]),.m 6 (.t 32)]) .skip)))
 (.fg [1,3,4,6] (.ops false [.m 33 (.t 6),.u 34 (.row 1 [[.x 1 (.t 33)]]),.m 35 (.t 4),.u 36 (.app 1 (.t 34) (.t 35)),.m 4 (.t 36)]))))))))))))))
 (.fg [1,4] (.seq (.ops false [.m 37 (.t 4),.u 38 (.call f4 [(.t 37),(.c (.one (.lit (.string ⟨#[]⟩))))]),.m 7 (.t 38)])
 (.fg [1,7] (.seq (.seq (.ops false [.u 39 (.ld none 2 true (.t 1)),.u 40 (.call f5 [(.t 39)])])
 (.fg [7,40] (.cond (.t 40) (.ops false [.m 41 (.t 7),.u 42 (.sop 2 [(.c (.one (.lit (.string ⟨#[45]⟩)))),(.t 41)]),.m 7 (.t 42)]) .skip)))
 (.fg [7] (.seq (.ops false [.m 43 (.t 7),.m 2 (.t 43)])
 .ret)))))))))))))))
def Vl(f0 f1 f2 f3:Nat):AC:=(.seq (.ops false [.u 1 (.box 3 (.t 0)),.m 2 (.c (.one (.lit (.string ⟨#[]⟩))))])
 (.fg [1] (.seq (.ops false [.u 6 (.ld none 3 true (.t 1)),.u 7 (.call f0 [(.t 6)]),.m 5 (.t 7),.u 8 (.ext 0 (.t 5)),.u 9 (.ext 1 (.t 5)),.u 3 (.alloc [(.lit (.bool false)),.emp]),.u 4 (.alloc [(.lit (.bool false)),.emp]),.n (.st none 2 (.t 3) (.t 8)),.n (.st none 2 (.t 4) (.t 9))])
 (.fg [3,4] (.seq (.seq (.ops true [.u 10 (.ld none 2 true (.t 4)),.u 11 (.call f1 []),.u 12 (.call f2 [(.t 10),(.t 11)]),.u 13 (.bin .eql (.t 12) (.i 0))])
 (.fg [3,4,13] (.cond (.t 13) (.seq (.ops false [.u 14 (.ld none 2 true (.t 3)),.u 15 (.call f3 [(.t 14)]),.m 2 (.t 15)])
 .ret) .skip)))
 (.fg [3,4] (.seq (.ops true [.u 16 (.ld none 2 true (.t 3)),.u 17 (.call f3 [(.t 16)]),.u 18 (.sop 2 [(.t 17),(.c (.one (.lit (.string ⟨#[47]⟩))))]),.u 19 (.ld none 2 true (.t 4)),.u 20 (.call f3 [(.t 19)]),.u 21 (.sop 2 [(.t 18),(.t 20)]),.m 2 (.t 21)])
 .ret)))))))
end Go.Abs
end
