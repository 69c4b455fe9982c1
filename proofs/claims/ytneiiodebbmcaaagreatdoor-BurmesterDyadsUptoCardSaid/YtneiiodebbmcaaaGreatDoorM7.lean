/-
  Parts of the proof, merged: ChartG, ChartQ, ChartH, ChartR, ChartW, ChartX, ComA, ChartRow, ComB, PoseD, PoseE, PoseT.
-/
import Derived.Test.YtneiiodebbmcaaaGreatDoorM6
set_option linter.unusedVariables false
set_option linter.unusedSimpArgs false
set_option maxRecDepth 100000
section
namespace Go.Num
def sh1(by' : Rat)(a:Q2):List Q2:=
 let f:=frac (a.1+by')
 let t:=f+(a.2-a.1)
 if 1<t then (0,t-1)::(if f<1 then [(f,1)] else []) else (if f<t then [(f,t)] else [])
def shL(by' : Rat)(l:List Q2):List Q2:=l.flatMap (sh1 by')
def lim64(l:List Q2):List Q2:=if 64<l.length then [] else l
def code64(l:List Q2):Nat:=if 64<l.length then 4 else 0
def shOut(l:List Arc)(y:R):List Q2:=if chk [l]=0/\vldR y=true then lim64 (nrm (shL (rv y) (vals l))) else []
def shCode(l:List Arc)(y:R):Nat:=if chk [l]=0 then (if vldR y=true then code64 (nrm (shL (rv y) (vals l))) else 3) else chk [l]
end Go.Num
namespace Go.Abs
open Go.Num
variable {P:Program} {Γ:Nat->Spec}
def ZX(tE m:Nat)(l:List AV)(K:AV->Prop):Prop:=
 match l with
 | [a,b]=>onAs (λl=>onR (λy=>(chk [l]=0->2*l.length<=m)/\okAs 10000000 l/\rl y<=10000000/\K (.tup [.one (.slice (((shOut l y).map acan).map aC)),errV tE (shCode l y)])) b) a
 | _=>False
theorem J7(tE m:Nat)(a b:AV)(K:AV->Prop):ZX tE m [a,b] K=(onAs (λl=>onR (λy=>(chk [l]=0->2*l.length<=m)/\okAs 10000000 l/\rl y<=10000000/\K (.tup [.one (.slice (((shOut l y).map acan).map aC)),errV tE (shCode l y)])) b) a):=propext Iff.rfl
@[congr] theorem JbG (tE m:Nat) {K:AV->Prop} {l l' : List AV} (h:l=l'):ZX tE m l K=ZX tE m l' K:=by subst h;rfl
attribute [go_sem,go_sem ↓] J7
end Go.Abs
end
section
namespace Go.Num
end Go.Num
end
section
namespace Go.Num
end Go.Num
namespace Go.Abs
open Go.Num
variable {P:Program} {Γ:Nat->Spec}
theorem Wbi(k:List Arc->Prop)(x y:R):onAs k (.one (.slice [[cb x,cn x,cd x,cb y,cn y,cd y]]))=((∀z∈[(x,y)],WLA z)/\k [(x,y)]):=yI k [(x,y)]
theorem vbi(k:List Arc->Prop)(x y x' y' : R):onAs k (.one (.slice [[cb x,cn x,cd x,cb y,cn y,cd y],[cb x',cn x',cd x',cb y',cn y',cd y']]))=((∀z∈[(x,y),(x',y')],WLA z)/\k [(x,y),(x',y')]):=yI k [(x,y),(x',y')]
theorem uaN(k:List Arc->Prop)(x:Arc):onAs k (.one (.slice [aC x]))=((∀z∈[x],WLA z)/\k [x]):=yI k [x]
theorem za9(k:List Arc->Prop)(x y:Arc):onAs k (.one (.slice [aC x,aC y]))=((∀z∈[x,y],WLA z)/\k [x,y]):=yI k [x,y]
theorem zaV(k:List Arc->Prop)(y x' y' : R):onAs k (.one (.slice [[.lit (.bool false),.slice [],.slice [],cb y,cn y,cd y],[cb x',cn x',cd x',cb y',cn y',cd y']]))=((∀z∈[(rcan 0,y),(x',y')],WLA z)/\k [(rcan 0,y),(x',y')]):=by
 rw [yb];exact yI k [((false,[],[]),y),(x',y')]
attribute [go_sem,go_sem ↓] Wbi vbi uaN za9 zaV
def U0(l:List AV)(K:AV->Prop):Prop:=
 match l with
 | []=>K (.one (.lit (.bool true)))
 | _=>False
theorem vae(K:AV->Prop):U0 [] K=(K (.one (.lit (.bool true)))):=propext Iff.rfl
@[congr] theorem UbH {K:AV->Prop} {l l' : List AV} (h:l=l'):U0 l K=U0 l' K:=by subst h;rfl
attribute [go_sem,go_sem ↓] vae
end Go.Abs
end
section
namespace Go.Num
instance(x:Rat)(a:Q2):Decidable (mem x a):=by unfold mem;infer_instance
instance(x:Rat)(l:List Q2):Decidable (memL x l):=by unfold memL;infer_instance
end Go.Num
end
section
namespace Go.Num
def not1(f t:Rat):List Q2:=if f<t then [(f,t)] else []
def notGo:Rat->List Q2->List Q2
 | f,[]=>not1 f 1
 | f,a::l=>not1 f a.1++notGo a.2 l
def notL(l:List Q2):List Q2:=notGo 0 l
def meet1(x y:Q2):List Q2:=not1 (mxQ x.1 y.1) (mnQ x.2 y.2)
def meetL(a b:List Q2):List Q2:=a.flatMap λx=>b.flatMap λy=>meet1 x y
end Go.Num
namespace Go.Abs
open Go.Num
variable {P:Program} {Γ:Nat->Spec}
def va3(l:List AV)(K:AV->Prop):Prop:=
 match l with
 | [a]=>onAs (λl=>l.length<=1000/\okAs 1000000000 l/\K (.one (.slice (((notL (vals l)).map acan).map aC)))) a
 | _=>False
theorem waP(a:AV)(K:AV->Prop):va3 [a] K=(onAs (λl=>l.length<=1000/\okAs 1000000000 l/\K (.one (.slice (((notL (vals l)).map acan).map aC)))) a):=propext Iff.rfl
@[congr] theorem JbQ {K:AV->Prop} {l l' : List AV} (h:l=l'):va3 l K=va3 l' K:=by subst h;rfl
attribute [go_sem,go_sem ↓] waP
def yak(l:List AV)(K:AV->Prop):Prop:=
 match l with
 | [a,b]=>onAs (λl=>onAs (λm=>l.length<=1000/\m.length<=1000/\okAs 1000000000 l/\okAs 1000000000 m/\K (.one (.slice (((meetL (vals l) (vals m)).map acan).map aC)))) b) a
 | _=>False
theorem WaC(a b:AV)(K:AV->Prop):yak [a,b] K=(onAs (λl=>onAs (λm=>l.length<=1000/\m.length<=1000/\okAs 1000000000 l/\okAs 1000000000 m/\K (.one (.slice (((meetL (vals l) (vals m)).map acan).map aC)))) b) a):=propext Iff.rfl
@[congr] theorem kbK {K:AV->Prop} {l l' : List AV} (h:l=l'):yak l K=yak l' K:=by subst h;rfl
attribute [go_sem,go_sem ↓] WaC
end Go.Abs
end
section
namespace Go.Num
def res(c:Nat)(L:List Q2):List Q2:=if c=0 then lim64 L else []
def cod(c:Nat)(L:List Q2):Nat:=if c=0 then code64 L else c
end Go.Num
namespace Go.Abs
open Go.Num
variable {P:Program} {Γ:Nat->Spec}
def UZ(tE m:Nat)(l:List AV)(K:AV->Prop):Prop:=
 match l with
 | [a,b]=>onAs (λl=>onAs (λk=>(chk [l,k]=0->l.length+k.length<=m)/\okAs 10000000 l/\okAs 10000000 k/\K (.tup [.one (.slice (((res (chk [l,k]) (nrm (vals l++vals k))).map acan).map aC)),errV tE (cod (chk [l,k]) (nrm (vals l++vals k)))])) b) a
 | _=>False
theorem qae(tE m:Nat)(a b:AV)(K:AV->Prop):UZ tE m [a,b] K=(onAs (λl=>onAs (λk=>(chk [l,k]=0->l.length+k.length<=m)/\okAs 10000000 l/\okAs 10000000 k/\K (.tup [.one (.slice (((res (chk [l,k]) (nrm (vals l++vals k))).map acan).map aC)),errV tE (cod (chk [l,k]) (nrm (vals l++vals k)))])) b) a):=propext Iff.rfl
@[congr] theorem QbF (tE m:Nat) {K:AV->Prop} {l l' : List AV} (h:l=l'):UZ tE m l K=UZ tE m l' K:=by subst h;rfl
attribute [go_sem,go_sem ↓] qae
def wal(tE m:Nat)(l:List AV)(K:AV->Prop):Prop:=
 match l with
 | [a,b]=>onAs (λl=>onAs (λk=>(chk [l,k]=0->l.length<=m/\k.length<=m)/\okAs 10000000 l/\okAs 10000000 k/\K (.tup [.one (.slice (((res (chk [l,k]) (meetL (nrm (vals l)) (nrm (vals k)))).map acan).map aC)),errV tE (cod (chk [l,k]) (meetL (nrm (vals l)) (nrm (vals k))))])) b) a
 | _=>False
theorem waB(tE m:Nat)(a b:AV)(K:AV->Prop):wal tE m [a,b] K=(onAs (λl=>onAs (λk=>(chk [l,k]=0->l.length<=m/\k.length<=m)/\okAs 10000000 l/\okAs 10000000 k/\K (.tup [.one (.slice (((res (chk [l,k]) (meetL (nrm (vals l)) (nrm (vals k)))).map acan).map aC)),errV tE (cod (chk [l,k]) (meetL (nrm (vals l)) (nrm (vals k))))])) b) a):=propext Iff.rfl
@[congr] theorem ybK (tE m:Nat) {K:AV->Prop} {l l' : List AV} (h:l=l'):wal tE m l K=wal tE m l' K:=by subst h;rfl
attribute [go_sem,go_sem ↓] waB
def zaY(tE m:Nat)(l:List AV)(K:AV->Prop):Prop:=
 match l with
 | [a]=>onAs (λl=>(chk [l]=0->l.length<=m)/\okAs 10000000 l/\K (.tup [.one (.slice (((res (chk [l]) (notL (nrm (vals l)))).map acan).map aC)),errV tE (cod (chk [l]) (notL (nrm (vals l))))])) a
 | _=>False
theorem XaW(tE m:Nat)(a:AV)(K:AV->Prop):zaY tE m [a] K=(onAs (λl=>(chk [l]=0->l.length<=m)/\okAs 10000000 l/\K (.tup [.one (.slice (((res (chk [l]) (notL (nrm (vals l)))).map acan).map aC)),errV tE (cod (chk [l]) (notL (nrm (vals l))))])) a):=propext Iff.rfl
@[congr] theorem zbP (tE m:Nat) {K:AV->Prop} {l l' : List AV} (h:l=l'):zaY tE m l K=zaY tE m l' K:=by subst h;rfl
attribute [go_sem,go_sem ↓] XaW
end Go.Abs
end
section
namespace Go.Abs
open Go.Num
variable {P:Program} {Γ:Nat->Spec}
def Z0(tE:Nat)(l:List AV)(K:AV->Prop):Prop:=
 match l with
 | [a,e,b,n]=>onAs (λl=>onErr tE (λc=>onAs (λm=>asInt (λk n=>k=.i64/\okAs 1073741824 l/\okAs 1073741824 m/\K (.one (.lit (.bool (decide ((c:Int)=n) && decide (vals l=vals m)))))) n) b) e) a
 | _=>False
theorem Q8(tE:Nat)(a e b n:AV)(K:AV->Prop):Z0 tE [a,e,b,n] K=(onAs (λl=>onErr tE (λc=>onAs (λm=>asInt (λk n=>k=.i64/\okAs 1073741824 l/\okAs 1073741824 m/\K (.one (.lit (.bool (decide ((c:Int)=n) && decide (vals l=vals m)))))) n) b) e) a):=propext Iff.rfl
@[congr] theorem xbE (tE:Nat) {K:AV->Prop} {l l' : List AV} (h:l=l'):Z0 tE l K=Z0 tE l' K:=by subst h;rfl
attribute [go_sem,go_sem ↓] Q8
def Ja5(l:List AV)(K:AV->Prop):Prop:=
 match l with
 | [a,b]=>onAs (λl=>onR (λy=>okAs 1073741824 l/\rl y<=1073741824/\K (.one (.lit (.bool (l.any (inA (rv y))))))) b) a
 | _=>False
theorem uaL(a b:AV)(K:AV->Prop):Ja5 [a,b] K=(onAs (λl=>onR (λy=>okAs 1073741824 l/\rl y<=1073741824/\K (.one (.lit (.bool (l.any (inA (rv y))))))) b) a):=propext Iff.rfl
@[congr] theorem ubU {K:AV->Prop} {l l' : List AV} (h:l=l'):Ja5 l K=Ja5 l' K:=by subst h;rfl
attribute [go_sem,go_sem ↓] uaL
def vZ(l:List AV)(K:AV->Prop):Prop:=
 match l with
 | [a,b]=>onL (λL=>onR (λy=>(∀l∈L,okAs 1073741824 l)/\rl y<=1073741824/\L.length<=1000000/\K (.one (.lit (.int .i64 (L.countP (λl=>l.any (inA (rv y))):Nat))))) b) a
 | _=>False
theorem Qae(a b:AV)(K:AV->Prop):vZ [a,b] K=(onL (λL=>onR (λy=>(∀l∈L,okAs 1073741824 l)/\rl y<=1073741824/\L.length<=1000000/\K (.one (.lit (.int .i64 (L.countP (λl=>l.any (inA (rv y))):Nat))))) b) a):=propext Iff.rfl
@[congr] theorem JbB {K:AV->Prop} {l l' : List AV} (h:l=l'):vZ l K=vZ l' K:=by subst h;rfl
attribute [go_sem,go_sem ↓] Qae
end Go.Abs
end
section
namespace Go.Abs
open Go.Num
def rC(x:R):List C:=[cb x,cn x,cd x]
theorem ybx(x:R):rC x=[cb x,cn x,cd x]:=eq_of_heq (HEq.refl _)
theorem ubl(x:R):(rC x).length=3:=eq_of_heq (HEq.refl _)
theorem vaO(K:List C->Prop)(L:List R)(i:Nat):getE K (L.map rC) i=(i<L.length/\K (rC (L.getD i (rcan 0)))):=by
 simp only [getE,List.length_map,List.getElem?_map];refine propext ⟨λh=>⟨h.1,h.2 _ (by simp [h.1,List.getD_eq_getElem?_getD])⟩,λh=>⟨h.1,λe he=>?_⟩⟩
 simp [h.1]at he;subst he;have:=h.2;simpa [List.getD_eq_getElem?_getD,h.1] using this
theorem XX(l:List R):CleanR (l.map rC)=True:=eq_true λe he c hc=>by
 obtain⟨x,_,rfl⟩:=List.mem_map.1 he;exact qaG x c hc
theorem ybj(L:List R):(∀e∈L.map rC,e.length=3)=True:=eq_true λe he=>by
 obtain⟨l,_,rfl⟩:=List.mem_map.1 he;rfl
theorem ZaT(h:Nat->HB)(L:List R):(L.map rC).map (λx=>x.map (datC h))=L.map rC:=by
 rw [List.map_map];exact List.map_congr_left λx _=>rfl
theorem waO(L:List R):(L.map rC).flatMap (λx=>x.flatMap ownC)=[]:=by
 rw [List.flatMap_map];exact List.flatMap_eq_nil_iff.2 λx _=>rfl
theorem ya6(h:Nat->HB)(L:List (List Arc)):(L.map lC).map (λx=>x.map (datC h))=L.map lC:=by
 rw [List.map_map];exact List.map_congr_left λx _=>rfl
theorem zaT(L:List (List Arc)):(L.map lC).flatMap (λx=>x.flatMap ownC)=[]:=by
 rw [List.flatMap_map];exact List.flatMap_eq_nil_iff.2 λx _=>rfl
theorem Za5(h:Nat->HB):frz [] h=h:=eq_of_heq (HEq.refl _)
attribute [go_sem,go_sem ↓] ubl vaO XX ybj ZaT waO ya6 zaT Za5
end Go.Abs
end
section
namespace Go.Num
def posR:List R->Rat->Nat
 | [],_=>0
 | x::l,q=>if rv x<q then posR l q+1 else 0
def insR(l:List R)(y:R):List R:=if (l.drop (posR l (rv y))).head?.map rv=some (rv y) then l else l.take (posR l (rv y))++y::l.drop (posR l (rv y))
def okRs(b:Nat)(l:List R):Prop:=∀x∈l,WLR x/\rl x<=b
def insA(S:List R)(x:Arc):List R:=insR (insR S x.1) x.2
def marksR(L:List (List Arc)):List R:=L.flatten.foldl insA [rcan 0,rcan 1]
end Go.Num
namespace Go.Abs
open Go.Num
variable {P:Program} {Γ:Nat->Spec}
def rsA(l:List R):AV:=.one (.slice (l.map rC))
theorem wbC{x y:R}(h:rC x=rC y):x=y:=Vl x y (by simpa [rC,rA] using h)
theorem Wbs(x y:List R)(h:rsA x=rsA y):x=y:=by
 simp only [rsA,AV.one.injEq,C.slice.injEq]at h;exact List.map_inj_right (λ_ _=>wbC) |>.1 h
def onRs(k:List R->Prop)(a:AV):Prop:=onE rsA (λl=>(∀x∈l,WLR x)/\k l) a
@[congr] theorem ZbQ {k:List R->Prop} {a a' : AV} (h:a=a'):onRs k a=onRs k a':=by subst h;rfl
theorem xbf(k:List R->Prop)(l:List R):onRs k (.one (.slice (l.map rC)))=((∀x∈l,WLR x)/\k l):=Yo Wbs (λl=>(∀x∈l,WLR x)/\k l) l
theorem JaA(l:List R):Clean (.slice (l.map rC))=True:=eq_true (.slice _ (of_eq_true (XX l)))
theorem Jbv(l:List R)(n:Nat):(l.map rC).take n=(l.take n).map rC:=by rw [List.map_take]
theorem Vbw(l:List R)(n:Nat):(l.map rC).drop n=(l.drop n).map rC:=by rw [List.map_drop]
theorem Xbg(l:List R):rsA l=.one (.slice (l.map rC)):=eq_of_heq (HEq.refl _)
attribute [go_sem] xbf JaA Xbg Jbv Vbw
attribute [go_sem ↓] xbf JaA Xbg
def UV(l:List AV)(K:AV->Prop):Prop:=
 match l with
 | [a]=>onL (λL=>(∀l∈L,okAs 1073741824 l)/\L.flatten.length<=100000/\K (.one (.slice ((marksR L).map rC)))) a
 | _=>False
theorem Vaf(a:AV)(K:AV->Prop):UV [a] K=(onL (λL=>(∀l∈L,okAs 1073741824 l)/\L.flatten.length<=100000/\K (.one (.slice ((marksR L).map rC)))) a):=propext Iff.rfl
@[congr] theorem kbB {K:AV->Prop} {l l' : List AV} (h:l=l'):UV l K=UV l' K:=by subst h;rfl
attribute [go_sem,go_sem ↓] Vaf
def QK(l:List AV)(K:AV->Prop):Prop:=
 match l with
 | [a,b]=>onRs (λl=>onR (λy=>okRs 1073741824 l/\rl y<=1073741824/\l.length<=1000000/\K (.one (.slice ((insR l y).map rC)))) b) a
 | _=>False
theorem vP(a b:AV)(K:AV->Prop):QK [a,b] K=(onRs (λl=>onR (λy=>okRs 1073741824 l/\rl y<=1073741824/\l.length<=1000000/\K (.one (.slice ((insR l y).map rC)))) b) a):=propext Iff.rfl
@[congr] theorem kbw {K:AV->Prop} {l l' : List AV} (h:l=l'):QK l K=QK l' K:=by subst h;rfl
attribute [go_sem,go_sem ↓] vP
end Go.Abs
end
section
namespace Go.Num
open Go.Abs
theorem XaJ{α:Type}{f:α->Bool}{l:List α}{k:Nat}{x:α}(h:l[k]?=some x)(hb:f x=false):l.all f=false:=by
 rw [List.all_eq_false];exact⟨x,List.mem_of_getElem? h,by simp [hb]⟩
theorem YC{α:Type}{f:α->Bool}{l:List α}{k:Nat}{x:α}(h:l[k]?=some x)(ht:(l.take k).all f=true)(hb:f x=true):(l.take (k+1)).all f=true:=by
 rw [List.take_add_one,h,List.all_append,ht];simp [hb]
theorem Vp{α:Type}{l:List α}{k:Nat}{x d:α}(hk:k<l.length)(h:l.getD k d=x):l[k]?=some x:=by
 rw [<-h,List.getD_eq_getElem?_getD,List.getElem?_eq_getElem hk];rfl
def sR(n:Nat)(x:R):Bool:=decide (x.2.1.length<=n) && decide (x.2.2.length<=n)
def sP(p:Ps):Bool:=sR 2 p.1.1 && (sR 2 p.2.1 && sR 2 p.2.2)
def sA(p:Arc):Bool:=sR 2 p.1 && sR 2 p.2
def placeC(l:List Arc):Nat:=if l.all avld then 0 else 2
def chkC(l:List Ps)(m:List Arc):Nat:=if threeC l≠0 then threeC l else placeC m
theorem Qa6{n:Nat}{x:R}(h:sR n x=true):rl x<=n:=by
 simp only [sR,Bool.and_eq_true,decide_eq_true_eq]at h;exact Nat.max_le.2 h
theorem Jaq(l:List Ps)(q:Arc):(imgs l q).length=l.length:=by unfold imgs;rw [List.length_map]
theorem VaN{l:List Ps}{q:Arc}{k:Nat}{p:Ps}(h:l[k]?=some p):imgs (l.take (k+1)) q=imgs (l.take k) q++[appQ (pv p) (av q)]:=by
 unfold imgs;rw [List.take_add_one,h];simp
end Go.Num
namespace Go.Abs
open Go.Num
variable {P:Program} {Γ:Nat->Spec}
def qsA(l:List V2):AV:=.one (.slice ((l.map acan).map aC))
theorem ZaP(l:List V2):qsA l=.one (.slice ((l.map acan).map aC)):=eq_of_heq (HEq.refl _)
theorem xaL(k:List Arc->Prop)(a b c d e f:C):onAs k (.one (.slice [[a,b,c,d,e,f]]))=onO (λx=>onO (λy=>WLA (x,y)/\k [(x,y)]) (dR d e f)) (dR a b c):=by
 refine propext ⟨λ⟨t,h,h1⟩=>?_,λh=>?_⟩
 .simp only [asA,as,AV.one.injEq,C.slice.injEq]at h;match t,h with
  | [z],h=>
   simp only [List.map_cons,List.map_nil,aC,List.cons.injEq,and_true]at h;obtain⟨rfl,rfl,rfl,rfl,rfl,rfl⟩:=h;simp only [dR_e,VK];exact⟨h1.1 _ (by simp),h1.2⟩
 .obtain⟨x,h1,q1⟩:=Zc.1 h;obtain⟨y,h2,q2⟩:=Zc.1 q1;obtain⟨rfl,rfl,rfl⟩:=Jc.1 h1;obtain⟨rfl,rfl,rfl⟩:=Jc.1 h2;exact⟨[(x,y)],rfl,λz hz=>by rw [List.mem_singleton.1 hz];exact q2.1,q2.2⟩
theorem VaL(k:List Arc->Prop)(a b c d e f a' b' c' d' e' f' : C):onAs k (.one (.slice [[a,b,c,d,e,f],[a',b',c',d',e',f']]))=onO (λx=>onO (λy=>onO (λz=>onO (λw=>WLA (x,y)/\WLA (z,w)/\k [(x,y),(z,w)]) (dR d' e' f')) (dR a' b' c')) (dR d e f)) (dR a b c):=by
 refine propext ⟨λ⟨t,h,h1⟩=>?_,λh=>?_⟩
 .simp only [asA,as,AV.one.injEq,C.slice.injEq]at h;match t,h with
  | [z,w],h=>
   simp only [List.map_cons,List.map_nil,aC,List.cons.injEq,and_true]at h;obtain⟨⟨rfl,rfl,rfl,rfl,rfl,rfl⟩,rfl,rfl,rfl,rfl,rfl,rfl⟩:=h;simp only [dR_e,VK];exact⟨h1.1 _ (by simp),h1.1 _ (by simp),h1.2⟩
 .obtain⟨x,h1,q1⟩:=Zc.1 h;obtain⟨y,h2,q2⟩:=Zc.1 q1;obtain⟨z,h3,q3⟩:=Zc.1 q2;obtain⟨w,h4,q4⟩:=Zc.1 q3;obtain⟨rfl,rfl,rfl⟩:=Jc.1 h1;obtain⟨rfl,rfl,rfl⟩:=Jc.1 h2;obtain⟨rfl,rfl,rfl⟩:=Jc.1 h3;obtain⟨rfl,rfl,rfl⟩:=Jc.1 h4;refine⟨[(x,y),(z,w)],rfl,λv hv=>?_,q4.2.2⟩;simp only [List.mem_cons,List.not_mem_nil,or_false]at hv;rcases hv with rfl | rfl
  .exact q4.1
  .exact q4.2.1
theorem Zbj(k:List R->Prop)(a b c d e f g h i:C):onRs k (.one (.slice [[a,b,c],[d,e,f],[g,h,i]]))=onO (λx=>onO (λy=>onO (λz=>(WLR x/\WLR y/\WLR z)/\k [x,y,z]) (dR g h i)) (dR d e f)) (dR a b c):=by
 refine propext ⟨λ⟨t,h,h1⟩=>?_,λh=>?_⟩
 .simp only [rsA,AV.one.injEq,C.slice.injEq]at h;match t,h with
  | [x,y,z],h=>
   simp only [List.map_cons,List.map_nil,rC,List.cons.injEq,and_true]at h;obtain⟨⟨rfl,rfl,rfl⟩,⟨rfl,rfl,rfl⟩,rfl,rfl,rfl⟩:=h;simp only [dR_e,VK];exact⟨⟨h1.1 _ (by simp),h1.1 _ (by simp),h1.1 _ (by simp)⟩,h1.2⟩
 .obtain⟨x,h1,q1⟩:=Zc.1 h;obtain⟨y,h2,q2⟩:=Zc.1 q1;obtain⟨z,h3,q3⟩:=Zc.1 q2;obtain⟨rfl,rfl,rfl⟩:=Jc.1 h1;obtain⟨rfl,rfl,rfl⟩:=Jc.1 h2;obtain⟨rfl,rfl,rfl⟩:=Jc.1 h3;refine⟨[x,y,z],rfl,λv hv=>?_,q3.2⟩;simp only [List.mem_cons,List.not_mem_nil,or_false]at hv;rcases hv with rfl | rfl | rfl
  .exact q3.1.1
  .exact q3.1.2.1
  .exact q3.1.2.2
theorem Ubj(k:List R->Prop)(a b c d e f g h i j l m n o p:C):onRs k (.one (.slice [[a,b,c],[d,e,f],[g,h,i],[j,l,m],[n,o,p]]))=onO (λx=>onO (λy=>onO (λz=>onO (λu=>onO (λv=>(WLR x/\WLR y/\WLR z/\WLR u/\WLR v)/\k [x,y,z,u,v]) (dR n o p)) (dR j l m)) (dR g h i)) (dR d e f)) (dR a b c):=by
 refine propext ⟨λ⟨t,h,h1⟩=>?_,λh=>?_⟩
 .simp only [rsA,AV.one.injEq,C.slice.injEq]at h;match t,h with
  | [x,y,z,u,v],h=>
   simp only [List.map_cons,List.map_nil,rC,List.cons.injEq,and_true]at h;obtain⟨⟨rfl,rfl,rfl⟩,⟨rfl,rfl,rfl⟩,⟨rfl,rfl,rfl⟩,⟨rfl,rfl,rfl⟩,rfl,rfl,rfl⟩:=h;simp only [dR_e,VK];exact⟨⟨h1.1 _ (by simp),h1.1 _ (by simp),h1.1 _ (by simp),h1.1 _ (by simp),h1.1 _ (by simp)⟩,h1.2⟩
 .obtain⟨x,h1,q1⟩:=Zc.1 h;obtain⟨y,h2,q2⟩:=Zc.1 q1;obtain⟨z,h3,q3⟩:=Zc.1 q2;obtain⟨u,h4,q4⟩:=Zc.1 q3;obtain⟨v,h5,q5⟩:=Zc.1 q4;obtain⟨rfl,rfl,rfl⟩:=Jc.1 h1;obtain⟨rfl,rfl,rfl⟩:=Jc.1 h2;obtain⟨rfl,rfl,rfl⟩:=Jc.1 h3;obtain⟨rfl,rfl,rfl⟩:=Jc.1 h4;obtain⟨rfl,rfl,rfl⟩:=Jc.1 h5;refine⟨[x,y,z,u,v],rfl,λw hw=>?_,q5.2⟩;obtain⟨w1,w2,w3,w4,w5⟩:=q5.1;simp only [List.mem_cons,List.not_mem_nil,or_false]at hw;rcases hw with rfl | rfl | rfl | rfl | rfl <;> assumption
attribute [go_sem,go_sem ↓] xaL VaL Zbj Ubj ZaP
def jF(tE:Nat)(l:List AV)(K:AV->Prop):Prop:=
 match l with
 | [a]=>onPs (λl=>okPs 100000000 l/\K (errV tE (if l.all pvld=true then 0 else 2))) a
 | _=>False
theorem XaX(tE:Nat)(a:AV)(K:AV->Prop):jF tE [a] K=(onPs (λl=>okPs 100000000 l/\K (errV tE (if l.all pvld=true then 0 else 2))) a):=propext Iff.rfl
@[congr] theorem UbR (tE:Nat) {K:AV->Prop} {l l' : List AV} (h:l=l'):jF tE l K=jF tE l' K:=by subst h;rfl
attribute [go_sem,go_sem ↓] XaX
theorem XaL(tE:Nat):Good (jF tE):=Wa λas=>by
 unfold jF;split
 .exact(xu λ_=>(.and λ_=>(.ret _)))
 .exact .of λK hk=>hk.elim
def UE(tE:Nat)(l:List AV)(K:AV->Prop):Prop:=
 match l with
 | [a]=>onPs (λl=>okPs 100000000 l/\K (errV tE (plchk l))) a
 | _=>False
theorem xaT(tE:Nat)(a:AV)(K:AV->Prop):UE tE [a] K=(onPs (λl=>okPs 100000000 l/\K (errV tE (plchk l))) a):=propext Iff.rfl
@[congr] theorem WbY (tE:Nat) {K:AV->Prop} {l l' : List AV} (h:l=l'):UE tE l K=UE tE l' K:=by subst h;rfl
attribute [go_sem,go_sem ↓] xaT
theorem ka3(tE:Nat):Good (UE tE):=Wa λas=>by
 unfold UE;split
 .exact(xu λ_=>(.and λ_=>(.ret _)))
 .exact .of λK hk=>hk.elim
def Vz(l:List AV)(K:AV->Prop):Prop:=
 match l with
 | [a]=>onPs (λl=>okPs 100000000 l/\K (.one (.lit (.int .i64 (plchk l:Nat))))) a
 | _=>False
theorem zaB(a:AV)(K:AV->Prop):Vz [a] K=(onPs (λl=>okPs 100000000 l/\K (.one (.lit (.int .i64 (plchk l:Nat))))) a):=propext Iff.rfl
@[congr] theorem JbL {K:AV->Prop} {l l' : List AV} (h:l=l'):Vz l K=Vz l' K:=by subst h;rfl
attribute [go_sem,go_sem ↓] zaB
theorem VaE:Good Vz:=Wa λas=>by
 unfold Vz;split
 .exact(xu λ_=>(.and λ_=>(.ret _)))
 .exact .of λK hk=>hk.elim
def kY(l:List AV)(K:AV->Prop):Prop:=
 match l with
 | [a]=>onPs (λl=>okPs 100000000 l/\K (.one (.lit (.int .i64 (threeC l:Nat))))) a
 | _=>False
theorem Waa(a:AV)(K:AV->Prop):kY [a] K=(onPs (λl=>okPs 100000000 l/\K (.one (.lit (.int .i64 (threeC l:Nat))))) a):=propext Iff.rfl
@[congr] theorem Wbx {K:AV->Prop} {l l' : List AV} (h:l=l'):kY l K=kY l' K:=by subst h;rfl
attribute [go_sem,go_sem ↓] Waa
def zaj(tE:Nat)(l:List AV)(K:AV->Prop):Prop:=
 match l with
 | [a,b]=>onPs (λl=>onA (λq=>okPs 1000000 l/\al q<=1000000/\l.length<=100000/\K (.tup [qsA (if imgC l q=0 then imgs l q else []),errV tE (imgC l q)])) b) a
 | _=>False
theorem kaz(tE:Nat)(a b:AV)(K:AV->Prop):zaj tE [a,b] K=(onPs (λl=>onA (λq=>okPs 1000000 l/\al q<=1000000/\l.length<=100000/\K (.tup [qsA (if imgC l q=0 then imgs l q else []),errV tE (imgC l q)])) b) a):=propext Iff.rfl
@[congr] theorem XbL (tE:Nat) {K:AV->Prop} {l l' : List AV} (h:l=l'):zaj tE l K=zaj tE l' K:=by subst h;rfl
attribute [go_sem,go_sem ↓] kaz
def Ql(l:List AV)(K:AV->Prop):Prop:=
 match l with
 | [a,b]=>onPs (λl=>onA (λq=>okPs 1000000 l/\al q<=1000000/\l.length<=100000/\K (qsA (imgs l q))) b) a
 | _=>False
theorem UT(a b:AV)(K:AV->Prop):Ql [a,b] K=(onPs (λl=>onA (λq=>okPs 1000000 l/\al q<=1000000/\l.length<=100000/\K (qsA (imgs l q))) b) a):=propext Iff.rfl
@[congr] theorem Xbw {K:AV->Prop} {l l' : List AV} (h:l=l'):Ql l K=Ql l' K:=by subst h;rfl
attribute [go_sem,go_sem ↓] UT
theorem yae:Good Ql:=Wa λas=>by
 unfold Ql;split
 .exact(xu λ_=>(Uv λ_=>(.and λ_=>(.and λ_=>(.and λ_=>(.ret _))))))
 .exact .of λK hk=>hk.elim
def Xt(l:List AV)(K:AV->Prop):Prop:=
 match l with
 | [a]=>onPs (λl=>okPs 4294967296 l/\K (.one (.lit (.bool (l.all sP))))) a
 | _=>False
theorem qac(a:AV)(K:AV->Prop):Xt [a] K=(onPs (λl=>okPs 4294967296 l/\K (.one (.lit (.bool (l.all sP))))) a):=propext Iff.rfl
@[congr] theorem jbA {K:AV->Prop} {l l' : List AV} (h:l=l'):Xt l K=Xt l' K:=by subst h;rfl
attribute [go_sem,go_sem ↓] qac
theorem yag:Good Xt:=Wa λas=>by
 unfold Xt;split
 .exact(xu λ_=>(.and λ_=>(.ret _)))
 .exact .of λK hk=>hk.elim
def Us(l:List AV)(K:AV->Prop):Prop:=
 match l with
 | [a]=>onAs (λl=>okAs 4294967296 l/\K (.one (.lit (.bool (l.all sA))))) a
 | _=>False
theorem xae(a:AV)(K:AV->Prop):Us [a] K=(onAs (λl=>okAs 4294967296 l/\K (.one (.lit (.bool (l.all sA))))) a):=propext Iff.rfl
@[congr] theorem jbF {K:AV->Prop} {l l' : List AV} (h:l=l'):Us l K=Us l' K:=by subst h;rfl
attribute [go_sem,go_sem ↓] xae
theorem jaj:Good Us:=Wa λas=>by
 unfold Us;split
 .exact(ubh λ_=>(.and λ_=>(.ret _)))
 .exact .of λK hk=>hk.elim
def Qu(l:List AV)(K:AV->Prop):Prop:=
 match l with
 | [a]=>onPs (λl=>okPs 4294967296 l/\K (.one (.lit (.bool (decide (l.length<=20) && l.all sP))))) a
 | _=>False
theorem vad(a:AV)(K:AV->Prop):Qu [a] K=(onPs (λl=>okPs 4294967296 l/\K (.one (.lit (.bool (decide (l.length<=20) && l.all sP))))) a):=propext Iff.rfl
@[congr] theorem ubD {K:AV->Prop} {l l' : List AV} (h:l=l'):Qu l K=Qu l' K:=by subst h;rfl
attribute [go_sem,go_sem ↓] vad
theorem Jah:Good Qu:=Wa λas=>by
 unfold Qu;split
 .exact(xu λ_=>(.and λ_=>(.ret _)))
 .exact .of λK hk=>hk.elim
def vai(tE:Nat)(l:List AV)(K:AV->Prop):Prop:=
 match l with
 | [a,b]=>onPs (λl=>onAs (λm=>okPs 100000000 l/\okAs 100000000 m/\K (errV tE (chkC l m))) b) a
 | _=>False
theorem wap(tE:Nat)(a b:AV)(K:AV->Prop):vai tE [a,b] K=(onPs (λl=>onAs (λm=>okPs 100000000 l/\okAs 100000000 m/\K (errV tE (chkC l m))) b) a):=propext Iff.rfl
@[congr] theorem YbM (tE:Nat) {K:AV->Prop} {l l' : List AV} (h:l=l'):vai tE l K=vai tE l' K:=by subst h;rfl
attribute [go_sem,go_sem ↓] wap
def uam(l:List AV)(K:AV->Prop):Prop:=
 match l with
 | [a,b]=>onRs (λl=>onRs (λm=>okRs 4294967296 l/\K (.one (.lit (.bool (decide (l=m)))))) b) a
 | _=>False
theorem xay(a b:AV)(K:AV->Prop):uam [a,b] K=(onRs (λl=>onRs (λm=>okRs 4294967296 l/\K (.one (.lit (.bool (decide (l=m)))))) b) a):=propext Iff.rfl
@[congr] theorem ubL {K:AV->Prop} {l l' : List AV} (h:l=l'):uam l K=uam l' K:=by subst h;rfl
attribute [go_sem,go_sem ↓] xay
def Uw(f0 tE:Nat):AC:=(.seq (.ops false [.m 2 (.c (.one (.lit .nilIface)))])
 (.fg [0] (.seq (.seq (.ops false [.m 5 (.t 0),.u 6 (.len (.t 5)),.m 7 (.i 0)])
 (.fg [5,6,7] (.block 0 (.loop (.seq (.ops false [.u 8 (.bin .lss (.t 7) (.t 6))])
 (.fg [5,6,7,8] (.seq (.cond (.t 8) .skip (.exit 0))
 (.fg [5,6,7] (.seq (.block 1 (.seq (.ops false [.u 9 (.idx 10 (.t 5) (.t 7)),.u 10 (.ld none 10 true (.t 9)),.u 4 (.alloc [(.lit (.bool false)),.emp,.emp,(.lit (.bool false)),(.lit (.bool false)),.emp,.emp,(.lit (.bool false)),.emp,.emp]),.n (.st none 10 (.t 4) (.t 10))])
 (.fg [4,5,6,7] (.seq (.ops false [.u 11 (.ld none 10 true (.t 4)),.u 12 (.call f0 [(.t 11)]),.u 13 (.un .not (.t 12))])
 (.fg [5,6,7,13] (.cond (.t 13) (.seq (.ops false [.u 14 (.iface tE (.i 2)),.m 2 (.t 14)])
 .ret) .skip))))))
 (.fg [5,6,7] (.ops false [.u 15 (.bin .add (.t 7) (.i 1)),.m 7 (.t 15)])))))))))))
 (.fg [] (.seq (.ops false [.m 2 (.c (.one (.lit .nilIface)))])
 .ret)))))
def Xw(f0 tE:Nat):AC:=(.seq (.ops false [.m 2 (.c (.one (.lit .nilIface)))])
 (.fg [0] (.seq (.seq (.ops false [.m 3 (.t 0),.u 4 (.len (.t 3)),.u 5 (.bin .lss (.t 4) (.i 2))])
 (.fg [0,5] (.cond (.t 5) (.seq (.ops false [.u 6 (.iface tE (.i 10)),.m 2 (.t 6)])
 .ret) .skip)))
 (.fg [0] (.seq (.seq (.ops false [.m 7 (.t 0),.u 8 (.len (.t 7)),.u 9 (.bin .gtr (.t 8) (.i 5))])
 (.fg [0,9] (.cond (.t 9) (.seq (.ops false [.u 10 (.iface tE (.i 4)),.m 2 (.t 10)])
 .ret) .skip)))
 (.fg [0] (.seq (.ops false [.m 11 (.t 0),.u 12 (.call f0 [(.t 11)]),.m 2 (.t 12)])
 .ret)))))))
def Wh(f0:Nat):AC:=(.seq (.ops false [.m 2 (.i 0)])
 (.fg [0] (.seq (.block 0 (.seq (.ops false [.m 6 (.t 0),.u 7 (.len (.t 6)),.u 8 (.bin .lss (.t 7) (.i 2)),.m 5 (.t 8)])
 (.fg [0,5] (.cond (.t 5) (.seq (.ops false [.m 2 (.i 10)])
 .ret) (.seq (.ops false [.m 10 (.t 0),.u 11 (.len (.t 10)),.u 12 (.bin .gtr (.t 11) (.i 5)),.m 9 (.t 12)])
 (.fg [0,9] (.cond (.t 9) (.seq (.ops false [.m 2 (.i 4)])
 .ret) .skip)))))))
 (.fg [0] (.seq (.seq (.ops false [.m 13 (.t 0),.u 14 (.len (.t 13)),.m 15 (.i 0)])
 (.fg [13,14,15] (.block 1 (.loop (.seq (.ops false [.u 16 (.bin .lss (.t 15) (.t 14))])
 (.fg [13,14,15,16] (.seq (.cond (.t 16) .skip (.exit 1))
 (.fg [13,14,15] (.seq (.block 2 (.seq (.ops false [.u 17 (.idx 10 (.t 13) (.t 15)),.u 18 (.ld none 10 true (.t 17)),.u 4 (.alloc [(.lit (.bool false)),.emp,.emp,(.lit (.bool false)),(.lit (.bool false)),.emp,.emp,(.lit (.bool false)),.emp,.emp]),.n (.st none 10 (.t 4) (.t 18))])
 (.fg [4,13,14,15] (.seq (.ops false [.u 19 (.ld none 10 true (.t 4)),.u 20 (.call f0 [(.t 19)]),.u 21 (.un .not (.t 20))])
 (.fg [13,14,15,21] (.cond (.t 21) (.seq (.ops false [.m 2 (.i 2)])
 .ret) .skip))))))
 (.fg [13,14,15] (.ops false [.u 22 (.bin .add (.t 15) (.i 1)),.m 15 (.t 22)])))))))))))
 (.fg [] (.seq (.ops false [.m 2 (.i 0)])
 .ret)))))))
def Wg(f0:Nat):AC:=(.seq (.ops false [.u 3 (.box 6 (.t 1)),.m 4 (.c (.one .emp))])
 (.fg [0,3] (.seq (.ops false [.m 5 (.c (.one .emp))])
 (.fg [0,3,5] (.seq (.seq (.ops false [.m 8 (.t 0),.u 9 (.len (.t 8)),.m 10 (.i 0)])
 (.fg [3,5,8,9,10] (.block 0 (.loop (.seq (.ops false [.u 11 (.bin .lss (.t 10) (.t 9))])
 (.fg [3,5,8,9,10,11] (.seq (.cond (.t 11) .skip (.exit 0))
 (.fg [3,5,8,9,10] (.seq (.block 1 (.seq (.ops false [.u 12 (.idx 10 (.t 8) (.t 10)),.u 13 (.ld none 10 true (.t 12)),.u 7 (.alloc [(.lit (.bool false)),.emp,.emp,(.lit (.bool false)),(.lit (.bool false)),.emp,.emp,(.lit (.bool false)),.emp,.emp]),.n (.st none 10 (.t 7) (.t 13))])
 (.fg [3,5,7,8,9,10] (.ops false [.m 14 (.t 5),.u 15 (.ld none 10 true (.t 7)),.u 16 (.ld none 6 true (.t 3)),.u 17 (.call f0 [(.t 15),(.t 16)]),.u 18 (.row 6 [[.x 6 (.t 17)]]),.u 19 (.app 6 (.t 14) (.t 18)),.m 5 (.t 19)]))))
 (.fg [3,5,8,9,10] (.ops false [.u 20 (.bin .add (.t 10) (.i 1)),.m 10 (.t 20)])))))))))))
 (.fg [5] (.seq (.ops false [.m 21 (.t 5),.m 4 (.t 21)])
 .ret)))))))
def Qh:AC:=(.seq (.ops false [.m 2 .fa])
 (.fg [0] (.seq (.seq (.ops false [.m 7 (.t 0),.u 8 (.len (.t 7)),.m 9 (.i 0)])
 (.fg [7,8,9] (.block 0 (.loop (.seq (.ops false [.u 10 (.bin .lss (.t 9) (.t 8))])
 (.fg [7,8,9,10] (.seq (.cond (.t 10) .skip (.exit 0))
 (.fg [7,8,9] (.seq (.block 1 (.seq (.ops false [.u 11 (.idx 10 (.t 7) (.t 9)),.u 12 (.ld none 10 true (.t 11)),.u 4 (.alloc [(.lit (.bool false)),.emp,.emp,(.lit (.bool false)),(.lit (.bool false)),.emp,.emp,(.lit (.bool false)),.emp,.emp]),.n (.st none 10 (.t 4) (.t 12))])
 (.fg [4,7,8,9] (.seq (.ops false [.u 13 (.fa 0 (.t 4)),.u 14 (.fa 0 (.t 13)),.u 15 (.ld none 3 true (.t 14)),.u 16 (.fa 4 (.t 4)),.u 17 (.fa 0 (.t 16)),.u 18 (.ld none 3 true (.t 17)),.u 19 (.fa 4 (.t 4)),.u 20 (.fa 3 (.t 19)),.u 21 (.ld none 3 true (.t 20)),.u 22 (.row 3 [[.x 3 (.t 15)],[.x 3 (.t 18)],[.x 3 (.t 21)]]),.u 23 (.len (.t 22)),.m 24 (.i 0)])
 (.fg [7,8,9,22,23,24] (.block 2 (.loop (.seq (.ops false [.u 25 (.bin .lss (.t 24) (.t 23))])
 (.fg [7,8,9,22,23,24,25] (.seq (.cond (.t 25) .skip (.exit 2))
 (.fg [7,8,9,22,23,24] (.seq (.block 3 (.seq (.ops false [.u 26 (.idx 3 (.t 22) (.t 24)),.u 27 (.ld none 3 true (.t 26)),.u 6 (.alloc [(.lit (.bool false)),.emp,.emp]),.n (.st none 3 (.t 6) (.t 27))])
 (.fg [6,7,8,9,22,23,24] (.seq (.ops false [.u 28 (.fa 1 (.t 6)),.u 29 (.ld none 1 false (.t 28)),.u 30 (.len (.t 29)),.u 31 (.bin .gtr (.t 30) (.i 2)),.m 32 (.t 31),.w 33 32 false (.fa 2 (.t 6)),.w 34 32 false (.ld none 1 false (.t 33)),.w 35 32 false (.len (.t 34)),.w 36 32 false (.bin .gtr (.t 35) (.i 2)),.u 37 (.pick (.t 32) .tr (.t 36))])
 (.fg [7,8,9,22,23,24,37] (.cond (.t 37) (.seq (.ops false [.m 2 .fa])
 .ret) .skip))))))
 (.fg [7,8,9,22,23,24] (.ops false [.u 38 (.bin .add (.t 24) (.i 1)),.m 24 (.t 38)]))))))))))))))
 (.fg [7,8,9] (.ops false [.u 39 (.bin .add (.t 9) (.i 1)),.m 9 (.t 39)])))))))))))
 (.fg [] (.seq (.ops false [.m 2 .tr])
 .ret)))))
def Je:AC:=(.seq (.ops false [.m 2 .fa])
 (.fg [0] (.seq (.seq (.ops false [.m 7 (.t 0),.u 8 (.len (.t 7)),.m 9 (.i 0)])
 (.fg [7,8,9] (.block 0 (.loop (.seq (.ops false [.u 10 (.bin .lss (.t 9) (.t 8))])
 (.fg [7,8,9,10] (.seq (.cond (.t 10) .skip (.exit 0))
 (.fg [7,8,9] (.seq (.block 1 (.seq (.ops false [.u 11 (.idx 6 (.t 7) (.t 9)),.u 12 (.ld none 6 true (.t 11)),.u 4 (.alloc [(.lit (.bool false)),.emp,.emp,(.lit (.bool false)),.emp,.emp]),.n (.st none 6 (.t 4) (.t 12))])
 (.fg [4,7,8,9] (.seq (.ops false [.u 13 (.fa 0 (.t 4)),.u 14 (.ld none 3 true (.t 13)),.u 15 (.fa 3 (.t 4)),.u 16 (.ld none 3 true (.t 15)),.u 17 (.row 3 [[.x 3 (.t 14)],[.x 3 (.t 16)]]),.u 18 (.len (.t 17)),.m 19 (.i 0)])
 (.fg [7,8,9,17,18,19] (.block 2 (.loop (.seq (.ops false [.u 20 (.bin .lss (.t 19) (.t 18))])
 (.fg [7,8,9,17,18,19,20] (.seq (.cond (.t 20) .skip (.exit 2))
 (.fg [7,8,9,17,18,19] (.seq (.block 3 (.seq (.ops false [.u 21 (.idx 3 (.t 17) (.t 19)),.u 22 (.ld none 3 true (.t 21)),.u 6 (.alloc [(.lit (.bool false)),.emp,.emp]),.n (.st none 3 (.t 6) (.t 22))])
 (.fg [6,7,8,9,17,18,19] (.seq (.ops false [.u 23 (.fa 1 (.t 6)),.u 24 (.ld none 1 false (.t 23)),.u 25 (.len (.t 24)),.u 26 (.bin .gtr (.t 25) (.i 2)),.m 27 (.t 26),.w 28 27 false (.fa 2 (.t 6)),.w 29 27 false (.ld none 1 false (.t 28)),.w 30 27 false (.len (.t 29)),.w 31 27 false (.bin .gtr (.t 30) (.i 2)),.u 32 (.pick (.t 27) .tr (.t 31))])
 (.fg [7,8,9,17,18,19,32] (.cond (.t 32) (.seq (.ops false [.m 2 .fa])
 .ret) .skip))))))
 (.fg [7,8,9,17,18,19] (.ops false [.u 33 (.bin .add (.t 19) (.i 1)),.m 19 (.t 33)]))))))))))))))
 (.fg [7,8,9] (.ops false [.u 34 (.bin .add (.t 9) (.i 1)),.m 9 (.t 34)])))))))))))
 (.fg [] (.seq (.ops false [.m 2 .tr])
 .ret)))))
def vh(f0:Nat):AC:=(.seq (.ops false [.m 2 .fa])
 (.fg [0] (.seq (.ops false [.m 3 (.t 0),.u 4 (.len (.t 3)),.u 5 (.bin .leq (.t 4) (.i 20)),.m 6 (.t 5),.w 7 6 true (.mv (.t 0)),.w 8 6 true (.call f0 [(.t 7)]),.u 9 (.pick (.t 6) (.t 8) .fa),.m 2 (.t 9)])
 .ret)))
theorem xaG(hΓ:Holds P Γ){f fv tE:Nat}(hv:Γ fv=.dat true Yw)(hc:check P f=some (16,(Uw fv tE).strip,[.tmp 2])):Sound P f (.dat false (jF tE)):=by
 refine ka hc (XaL tE) hΓ (λargs K hcl hfi hG=>?_);match args,hG with
 | [a],hG=>
  obtain⟨l,rfl,hwl,hok,hK⟩:=hG;refine⟨by simp,?_⟩
  simp only [go_sem,Uw,hv];intro _;refine Ya (λk:Nat=>⟨mkV [(5,psA l),(6,.one (.lit (.int .i64 l.length))),(7,.one (.lit (.int .i64 k)))],mkH []⟩) (λk=>k<=l.length/\(l.take k).all pvld=true) (λk=>l.length-k) 0 ?_ ?_ ?_
  .exact Qa (by simp [okS,okV,okC,okL,okH,okB,okE,ja,va,Za,Va,wsA,ws,psA,psC]) trivial
  .exact⟨Nat.zero_le _,rfl⟩
  .rintro k ⟨hk,hall⟩;by_cases hlt:k<l.length
   .obtain⟨p,hp⟩:∃p,l.getD k p0=p:=⟨_,rfl⟩;have hp0:=Vp hlt hp;obtain⟨hp1,hp2⟩:=hok p (List.mem_of_getElem? hp0);cases hb:pvld p with
    | true=>
     simp only [go_sem,hlt,hp,hv,hb,Yan];exact⟨hp1,hp2,by omega,k+1,Qa (by simp [okS,okV,okC,okL,okH,okB,okE,ja,va,Za,Va,wsA,ws,psA,psC]) trivial,⟨by omega,YC hp0 hall hb⟩,by omega⟩
    | false=>
     rw [XaJ hp0 hb,if_neg (by decide),Xc tE (by decide)]at hK
     simp only [go_sem,hlt,hp,hv,hb,Yan];exact⟨hp1,hp2,hK⟩
   .rw [List.take_of_length_le (by omega)]at hall
    rw [hall,if_pos rfl,jc]at hK;simp only [go_sem,hlt];exact hK
theorem ZaI(hΓ:Holds P Γ){f fk tE:Nat}(hk:Γ fk=.dat false (jF tE))(hc:check P f=some (13,(Xw fk tE).strip,[.tmp 2])):Sound P f (.dat false (UE tE)):=by
 refine ka hc (ka3 tE) hΓ (λargs K hcl hfi hG=>?_);match args,hG with
 | [a],hG=>
  obtain⟨l,rfl,hwl,hok,hK⟩:=hG;refine⟨by simp,?_⟩
  simp only [go_sem,Xw,hk];unfold plchk at hK;refine λ_=>⟨λh=>?_,λh _=>⟨λh'=>?_,λh'=>⟨hwl,hok,?_⟩⟩⟩
  .rw [if_pos (by omega),Xc tE (by decide)]at hK;exact hK
  .rw [if_neg (by omega),if_pos (by omega),Xc tE (by decide)]at hK;exact hK
  .rw [if_neg (by omega),if_neg (by omega)]at hK;exact hK
theorem Wag(hΓ:Holds P Γ){f fv:Nat}(hv:Γ fv=.dat true Yw)(hc:check P f=some (23,(Wh fv).strip,[.tmp 2])):Sound P f (.dat true Vz):=by
 refine ka hc VaE hΓ (λargs K hcl hfi hG=>?_);match args,hG with
 | [a],hG=>
  obtain⟨l,rfl,hwl,hok,hK⟩:=hG;refine⟨by simp,?_⟩
  simp only [go_sem,Wh,hv];unfold plchk at hK;refine λ_=>⟨λh=>?_,λh _=>⟨λh'=>?_,λh' _=>?_⟩⟩
  .rw [if_pos (by omega)]at hK;exact hK
  .rw [if_neg (by omega),if_pos (by omega)]at hK;exact hK
  rw [if_neg (by omega),if_neg (by omega)]at hK
  refine Ya (λk:Nat=>⟨mkV [(13,psA l),(14,.one (.lit (.int .i64 l.length))),(15,.one (.lit (.int .i64 k)))],mkH []⟩) (λk=>k<=l.length/\(l.take k).all pvld=true) (λk=>l.length-k) 0 ?_ ?_ ?_
  .exact Qa (by simp [okS,okV,okC,okL,okH,okB,okE,ja,va,Za,Va,wsA,ws,psA,psC]) trivial
  .exact⟨Nat.zero_le _,rfl⟩
  .rintro k ⟨hk,hall⟩;by_cases hlt:k<l.length
   .obtain⟨p,hp⟩:∃p,l.getD k p0=p:=⟨_,rfl⟩;have hp0:=Vp hlt hp;obtain⟨hp1,hp2⟩:=hok p (List.mem_of_getElem? hp0);cases hb:pvld p with
    | true=>
     simp only [go_sem,hlt,hp,hv,hb,Yan];exact⟨hp1,hp2,by omega,k+1,Qa (by simp [okS,okV,okC,okL,okH,okB,okE,ja,va,Za,Va,wsA,ws,psA,psC]) trivial,⟨by omega,YC hp0 hall hb⟩,by omega⟩
    | false=>
     rw [XaJ hp0 hb,if_neg (by decide)]at hK
     simp only [go_sem,hlt,hp,hv,hb,Yan];exact⟨hp1,hp2,hK⟩
   .rw [List.take_of_length_le (by omega)]at hall
    rw [hall,if_pos rfl]at hK;simp only [go_sem,hlt];exact hK
theorem UbI{b:Nat}{p:Ps}(h:okP b p):rl p.1.1<=b/\al p.2<=b:=⟨Nat.le_trans (Nat.le_max_left _ _) h.2,Nat.le_trans (Nat.le_max_right _ _) h.2⟩
theorem wX(hΓ:Holds P Γ){f fa:Nat}(ha:Γ fa=.dat false YG)(hc:check P f=some (22,(Wg fa).strip,[.tmp 4])):Sound P f (.dat false Ql):=by
 refine ka hc yae hΓ (λargs K hcl hfi hG=>?_);match args,hG with
 | [a,b],hG=>
  obtain⟨l,rfl,hwl,q,rfl,hwq,hok,hq,hlen,hK⟩:=hG;refine⟨by simp,?_⟩
  rw [ZaP]at hK;simp only [go_sem,Wg,ha];intro _;refine Ya (λk:Nat=>if k=0 then ⟨mkV [(3,.one (.ptr 3 1 0 0)),(5,.one .emp),(8,psA l),(9,.one (.lit (.int .i64 l.length))),(10,.one (.lit (.int .i64 k)))],mkH [(3,⟨1,some ⟨[aC q],6,true⟩⟩)]⟩ else ⟨mkV [(3,.one (.ptr 3 1 0 0)),(5,.one (.own 19 1 6 0 k)),(8,psA l),(9,.one (.lit (.int .i64 l.length))),(10,.one (.lit (.int .i64 k)))],mkH [(3,⟨1,some ⟨[aC q],6,true⟩⟩),(19,⟨1,some ⟨((imgs (l.take k) q).map acan).map aC,6,true⟩⟩)]⟩) (λk=>k<=l.length) (λk=>l.length-k) 0 ?_ ?_ ?_
  .exact Qa (by simp [okS,okV,okC,okL,okH,okB,okE,ja,va,Za,Va,wsA,ws,psA,psC]) ⟨UaY (l':=[q]) rfl,trivial⟩
  .exact Nat.zero_le _
  .intro k hk;by_cases hlt:k<l.length
   .obtain⟨p,hp⟩:∃p,l.getD k p0=p:=⟨_,rfl⟩;have hp0:=Vp hlt hp;obtain⟨hp1,hp2⟩:=hok p (List.mem_of_getElem? hp0);have hil:=Jaq (l.take k) q;rw [List.length_take,Nat.min_eq_left hk]at hil;have hit:=VaN (q:=q) hp0;have e1:acan (appQ (pv p) (av q))=(rcan (appQ (pv p) (av q)).1,rcan (appQ (pv p) (av q)).2):=rfl;by_cases hk0:k=0
    .subst hk0;rw [List.take_zero]at hit;simp only [go_sem,hlt,hp,ha,Yan,Wb,Zb];refine⟨hp1,hwq,hp2,hq,λe he=>by rw [List.mem_singleton.1 he];rfl,by omega,1,?_,by omega,by omega⟩
     rw [if_neg (by decide)]
     exact Qa (by simp [okS,okV,okC,okL,okH,okB,okE,ja,va,Za,Va,wsA,ws,psA,psC]) ⟨UaY (l':=[q]) rfl,UaY (by rw [hit];rfl),trivial⟩
    .have ht:((imgs (l.take k) q).map acan).take k=(imgs (l.take k) q).map acan:=List.take_of_length_le (by rw [List.length_map,hil];exact Nat.le_refl _)
     simp only [go_sem,hlt,hp,ha,Yan,Wb,hk0,Zb,List.length_map,hil,ht];refine⟨hp1,hwq,hp2,hq,λe he=>by rw [List.mem_singleton.1 he];rfl,by omega,by omega,k+1,?_,by omega,by omega⟩
     rw [if_neg (by omega)]
     exact Qa (by simp [okS,okV,okC,okL,okH,okB,okE,ja,va,Za,Va,wsA,ws,psA,psC]) ⟨UaY (l':=[q]) rfl,UaY (by rw [hit,List.map_append,List.map_append];rfl),trivial⟩
   .rw [List.take_of_length_le (by omega)]
    by_cases hk0:k=0
    .subst hk0;have hl0:l=[]:=List.length_eq_zero_iff.1 (by omega)
     subst hl0;simp only [go_sem,hlt];exact hK
    .have hil:=Jaq l q;simp only [go_sem,hlt,hk0,List.length_map,hil];have:k=l.length:=by omega
     subst this;have ht:((imgs l q).map acan).take l.length=(imgs l q).map acan:=List.take_of_length_le (by rw [List.length_map,hil];exact Nat.le_refl _)
     simp only [go_sem,ht];exact hK
theorem wac(hΓ:Holds P Γ){f fs:Nat}(hs:Γ fs=.dat true Xt)(hc:check P f=some (10,(vh fs).strip,[.tmp 2])):Sound P f (.dat true Qu):=by
 refine ka hc Jah hΓ (λargs K hcl hfi hG=>?_);match args,hG with
 | [a],hG=>
  obtain⟨l,rfl,hwl,hok,hK⟩:=hG;refine⟨by simp,?_⟩
  simp only [go_sem,vh,hs];refine λ_=>⟨λh=>⟨hwl,hok,?_⟩,λh=>?_⟩
  .rw [decide_eq_true (by omega:l.length<=20),Bool.true_and]at hK;exact hK
  .rw [decide_eq_false (by omega:¬l.length<=20),Bool.false_and]at hK;exact hK
theorem uaf(hΓ:Holds P Γ){f:Nat}(hc:check P f=some (40,Qh.strip,[.tmp 2])):Sound P f (.dat true Xt):=by
 refine ka hc yag hΓ (λargs K hcl hfi hG=>?_);match args,hG with
 | [a],hG=>
  obtain⟨l,rfl,hwl,hok,hK⟩:=hG;refine⟨by simp,?_⟩
  simp only [go_sem,Qh];intro _;refine Ya (λk:Nat=>⟨mkV [(7,psA l),(8,.one (.lit (.int .i64 l.length))),(9,.one (.lit (.int .i64 k)))],mkH []⟩) (λk=>k<=l.length/\(l.take k).all sP=true) (λk=>l.length-k) 0 ?_ ?_ ?_
  .exact Qa (by simp [okS,okV,okC,okL,okH,okB,okE,ja,va,Za,Va,wsA,ws,psA,psC]) trivial
  .exact⟨Nat.zero_le _,rfl⟩
  .rintro k ⟨hk,hall⟩;by_cases hlt:k<l.length
   .obtain⟨p,hp⟩:∃p,l.getD k p0=p:=⟨_,rfl⟩;have hp0:=Vp hlt hp;obtain⟨hp1,hp2⟩:=hok p (List.mem_of_getElem? hp0);obtain⟨xs,hxs⟩:∃xs:List R,xs=[p.1.1,p.2.1,p.2.2]:=⟨_,rfl⟩;have hlx:xs.length=3:=by rw [hxs];rfl
    have hwx:∀x∈xs,rl x<=4294967296:=by
     intro x hx;rw [hxs]at hx;simp only [List.mem_cons,List.not_mem_nil,or_false]at hx;obtain⟨l1,l2⟩:=UbI ⟨hp1,hp2⟩;obtain⟨l3,l4⟩:=al1 l2;rcases hx with rfl | rfl | rfl <;> assumption
    have hex:xs.all (sR 2)=sP p:=by rw [hxs];simp only [List.all_cons,List.all_nil,Bool.and_true];rfl
    simp only [go_sem,hlt,hp,Yan];refine Ya (λj:Nat=>⟨mkV [(7,psA l),(8,.one (.lit (.int .i64 l.length))),(9,.one (.lit (.int .i64 k))),(22,.one (.full (xs.map rC))),(23,.one (.lit (.int .i64 3))),(24,.one (.lit (.int .i64 j)))],mkH []⟩) (λj=>j<=3/\(xs.take j).all (sR 2)=true) (λj=>3-j) 0 ?_ ?_ ?_
    .exact Qa (by rw [hxs];simp [okS,okV,okC,okL,okH,okB,okE,ja,va,Za,Va,wsA,ws,psA,psC,rC]) trivial
    .exact⟨Nat.zero_le _,rfl⟩
    .rintro j ⟨hj,hallj⟩;by_cases hltj:j<3
     .obtain⟨x,hx⟩:∃x,xs.getD j (rcan 0)=x:=⟨_,rfl⟩;have hx0:=Vp (by omega:j<xs.length) hx
      have hxr:=hwx x (List.mem_of_getElem? hx0);have hjx:j<xs.length:=by omega
      obtain⟨b,n,d⟩:=x;have w1:n.length<=4294967296:=Nat.le_trans (Nat.le_max_left _ _) hxr;have w2:d.length<=4294967296:=Nat.le_trans (Nat.le_max_right _ _) hxr;have bad:¬(sR 2 (b,n,d)=true)->K (.one (.lit (.bool false))):=by
       intro hb;have e1:sP p=false:=by rw [<-hex];exact XaJ hx0 (by simpa using hb)
       rw [XaJ hp0 e1]at hK;exact hK
      have hsr:sR 2 (b,n,d)=true↔n.length<=2/\d.length<=2:=by simp [sR]
      simp only [go_sem,hltj,hjx,hx,ybx,cb,cn,cd,ws,hlx];exact⟨λ_ _=>⟨λh=>bad (λe=>by have:=hsr.1 e;omega),λh _=>⟨λh'=>bad (λe=>by have:=hsr.1 e;omega),λh'=>⟨by omega,j+1,Qa (by simp [okS,okV,okC,okL,okH,okB,okE,ja,va,Za,Va,wsA,ws,psA,psC]) trivial,⟨by omega,YC hx0 hallj (hsr.2 ⟨by omega,by omega⟩)⟩,by omega⟩⟩⟩,λh=>absurd (by omega) h⟩
     .rw [List.take_of_length_le (by omega),hex]at hallj
      simp only [go_sem,hltj];exact⟨λh=>absurd h (by omega),λ_=>⟨by omega,k+1,Qa (by simp [okS,okV,okC,okL,okH,okB,okE,ja,va,Za,Va,wsA,ws,psA,psC]) trivial,⟨by omega,YC hp0 hall hallj⟩,by omega⟩⟩
   .rw [List.take_of_length_le (by omega)]at hall
    rw [hall]at hK;simp only [go_sem,hlt];exact hK
theorem jaa(hΓ:Holds P Γ){f:Nat}(hc:check P f=some (35,Je.strip,[.tmp 2])):Sound P f (.dat true Us):=by
 refine ka hc jaj hΓ (λargs K hcl hfi hG=>?_);match args,hG with
 | [a],hG=>
  obtain⟨l,rfl,hwl,hok,hK⟩:=hG;refine⟨by simp,?_⟩
  simp only [go_sem,Je];intro _;refine Ya (λk:Nat=>⟨mkV [(7,asA l),(8,.one (.lit (.int .i64 l.length))),(9,.one (.lit (.int .i64 k)))],mkH []⟩) (λk=>k<=l.length/\(l.take k).all sA=true) (λk=>l.length-k) 0 ?_ ?_ ?_
  .exact Qa (by simp [okS,okV,okC,okL,okH,okB,okE,ja,va,Za,Va,wsA,ws,asA,as]) trivial
  .exact⟨Nat.zero_le _,rfl⟩
  .rintro k ⟨hk,hall⟩;by_cases hlt:k<l.length
   .obtain⟨p,hp⟩:∃p,l.getD k a0=p:=⟨_,rfl⟩;have hp0:=Vp hlt hp;obtain⟨hp1,hp2⟩:=hok p (List.mem_of_getElem? hp0);obtain⟨xs,hxs⟩:∃xs:List R,xs=[p.1,p.2]:=⟨_,rfl⟩;have hlx:xs.length=2:=by rw [hxs];rfl
    have hwx:∀x∈xs,rl x<=4294967296:=by
     intro x hx;rw [hxs]at hx;simp only [List.mem_cons,List.not_mem_nil,or_false]at hx;obtain⟨l3,l4⟩:=al1 hp2;rcases hx with rfl | rfl <;> assumption
    have hex:xs.all (sR 2)=sA p:=by rw [hxs];simp only [List.all_cons,List.all_nil,Bool.and_true];rfl
    simp only [go_sem,hlt,hp,Wb];refine Ya (λj:Nat=>⟨mkV [(7,asA l),(8,.one (.lit (.int .i64 l.length))),(9,.one (.lit (.int .i64 k))),(17,.one (.full (xs.map rC))),(18,.one (.lit (.int .i64 2))),(19,.one (.lit (.int .i64 j)))],mkH []⟩) (λj=>j<=2/\(xs.take j).all (sR 2)=true) (λj=>2-j) 0 ?_ ?_ ?_
    .exact Qa (by rw [hxs];simp [okS,okV,okC,okL,okH,okB,okE,ja,va,Za,Va,wsA,ws,asA,as,rC]) trivial
    .exact⟨Nat.zero_le _,rfl⟩
    .rintro j ⟨hj,hallj⟩;by_cases hltj:j<2
     .obtain⟨x,hx⟩:∃x,xs.getD j (rcan 0)=x:=⟨_,rfl⟩;have hx0:=Vp (by omega:j<xs.length) hx
      have hxr:=hwx x (List.mem_of_getElem? hx0);have hjx:j<xs.length:=by omega
      obtain⟨b,n,d⟩:=x;have w1:n.length<=4294967296:=Nat.le_trans (Nat.le_max_left _ _) hxr;have w2:d.length<=4294967296:=Nat.le_trans (Nat.le_max_right _ _) hxr;have bad:¬(sR 2 (b,n,d)=true)->K (.one (.lit (.bool false))):=by
       intro hb;have e1:sA p=false:=by rw [<-hex];exact XaJ hx0 (by simpa using hb)
       rw [XaJ hp0 e1]at hK;exact hK
      have hsr:sR 2 (b,n,d)=true↔n.length<=2/\d.length<=2:=by simp [sR]
      simp only [go_sem,hltj,hjx,hx,ybx,cb,cn,cd,ws,hlx];exact⟨λ_ _=>⟨λh=>bad (λe=>by have:=hsr.1 e;omega),λh _=>⟨λh'=>bad (λe=>by have:=hsr.1 e;omega),λh'=>⟨by omega,j+1,Qa (by simp [okS,okV,okC,okL,okH,okB,okE,ja,va,Za,Va,wsA,ws,asA,as]) trivial,⟨by omega,YC hx0 hallj (hsr.2 ⟨by omega,by omega⟩)⟩,by omega⟩⟩⟩,λh=>absurd (by omega) h⟩
     .rw [List.take_of_length_le (by omega),hex]at hallj
      simp only [go_sem,hltj];exact⟨λh=>absurd h (by omega),λ_=>⟨by omega,k+1,Qa (by simp [okS,okV,okC,okL,okH,okB,okE,ja,va,Za,Va,wsA,ws,asA,as]) trivial,⟨by omega,YC hp0 hall hallj⟩,by omega⟩⟩
   .rw [List.take_of_length_le (by omega)]at hall
    rw [hall]at hK;simp only [go_sem,hlt];exact hK
end Go.Abs
end
section
namespace Go.Num
open Go.Abs
def ctrQ(p u v:V2):V2:=(p.1+(sqQ u*v.2-sqQ v*u.2) / (2*crossQ u v),p.2+(sqQ v*u.1-sqQ u*v.1) / (2*crossQ u v))
def ciQ(p u v:V2):V2:=if crossQ u v=0 then (0,0) else ctrQ p u v
def ciL(l:List Arc):V2:=ciQ (av (l.getD 0 a0)) (subQ (av (l.getD 1 a0)) (av (l.getD 0 a0))) (subQ (av (l.getD 2 a0)) (av (l.getD 0 a0)))
def crL(l:List Arc):Rat:=crossQ (subQ (av (l.getD 1 a0)) (av (l.getD 0 a0))) (subQ (av (l.getD 2 a0)) (av (l.getD 0 a0)))
theorem Qbq(p u v:V2):addQ p (1 / (crossQ u v+crossQ u v)*(sqQ u*v.2-sqQ v*u.2),1 / (crossQ u v+crossQ u v)*(sqQ v*u.1-sqQ u*v.1))=ctrQ p u v:=by
 unfold addQ ctrQ;have e:crossQ u v+crossQ u v=2*crossQ u v:=by grind
 rw [e];simp only [Rat.div_def,Rat.one_mul,Prod.mk.injEq];constructor <;> rw [Rat.mul_comm (2*crossQ u v)⁻¹]
end Go.Num
namespace Go.Abs
open Go.Num
variable {P:Program} {Γ:Nat->Spec}
def xai(tE:Nat)(l:List AV)(K:AV->Prop):Prop:=
 match l with
 | [a]=>onAs (λl=>okAs 1000000 l/\3<=l.length/\K (.tup [pQ (ciL l),errV tE (if crL l=0 then 8 else 0)])) a
 | _=>False
theorem JaC(tE:Nat)(a:AV)(K:AV->Prop):xai tE [a] K=(onAs (λl=>okAs 1000000 l/\3<=l.length/\K (.tup [pQ (ciL l),errV tE (if crL l=0 then 8 else 0)])) a):=propext Iff.rfl
@[congr] theorem xbK (tE:Nat) {K:AV->Prop} {l l' : List AV} (h:l=l'):xai tE l K=xai tE l' K:=by subst h;rfl
attribute [go_sem,go_sem ↓] JaC
def xz(l:List AV)(K:AV->Prop):Prop:=
 match l with
 | [a]=>onAs (λl=>okAs 1000000 l/\3<=l.length/\K (.tup [pQ (ciL l),.one (.lit (.bool (decide (crL l≠0))))])) a
 | _=>False
theorem wav(a:AV)(K:AV->Prop):xz [a] K=(onAs (λl=>okAs 1000000 l/\3<=l.length/\K (.tup [pQ (ciL l),.one (.lit (.bool (decide (crL l≠0))))])) a):=propext Iff.rfl
@[congr] theorem UbM {K:AV->Prop} {l l' : List AV} (h:l=l'):xz l K=xz l' K:=by subst h;rfl
attribute [go_sem,go_sem ↓] wav
theorem YaG:Good xz:=Wa λas=>by
 unfold xz;split
 .exact(ubh λ_=>(.and λ_=>(.and λ_=>(.ret _))))
 .exact .of λK hk=>hk.elim
def Yd(f0 f1 f2 f3 f4 f5 f6 f7 f8 f9:Nat):AC:=(.seq (.ops false [.u 2 (.alloc [(.lit (.bool false)),.emp,.emp,(.lit (.bool false)),.emp,.emp]),.m 3 .fa])
 (.fg [0,2] (.seq (.ops true [.m 12 (.t 0),.u 13 (.idx 6 (.t 12) (.i 1)),.u 14 (.ld none 6 true (.t 13)),.m 15 (.t 0),.u 16 (.idx 6 (.t 15) (.i 0)),.u 17 (.ld none 6 true (.t 16)),.u 18 (.call f0 [(.t 14),(.t 17)]),.m 19 (.t 0),.u 20 (.idx 6 (.t 19) (.i 2)),.u 21 (.ld none 6 true (.t 20)),.m 22 (.t 0),.u 23 (.idx 6 (.t 22) (.i 0)),.u 24 (.ld none 6 true (.t 23)),.u 25 (.call f0 [(.t 21),(.t 24)]),.u 4 (.alloc [(.lit (.bool false)),.emp,.emp,(.lit (.bool false)),.emp,.emp]),.u 5 (.alloc [(.lit (.bool false)),.emp,.emp,(.lit (.bool false)),.emp,.emp]),.n (.st none 6 (.t 4) (.t 18)),.n (.st none 6 (.t 5) (.t 25))])
 (.fg [0,2,4,5] (.seq (.ops false [.u 26 (.ld none 6 true (.t 4)),.u 27 (.ld none 6 true (.t 5)),.u 28 (.call f1 [(.t 26),(.t 27)]),.u 6 (.alloc [(.lit (.bool false)),.emp,.emp]),.n (.st none 3 (.t 6) (.t 28))])
 (.fg [0,2,4,5,6] (.seq (.seq (.ops false [.u 29 (.ld none 3 true (.t 6)),.u 30 (.call f2 [(.t 29)])])
 (.fg [0,2,4,5,6,30] (.cond (.t 30) (.seq (.ops false [.u 31 (.build [.z [(.lit (.bool false)),.emp,.emp,(.lit (.bool false)),.emp,.emp]]),.n (.st none 6 (.t 2) (.t 31)),.m 3 .fa])
 .ret) .skip)))
 (.fg [0,2,4,5,6] (.seq (.ops true [.u 32 (.ld none 6 true (.t 4)),.u 33 (.call f3 [(.t 32)]),.u 34 (.ld none 6 true (.t 5)),.u 35 (.call f3 [(.t 34)]),.u 7 (.alloc [(.lit (.bool false)),.emp,.emp]),.u 8 (.alloc [(.lit (.bool false)),.emp,.emp]),.n (.st none 3 (.t 7) (.t 33)),.n (.st none 3 (.t 8) (.t 35))])
 (.fg [0,2,4,5,6,7,8] (.seq (.ops true [.u 37 (.call f4 [(.i 1)]),.u 38 (.ld none 3 true (.t 6)),.u 39 (.ld none 3 true (.t 6)),.u 40 (.call f5 [(.t 38),(.t 39)]),.u 41 (.call f6 [(.t 37),(.t 40)]),.m 36 (.t 41),.u 42 (.ext 0 (.t 36)),.u 43 (.ext 1 (.t 36)),.u 9 (.alloc [(.lit (.bool false)),.emp,.emp]),.n (.st none 3 (.t 9) (.t 42)),.m 10 (.t 43)])
 (.fg [0,2,4,5,7,8,9] (.seq (.ops true [.u 44 (.ld none 3 true (.t 9)),.u 45 (.ld none 3 true (.t 7)),.u 46 (.fa 3 (.t 5)),.u 47 (.ld none 3 true (.t 46)),.u 48 (.call f7 [(.t 45),(.t 47)]),.u 49 (.ld none 3 true (.t 8)),.u 50 (.fa 3 (.t 4)),.u 51 (.ld none 3 true (.t 50)),.u 52 (.call f7 [(.t 49),(.t 51)]),.u 53 (.call f8 [(.t 48),(.t 52)]),.u 54 (.call f7 [(.t 44),(.t 53)]),.u 55 (.ld none 3 true (.t 9)),.u 56 (.ld none 3 true (.t 8)),.u 57 (.fa 0 (.t 4)),.u 58 (.ld none 3 true (.t 57)),.u 59 (.call f7 [(.t 56),(.t 58)]),.u 60 (.ld none 3 true (.t 7)),.u 61 (.fa 0 (.t 5)),.u 62 (.ld none 3 true (.t 61)),.u 63 (.call f7 [(.t 60),(.t 62)]),.u 64 (.call f8 [(.t 59),(.t 63)]),.u 65 (.call f7 [(.t 55),(.t 64)]),.u 66 (.build [.x 3 (.t 54),.x 3 (.t 65)]),.u 11 (.alloc [(.lit (.bool false)),.emp,.emp,(.lit (.bool false)),.emp,.emp]),.n (.st none 6 (.t 11) (.t 66))])
 (.fg [0,2,11] (.seq (.ops true [.m 67 (.t 0),.u 68 (.idx 6 (.t 67) (.i 0)),.u 69 (.ld none 6 true (.t 68)),.u 70 (.ld none 6 true (.t 11)),.u 71 (.call f9 [(.t 69),(.t 70)]),.n (.st none 6 (.t 2) (.t 71)),.m 3 .tr])
 .ret)))))))))))))))
theorem xam(hΓ:Holds P Γ){f fs fc fz fq fo fa fd fm fb fp:Nat}(hs:Γ fs=.dat false Qm)(hx:Γ fc=.dat false kj)(hz:Γ fz=.dat true Vr)(hq' : Γ fq=.dat false yD)(ho:Γ fo=.dat false XC)(ha:Γ fa=.dat false Jk)(hd:Γ fd=.dat false yx)(hm:Γ fm=.dat false jk)(hb:Γ fb=.dat false zo)(hp' : Γ fp=.dat false Jn)(hc:check P f=some (72,(Yd fs fc fz fq fo fa fd fm fb fp).strip,[.cell 2 6 true,.tmp 3])):Sound P f (.dat false xz):=by
 refine ka hc YaG hΓ (λargs K hcl hfi hG=>?_);match args,hG with
 | [a],hG=>
  obtain⟨l,rfl,hwl,hok,hlen,hK⟩:=hG;refine⟨by simp,?_⟩
  obtain⟨p,hp⟩:∃p,l.getD 0 a0=p:=⟨_,rfl⟩;obtain⟨q,hq⟩:∃q,l.getD 1 a0=q:=⟨_,rfl⟩;obtain⟨r,hr⟩:∃r,l.getD 2 a0=r:=⟨_,rfl⟩;have g0:0<l.length:=by omega
  have g1:1<l.length:=by omega
  have g2:2<l.length:=by omega
  obtain⟨p1,p2⟩:=hok p (List.mem_of_getElem? (Vp g0 hp));obtain⟨q1,q2⟩:=hok q (List.mem_of_getElem? (Vp g1 hq));obtain⟨r1,r2⟩:=hok r (List.mem_of_getElem? (Vp g2 hr));have z0:=vE p1;have z1:=vE q1;have z2:=vE r1;have zu:=vl (av q) (av p);have zv:=vl (av r) (av p);obtain⟨u,hu⟩:∃u,subQ (av q) (av p)=u:=⟨_,rfl⟩;obtain⟨v,hv⟩:∃v,subQ (av r) (av p)=v:=⟨_,rfl⟩;rw [hu]at zu;rw [hv]at zv;have zd:=JJ u v;have su:=J2 u;have sv:=J2 v;have u1:rz u.1<=zq u:=Nat.le_max_left _ _;have u2:rz u.2<=zq u:=Nat.le_max_right _ _;have v1:rz v.1<=zq v:=Nat.le_max_left _ _;have v2:rz v.2<=zq v:=Nat.le_max_right _ _;have w1:rz (av p).1<=zq (av p):=Nat.le_max_left _ _;have w2:rz (av p).2<=zq (av p):=Nat.le_max_right _ _;have m1:=ub (sqQ u) v.2;have m2:=ub (sqQ v) u.2;have m3:=ub (sqQ v) u.1;have m4:=ub (sqQ u) v.1;have s1:=Zo (sqQ u*v.2) (sqQ v*u.2);have s2:=Zo (sqQ v*u.1) (sqQ u*v.1);have i1:=rz_1;unfold ciL crL at hK;rw [hp,hq,hr,hu,hv]at hK;have c1:al (rcan u.1,rcan u.2)=zq u:=rfl;have c2:al (rcan v.1,rcan v.2)=zq v:=rfl;have p3:=p1.1;have p4:=p1.2;obtain⟨p5,p6⟩:=al1 p2;have e2:(((1:Int)):Rat)=1:=rfl;by_cases h0:crossQ u v=0
  .rw [decide_eq_false (by simp [h0])]at hK
   unfold ciQ at hK;rw [if_pos h0,vaH,yb]at hK;have h1:decide (crossQ u v=0)=true:=decide_eq_true h0;simp only [go_sem,Yd,hs,ho,hx,hm,hz,g0,g1,g2,hp,hq,hr,Wb,Zb,kbe,Qb,hu,hv,h1,e2,c1,c2];repeat first | refine Ja (by omega) ?_ | refine Ja (by assumption) ?_ | refine Ja rfl ?_ | refine Ja ⟨rfl,by omega⟩ ?_ | refine Ja ⟨rfl,by omega,by omega⟩ ?_ | intro _
   exact hK
  .have h1:decide (crossQ u v=0)=false:=decide_eq_false h0;have hn:¬(crossQ u v+crossQ u v=0):=by intro h;exact h0 (by grind)
   rw [decide_eq_true h0]at hK;unfold ciQ at hK;rw [if_neg h0,<-Qbq]at hK;have md:=qo (crossQ u v) (crossQ u v);obtain⟨d,hdd⟩:∃d,crossQ u v+crossQ u v=d:=⟨_,rfl⟩;rw [hdd]at hK hn md;have d1:=kK 1 d;obtain⟨k,hkk⟩:∃k,1 / d=k:=⟨_,rfl⟩;rw [hkk]at hK d1;have t1:=ub k (sqQ u*v.2-sqQ v*u.2);have t2:=ub k (sqQ v*u.1-sqQ u*v.1);have c3:al (rcan (k*(sqQ u*v.2-sqQ v*u.2)),rcan (k*(sqQ v*u.1-sqQ u*v.1)))<=100000000:=by
    rw [qbK];omega
   simp only [go_sem,Yd,hs,ho,hx,hm,hz,hq',ha,hd,hb,hp',g0,g1,g2,hp,hq,hr,Wb,Zb,kbe,Qb,hu,hv,h1,e2,hdd,hn,hkk,c1,c2];repeat first | refine Ja (by omega) ?_ | refine Ja (by assumption) ?_ | refine Ja rfl ?_ | refine Ja ⟨rfl,by omega⟩ ?_ | refine Ja ⟨rfl,by omega,by omega⟩ ?_ | intro _
   exact hK
end Go.Abs
end
section
namespace Go.Abs
open Go.Num
variable {P:Program} {Γ:Nat->Spec}
def qZ(l:List AV)(K:AV->Prop):Prop:=
 match l with
 | [a]=>asInt (λk n=>k=.i64/\n=1/\K (.one (.lit (.string ⟨#[49]⟩)))) a
 | _=>False
theorem Yac(a:AV)(K:AV->Prop):qZ [a] K=(asInt (λk n=>k=.i64/\n=1/\K (.one (.lit (.string ⟨#[49]⟩)))) a):=propext Iff.rfl
@[congr] theorem xbD {K:AV->Prop} {l l' : List AV} (h:l=l'):qZ l K=qZ l' K:=by subst h;rfl
attribute [go_sem,go_sem ↓] Yac
def Jaj(l:List AV)(K:AV->Prop):Prop:=
 match l with
 | [a,b]=>asInt (λk n=>k=.i64/\n=1/\asInt (λk m=>k=.i64/\m=10/\K (.one (.lit (.string ⟨#[49]⟩)))) b) a
 | _=>False
theorem Zaz(a b:AV)(K:AV->Prop):Jaj [a,b] K=(asInt (λk n=>k=.i64/\n=1/\asInt (λk m=>k=.i64/\m=10/\K (.one (.lit (.string ⟨#[49]⟩)))) b) a):=propext Iff.rfl
@[congr] theorem VbK {K:AV->Prop} {l l' : List AV} (h:l=l'):Jaj l K=Jaj l' K:=by subst h;rfl
attribute [go_sem,go_sem ↓] Zaz
def Xah(l:List AV)(K:AV->Prop):Prop:=
 match l with
 | [a]=>asInt (λk n=>k=.i64/\n=1/\K (.one (.lit (.string ⟨#[49]⟩)))) a
 | _=>False
theorem zaq(a:AV)(K:AV->Prop):Xah [a] K=(asInt (λk n=>k=.i64/\n=1/\K (.one (.lit (.string ⟨#[49]⟩)))) a):=propext Iff.rfl
@[congr] theorem ybM {K:AV->Prop} {l l' : List AV} (h:l=l'):Xah l K=Xah l' K:=by subst h;rfl
attribute [go_sem,go_sem ↓] zaq
def wan(l:List AV)(K:AV->Prop):Prop:=
 match l with
 | [a,b]=>a=.one (.slice [[.lit (.string ⟨#[49]⟩)]])/\b=.one (.lit (.string ⟨#[]⟩))/\K (.one (.lit (.string ⟨#[49]⟩)))
 | _=>False
theorem waA(a b:AV)(K:AV->Prop):wan [a,b] K=(a=.one (.slice [[.lit (.string ⟨#[49]⟩)]])/\b=.one (.lit (.string ⟨#[]⟩))/\K (.one (.lit (.string ⟨#[49]⟩)))):=propext Iff.rfl
@[congr] theorem qbL {K:AV->Prop} {l l' : List AV} (h:l=l'):wan l K=wan l' K:=by subst h;rfl
attribute [go_sem,go_sem ↓] waA
def uan(l:List AV)(K:AV->Prop):Prop:=
 match l with
 | [a]=>onW (λw=>zv w=1/\K (.one (.lit (.string ⟨#[49]⟩)))) a
 | _=>False
theorem yau(a:AV)(K:AV->Prop):uan [a] K=(onW (λw=>zv w=1/\K (.one (.lit (.string ⟨#[49]⟩)))) a):=propext Iff.rfl
@[congr] theorem kbO {K:AV->Prop} {l l' : List AV} (h:l=l'):uan l K=uan l' K:=by subst h;rfl
attribute [go_sem,go_sem ↓] yau
def Vam(l:List AV)(K:AV->Prop):Prop:=
 match l with
 | [a]=>onR (λx=>rv x=1/\rl x<=4294967296/\K (.one (.lit (.string ⟨#[49]⟩)))) a
 | _=>False
theorem xaz(a:AV)(K:AV->Prop):Vam [a] K=(onR (λx=>rv x=1/\rl x<=4294967296/\K (.one (.lit (.string ⟨#[49]⟩)))) a):=propext Iff.rfl
@[congr] theorem wbO {K:AV->Prop} {l l' : List AV} (h:l=l'):Vam l K=Vam l' K:=by subst h;rfl
attribute [go_sem,go_sem ↓] xaz
def Ub:AC:=(.seq (.ops false [.m 2 (.c (.one (.lit (.string ⟨#[]⟩))))])
 (.fg [0] (.seq (.seq (.ops false [.m 3 (.t 0),.u 4 (.bin .lss (.t 3) (.i 10))])
 (.fg [0,4] (.cond (.t 4) (.seq (.ops false [.m 5 (.t 0),.m 6 (.t 0),.u 7 (.bin .add (.t 6) (.i 1)),.u 8 (.sop 0 [(.c (.one (.lit (.string ⟨#[48,49,50,51,52,53,54,55,56,57,97,98,99,100,101,102,103,104,105,106,107,108,109,110,111,112,113,114,115,116,117,118,119,120,121,122]⟩)))),(.t 5),(.t 7)]),.m 2 (.t 8)])
 .ret) .skip)))
 (.fg [0] (.seq (.ops false [.m 9 (.t 0),.u 10 (.bin .mul (.t 9) (.i 2)),.m 11 (.t 0),.u 12 (.bin .mul (.t 11) (.i 2)),.u 13 (.bin .add (.t 12) (.i 2)),.u 14 (.sop 0 [(.c (.one (.lit (.string ⟨#[48,48,48,49,48,50,48,51,48,52,48,53,48,54,48,55,48,56,48,57,49,48,49,49,49,50,49,51,49,52,49,53,49,54,49,55,49,56,49,57,50,48,50,49,50,50,50,51,50,52,50,53,50,54,50,55,50,56,50,57,51,48,51,49,51,50,51,51,51,52,51,53,51,54,51,55,51,56,51,57,52,48,52,49,52,50,52,51,52,52,52,53,52,54,52,55,52,56,52,57,53,48,53,49,53,50,53,51,53,52,53,53,53,54,53,55,53,56,53,57,54,48,54,49,54,50,54,51,54,52,54,53,54,54,54,55,54,56,54,57,55,48,55,49,55,50,55,51,55,52,55,53,55,54,55,55,55,56,55,57,56,48,56,49,56,50,56,51,56,52,56,53,56,54,56,55,56,56,56,57,57,48,57,49,57,50,57,51,57,52,57,53,57,54,57,55,57,56,57,57]⟩)))),(.t 10),(.t 13)]),.m 2 (.t 14)])
 .ret)))))
def Wd(f0 f1 f2 f3:Nat):AC:=(.seq (.ops false [.m 4 (.c (.one (.lit (.string ⟨#[]⟩))))])
 (.fg [0,1] (.seq (.seq (.ops false [.m 10 (.t 1),.u 11 (.bin .eql (.t 10) (.i 10))])
 (.fg [0,1,11] (.cond (.t 11) (.seq (.seq (.ops false [.m 12 (.t 0),.u 13 (.bin .leq (.i 0) (.t 12)),.m 14 (.t 13),.w 15 14 true (.mv (.t 0)),.w 16 14 true (.bin .lss (.t 15) (.i 100)),.u 17 (.pick (.t 14) (.t 16) .fa)])
 (.fg [0,17] (.cond (.t 17) (.seq (.ops false [.m 18 (.t 0),.u 19 (.call f0 [(.t 18)]),.m 4 (.t 19)])
 .ret) .skip)))
 (.fg [0] (.seq (.ops false [.u 5 (.alloc [(.lit (.int .u8 0)),(.lit (.int .u8 0)),(.lit (.int .u8 0)),(.lit (.int .u8 0)),(.lit (.int .u8 0)),(.lit (.int .u8 0)),(.lit (.int .u8 0)),(.lit (.int .u8 0)),(.lit (.int .u8 0)),(.lit (.int .u8 0)),(.lit (.int .u8 0)),(.lit (.int .u8 0)),(.lit (.int .u8 0)),(.lit (.int .u8 0)),(.lit (.int .u8 0)),(.lit (.int .u8 0)),(.lit (.int .u8 0)),(.lit (.int .u8 0)),(.lit (.int .u8 0)),(.lit (.int .u8 0)),(.lit (.int .u8 0)),(.lit (.int .u8 0)),(.lit (.int .u8 0)),(.lit (.int .u8 0))])])
 (.fg [0,5] (.seq (.ops false [.m 20 (.t 0),.u 21 (.conv .u64 (.t 20)),.m 6 (.t 21)])
 (.fg [0,5,6] (.seq (.seq (.ops false [.m 22 (.t 0),.u 23 (.bin .lss (.t 22) (.i 0))])
 (.fg [0,5,6,23] (.cond (.t 23) (.ops false [.m 24 (.t 6),.u 25 (.un .neg (.t 24)),.m 6 (.t 25)]) .skip)))
 (.fg [0,5,6] (.seq (.ops false [.m 26 (.t 6),.u 27 (.call f1 [(.t 26)]),.m 7 (.t 27)])
 (.fg [0,5,6,7] (.seq (.ops false [.m 28 (.t 7),.u 29 (.bin .add (.i 1) (.t 28)),.u 30 (.rsb 1 24 (.t 5) (some (.i 1)) (some (.t 29))),.m 31 (.t 6),.u 32 (.call f2 [(.t 30),(.t 31)])])
 (.fg [0,5,7] (.seq (.seq (.ops false [.m 33 (.t 0),.u 34 (.bin .lss (.t 33) (.i 0))])
 (.fg [5,7,34] (.cond (.t 34) (.seq (.ops false [.u 35 (.ai 1 24 (.t 5) (.i 0)),.n (.st none 1 (.t 35) (.c (.one (.lit (.int .u8 45)))))])
 (.fg [5,7] (.seq (.ops false [.m 36 (.t 7),.u 37 (.bin .add (.i 1) (.t 36)),.u 38 (.rsb 1 24 (.t 5) none (some (.t 37))),.u 39 (.bad),.m 4 (.t 39)])
 .ret))) .skip)))
 (.fg [5,7] (.seq (.ops false [.m 40 (.t 7),.u 41 (.bin .add (.i 1) (.t 40)),.u 42 (.rsb 1 24 (.t 5) (some (.i 1)) (some (.t 41))),.u 43 (.bad),.m 4 (.t 43)])
 .ret))))))))))))))) .skip)))
 (.fg [0,1] (.seq (.ops false [.m 45 (.t 0),.u 46 (.conv .u64 (.t 45)),.m 47 (.t 1),.m 48 (.t 0),.u 49 (.bin .lss (.t 48) (.i 0)),.u 50 (.call f3 [(.c (.one .emp)),(.t 46),(.t 47),(.t 49),.fa]),.m 44 (.t 50),.u 51 (.ext 0 (.t 44)),.u 52 (.ext 1 (.t 44)),.m 8 (.t 51),.m 9 (.t 52)])
 (.fg [9] (.seq (.ops false [.m 53 (.t 9),.m 4 (.t 53)])
 .ret)))))))
def Yf(f0:Nat):AC:=(.seq (.ops false [.m 2 (.c (.one (.lit (.string ⟨#[]⟩))))])
 (.fg [0] (.seq (.ops false [.m 3 (.t 0),.u 4 (.call f0 [(.t 3),(.i 10)]),.m 2 (.t 4)])
 .ret)))
def zw(f0:Nat):AC:=(.seq (.ops false [.m 2 (.c (.one (.lit (.string ⟨#[]⟩))))])
 (.fg [0] (.seq (.ops false [.m 3 (.t 0),.u 4 (.call f0 [(.t 3)]),.m 2 (.t 4)])
 .ret)))
def Vv(f0 f1 f2:Nat):AC:=(.seq (.ops false [.m 4 (.c (.one (.lit (.string ⟨#[]⟩))))])
 (.fg [0,1] (.seq (.seq (.ops false [.m 11 (.t 0),.u 12 (.len (.t 11))])
 (.fg [0,1,12] (.block 0 (.seq (.ops false [.u 14 (.bin .eql (.t 12) (.i 0)),.m 13 (.t 14)])
 (.fg [0,1,12,13] (.cond (.t 13) (.seq (.ops false [.m 4 (.c (.one (.lit (.string ⟨#[]⟩))))])
 .ret) (.seq (.ops false [.u 16 (.bin .eql (.t 12) (.i 1)),.m 15 (.t 16)])
 (.fg [0,1,15] (.cond (.t 15) (.seq (.ops false [.m 17 (.t 0),.u 18 (.idx 1 (.t 17) (.i 0)),.u 19 (.ld none 1 false (.t 18)),.m 4 (.t 19)])
 .ret) .skip)))))))))
 (.fg [0,1] (.seq (.ops false [.m 5 (.i 0)])
 (.fg [0,1,5] (.seq (.seq (.ops false [.m 20 (.t 1),.u 21 (.bad),.u 22 (.bin .gtr (.t 21) (.i 0))])
 (.fg [0,1,5,22] (.cond (.t 22) (.seq (.seq (.ops false [.m 23 (.t 1),.u 24 (.bad),.m 25 (.t 0),.u 26 (.len (.t 25)),.u 27 (.bin .sub (.t 26) (.i 1)),.u 28 (.bin .quo (.i 9223372036854775807) (.t 27)),.u 29 (.bin .geq (.t 24) (.t 28))])
 (.fg [0,1,5,29] (.cond (.t 29) (.ops false [.u 30 (.bad),.n (.bad)]) .skip)))
 (.fg [0,1,5] (.ops false [.m 31 (.t 5),.m 32 (.t 1),.u 33 (.bad),.m 34 (.t 0),.u 35 (.len (.t 34)),.u 36 (.bin .sub (.t 35) (.i 1)),.u 37 (.bin .mul (.t 33) (.t 36)),.u 38 (.bin .add (.t 31) (.t 37)),.m 5 (.t 38)]))) .skip)))
 (.fg [0,1,5] (.seq (.seq (.ops false [.m 39 (.t 0),.u 40 (.len (.t 39)),.m 41 (.i 0)])
 (.fg [0,1,5,39,40,41] (.block 1 (.loop (.seq (.ops false [.u 42 (.bin .lss (.t 41) (.t 40))])
 (.fg [0,1,5,39,40,41,42] (.seq (.cond (.t 42) .skip (.exit 1))
 (.fg [0,1,5,39,40,41] (.seq (.block 2 (.seq (.ops false [.u 43 (.idx 1 (.t 39) (.t 41)),.u 44 (.ld none 1 false (.t 43)),.m 7 (.t 44)])
 (.fg [0,1,5,7,39,40,41] (.seq (.seq (.ops false [.m 45 (.t 7),.u 46 (.bad),.m 47 (.t 5),.u 48 (.bin .sub (.i 9223372036854775807) (.t 47)),.u 49 (.bin .gtr (.t 46) (.t 48))])
 (.fg [0,1,5,7,39,40,41,49] (.cond (.t 49) (.ops false [.u 50 (.bad),.n (.bad)]) .skip)))
 (.fg [0,1,5,7,39,40,41] (.ops false [.m 51 (.t 5),.m 52 (.t 7),.u 53 (.bad),.u 54 (.bin .add (.t 51) (.t 53)),.m 5 (.t 54)]))))))
 (.fg [0,1,5,39,40,41] (.ops false [.u 55 (.bin .add (.t 41) (.i 1)),.m 41 (.t 55)])))))))))))
 (.fg [0,1,5] (.seq (.ops false [.u 8 (.alloc [(.lit (.pointer none)),.emp])])
 (.fg [0,1,5,8] (.seq (.ops false [.m 56 (.t 5),.u 57 (.call f0 [(.t 8),(.t 56)])])
 (.fg [0,1,8] (.seq (.ops false [.m 58 (.t 0),.u 59 (.idx 1 (.t 58) (.i 0)),.u 60 (.ld none 1 false (.t 59)),.u 61 (.call f1 [(.t 8),(.t 60)])])
 (.fg [0,1,8] (.seq (.seq (.ops false [.m 62 (.t 0),.u 63 (.sl 1 (.t 62) (some (.i 1)) none),.u 64 (.len (.t 63)),.m 65 (.i 0)])
 (.fg [1,8,63,64,65] (.block 3 (.loop (.seq (.ops false [.u 66 (.bin .lss (.t 65) (.t 64))])
 (.fg [1,8,63,64,65,66] (.seq (.cond (.t 66) .skip (.exit 3))
 (.fg [1,8,63,64,65] (.seq (.block 4 (.seq (.ops false [.u 67 (.idx 1 (.t 63) (.t 65)),.u 68 (.ld none 1 false (.t 67)),.m 10 (.t 68)])
 (.fg [1,8,10,63,64,65] (.seq (.ops false [.m 69 (.t 1),.u 70 (.call f1 [(.t 8),(.t 69)])])
 (.fg [1,8,10,63,64,65] (.ops false [.m 71 (.t 10),.u 72 (.call f1 [(.t 8),(.t 71)])]))))))
 (.fg [1,8,63,64,65] (.ops false [.u 73 (.bin .add (.t 65) (.i 1)),.m 65 (.t 73)])))))))))))
 (.fg [8] (.seq (.ops false [.u 74 (.call f2 [(.t 8)]),.m 4 (.t 74)])
 .ret)))))))))))))))))))
def Yu(f0 f1 f2 f3 f4 f5:Nat):AC:=(.seq (.ops false [.u 1 (.box 2 (.t 0)),.m 2 (.c (.one (.lit (.string ⟨#[]⟩))))])
 (.fg [1] (.seq (.ops false [.u 8 (.ld none 2 true (.t 1)),.u 9 (.call f0 [(.t 8)]),.m 3 (.t 9)])
 (.fg [1,3] (.seq (.seq (.ops false [.m 10 (.t 3),.u 11 (.len (.t 10)),.u 12 (.bin .eql (.t 11) (.i 0))])
 (.fg [1,3,12] (.cond (.t 12) (.seq (.ops false [.m 2 (.c (.one (.lit (.string ⟨#[48]⟩))))])
 .ret) .skip)))
 (.fg [1,3] (.seq (.ops false [.m 4 (.c (.one .emp))])
 (.fg [1,3,4] (.seq (.block 0 (.loop (.seq (.seq (.ops false [.m 13 (.t 3),.u 14 (.len (.t 13)),.u 15 (.bin .gtr (.t 14) (.i 0))])
 (.fg [1,3,4,15] (.cond (.t 15) .skip (.exit 0))))
 (.fg [1,3,4] (.block 1 (.seq (.ops false [.m 5 (.c (.one (.lit (.int .u32 0))))])
 (.fg [1,3,4] (.seq (.ops false [.m 17 (.t 3),.u 18 (.call f1 [(.t 17),(.c (.one (.lit (.int .u32 1000000000))))]),.m 16 (.t 18),.u 19 (.ext 0 (.t 16)),.u 20 (.ext 1 (.t 16)),.m 3 (.t 19),.m 5 (.t 20)])
 (.fg [1,3,4,5] (.seq (.ops false [.m 21 (.t 5),.u 22 (.conv .i64 (.t 21)),.u 23 (.call f2 [(.t 22)]),.m 6 (.t 23)])
 (.fg [1,3,4,6] (.seq (.seq (.ops false [.m 24 (.t 3),.u 25 (.len (.t 24)),.u 26 (.bin .gtr (.t 25) (.i 0))])
 (.fg [1,3,4,6,26] (.cond (.t 26) (.ops false [.m 27 (.t 6),.u 28 (.bad),.u 29 (.bin .sub (.i 9) (.t 28)),.u 30 (.call f3 [(.c (.one (.lit (.string ⟨#[48]⟩)))),(.t 29)]),.m 31 (.t 6),.u 32 (.sop 2 [(.t 30),(.t 31)]),.m 6 (.t 32)]) .skip)))
 (.fg [1,3,4,6] (.ops false [.m 33 (.t 6),.u 34 (.row 1 [[.x 1 (.t 33)]]),.m 35 (.t 4),.u 36 (.app 1 (.t 34) (.t 35)),.m 4 (.t 36)]))))))))))))))
 (.fg [1,4] (.seq (.ops false [.m 37 (.t 4),.u 38 (.call f4 [(.t 37),(.c (.one (.lit (.string ⟨#[]⟩))))]),.m 7 (.t 38)])
 (.fg [1,7] (.seq (.seq (.ops false [.u 39 (.ld none 2 true (.t 1)),.u 40 (.call f5 [(.t 39)])])
 (.fg [7,40] (.cond (.t 40) (.ops false [.m 41 (.t 7),.u 42 (.sop 2 [(.c (.one (.lit (.string ⟨#[45]⟩)))),(.t 41)]),.m 7 (.t 42)]) .skip)))
 (.fg [7] (.seq (.ops false [.m 43 (.t 7),.m 2 (.t 43)])
 .ret)))))))))))))))
def Yl(f0 f1 f2 f3:Nat):AC:=(.seq (.ops false [.u 1 (.box 3 (.t 0)),.m 2 (.c (.one (.lit (.string ⟨#[]⟩))))])
 (.fg [1] (.seq (.ops false [.u 6 (.ld none 3 true (.t 1)),.u 7 (.call f0 [(.t 6)]),.m 5 (.t 7),.u 8 (.ext 0 (.t 5)),.u 9 (.ext 1 (.t 5)),.u 3 (.alloc [(.lit (.bool false)),.emp]),.u 4 (.alloc [(.lit (.bool false)),.emp]),.n (.st none 2 (.t 3) (.t 8)),.n (.st none 2 (.t 4) (.t 9))])
 (.fg [3,4] (.seq (.seq (.ops true [.u 10 (.ld none 2 true (.t 4)),.u 11 (.call f1 []),.u 12 (.call f2 [(.t 10),(.t 11)]),.u 13 (.bin .eql (.t 12) (.i 0))])
 (.fg [3,4,13] (.cond (.t 13) (.seq (.ops false [.u 14 (.ld none 2 true (.t 3)),.u 15 (.call f3 [(.t 14)]),.m 2 (.t 15)])
 .ret) .skip)))
 (.fg [3,4] (.seq (.ops true [.u 16 (.ld none 2 true (.t 3)),.u 17 (.call f3 [(.t 16)]),.u 18 (.sop 2 [(.t 17),(.c (.one (.lit (.string ⟨#[47]⟩))))]),.u 19 (.ld none 2 true (.t 4)),.u 20 (.call f3 [(.t 19)]),.u 21 (.sop 2 [(.t 18),(.t 20)]),.m 2 (.t 21)])
 .ret)))))))
end Go.Abs
end
