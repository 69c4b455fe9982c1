/-
  Parts of the proof, merged: ChartG, ChartQ, ChartH, ChartR, ChartW, ChartX, ComA, ChartRow, ComB, PoseD, PoseE, PoseT.
-/
import Derived.Test.YtjggkdaangghfaaGreatDoorM6
set_option linter.unusedVariables false
set_option linter.unusedSimpArgs false
set_option maxRecDepth 100000
section
namespace Go.Num
def sh1(by' : Rat)(a:Q2):List Q2:=
 let f:=frac (a.1+by')
 let t:=f+(a.2-a.1)
 if 1<t then (0,t-1)::(if f<1 then [(f,1)] else []) else (if f<t then [(f,t)] else [])
def shL(by' : Rat)(l:List Q2):List Q2:=l.flatMap (sh1 by')
def lim64(l:List Q2):List Q2:=if 64<l.length then [] else l
def code64(l:List Q2):Nat:=if 64<l.length then 4 else 0
def shOut(l:List Arc)(y:R):List Q2:=if chk [l]=0/\vldR y=true then lim64 (nrm (shL (rv y) (vals l))) else []
def shCode(l:List Arc)(y:R):Nat:=if chk [l]=0 then (if vldR y=true then code64 (nrm (shL (rv y) (vals l))) else 3) else chk [l]
end Go.Num
namespace Go.Abs
open Go.Num
variable {P:Program} {Γ:Nat->Spec}
def WZ(tE m:Nat)(l:List AV)(K:AV->Prop):Prop:=
 match l with
 | [a,b]=>onAs (λl=>onR (λy=>(chk [l]=0->2*l.length<=m)/\okAs 10000000 l/\rl y<=10000000/\K (.tup [.one (.slice (((shOut l y).map acan).map aC)),errV tE (shCode l y)])) b) a
 | _=>False
theorem qag(tE m:Nat)(a b:AV)(K:AV->Prop):WZ tE m [a,b] K=(onAs (λl=>onR (λy=>(chk [l]=0->2*l.length<=m)/\okAs 10000000 l/\rl y<=10000000/\K (.tup [.one (.slice (((shOut l y).map acan).map aC)),errV tE (shCode l y)])) b) a):=propext Iff.rfl
@[congr] theorem zbK (tE m:Nat) {K:AV->Prop} {l l' : List AV} (h:l=l'):WZ tE m l K=WZ tE m l' K:=by subst h;rfl
attribute [go_sem,go_sem ↓] qag
end Go.Abs
end
section
namespace Go.Num
end Go.Num
end
section
namespace Go.Num
end Go.Num
namespace Go.Abs
open Go.Num
variable {P:Program} {Γ:Nat->Spec}
theorem ubl(k:List Arc->Prop)(x y:R):onAs k (.one (.slice [[cb x,cn x,cd x,cb y,cn y,cd y]]))=((∀z∈[(x,y)],WLA z)/\k [(x,y)]):=WJ k [(x,y)]
theorem jbh(k:List Arc->Prop)(x y x' y' : R):onAs k (.one (.slice [[cb x,cn x,cd x,cb y,cn y,cd y],[cb x',cn x',cd x',cb y',cn y',cd y']]))=((∀z∈[(x,y),(x',y')],WLA z)/\k [(x,y),(x',y')]):=WJ k [(x,y),(x',y')]
theorem ua5(k:List Arc->Prop)(x:Arc):onAs k (.one (.slice [aC x]))=((∀z∈[x],WLA z)/\k [x]):=WJ k [x]
theorem Xa7(k:List Arc->Prop)(x y:Arc):onAs k (.one (.slice [aC x,aC y]))=((∀z∈[x,y],WLA z)/\k [x,y]):=WJ k [x,y]
theorem JaV(k:List Arc->Prop)(y x' y' : R):onAs k (.one (.slice [[.lit (.bool false),.slice [],.slice [],cb y,cn y,cd y],[cb x',cn x',cd x',cb y',cn y',cd y']]))=((∀z∈[(rcan 0,y),(x',y')],WLA z)/\k [(rcan 0,y),(x',y')]):=by
 rw [Qd];exact WJ k [((false,[],[]),y),(x',y')]
attribute [go_sem,go_sem ↓] ubl jbh ua5 Xa7 JaV
def jW(l:List AV)(K:AV->Prop):Prop:=
 match l with
 | []=>K (.one (.lit (.bool true)))
 | _=>False
theorem kab(K:AV->Prop):jW [] K=(K (.one (.lit (.bool true)))):=propext Iff.rfl
@[congr] theorem jbC {K:AV->Prop} {l l' : List AV} (h:l=l'):jW l K=jW l' K:=by subst h;rfl
attribute [go_sem,go_sem ↓] kab
end Go.Abs
end
section
namespace Go.Num
instance(x:Rat)(a:Q2):Decidable (mem x a):=by unfold mem;infer_instance
instance(x:Rat)(l:List Q2):Decidable (memL x l):=by unfold memL;infer_instance
end Go.Num
end
section
namespace Go.Num
def not1(f t:Rat):List Q2:=if f<t then [(f,t)] else []
def notGo:Rat->List Q2->List Q2
 | f,[]=>not1 f 1
 | f,a::l=>not1 f a.1++notGo a.2 l
def notL(l:List Q2):List Q2:=notGo 0 l
def meet1(x y:Q2):List Q2:=not1 (mxQ x.1 y.1) (mnQ x.2 y.2)
def meetL(a b:List Q2):List Q2:=a.flatMap λx=>b.flatMap λy=>meet1 x y
end Go.Num
namespace Go.Abs
open Go.Num
variable {P:Program} {Γ:Nat->Spec}
def yaU(l:List AV)(K:AV->Prop):Prop:=
 match l with
 | [a]=>onAs (λl=>l.length<=1000/\okAs 1000000000 l/\K (.one (.slice (((notL (vals l)).map acan).map aC)))) a
 | _=>False
theorem YaL(a:AV)(K:AV->Prop):yaU [a] K=(onAs (λl=>l.length<=1000/\okAs 1000000000 l/\K (.one (.slice (((notL (vals l)).map acan).map aC)))) a):=propext Iff.rfl
@[congr] theorem WbX {K:AV->Prop} {l l' : List AV} (h:l=l'):yaU l K=yaU l' K:=by subst h;rfl
attribute [go_sem,go_sem ↓] YaL
def yai(l:List AV)(K:AV->Prop):Prop:=
 match l with
 | [a,b]=>onAs (λl=>onAs (λm=>l.length<=1000/\m.length<=1000/\okAs 1000000000 l/\okAs 1000000000 m/\K (.one (.slice (((meetL (vals l) (vals m)).map acan).map aC)))) b) a
 | _=>False
theorem Xav(a b:AV)(K:AV->Prop):yai [a,b] K=(onAs (λl=>onAs (λm=>l.length<=1000/\m.length<=1000/\okAs 1000000000 l/\okAs 1000000000 m/\K (.one (.slice (((meetL (vals l) (vals m)).map acan).map aC)))) b) a):=propext Iff.rfl
@[congr] theorem XbQ {K:AV->Prop} {l l' : List AV} (h:l=l'):yai l K=yai l' K:=by subst h;rfl
attribute [go_sem,go_sem ↓] Xav
end Go.Abs
end
section
namespace Go.Num
def res(c:Nat)(L:List Q2):List Q2:=if c=0 then lim64 L else []
def cod(c:Nat)(L:List Q2):Nat:=if c=0 then code64 L else c
end Go.Num
namespace Go.Abs
open Go.Num
variable {P:Program} {Γ:Nat->Spec}
def xX(tE m:Nat)(l:List AV)(K:AV->Prop):Prop:=
 match l with
 | [a,b]=>onAs (λl=>onAs (λk=>(chk [l,k]=0->l.length+k.length<=m)/\okAs 10000000 l/\okAs 10000000 k/\K (.tup [.one (.slice (((res (chk [l,k]) (nrm (vals l++vals k))).map acan).map aC)),errV tE (cod (chk [l,k]) (nrm (vals l++vals k)))])) b) a
 | _=>False
theorem jaa(tE m:Nat)(a b:AV)(K:AV->Prop):xX tE m [a,b] K=(onAs (λl=>onAs (λk=>(chk [l,k]=0->l.length+k.length<=m)/\okAs 10000000 l/\okAs 10000000 k/\K (.tup [.one (.slice (((res (chk [l,k]) (nrm (vals l++vals k))).map acan).map aC)),errV tE (cod (chk [l,k]) (nrm (vals l++vals k)))])) b) a):=propext Iff.rfl
@[congr] theorem QbI (tE m:Nat) {K:AV->Prop} {l l' : List AV} (h:l=l'):xX tE m l K=xX tE m l' K:=by subst h;rfl
attribute [go_sem,go_sem ↓] jaa
def Yao(tE m:Nat)(l:List AV)(K:AV->Prop):Prop:=
 match l with
 | [a,b]=>onAs (λl=>onAs (λk=>(chk [l,k]=0->l.length<=m/\k.length<=m)/\okAs 10000000 l/\okAs 10000000 k/\K (.tup [.one (.slice (((res (chk [l,k]) (meetL (nrm (vals l)) (nrm (vals k)))).map acan).map aC)),errV tE (cod (chk [l,k]) (meetL (nrm (vals l)) (nrm (vals k))))])) b) a
 | _=>False
theorem Vax(tE m:Nat)(a b:AV)(K:AV->Prop):Yao tE m [a,b] K=(onAs (λl=>onAs (λk=>(chk [l,k]=0->l.length<=m/\k.length<=m)/\okAs 10000000 l/\okAs 10000000 k/\K (.tup [.one (.slice (((res (chk [l,k]) (meetL (nrm (vals l)) (nrm (vals k)))).map acan).map aC)),errV tE (cod (chk [l,k]) (meetL (nrm (vals l)) (nrm (vals k))))])) b) a):=propext Iff.rfl
@[congr] theorem wbQ (tE m:Nat) {K:AV->Prop} {l l' : List AV} (h:l=l'):Yao tE m l K=Yao tE m l' K:=by subst h;rfl
attribute [go_sem,go_sem ↓] Vax
def xa8(tE m:Nat)(l:List AV)(K:AV->Prop):Prop:=
 match l with
 | [a]=>onAs (λl=>(chk [l]=0->l.length<=m)/\okAs 10000000 l/\K (.tup [.one (.slice (((res (chk [l]) (notL (nrm (vals l)))).map acan).map aC)),errV tE (cod (chk [l]) (notL (nrm (vals l))))])) a
 | _=>False
theorem yaM(tE m:Nat)(a:AV)(K:AV->Prop):xa8 tE m [a] K=(onAs (λl=>(chk [l]=0->l.length<=m)/\okAs 10000000 l/\K (.tup [.one (.slice (((res (chk [l]) (notL (nrm (vals l)))).map acan).map aC)),errV tE (cod (chk [l]) (notL (nrm (vals l))))])) a):=propext Iff.rfl
@[congr] theorem zbY (tE m:Nat) {K:AV->Prop} {l l' : List AV} (h:l=l'):xa8 tE m l K=xa8 tE m l' K:=by subst h;rfl
attribute [go_sem,go_sem ↓] yaM
end Go.Abs
end
section
namespace Go.Abs
open Go.Num
variable {P:Program} {Γ:Nat->Spec}
def YV(tE:Nat)(l:List AV)(K:AV->Prop):Prop:=
 match l with
 | [a,e,b,n]=>onAs (λl=>onErr tE (λc=>onAs (λm=>asInt (λk n=>k=.i64/\okAs 1073741824 l/\okAs 1073741824 m/\K (.one (.lit (.bool (decide ((c:Int)=n) && decide (vals l=vals m)))))) n) b) e) a
 | _=>False
theorem X5(tE:Nat)(a e b n:AV)(K:AV->Prop):YV tE [a,e,b,n] K=(onAs (λl=>onErr tE (λc=>onAs (λm=>asInt (λk n=>k=.i64/\okAs 1073741824 l/\okAs 1073741824 m/\K (.one (.lit (.bool (decide ((c:Int)=n) && decide (vals l=vals m)))))) n) b) e) a):=propext Iff.rfl
@[congr] theorem wbI (tE:Nat) {K:AV->Prop} {l l' : List AV} (h:l=l'):YV tE l K=YV tE l' K:=by subst h;rfl
attribute [go_sem,go_sem ↓] X5
def za2(l:List AV)(K:AV->Prop):Prop:=
 match l with
 | [a,b]=>onAs (λl=>onR (λy=>okAs 1073741824 l/\rl y<=1073741824/\K (.one (.lit (.bool (l.any (inA (rv y))))))) b) a
 | _=>False
theorem ka4(a b:AV)(K:AV->Prop):za2 [a,b] K=(onAs (λl=>onR (λy=>okAs 1073741824 l/\rl y<=1073741824/\K (.one (.lit (.bool (l.any (inA (rv y))))))) b) a):=propext Iff.rfl
@[congr] theorem WbV {K:AV->Prop} {l l' : List AV} (h:l=l'):za2 l K=za2 l' K:=by subst h;rfl
attribute [go_sem,go_sem ↓] ka4
def J3(l:List AV)(K:AV->Prop):Prop:=
 match l with
 | [a,b]=>onL (λL=>onR (λy=>(∀l∈L,okAs 1073741824 l)/\rl y<=1073741824/\L.length<=1000000/\K (.one (.lit (.int .i64 (L.countP (λl=>l.any (inA (rv y))):Nat))))) b) a
 | _=>False
theorem Zad(a b:AV)(K:AV->Prop):J3 [a,b] K=(onL (λL=>onR (λy=>(∀l∈L,okAs 1073741824 l)/\rl y<=1073741824/\L.length<=1000000/\K (.one (.lit (.int .i64 (L.countP (λl=>l.any (inA (rv y))):Nat))))) b) a):=propext Iff.rfl
@[congr] theorem QbH {K:AV->Prop} {l l' : List AV} (h:l=l'):J3 l K=J3 l' K:=by subst h;rfl
attribute [go_sem,go_sem ↓] Zad
end Go.Abs
end
section
namespace Go.Abs
open Go.Num
def rC(x:R):List C:=[cb x,cn x,cd x]
theorem Xb0(x:R):rC x=[cb x,cn x,cd x]:=eq_of_heq (HEq.refl _)
theorem Ubn(x:R):(rC x).length=3:=eq_of_heq (HEq.refl _)
theorem Xw(K:List C->Prop)(L:List R)(i:Nat):getE K (L.map rC) i=(i<L.length/\K (rC (L.getD i (rcan 0)))):=by
 simp only [getE,List.length_map,List.getElem?_map];refine propext ⟨λh=>⟨h.1,h.2 _ (by simp [h.1,List.getD_eq_getElem?_getD])⟩,λh=>⟨h.1,λe he=>?_⟩⟩
 simp [h.1]at he;subst he;have:=h.2;simpa [List.getD_eq_getElem?_getD,h.1] using this
theorem wI(l:List R):CleanR (l.map rC)=True:=eq_true λe he c hc=>by
 obtain⟨x,_,rfl⟩:=List.mem_map.1 he;exact xaE x c hc
theorem ybn(L:List R):(∀e∈L.map rC,e.length=3)=True:=eq_true λe he=>by
 obtain⟨l,_,rfl⟩:=List.mem_map.1 he;rfl
theorem yaS(h:Nat->HB)(L:List R):(L.map rC).map (λx=>x.map (datC h))=L.map rC:=by
 rw [List.map_map];exact List.map_congr_left λx _=>rfl
theorem qa7(L:List R):(L.map rC).flatMap (λx=>x.flatMap ownC)=[]:=by
 rw [List.flatMap_map];exact List.flatMap_eq_nil_iff.2 λx _=>rfl
theorem Va0(h:Nat->HB)(L:List (List Arc)):(L.map lC).map (λx=>x.map (datC h))=L.map lC:=by
 rw [List.map_map];exact List.map_congr_left λx _=>rfl
theorem WaZ(L:List (List Arc)):(L.map lC).flatMap (λx=>x.flatMap ownC)=[]:=by
 rw [List.flatMap_map];exact List.flatMap_eq_nil_iff.2 λx _=>rfl
theorem uaV(h:Nat->HB):frz [] h=h:=eq_of_heq (HEq.refl _)
attribute [go_sem,go_sem ↓] Ubn Xw wI ybn yaS qa7 Va0 WaZ uaV
end Go.Abs
end
section
namespace Go.Num
def posR:List R->Rat->Nat
 | [],_=>0
 | x::l,q=>if rv x<q then posR l q+1 else 0
def insR(l:List R)(y:R):List R:=if (l.drop (posR l (rv y))).head?.map rv=some (rv y) then l else l.take (posR l (rv y))++y::l.drop (posR l (rv y))
def okRs(b:Nat)(l:List R):Prop:=∀x∈l,WLR x/\rl x<=b
def insA(S:List R)(x:Arc):List R:=insR (insR S x.1) x.2
def marksR(L:List (List Arc)):List R:=L.flatten.foldl insA [rcan 0,rcan 1]
end Go.Num
namespace Go.Abs
open Go.Num
variable {P:Program} {Γ:Nat->Spec}
def rsA(l:List R):AV:=.one (.slice (l.map rC))
theorem wbl{x y:R}(h:rC x=rC y):x=y:=ju x y (by simpa [rC,rA] using h)
theorem Wbp(x y:List R)(h:rsA x=rsA y):x=y:=by
 simp only [rsA,AV.one.injEq,C.slice.injEq]at h;exact List.map_inj_right (λ_ _=>wbl) |>.1 h
def onRs(k:List R->Prop)(a:AV):Prop:=onE rsA (λl=>(∀x∈l,WLR x)/\k l) a
@[congr] theorem ubT {k:List R->Prop} {a a' : AV} (h:a=a'):onRs k a=onRs k a':=by subst h;rfl
theorem Ybn(k:List R->Prop)(l:List R):onRs k (.one (.slice (l.map rC)))=((∀x∈l,WLR x)/\k l):=jo Wbp (λl=>(∀x∈l,WLR x)/\k l) l
theorem Yat(l:List R):Clean (.slice (l.map rC))=True:=eq_true (.slice _ (of_eq_true (wI l)))
theorem Vbx(l:List R)(n:Nat):(l.map rC).take n=(l.take n).map rC:=by rw [List.map_take]
theorem kbo(l:List R)(n:Nat):(l.map rC).drop n=(l.drop n).map rC:=by rw [List.map_drop]
theorem Jbi(l:List R):rsA l=.one (.slice (l.map rC)):=eq_of_heq (HEq.refl _)
attribute [go_sem] Ybn Yat Jbi Vbx kbo
attribute [go_sem ↓] Ybn Yat Jbi
def yY(l:List AV)(K:AV->Prop):Prop:=
 match l with
 | [a]=>onL (λL=>(∀l∈L,okAs 1073741824 l)/\L.flatten.length<=100000/\K (.one (.slice ((marksR L).map rC)))) a
 | _=>False
theorem Vaa(a:AV)(K:AV->Prop):yY [a] K=(onL (λL=>(∀l∈L,okAs 1073741824 l)/\L.flatten.length<=100000/\K (.one (.slice ((marksR L).map rC)))) a):=propext Iff.rfl
@[congr] theorem VbJ {K:AV->Prop} {l l' : List AV} (h:l=l'):yY l K=yY l' K:=by subst h;rfl
attribute [go_sem,go_sem ↓] Vaa
def XN(l:List AV)(K:AV->Prop):Prop:=
 match l with
 | [a,b]=>onRs (λl=>onR (λy=>okRs 1073741824 l/\rl y<=1073741824/\l.length<=1000000/\K (.one (.slice ((insR l y).map rC)))) b) a
 | _=>False
theorem YP(a b:AV)(K:AV->Prop):XN [a,b] K=(onRs (λl=>onR (λy=>okRs 1073741824 l/\rl y<=1073741824/\l.length<=1000000/\K (.one (.slice ((insR l y).map rC)))) b) a):=propext Iff.rfl
@[congr] theorem Vbz {K:AV->Prop} {l l' : List AV} (h:l=l'):XN l K=XN l' K:=by subst h;rfl
attribute [go_sem,go_sem ↓] YP
end Go.Abs
end
section
namespace Go.Num
open Go.Abs
theorem ub0{α:Type}{f:α->Bool}{l:List α}{k:Nat}{x:α}(h:l[k]?=some x)(hb:f x=false):l.all f=false:=by
 rw [List.all_eq_false];exact⟨x,List.mem_of_getElem? h,by simp [hb]⟩
theorem Zbe{α:Type}{f:α->Bool}{l:List α}{k:Nat}{x:α}(h:l[k]?=some x)(ht:(l.take k).all f=true)(hb:f x=true):(l.take (k+1)).all f=true:=by
 rw [List.take_add_one,h,List.all_append,ht];simp [hb]
theorem vba{α:Type}{l:List α}{k:Nat}{x d:α}(hk:k<l.length)(h:l.getD k d=x):l[k]?=some x:=by
 rw [<-h,List.getD_eq_getElem?_getD,List.getElem?_eq_getElem hk];rfl
def sR(n:Nat)(x:R):Bool:=decide (x.2.1.length<=n) && decide (x.2.2.length<=n)
def sP(p:Ps):Bool:=sR 2 p.1.1 && (sR 2 p.2.1 && sR 2 p.2.2)
def sA(p:Arc):Bool:=sR 2 p.1 && sR 2 p.2
def placeC(l:List Arc):Nat:=if l.all avld then 0 else 2
def chkC(l:List Ps)(m:List Arc):Nat:=if threeC l≠0 then threeC l else placeC m
theorem vV{n:Nat}{x:R}(h:sR n x=true):rl x<=n:=by
 simp only [sR,Bool.and_eq_true,decide_eq_true_eq]at h;exact Nat.max_le.2 h
end Go.Num
namespace Go.Abs
open Go.Num
variable {P:Program} {Γ:Nat->Spec}
def qsA(l:List V2):AV:=.one (.slice ((l.map acan).map aC))
theorem wbj(l:List V2):qsA l=.one (.slice ((l.map acan).map aC)):=eq_of_heq (HEq.refl _)
theorem ya4(k:List Arc->Prop)(a b c d e f:C):onAs k (.one (.slice [[a,b,c,d,e,f]]))=onO (λx=>onO (λy=>WLA (x,y)/\k [(x,y)]) (dR d e f)) (dR a b c):=by
 refine propext ⟨λ⟨t,h,h1⟩=>?_,λh=>?_⟩
 .simp only [asA,as,AV.one.injEq,C.slice.injEq]at h;match t,h with
  | [z],h=>
   simp only [List.map_cons,List.map_nil,aC,List.cons.injEq,and_true]at h;obtain⟨rfl,rfl,rfl,rfl,rfl,rfl⟩:=h;simp only [dR_e,VL];exact⟨h1.1 _ (by simp),h1.2⟩
 .obtain⟨x,h1,q1⟩:=qc.1 h;obtain⟨y,h2,q2⟩:=qc.1 q1;obtain⟨rfl,rfl,rfl⟩:=Zc.1 h1;obtain⟨rfl,rfl,rfl⟩:=Zc.1 h2;exact⟨[(x,y)],rfl,λz hz=>by rw [List.mem_singleton.1 hz];exact q2.1,q2.2⟩
theorem Qa7(k:List Arc->Prop)(a b c d e f a' b' c' d' e' f' : C):onAs k (.one (.slice [[a,b,c,d,e,f],[a',b',c',d',e',f']]))=onO (λx=>onO (λy=>onO (λz=>onO (λw=>WLA (x,y)/\WLA (z,w)/\k [(x,y),(z,w)]) (dR d' e' f')) (dR a' b' c')) (dR d e f)) (dR a b c):=by
 refine propext ⟨λ⟨t,h,h1⟩=>?_,λh=>?_⟩
 .simp only [asA,as,AV.one.injEq,C.slice.injEq]at h;match t,h with
  | [z,w],h=>
   simp only [List.map_cons,List.map_nil,aC,List.cons.injEq,and_true]at h;obtain⟨⟨rfl,rfl,rfl,rfl,rfl,rfl⟩,rfl,rfl,rfl,rfl,rfl,rfl⟩:=h;simp only [dR_e,VL];exact⟨h1.1 _ (by simp),h1.1 _ (by simp),h1.2⟩
 .obtain⟨x,h1,q1⟩:=qc.1 h;obtain⟨y,h2,q2⟩:=qc.1 q1;obtain⟨z,h3,q3⟩:=qc.1 q2;obtain⟨w,h4,q4⟩:=qc.1 q3;obtain⟨rfl,rfl,rfl⟩:=Zc.1 h1;obtain⟨rfl,rfl,rfl⟩:=Zc.1 h2;obtain⟨rfl,rfl,rfl⟩:=Zc.1 h3;obtain⟨rfl,rfl,rfl⟩:=Zc.1 h4;refine⟨[(x,y),(z,w)],rfl,λv hv=>?_,q4.2.2⟩;simp only [List.mem_cons,List.not_mem_nil,or_false]at hv;rcases hv with rfl|rfl
  .exact q4.1
  .exact q4.2.1
theorem Wbk(k:List R->Prop)(a b c d e f g h i:C):onRs k (.one (.slice [[a,b,c],[d,e,f],[g,h,i]]))=onO (λx=>onO (λy=>onO (λz=>(WLR x/\WLR y/\WLR z)/\k [x,y,z]) (dR g h i)) (dR d e f)) (dR a b c):=by
 refine propext ⟨λ⟨t,h,h1⟩=>?_,λh=>?_⟩
 .simp only [rsA,AV.one.injEq,C.slice.injEq]at h;match t,h with
  | [x,y,z],h=>
   simp only [List.map_cons,List.map_nil,rC,List.cons.injEq,and_true]at h;obtain⟨⟨rfl,rfl,rfl⟩,⟨rfl,rfl,rfl⟩,rfl,rfl,rfl⟩:=h;simp only [dR_e,VL];exact⟨⟨h1.1 _ (by simp),h1.1 _ (by simp),h1.1 _ (by simp)⟩,h1.2⟩
 .obtain⟨x,h1,q1⟩:=qc.1 h;obtain⟨y,h2,q2⟩:=qc.1 q1;obtain⟨z,h3,q3⟩:=qc.1 q2;obtain⟨rfl,rfl,rfl⟩:=Zc.1 h1;obtain⟨rfl,rfl,rfl⟩:=Zc.1 h2;obtain⟨rfl,rfl,rfl⟩:=Zc.1 h3;refine⟨[x,y,z],rfl,λv hv=>?_,q3.2⟩;simp only [List.mem_cons,List.not_mem_nil,or_false]at hv;rcases hv with rfl|rfl|rfl
  .exact q3.1.1
  .exact q3.1.2.1
  .exact q3.1.2.2
theorem xbg(k:List R->Prop)(a b c d e f g h i j l m n o p:C):onRs k (.one (.slice [[a,b,c],[d,e,f],[g,h,i],[j,l,m],[n,o,p]]))=onO (λx=>onO (λy=>onO (λz=>onO (λu=>onO (λv=>(WLR x/\WLR y/\WLR z/\WLR u/\WLR v)/\k [x,y,z,u,v]) (dR n o p)) (dR j l m)) (dR g h i)) (dR d e f)) (dR a b c):=by
 refine propext ⟨λ⟨t,h,h1⟩=>?_,λh=>?_⟩
 .simp only [rsA,AV.one.injEq,C.slice.injEq]at h;match t,h with
  | [x,y,z,u,v],h=>
   simp only [List.map_cons,List.map_nil,rC,List.cons.injEq,and_true]at h;obtain⟨⟨rfl,rfl,rfl⟩,⟨rfl,rfl,rfl⟩,⟨rfl,rfl,rfl⟩,⟨rfl,rfl,rfl⟩,rfl,rfl,rfl⟩:=h;simp only [dR_e,VL];exact⟨⟨h1.1 _ (by simp),h1.1 _ (by simp),h1.1 _ (by simp),h1.1 _ (by simp),h1.1 _ (by simp)⟩,h1.2⟩
 .obtain⟨x,h1,q1⟩:=qc.1 h;obtain⟨y,h2,q2⟩:=qc.1 q1;obtain⟨z,h3,q3⟩:=qc.1 q2;obtain⟨u,h4,q4⟩:=qc.1 q3;obtain⟨v,h5,q5⟩:=qc.1 q4;obtain⟨rfl,rfl,rfl⟩:=Zc.1 h1;obtain⟨rfl,rfl,rfl⟩:=Zc.1 h2;obtain⟨rfl,rfl,rfl⟩:=Zc.1 h3;obtain⟨rfl,rfl,rfl⟩:=Zc.1 h4;obtain⟨rfl,rfl,rfl⟩:=Zc.1 h5;refine⟨[x,y,z,u,v],rfl,λw hw=>?_,q5.2⟩;obtain⟨w1,w2,w3,w4,w5⟩:=q5.1;simp only [List.mem_cons,List.not_mem_nil,or_false]at hw;rcases hw with rfl|rfl|rfl|rfl|rfl <;> assumption
attribute [go_sem,go_sem ↓] ya4 Qa7 Wbk xbg wbj
def yaK(tE:Nat)(l:List AV)(K:AV->Prop):Prop:=
 match l with
 | [a]=>onPs (λl=>okPs 100000000 l/\K (errV tE (if l.all pvld=true then 0 else 2))) a
 | _=>False
theorem UaV(tE:Nat)(a:AV)(K:AV->Prop):yaK tE [a] K=(onPs (λl=>okPs 100000000 l/\K (errV tE (if l.all pvld=true then 0 else 2))) a):=propext Iff.rfl
@[congr] theorem JbS (tE:Nat) {K:AV->Prop} {l l' : List AV} (h:l=l'):yaK tE l K=yaK tE l' K:=by subst h;rfl
attribute [go_sem,go_sem ↓] UaV
def uaN(tE:Nat)(l:List AV)(K:AV->Prop):Prop:=
 match l with
 | [a]=>onPs (λl=>okPs 100000000 l/\K (errV tE (plchk l))) a
 | _=>False
theorem ja7(tE:Nat)(a:AV)(K:AV->Prop):uaN tE [a] K=(onPs (λl=>okPs 100000000 l/\K (errV tE (plchk l))) a):=propext Iff.rfl
@[congr] theorem qb0 (tE:Nat) {K:AV->Prop} {l l' : List AV} (h:l=l'):uaN tE l K=uaN tE l' K:=by subst h;rfl
attribute [go_sem,go_sem ↓] ja7
def wal(l:List AV)(K:AV->Prop):Prop:=
 match l with
 | [a]=>onPs (λl=>okPs 100000000 l/\K (.one (.lit (.int .i64 (plchk l:Nat))))) a
 | _=>False
theorem xav(a:AV)(K:AV->Prop):wal [a] K=(onPs (λl=>okPs 100000000 l/\K (.one (.lit (.int .i64 (plchk l:Nat))))) a):=propext Iff.rfl
@[congr] theorem ybP {K:AV->Prop} {l l' : List AV} (h:l=l'):wal l K=wal l' K:=by subst h;rfl
attribute [go_sem,go_sem ↓] xav
def W1(l:List AV)(K:AV->Prop):Prop:=
 match l with
 | [a]=>onPs (λl=>okPs 100000000 l/\K (.one (.lit (.int .i64 (threeC l:Nat))))) a
 | _=>False
theorem Qab(a:AV)(K:AV->Prop):W1 [a] K=(onPs (λl=>okPs 100000000 l/\K (.one (.lit (.int .i64 (threeC l:Nat))))) a):=propext Iff.rfl
@[congr] theorem UbC {K:AV->Prop} {l l' : List AV} (h:l=l'):W1 l K=W1 l' K:=by subst h;rfl
attribute [go_sem,go_sem ↓] Qab
def xai(tE:Nat)(l:List AV)(K:AV->Prop):Prop:=
 match l with
 | [a,b]=>onPs (λl=>onA (λq=>okPs 1000000 l/\al q<=1000000/\l.length<=100000/\K (.tup [qsA (if imgC l q=0 then imgs l q else []),errV tE (imgC l q)])) b) a
 | _=>False
theorem Xat(tE:Nat)(a b:AV)(K:AV->Prop):xai tE [a,b] K=(onPs (λl=>onA (λq=>okPs 1000000 l/\al q<=1000000/\l.length<=100000/\K (.tup [qsA (if imgC l q=0 then imgs l q else []),errV tE (imgC l q)])) b) a):=propext Iff.rfl
@[congr] theorem JbO (tE:Nat) {K:AV->Prop} {l l' : List AV} (h:l=l'):xai tE l K=xai tE l' K:=by subst h;rfl
attribute [go_sem,go_sem ↓] Xat
def JK(l:List AV)(K:AV->Prop):Prop:=
 match l with
 | [a,b]=>onPs (λl=>onA (λq=>okPs 1000000 l/\al q<=1000000/\l.length<=100000/\K (qsA (imgs l q))) b) a
 | _=>False
theorem QT(a b:AV)(K:AV->Prop):JK [a,b] K=(onPs (λl=>onA (λq=>okPs 1000000 l/\al q<=1000000/\l.length<=100000/\K (qsA (imgs l q))) b) a):=propext Iff.rfl
@[congr] theorem uby {K:AV->Prop} {l l' : List AV} (h:l=l'):JK l K=JK l' K:=by subst h;rfl
attribute [go_sem,go_sem ↓] QT
def kY(l:List AV)(K:AV->Prop):Prop:=
 match l with
 | [a]=>onPs (λl=>okPs 4294967296 l/\K (.one (.lit (.bool (l.all sP))))) a
 | _=>False
theorem V7(a:AV)(K:AV->Prop):kY [a] K=(onPs (λl=>okPs 4294967296 l/\K (.one (.lit (.bool (l.all sP))))) a):=propext Iff.rfl
@[congr] theorem zbB {K:AV->Prop} {l l' : List AV} (h:l=l'):kY l K=kY l' K:=by subst h;rfl
attribute [go_sem,go_sem ↓] V7
def WX(l:List AV)(K:AV->Prop):Prop:=
 match l with
 | [a]=>onAs (λl=>okAs 4294967296 l/\K (.one (.lit (.bool (l.all sA))))) a
 | _=>False
theorem wab(a:AV)(K:AV->Prop):WX [a] K=(onAs (λl=>okAs 4294967296 l/\K (.one (.lit (.bool (l.all sA))))) a):=propext Iff.rfl
@[congr] theorem YbC {K:AV->Prop} {l l' : List AV} (h:l=l'):WX l K=WX l' K:=by subst h;rfl
attribute [go_sem,go_sem ↓] wab
def UV(l:List AV)(K:AV->Prop):Prop:=
 match l with
 | [a]=>onPs (λl=>okPs 4294967296 l/\K (.one (.lit (.bool (decide (l.length<=20) && l.all sP))))) a
 | _=>False
theorem Q8(a:AV)(K:AV->Prop):UV [a] K=(onPs (λl=>okPs 4294967296 l/\K (.one (.lit (.bool (decide (l.length<=20) && l.all sP))))) a):=propext Iff.rfl
@[congr] theorem UbA {K:AV->Prop} {l l' : List AV} (h:l=l'):UV l K=UV l' K:=by subst h;rfl
attribute [go_sem,go_sem ↓] Q8
def Yam(tE:Nat)(l:List AV)(K:AV->Prop):Prop:=
 match l with
 | [a,b]=>onPs (λl=>onAs (λm=>okPs 100000000 l/\okAs 100000000 m/\K (errV tE (chkC l m))) b) a
 | _=>False
theorem qaE(tE:Nat)(a b:AV)(K:AV->Prop):Yam tE [a,b] K=(onPs (λl=>onAs (λm=>okPs 100000000 l/\okAs 100000000 m/\K (errV tE (chkC l m))) b) a):=propext Iff.rfl
@[congr] theorem zbR (tE:Nat) {K:AV->Prop} {l l' : List AV} (h:l=l'):Yam tE l K=Yam tE l' K:=by subst h;rfl
attribute [go_sem,go_sem ↓] qaE
def Vak(l:List AV)(K:AV->Prop):Prop:=
 match l with
 | [a,b]=>onRs (λl=>onRs (λm=>okRs 4294967296 l/\K (.one (.lit (.bool (decide (l=m)))))) b) a
 | _=>False
theorem Qax(a b:AV)(K:AV->Prop):Vak [a,b] K=(onRs (λl=>onRs (λm=>okRs 4294967296 l/\K (.one (.lit (.bool (decide (l=m)))))) b) a):=propext Iff.rfl
@[congr] theorem wbO {K:AV->Prop} {l l' : List AV} (h:l=l'):Vak l K=Vak l' K:=by subst h;rfl
attribute [go_sem,go_sem ↓] Qax
end Go.Abs
end
section
namespace Go.Num
open Go.Abs
def ctrQ(p u v:V2):V2:=(p.1+(sqQ u*v.2-sqQ v*u.2) / (2*crossQ u v),p.2+(sqQ v*u.1-sqQ u*v.1) / (2*crossQ u v))
def ciQ(p u v:V2):V2:=if crossQ u v=0 then (0,0) else ctrQ p u v
def ciL(l:List Arc):V2:=ciQ (av (l.getD 0 a0)) (subQ (av (l.getD 1 a0)) (av (l.getD 0 a0))) (subQ (av (l.getD 2 a0)) (av (l.getD 0 a0)))
def crL(l:List Arc):Rat:=crossQ (subQ (av (l.getD 1 a0)) (av (l.getD 0 a0))) (subQ (av (l.getD 2 a0)) (av (l.getD 0 a0)))
end Go.Num
namespace Go.Abs
open Go.Num
variable {P:Program} {Γ:Nat->Spec}
def zaj(tE:Nat)(l:List AV)(K:AV->Prop):Prop:=
 match l with
 | [a]=>onAs (λl=>okAs 1000000 l/\3<=l.length/\K (.tup [pQ (ciL l),errV tE (if crL l=0 then 8 else 0)])) a
 | _=>False
theorem jax(tE:Nat)(a:AV)(K:AV->Prop):zaj tE [a] K=(onAs (λl=>okAs 1000000 l/\3<=l.length/\K (.tup [pQ (ciL l),errV tE (if crL l=0 then 8 else 0)])) a):=propext Iff.rfl
@[congr] theorem VbQ (tE:Nat) {K:AV->Prop} {l l' : List AV} (h:l=l'):zaj tE l K=zaj tE l' K:=by subst h;rfl
attribute [go_sem,go_sem ↓] jax
def jal(l:List AV)(K:AV->Prop):Prop:=
 match l with
 | [a]=>onAs (λl=>okAs 1000000 l/\3<=l.length/\K (.tup [pQ (ciL l),.one (.lit (.bool (decide (crL l≠0))))])) a
 | _=>False
theorem Jaz(a:AV)(K:AV->Prop):jal [a] K=(onAs (λl=>okAs 1000000 l/\3<=l.length/\K (.tup [pQ (ciL l),.one (.lit (.bool (decide (crL l≠0))))])) a):=propext Iff.rfl
@[congr] theorem VbO {K:AV->Prop} {l l' : List AV} (h:l=l'):jal l K=jal l' K:=by subst h;rfl
attribute [go_sem,go_sem ↓] Jaz
end Go.Abs
end
section
namespace Go.Abs
open Go.Num
variable {P:Program} {Γ:Nat->Spec}
def V3(l:List AV)(K:AV->Prop):Prop:=
 match l with
 | [a]=>asInt (λk n=>k=.i64/\n=1/\K (.one (.lit (.string ⟨#[49]⟩)))) a
 | _=>False
theorem vaa(a:AV)(K:AV->Prop):V3 [a] K=(asInt (λk n=>k=.i64/\n=1/\K (.one (.lit (.string ⟨#[49]⟩)))) a):=propext Iff.rfl
@[congr] theorem VbH {K:AV->Prop} {l l' : List AV} (h:l=l'):V3 l K=V3 l' K:=by subst h;rfl
attribute [go_sem,go_sem ↓] vaa
def kam(l:List AV)(K:AV->Prop):Prop:=
 match l with
 | [a,b]=>asInt (λk n=>k=.i64/\n=1/\asInt (λk m=>k=.i64/\m=10/\K (.one (.lit (.string ⟨#[49]⟩)))) b) a
 | _=>False
theorem Xap(a b:AV)(K:AV->Prop):kam [a,b] K=(asInt (λk n=>k=.i64/\n=1/\asInt (λk m=>k=.i64/\m=10/\K (.one (.lit (.string ⟨#[49]⟩)))) b) a):=propext Iff.rfl
@[congr] theorem ybQ {K:AV->Prop} {l l' : List AV} (h:l=l'):kam l K=kam l' K:=by subst h;rfl
attribute [go_sem,go_sem ↓] Xap
def kal(l:List AV)(K:AV->Prop):Prop:=
 match l with
 | [a]=>asInt (λk n=>k=.i64/\n=1/\K (.one (.lit (.string ⟨#[49]⟩)))) a
 | _=>False
theorem zaD(a:AV)(K:AV->Prop):kal [a] K=(asInt (λk n=>k=.i64/\n=1/\K (.one (.lit (.string ⟨#[49]⟩)))) a):=propext Iff.rfl
@[congr] theorem QbQ {K:AV->Prop} {l l' : List AV} (h:l=l'):kal l K=kal l' K:=by subst h;rfl
attribute [go_sem,go_sem ↓] zaD
def kai(l:List AV)(K:AV->Prop):Prop:=
 match l with
 | [a,b]=>a=.one (.slice [[.lit (.string ⟨#[49]⟩)]])/\b=.one (.lit (.string ⟨#[]⟩))/\K (.one (.lit (.string ⟨#[49]⟩)))
 | _=>False
theorem jaA(a b:AV)(K:AV->Prop):kai [a,b] K=(a=.one (.slice [[.lit (.string ⟨#[49]⟩)]])/\b=.one (.lit (.string ⟨#[]⟩))/\K (.one (.lit (.string ⟨#[49]⟩)))):=propext Iff.rfl
@[congr] theorem ybO {K:AV->Prop} {l l' : List AV} (h:l=l'):kai l K=kai l' K:=by subst h;rfl
attribute [go_sem,go_sem ↓] jaA
def Qan(l:List AV)(K:AV->Prop):Prop:=
 match l with
 | [a]=>onW (λw=>zv w=1/\K (.one (.lit (.string ⟨#[49]⟩)))) a
 | _=>False
theorem YaB(a:AV)(K:AV->Prop):Qan [a] K=(onW (λw=>zv w=1/\K (.one (.lit (.string ⟨#[49]⟩)))) a):=propext Iff.rfl
@[congr] theorem VbR {K:AV->Prop} {l l' : List AV} (h:l=l'):Qan l K=Qan l' K:=by subst h;rfl
attribute [go_sem,go_sem ↓] YaB
def wak(l:List AV)(K:AV->Prop):Prop:=
 match l with
 | [a]=>onR (λx=>rv x=1/\rl x<=4294967296/\K (.one (.lit (.string ⟨#[49]⟩)))) a
 | _=>False
theorem xay(a:AV)(K:AV->Prop):wak [a] K=(onR (λx=>rv x=1/\rl x<=4294967296/\K (.one (.lit (.string ⟨#[49]⟩)))) a):=propext Iff.rfl
@[congr] theorem qbS {K:AV->Prop} {l l' : List AV} (h:l=l'):wak l K=wak l' K:=by subst h;rfl
attribute [go_sem,go_sem ↓] xay
def ub:AC:=(.seq (.ops false [.m 2 (.c (.one (.lit (.string ⟨#[]⟩))))])
 (.fg [0] (.seq (.seq (.ops false [.m 3 (.t 0),.u 4 (.bin .lss (.t 3) (.i 10))])
 (.fg [0,4] (.cond (.t 4) (.seq (.ops false [.m 5 (.t 0),.m 6 (.t 0),.u 7 (.bin .add (.t 6) (.i 1)),.u 8 (.sop 0 [(.c (.one (.lit (.string ⟨#[48,49,50,51,52,53,54,55,56,57,97,98,99,100,101,102,103,104,105,106,107,108,109,110,111,112,113,114,115,116,117,118,119,120,121,122]⟩)))),(.t 5),(.t 7)]),.m 2 (.t 8)])
 .ret) .skip)))
 (.fg [0] (.seq (.ops false [.m 9 (.t 0),.u 10 (.bin .mul (.t 9) (.i 2)),.m 11 (.t 0),.u 12 (.bin .mul (.t 11) (.i 2)),.u 13 (.bin .add (.t 12) (.i 2)),.u 14 (.sop 0 [(.c (.one (.lit (.string ⟨#[48,48,48,49,48,50,48,51,48,52,48,53,48,54,48,55,48,56,48,57,49,48,49,49,49,50,49,51,49,52,49,53,49,54,49,55,49,56,49,57,50,48,50,49,50,50,50,51,50,52,50,53,50,54,50,55,50,56,50,57,51,48,51,49,51,50,51,51,51,52,51,53,51,54,51,55,51,56,51,57,52,48,52,49,52,50,52,51,52,52,52,53,52,54,52,55,52,56,52,57,53,48,53,49,53,50,53,51,53,52,53,53,53,54,53,55,53,56,53,57,54,48,54,49,54,50,54,51,54,52,54,53,54,54,54,55,54,56,54,57,55,48,55,49,55,50,55,51,55,52,55,53,55,54,55,55,55,56,55,57,56,48,56,49,56,50,56,51,56,52,56,53,56,54,56,55,56,56,56,57,57,48,57,49,57,50,57,51,57,52,57,53,57,54,57,55,57,56,57,57]⟩)))),(.t 10),(.t 13)]),.m 2 (.t 14)])
 .ret)))))
def kd(f0 f1 f2 f3:Nat):AC:=(.seq (.ops false [.m 4 (.c (.one (.lit (.string ⟨#[]⟩))))])
 (.fg [0,1] (.seq (.seq (.ops false [.m 10 (.t 1),.u 11 (.bin .eql (.t 10) (.i 10))])
 (.fg [0,1,11] (.cond (.t 11) (.seq (.seq (.ops false [.m 12 (.t 0),.u 13 (.bin .leq (.i 0) (.t 12)),.m 14 (.t 13),.w 15 14 true (.mv (.t 0)),.w 16 14 true (.bin .lss (.t 15) (.i 100)),.u 17 (.pick (.t 14) (.t 16) .fa)])
 (.fg [0,17] (.cond (.t 17) (.seq (.ops false [.m 18 (.t 0),.u 19 (.call f0 [(.t 18)]),.m 4 (.t 19)])
 .ret) .skip)))
 (.fg [0] (.seq (.ops false [.u 5 (.alloc [(.lit (.int .u8 0)),(.lit (.int .u8 0)),(.lit (.int .u8 0)),(.lit (.int .u8 0)),(.lit (.int .u8 0)),(.lit (.int .u8 0)),(.lit (.int .u8 0)),(.lit (.int .u8 0)),(.lit (.int .u8 0)),(.lit (.int .u8 0)),(.lit (.int .u8 0)),(.lit (.int .u8 0)),(.lit (.int .u8 0)),(.lit (.int .u8 0)),(.lit (.int .u8 0)),(.lit (.int .u8 0)),(.lit (.int .u8 0)),(.lit (.int .u8 0)),(.lit (.int .u8 0)),(.lit (.int .u8 0)),(.lit (.int .u8 0)),(.lit (.int .u8 0)),(.lit (.int .u8 0)),(.lit (.int .u8 0))])])
 (.fg [0,5] (.seq (.ops false [.m 20 (.t 0),.u 21 (.conv .u64 (.t 20)),.m 6 (.t 21)])
 (.fg [0,5,6] (.seq (.seq (.ops false [.m 22 (.t 0),.u 23 (.bin .lss (.t 22) (.i 0))])
 (.fg [0,5,6,23] (.cond (.t 23) (.ops false [.m 24 (.t 6),.u 25 (.un .neg (.t 24)),.m 6 (.t 25)]) .skip)))
 (.fg [0,5,6] (.seq (.ops false [.m 26 (.t 6),.u 27 (.call f1 [(.t 26)]),.m 7 (.t 27)])
 (.fg [0,5,6,7] (.seq (.ops false [.m 28 (.t 7),.u 29 (.bin .add (.i 1) (.t 28)),.u 30 (.bad),.m 31 (.t 6),.u 32 (.call f2 [(.t 30),(.t 31)])])
 (.fg [0,5,7] (.seq (.seq (.ops false [.m 33 (.t 0),.u 34 (.bin .lss (.t 33) (.i 0))])
 (.fg [5,7,34] (.cond (.t 34) (.seq (.ops false [.u 35 (.ai 1 24 (.t 5) (.i 0)),.n (.st none 1 (.t 35) (.c (.one (.lit (.int .u8 45)))))])
 (.fg [7] (.seq (.ops false [.m 36 (.t 7),.u 37 (.bin .add (.i 1) (.t 36)),.u 38 (.bad),.u 39 (.bad),.m 4 (.t 39)])
 .ret))) .skip)))
 (.fg [7] (.seq (.ops false [.m 40 (.t 7),.u 41 (.bin .add (.i 1) (.t 40)),.u 42 (.bad),.u 43 (.bad),.m 4 (.t 43)])
 .ret))))))))))))))) .skip)))
 (.fg [0,1] (.seq (.ops false [.m 45 (.t 0),.u 46 (.conv .u64 (.t 45)),.m 47 (.t 1),.m 48 (.t 0),.u 49 (.bin .lss (.t 48) (.i 0)),.u 50 (.call f3 [(.c (.one .emp)),(.t 46),(.t 47),(.t 49),.fa]),.m 44 (.t 50),.u 51 (.ext 0 (.t 44)),.u 52 (.ext 1 (.t 44)),.m 8 (.t 51),.m 9 (.t 52)])
 (.fg [9] (.seq (.ops false [.m 53 (.t 9),.m 4 (.t 53)])
 .ret)))))))
def Jf(f0:Nat):AC:=(.seq (.ops false [.m 2 (.c (.one (.lit (.string ⟨#[]⟩))))])
 (.fg [0] (.seq (.ops false [.m 3 (.t 0),.u 4 (.call f0 [(.t 3),(.i 10)]),.m 2 (.t 4)])
 .ret)))
def Xt(f0:Nat):AC:=(.seq (.ops false [.m 2 (.c (.one (.lit (.string ⟨#[]⟩))))])
 (.fg [0] (.seq (.ops false [.m 3 (.t 0),.u 4 (.call f0 [(.t 3)]),.m 2 (.t 4)])
 .ret)))
def ut(f0 f1 f2:Nat):AC:=(.seq (.ops false [.m 4 (.c (.one (.lit (.string ⟨#[]⟩))))])
 (.fg [0,1] (.seq (.seq (.ops false [.m 11 (.t 0),.u 12 (.len (.t 11))])
 (.fg [0,1,12] (.block 0 (.seq (.ops false [.u 14 (.bin .eql (.t 12) (.i 0)),.m 13 (.t 14)])
 (.fg [0,1,12,13] (.cond (.t 13) (.seq (.ops false [.m 4 (.c (.one (.lit (.string ⟨#[]⟩))))])
 .ret) (.seq (.ops false [.u 16 (.bin .eql (.t 12) (.i 1)),.m 15 (.t 16)])
 (.fg [0,1,15] (.cond (.t 15) (.seq (.ops false [.m 17 (.t 0),.u 18 (.idx 1 (.t 17) (.i 0)),.u 19 (.ld none 1 false (.t 18)),.m 4 (.t 19)])
 .ret) .skip)))))))))
 (.fg [0,1] (.seq (.ops false [.m 5 (.i 0)])
 (.fg [0,1,5] (.seq (.seq (.ops false [.m 20 (.t 1),.u 21 (.bad),.u 22 (.bin .gtr (.t 21) (.i 0))])
 (.fg [0,1,5,22] (.cond (.t 22) (.seq (.seq (.ops false [.m 23 (.t 1),.u 24 (.bad),.m 25 (.t 0),.u 26 (.len (.t 25)),.u 27 (.bin .sub (.t 26) (.i 1)),.u 28 (.bin .quo (.i 9223372036854775807) (.t 27)),.u 29 (.bin .geq (.t 24) (.t 28))])
 (.fg [0,1,5,29] (.cond (.t 29) (.ops false [.u 30 (.bad),.n (.bad)]) .skip)))
 (.fg [0,1,5] (.ops false [.m 31 (.t 5),.m 32 (.t 1),.u 33 (.bad),.m 34 (.t 0),.u 35 (.len (.t 34)),.u 36 (.bin .sub (.t 35) (.i 1)),.u 37 (.bin .mul (.t 33) (.t 36)),.u 38 (.bin .add (.t 31) (.t 37)),.m 5 (.t 38)]))) .skip)))
 (.fg [0,1,5] (.seq (.seq (.ops false [.m 39 (.t 0),.u 40 (.len (.t 39)),.m 41 (.i 0)])
 (.fg [0,1,5,39,40,41] (.block 1 (.loop (.seq (.ops false [.u 42 (.bin .lss (.t 41) (.t 40))])
 (.fg [0,1,5,39,40,41,42] (.seq (.cond (.t 42) .skip (.exit 1))
 (.fg [0,1,5,39,40,41] (.seq (.block 2 (.seq (.ops false [.u 43 (.idx 1 (.t 39) (.t 41)),.u 44 (.ld none 1 false (.t 43)),.m 7 (.t 44)])
 (.fg [0,1,5,7,39,40,41] (.seq (.seq (.ops false [.m 45 (.t 7),.u 46 (.bad),.m 47 (.t 5),.u 48 (.bin .sub (.i 9223372036854775807) (.t 47)),.u 49 (.bin .gtr (.t 46) (.t 48))])
 (.fg [0,1,5,7,39,40,41,49] (.cond (.t 49) (.ops false [.u 50 (.bad),.n (.bad)]) .skip)))
 (.fg [0,1,5,7,39,40,41] (.ops false [.m 51 (.t 5),.m 52 (.t 7),.u 53 (.bad),.u 54 (.bin .add (.t 51) (.t 53)),.m 5 (.t 54)]))))))
 (.fg [0,1,5,39,40,41] (.ops false [.u 55 (.bin .add (.t 41) (.i 1)),.m 41 (.t 55)])))))))))))
 (.fg [0,1,5] (.seq (.ops false [.u 8 (.alloc [(.lit (.pointer none)),.emp])])
 (.fg [0,1,5,8] (.seq (.ops false [.m 56 (.t 5),.u 57 (.call f0 [(.t 8),(.t 56)])])
 (.fg [0,1,8] (.seq (.ops false [.m 58 (.t 0),.u 59 (.idx 1 (.t 58) (.i 0)),.u 60 (.ld none 1 false (.t 59)),.u 61 (.call f1 [(.t 8),(.t 60)])])
 (.fg [0,1,8] (.seq (.seq (.ops false [.m 62 (.t 0),.u 63 (.sl 1 (.t 62) (some (.i 1)) none),.u 64 (.len (.t 63)),.m 65 (.i 0)])
 (.fg [1,8,63,64,65] (.block 3 (.loop (.seq (.ops false [.u 66 (.bin .lss (.t 65) (.t 64))])
 (.fg [1,8,63,64,65,66] (.seq (.cond (.t 66) .skip (.exit 3))
 (.fg [1,8,63,64,65] (.seq (.block 4 (.seq (.ops false [.u 67 (.idx 1 (.t 63) (.t 65)),.u 68 (.ld none 1 false (.t 67)),.m 10 (.t 68)])
 (.fg [1,8,10,63,64,65] (.seq (.ops false [.m 69 (.t 1),.u 70 (.call f1 [(.t 8),(.t 69)])])
 (.fg [1,8,10,63,64,65] (.ops false [.m 71 (.t 10),.u 72 (.call f1 [(.t 8),(.t 71)])]))))))
 (.fg [1,8,63,64,65] (.ops false [.u 73 (.bin .add (.t 65) (.i 1)),.m 65 (.t 73)])))))))))))
 (.fg [8] (.seq (.ops false [.u 74 (.call f2 [(.t 8)]),.m 4 (.t 74)])
 .ret)))))))))))))))))))
def wt(f0 f1 f2 f3 f4 f5:Nat):AC:=(.seq (.ops false [.u 1 (.box 2 (.t 0)),.m 2 (.c (.one (.lit (.string ⟨#[]⟩))))])
 (.fg [1] (.seq (.ops false [.u 8 (.ld none 2 true (.t 1)),.u 9 (.call f0 [(.t 8)]),.m 3 (.t 9)])
 (.fg [1,3] (.seq (.seq (.ops false [.m 10 (.t 3),.u 11 (.len (.t 10)),.u 12 (.bin .eql (.t 11) (.i 0))])
 (.fg [1,3,12] (.cond (.t 12) (.seq (.ops false [.m 2 (.c (.one (.lit (.string ⟨#[48]⟩))))])
 .ret) .skip)))
 (.fg [1,3] (.seq (.ops false [.m 4 (.c (.one .emp))])
 (.fg [1,3,4] (.seq (.block 0 (.loop (.seq (.seq (.ops false [.m 13 (.t 3),.u 14 (.len (.t 13)),.u 15 (.bin .gtr (.t 14) (.i 0))])
 (.fg [1,3,4,15] (.cond (.t 15) .skip (.exit 0))))
 (.fg [1,3,4] (.block 1 (.seq (.ops false [.m 5 (.c (.one (.lit (.int .u32 0))))])
 (.fg [1,3,4] (.seq (.ops false [.m 17 (.t 3),.u 18 (.call f1 [(.t 17),(.c (.one (.lit (.int .u32 1000000000))))]),.m 16 (.t 18),.u 19 (.ext 0 (.t 16)),.u 20 (.ext 1 (.t 16)),.m 3 (.t 19),.m 5 (.t 20)])
 (.fg [1,3,4,5] (.seq (.ops false [.m 21 (.t 5),.u 22 (.conv .i64 (.t 21)),.u 23 (.call f2 [(.t 22)]),.m 6 (.t 23)])
 (.fg [1,3,4,6] (.seq (.seq (.ops false [.m 24 (.t 3),.u 25 (.len (.t 24)),.u 26 (.bin .gtr (.t 25) (.i 0))])
 (.fg [1,3,4,6,26] (.cond (.t 26) (.ops false [.m 27 (.t 6),.u 28 (.bad),.u 29 (.bin .sub (.i 9) (.t 28)),.u 30 (.call f3 [(.c (.one (.lit (.string ⟨#[48]⟩)))),(.t 29)]),.m 31 (.t 6),.u 32 (.sop 2 [(.t 30),(.t 31)]),.m 6 (.t 32)]) .skip)))
 (.fg [1,3,4,6] (.ops false [.m 33 (.t 6),.u 34 (.row 1 [[.x 1 (.t 33)]]),.m 35 (.t 4),.u 36 (.app 1 (.t 34) (.t 35)),.m 4 (.t 36)]))))))))))))))
 (.fg [1,4] (.seq (.ops false [.m 37 (.t 4),.u 38 (.call f4 [(.t 37),(.c (.one (.lit (.string ⟨#[]⟩))))]),.m 7 (.t 38)])
 (.fg [1,7] (.seq (.seq (.ops false [.u 39 (.ld none 2 true (.t 1)),.u 40 (.call f5 [(.t 39)])])
 (.fg [7,40] (.cond (.t 40) (.ops false [.m 41 (.t 7),.u 42 (.sop 2 [(.c (.one (.lit (.string ⟨#[45]⟩)))),(.t 41)]),.m 7 (.t 42)]) .skip)))
 (.fg [7] (.seq (.ops false [.m 43 (.t 7),.m 2 (.t 43)])
 .ret)))))))))))))))
def Qm(f0 f1 f2 f3:Nat):AC:=(.seq (.ops false [.u 1 (.box 3 (.t 0)),.m 2 (.c (.one (.lit (.string ⟨#[]⟩))))])
 (.fg [1] (.seq (.ops false [.u 6 (.ld none 3 true (.t 1)),.u 7 (.call f0 [(.t 6)]),.m 5 (.t 7),.u 8 (.ext 0 (.t 5)),.u 9 (.ext 1 (.t 5)),.u 3 (.alloc [(.lit (.bool false)),.emp]),.u 4 (.alloc [(.lit (.bool false)),.emp]),.n (.st none 2 (.t 3) (.t 8)),.n (.st none 2 (.t 4) (.t 9))])
 (.fg [3,4] (.seq (.seq (.ops true [.u 10 (.ld none 2 true (.t 4)),.u 11 (.call f1 []),.u 12 (.call f2 [(.t 10),(.t 11)]),.u 13 (.bin .eql (.t 12) (.i 0))])
 (.fg [3,4,13] (.cond (.t 13) (.seq (.ops false [.u 14 (.ld none 2 true (.t 3)),.u 15 (.call f3 [(.t 14)]),.m 2 (.t 15)])
 .ret) .skip)))
 (.fg [3,4] (.seq (.ops true [.u 16 (.ld none 2 true (.t 3)),.u 17 (.call f3 [(.t 16)]),.u 18 (.sop 2 [(.t 17),(.c (.one (.lit (.string ⟨#[47]⟩))))]),.u 19 (.ld none 2 true (.t 4)),.u 20 (.call f3 [(.t 19)]),.u 21 (.sop 2 [(.t 18),(.t 20)]),.m 2 (.t 21)])
 .ret)))))))
end Go.Abs
end
