/-
  Parts of the proof, merged: ChartG, ChartQ, ChartH, ChartR, ChartW, ChartX, ComA, ChartRow, ComB, PoseD, PoseE, PoseQ, CoupQ, PoseT.
-/
import Derived.Test.YthoibmokhnoccaaGreatDoorM7
set_option linter.unusedVariables false
set_option linter.unusedSimpArgs false
set_option maxRecDepth 100000
section
namespace Go.Num
def sh1(by' : Rat)(a:Q2):List Q2:=
 let f:=frac (a.1+by')
 let t:=f+(a.2-a.1)
 if 1<t then (0,t-1)::(if f<1 then [(f,1)] else []) else (if f<t then [(f,t)] else [])
def shL(by' : Rat)(l:List Q2):List Q2:=l.flatMap (sh1 by')
def lim64(l:List Q2):List Q2:=if 64<l.length then [] else l
def code64(l:List Q2):Nat:=if 64<l.length then 4 else 0
def shOut(l:List Arc)(y:R):List Q2:=if chk [l]=0/\vldR y=true then lim64 (nrm (shL (rv y) (vals l))) else []
def shCode(l:List Arc)(y:R):Nat:=if chk [l]=0 then (if vldR y=true then code64 (nrm (shL (rv y) (vals l))) else 3) else chk [l]
end Go.Num
namespace Go.Abs
open Go.Num
variable {P:Program} {Γ:Nat->Spec}
def VH(tE m:Nat)(l:List AV)(K:AV->Prop):Prop:=
 match l with
 | [a,b]=>onAs (λl=>onR (λy=>(chk [l]=0->2*l.length<=m)/\okAs 10000000 l/\rl y<=10000000/\K (.tup [.one (.slice (((shOut l y).map acan).map aC)),errV tE (shCode l y)])) b) a
 | _=>False
theorem Qab:type_of% @VH.eq_1:=q_E @VH.eq_1
@[congr] theorem VbK tE m{K}{l l'}(h:l=l'):VH tE m l K=VH tE m l' K:=by subst h;rfl
attribute [go_sem,go_sem ↓] Qab
end Go.Abs
end
section
namespace Go.Num
end Go.Num
end
section
namespace Go.Num
end Go.Num
namespace Go.Abs
open Go.Num
variable {P:Program} {Γ:Nat->Spec}
theorem Jbo(k:List Arc->Prop)(x y:R):onAs k (.one (.slice [[cb x,cn x,cd x,cb y,cn y,cd y]]))=((∀z∈[(x,y)],WLA z)/\k [(x,y)]):=ZI k [(x,y)]
theorem vbo(k:List Arc->Prop)(x y x' y' : R):onAs k (.one (.slice [[cb x,cn x,cd x,cb y,cn y,cd y],[cb x',cn x',cd x',cb y',cn y',cd y']]))=((∀z∈[(x,y),(x',y')],WLA z)/\k [(x,y),(x',y')]):=ZI k [(x,y),(x',y')]
theorem wa9(k:List Arc->Prop)(x:Arc):onAs k (.one (.slice [aC x]))=((∀z∈[x],WLA z)/\k [x]):=ZI k [x]
theorem Wa9(k:List Arc->Prop)(x y:Arc):onAs k (.one (.slice [aC x,aC y]))=((∀z∈[x,y],WLA z)/\k [x,y]):=ZI k [x,y]
theorem xaY(k:List Arc->Prop)(y x' y' : R):onAs k (.one (.slice [[.lit (.bool false),.slice [],.slice [],cb y,cn y,cd y],[cb x',cn x',cd x',cb y',cn y',cd y']]))=((∀z∈[(rcan 0,y),(x',y')],WLA z)/\k [(rcan 0,y),(x',y')]):=by
 rw [Jf];exact ZI k [((false,[],[]),y),(x',y')]
attribute [go_sem,go_sem ↓] Jbo vbo wa9 Wa9 xaY
def uF(l:List AV)(K:AV->Prop):Prop:=
 match l with
 | []=>K (.one (.lit (.bool true)))
 | _=>False
theorem X3:type_of% @uF.eq_1:=q_E @uF.eq_1
@[congr] theorem zbM{K}{l l'}(h:l=l'):uF l K=uF l' K:=h▸rfl
attribute [go_sem,go_sem ↓] X3
end Go.Abs
end
section
namespace Go.Num
instance(x:Rat)(a:Q2):Decidable (mem x a):=by unfold mem;infer_instance
instance(x:Rat)(l:List Q2):Decidable (memL x l):=by unfold memL;infer_instance
end Go.Num
end
section
namespace Go.Num
def not1(f t:Rat):List Q2:=if f<t then [(f,t)] else []
def notGo:Rat->List Q2->List Q2
 | f,[]=>not1 f 1
 | f,a::l=>not1 f a.1++notGo a.2 l
def notL(l:List Q2):List Q2:=notGo 0 l
def meet1(x y:Q2):List Q2:=not1 (mxQ x.1 y.1) (mnQ x.2 y.2)
def meetL(a b:List Q2):List Q2:=a.flatMap λx=>b.flatMap λy=>meet1 x y
end Go.Num
namespace Go.Abs
open Go.Num
variable {P:Program} {Γ:Nat->Spec}
def uat(l:List AV)(K:AV->Prop):Prop:=
 match l with
 | [a]=>onAs (λl=>l.length<=1000/\okAs 1000000000 l/\K (.one (.slice (((notL (vals l)).map acan).map aC)))) a
 | _=>False
theorem yaO:type_of% @uat.eq_1:=q_E @uat.eq_1
@[congr] theorem Ub3{K}{l l'}(h:l=l'):uat l K=uat l' K:=h▸rfl
attribute [go_sem,go_sem ↓] yaO
def Z0(l:List AV)(K:AV->Prop):Prop:=
 match l with
 | [a,b]=>onAs (λl=>onAs (λm=>l.length<=1000/\m.length<=1000/\okAs 1000000000 l/\okAs 1000000000 m/\K (.one (.slice (((meetL (vals l) (vals m)).map acan).map aC)))) b) a
 | _=>False
theorem JaF:type_of% @Z0.eq_1:=q_E @Z0.eq_1
@[congr] theorem YbP{K}{l l'}(h:l=l'):Z0 l K=Z0 l' K:=h▸rfl
attribute [go_sem,go_sem ↓] JaF
end Go.Abs
end
section
namespace Go.Num
def res(c:Nat)(L:List Q2):List Q2:=if c=0 then lim64 L else []
def cod(c:Nat)(L:List Q2):Nat:=if c=0 then code64 L else c
end Go.Num
namespace Go.Abs
open Go.Num
variable {P:Program} {Γ:Nat->Spec}
def uG(tE m:Nat)(l:List AV)(K:AV->Prop):Prop:=
 match l with
 | [a,b]=>onAs (λl=>onAs (λk=>(chk [l,k]=0->l.length+k.length<=m)/\okAs 10000000 l/\okAs 10000000 k/\K (.tup [.one (.slice (((res (chk [l,k]) (nrm (vals l++vals k))).map acan).map aC)),errV tE (cod (chk [l,k]) (nrm (vals l++vals k)))])) b) a
 | _=>False
theorem Z5:type_of% @uG.eq_1:=q_E @uG.eq_1
@[congr] theorem QbH tE m{K}{l l'}(h:l=l'):uG tE m l K=uG tE m l' K:=by subst h;rfl
attribute [go_sem,go_sem ↓] Z5
def ZT(tE m:Nat)(l:List AV)(K:AV->Prop):Prop:=
 match l with
 | [a,b]=>onAs (λl=>onAs (λk=>(chk [l,k]=0->l.length<=m/\k.length<=m)/\okAs 10000000 l/\okAs 10000000 k/\K (.tup [.one (.slice (((res (chk [l,k]) (meetL (nrm (vals l)) (nrm (vals k)))).map acan).map aC)),errV tE (cod (chk [l,k]) (meetL (nrm (vals l)) (nrm (vals k))))])) b) a
 | _=>False
theorem kaI:type_of% @ZT.eq_1:=q_E @ZT.eq_1
@[congr] theorem VbT tE m{K}{l l'}(h:l=l'):ZT tE m l K=ZT tE m l' K:=by subst h;rfl
attribute [go_sem,go_sem ↓] kaI
def JaD(tE m:Nat)(l:List AV)(K:AV->Prop):Prop:=
 match l with
 | [a]=>onAs (λl=>(chk [l]=0->l.length<=m)/\okAs 10000000 l/\K (.tup [.one (.slice (((res (chk [l]) (notL (nrm (vals l)))).map acan).map aC)),errV tE (cod (chk [l]) (notL (nrm (vals l))))])) a
 | _=>False
theorem zaQ:type_of% @JaD.eq_1:=q_E @JaD.eq_1
@[congr] theorem ybW tE m{K}{l l'}(h:l=l'):JaD tE m l K=JaD tE m l' K:=by subst h;rfl
attribute [go_sem,go_sem ↓] zaQ
end Go.Abs
end
section
namespace Go.Abs
open Go.Num
variable {P:Program} {Γ:Nat->Spec}
def qG(tE:Nat)(l:List AV)(K:AV->Prop):Prop:=
 match l with
 | [a,e,b,n]=>onAs (λl=>onErr tE (λc=>onAs (λm=>asInt (λk n=>k=.i64/\okAs 1073741824 l/\okAs 1073741824 m/\K (.one (.lit (.bool (decide ((c:Int)=n) && decide (vals l=vals m)))))) n) b) e) a
 | _=>False
theorem Qae:type_of% @qG.eq_1:=q_E @qG.eq_1
@[congr] theorem vbN tE{K}{l l'}(h:l=l'):qG tE l K=qG tE l' K:=by subst h;rfl
attribute [go_sem,go_sem ↓] Qae
def Qas(l:List AV)(K:AV->Prop):Prop:=
 match l with
 | [a,b]=>onAs (λl=>onR (λy=>okAs 1073741824 l/\rl y<=1073741824/\K (.one (.lit (.bool (l.any (inA (rv y))))))) b) a
 | _=>False
theorem JaU:type_of% @Qas.eq_1:=q_E @Qas.eq_1
@[congr] theorem yb3{K}{l l'}(h:l=l'):Qas l K=Qas l' K:=h▸rfl
attribute [go_sem,go_sem ↓] JaU
def uE(l:List AV)(K:AV->Prop):Prop:=
 match l with
 | [a,b]=>onL (λL=>onR (λy=>(∀l∈L,okAs 1073741824 l)/\rl y<=1073741824/\L.length<=1000000/\K (.one (.lit (.int .i64 (L.countP (λl=>l.any (inA (rv y))):Nat))))) b) a
 | _=>False
theorem Zad:type_of% @uE.eq_1:=q_E @uE.eq_1
@[congr] theorem kbJ{K}{l l'}(h:l=l'):uE l K=uE l' K:=h▸rfl
attribute [go_sem,go_sem ↓] Zad
end Go.Abs
end
section
namespace Go.Abs
open Go.Num
def rC(x:R):List C:=[cb x,cn x,cd x]
theorem Xn(x:R):rC x=[cb x,cn x,cd x]:=eq_of_heq (HEq.refl _)
theorem Wbk(x:R):(rC x).length=3:=eq_of_heq (HEq.refl _)
theorem kaS(K:List C->Prop)(L:List R)(i:Nat):getE K (L.map rC) i=(i<L.length/\K (rC (L.getD i (rcan 0)))):=by
 simp only [getE,List.length_map,List.getElem?_map];refine propext ⟨λh=>⟨h.1,h.2 _ (by simp [h.1,List.getD_eq_getElem?_getD])⟩,λh=>⟨h.1,λe he=>?_⟩⟩
 simp [h.1]at he;subst he;have:=h.2;simpa [List.getD_eq_getElem?_getD,h.1] using this
theorem Zy(l:List R):CleanR (l.map rC)=True:=eq_true λe he c hc=>by
 obtain⟨x,_,rfl⟩:=List.mem_map.1 he;exact ZaL x c hc
theorem Wbi(L:List R):(∀e∈L.map rC,e.length=3)=True:=eq_true λe he=>by
 obtain⟨l,_,rfl⟩:=List.mem_map.1 he;rfl
theorem WaP(h:Nat->HB)(L:List R):(L.map rC).map (λx=>x.map (datC h))=L.map rC:=by
 rw [List.map_map];exact List.map_congr_left λx _=>rfl
theorem jaY(L:List R):(L.map rC).flatMap (λx=>x.flatMap ownC)=[]:=by
 rw [List.flatMap_map];exact List.flatMap_eq_nil_iff.2 λx _=>rfl
theorem qa7(h:Nat->HB)(L:List (List Arc)):(L.map lC).map (λx=>x.map (datC h))=L.map lC:=by
 rw [List.map_map];exact List.map_congr_left λx _=>rfl
theorem zaP(L:List (List Arc)):(L.map lC).flatMap (λx=>x.flatMap ownC)=[]:=by
 rw [List.flatMap_map];exact List.flatMap_eq_nil_iff.2 λx _=>rfl
theorem Xa7(h:Nat->HB):frz [] h=h:=eq_of_heq (HEq.refl _)
attribute [go_sem,go_sem ↓] Wbk kaS Zy Wbi WaP jaY qa7 zaP Xa7
theorem Jaf{h h' : Nat->HB}{z:Nat}{b:Bool}{es:List (List C)}{S:List R}(e:es=S.map rC):okB h h' (some ⟨es,z,b⟩) (some ⟨S.map rC,z,b⟩):=by
 subst e;exact⟨⟨rfl,rfl⟩,.inl ⟨rfl,of_eq_true (Zy S)⟩⟩
end Go.Abs
end
section
namespace Go.Num
def posR:List R->Rat->Nat
 | [],_=>0
 | x::l,q=>if rv x<q then posR l q+1 else 0
def insR(l:List R)(y:R):List R:=if (l.drop (posR l (rv y))).head?.map rv=some (rv y) then l else l.take (posR l (rv y))++y::l.drop (posR l (rv y))
def okRs(b:Nat)(l:List R):Prop:=∀x∈l,WLR x/\rl x<=b
def insA(S:List R)(x:Arc):List R:=insR (insR S x.1) x.2
def marksR(L:List (List Arc)):List R:=L.flatten.foldl insA [rcan 0,rcan 1]
end Go.Num
namespace Go.Abs
open Go.Num
variable {P:Program} {Γ:Nat->Spec}
def rsA(l:List R):AV:=.one (.slice (l.map rC))
theorem vbB{x y:R}(h:rC x=rC y):x=y:=qs x y (by simpa [rC,rA] using h)
theorem uam(x y:List R)(h:rsA x=rsA y):x=y:=by
 simp only [rsA,AV.one.injEq,C.slice.injEq]at h;exact List.map_inj_right (λ_ _=>vbB) |>.1 h
def onRs(k:List R->Prop)(a:AV):Prop:=onE rsA (λl=>(∀x∈l,WLR x)/\k l) a
@[congr] theorem ubW{k:List R->Prop}{a a'}(h:a=a'):onRs k a=onRs k a':=by subst h;rfl
theorem vaB(k:List R->Prop)(l:List R):onRs k (.one (.slice (l.map rC)))=((∀x∈l,WLR x)/\k l):=kf uam (λl=>(∀x∈l,WLR x)/\k l) l
theorem vbl{β:Type}{T:List R->(β->Prop)->Prop}(h:∀l,GoodT (T l)){a:AV}:GoodT λK=>onRs (λl=>T l K) a:=
 uz (e:=rsA) (T:=λl K=>(∀x∈l,WLR x)/\T l K) uam λl=>GoodT.and (c:=∀x∈l,WLR x) (T:=T l) λ_=>h l
theorem UE(l:List R):Clean (.slice (l.map rC))=True:=eq_true (.slice _ (of_eq_true (Zy l)))
theorem Jbu(l:List R)(n:Nat):(l.map rC).take n=(l.take n).map rC:=by rw [List.map_take]
theorem Qbw(l:List R)(n:Nat):(l.map rC).drop n=(l.drop n).map rC:=by rw [List.map_drop]
theorem Wbn(l:List R):rsA l=.one (.slice (l.map rC)):=eq_of_heq (HEq.refl _)
attribute [go_sem] vaB UE Wbn Jbu Qbw
attribute [go_sem ↓] vaB UE Wbn
def WF(l:List AV)(K:AV->Prop):Prop:=
 match l with
 | [a]=>onL (λL=>(∀l∈L,okAs 1073741824 l)/\L.flatten.length<=100000/\K (.one (.slice ((marksR L).map rC)))) a
 | _=>False
theorem kag:type_of% @WF.eq_1:=q_E @WF.eq_1
@[congr] theorem WbL{K}{l l'}(h:l=l'):WF l K=WF l' K:=h▸rfl
attribute [go_sem,go_sem ↓] kag
def VC(l:List AV)(K:AV->Prop):Prop:=
 match l with
 | [a,b]=>onRs (λl=>onR (λy=>okRs 1073741824 l/\rl y<=1073741824/\l.length<=1000000/\K (.one (.slice ((insR l y).map rC)))) b) a
 | _=>False
theorem kO:type_of% @VC.eq_1:=q_E @VC.eq_1
@[congr] theorem VbA{K}{l l'}(h:l=l'):VC l K=VC l' K:=h▸rfl
attribute [go_sem,go_sem ↓] kO
end Go.Abs
end
section
namespace Go.Num
open Go.Abs
theorem zbd{α:Type}{l:List α}{k:Nat}{x d:α}(hk:k<l.length)(h:l.getD k d=x):l[k]?=some x:=by
 rw [<-h,List.getD_eq_getElem?_getD,List.getElem?_eq_getElem hk];rfl
def sR(n:Nat)(x:R):Bool:=decide (x.2.1.length<=n) && decide (x.2.2.length<=n)
def sP(p:Ps):Bool:=sR 2 p.1.1 && (sR 2 p.2.1 && sR 2 p.2.2)
def sA(p:Arc):Bool:=sR 2 p.1 && sR 2 p.2
def placeC(l:List Arc):Nat:=if l.all avld then 0 else 2
def chkC(l:List Ps)(m:List Arc):Nat:=if threeC l≠0 then threeC l else placeC m
end Go.Num
namespace Go.Abs
open Go.Num
variable {P:Program} {Γ:Nat->Spec}
def qsA(l:List V2):AV:=.one (.slice ((l.map acan).map aC))
theorem ybl(l:List V2):qsA l=.one (.slice ((l.map acan).map aC)):=eq_of_heq (HEq.refl _)
theorem xa0(k:List Arc->Prop)(a b c d e f:C):onAs k (.one (.slice [[a,b,c,d,e,f]]))=onO (λx=>onO (λy=>WLA (x,y)/\k [(x,y)]) (dR d e f)) (dR a b c):=by
 refine propext ⟨λ⟨t,h,h1⟩=>?_,λh=>?_⟩
 .simp only [asA,as,AV.one.injEq,C.slice.injEq]at h;match t,h with
  | [z],h=>
   simp only [List.map_cons,List.map_nil,aC,List.cons.injEq,and_true]at h;obtain⟨rfl,rfl,rfl,rfl,rfl,rfl⟩:=h;simp only [dR_e,UI];exact⟨h1.1 _ (by simp),h1.2⟩
 .obtain⟨x,h1,q1⟩:=kb.1 h;obtain⟨y,h2,q2⟩:=kb.1 q1;obtain⟨rfl,rfl,rfl⟩:=Wb.1 h1;obtain⟨rfl,rfl,rfl⟩:=Wb.1 h2;exact⟨[(x,y)],rfl,λz hz=>by rw [List.mem_singleton.1 hz];exact q2.1,q2.2⟩
theorem Wa6(k:List Arc->Prop)(a b c d e f a' b' c' d' e' f' : C):onAs k (.one (.slice [[a,b,c,d,e,f],[a',b',c',d',e',f']]))=onO (λx=>onO (λy=>onO (λz=>onO (λw=>WLA (x,y)/\WLA (z,w)/\k [(x,y),(z,w)]) (dR d' e' f')) (dR a' b' c')) (dR d e f)) (dR a b c):=by
 refine propext ⟨λ⟨t,h,h1⟩=>?_,λh=>?_⟩
 .simp only [asA,as,AV.one.injEq,C.slice.injEq]at h;match t,h with
  | [z,w],h=>
   simp only [List.map_cons,List.map_nil,aC,List.cons.injEq,and_true]at h;obtain⟨⟨rfl,rfl,rfl,rfl,rfl,rfl⟩,rfl,rfl,rfl,rfl,rfl,rfl⟩:=h;simp only [dR_e,UI];exact⟨h1.1 _ (by simp),h1.1 _ (by simp),h1.2⟩
 .obtain⟨x,h1,q1⟩:=kb.1 h;obtain⟨y,h2,q2⟩:=kb.1 q1;obtain⟨z,h3,q3⟩:=kb.1 q2;obtain⟨w,h4,q4⟩:=kb.1 q3;obtain⟨rfl,rfl,rfl⟩:=Wb.1 h1;obtain⟨rfl,rfl,rfl⟩:=Wb.1 h2;obtain⟨rfl,rfl,rfl⟩:=Wb.1 h3;obtain⟨rfl,rfl,rfl⟩:=Wb.1 h4;refine⟨[(x,y),(z,w)],rfl,λv hv=>?_,q4.2.2⟩;simp only [List.mem_cons,List.not_mem_nil,or_false]at hv;rcases hv with rfl | rfl
  .exact q4.1
  .exact q4.2.1
theorem Wbp(k:List R->Prop)(a b c d e f g h i:C):onRs k (.one (.slice [[a,b,c],[d,e,f],[g,h,i]]))=onO (λx=>onO (λy=>onO (λz=>(WLR x/\WLR y/\WLR z)/\k [x,y,z]) (dR g h i)) (dR d e f)) (dR a b c):=by
 refine propext ⟨λ⟨t,h,h1⟩=>?_,λh=>?_⟩
 .simp only [rsA,AV.one.injEq,C.slice.injEq]at h;match t,h with
  | [x,y,z],h=>
   simp only [List.map_cons,List.map_nil,rC,List.cons.injEq,and_true]at h;obtain⟨⟨rfl,rfl,rfl⟩,⟨rfl,rfl,rfl⟩,rfl,rfl,rfl⟩:=h;simp only [dR_e,UI];exact⟨⟨h1.1 _ (by simp),h1.1 _ (by simp),h1.1 _ (by simp)⟩,h1.2⟩
 .obtain⟨x,h1,q1⟩:=kb.1 h;obtain⟨y,h2,q2⟩:=kb.1 q1;obtain⟨z,h3,q3⟩:=kb.1 q2;obtain⟨rfl,rfl,rfl⟩:=Wb.1 h1;obtain⟨rfl,rfl,rfl⟩:=Wb.1 h2;obtain⟨rfl,rfl,rfl⟩:=Wb.1 h3;refine⟨[x,y,z],rfl,λv hv=>?_,q3.2⟩;simp only [List.mem_cons,List.not_mem_nil,or_false]at hv;rcases hv with rfl | rfl | rfl
  .exact q3.1.1
  .exact q3.1.2.1
  .exact q3.1.2.2
theorem ubk(k:List R->Prop)(a b c d e f g h i j l m n o p:C):onRs k (.one (.slice [[a,b,c],[d,e,f],[g,h,i],[j,l,m],[n,o,p]]))=onO (λx=>onO (λy=>onO (λz=>onO (λu=>onO (λv=>(WLR x/\WLR y/\WLR z/\WLR u/\WLR v)/\k [x,y,z,u,v]) (dR n o p)) (dR j l m)) (dR g h i)) (dR d e f)) (dR a b c):=by
 refine propext ⟨λ⟨t,h,h1⟩=>?_,λh=>?_⟩
 .simp only [rsA,AV.one.injEq,C.slice.injEq]at h;match t,h with
  | [x,y,z,u,v],h=>
   simp only [List.map_cons,List.map_nil,rC,List.cons.injEq,and_true]at h;obtain⟨⟨rfl,rfl,rfl⟩,⟨rfl,rfl,rfl⟩,⟨rfl,rfl,rfl⟩,⟨rfl,rfl,rfl⟩,rfl,rfl,rfl⟩:=h;simp only [dR_e,UI];exact⟨⟨h1.1 _ (by simp),h1.1 _ (by simp),h1.1 _ (by simp),h1.1 _ (by simp),h1.1 _ (by simp)⟩,h1.2⟩
 .obtain⟨x,h1,q1⟩:=kb.1 h;obtain⟨y,h2,q2⟩:=kb.1 q1;obtain⟨z,h3,q3⟩:=kb.1 q2;obtain⟨u,h4,q4⟩:=kb.1 q3;obtain⟨v,h5,q5⟩:=kb.1 q4;obtain⟨rfl,rfl,rfl⟩:=Wb.1 h1;obtain⟨rfl,rfl,rfl⟩:=Wb.1 h2;obtain⟨rfl,rfl,rfl⟩:=Wb.1 h3;obtain⟨rfl,rfl,rfl⟩:=Wb.1 h4;obtain⟨rfl,rfl,rfl⟩:=Wb.1 h5;refine⟨[x,y,z,u,v],rfl,λw hw=>?_,q5.2⟩;obtain⟨w1,w2,w3,w4,w5⟩:=q5.1;simp only [List.mem_cons,List.not_mem_nil,or_false]at hw;rcases hw with rfl | rfl | rfl | rfl | rfl <;> assumption
attribute [go_sem,go_sem ↓] xa0 Wa6 Wbp ubk ybl
def JaA(tE:Nat)(l:List AV)(K:AV->Prop):Prop:=
 match l with
 | [a]=>onPs (λl=>okPs 100000000 l/\K (errV tE (if l.all pvld=true then 0 else 2))) a
 | _=>False
theorem JaT:type_of% @JaA.eq_1:=q_E @JaA.eq_1
@[congr] theorem ZbX tE{K}{l l'}(h:l=l'):JaA tE l K=JaA tE l' K:=by subst h;rfl
attribute [go_sem,go_sem ↓] JaT
def Waw(tE:Nat)(l:List AV)(K:AV->Prop):Prop:=
 match l with
 | [a]=>onPs (λl=>okPs 100000000 l/\K (errV tE (plchk l))) a
 | _=>False
theorem Za4:type_of% @Waw.eq_1:=q_E @Waw.eq_1
@[congr] theorem Vb0 tE{K}{l l'}(h:l=l'):Waw tE l K=Waw tE l' K:=by subst h;rfl
attribute [go_sem,go_sem ↓] Za4
def vU(l:List AV)(K:AV->Prop):Prop:=
 match l with
 | [a]=>onPs (λl=>okPs 100000000 l/\K (.one (.lit (.int .i64 (plchk l:Nat))))) a
 | _=>False
theorem Zav:type_of% @vU.eq_1:=q_E @vU.eq_1
@[congr] theorem XbS{K}{l l'}(h:l=l'):vU l K=vU l' K:=h▸rfl
attribute [go_sem,go_sem ↓] Zav
def xH(l:List AV)(K:AV->Prop):Prop:=
 match l with
 | [a]=>onPs (λl=>okPs 100000000 l/\K (.one (.lit (.int .i64 (threeC l:Nat))))) a
 | _=>False
theorem Yab:type_of% @xH.eq_1:=q_E @xH.eq_1
@[congr] theorem QbO{K}{l l'}(h:l=l'):xH l K=xH l' K:=h▸rfl
attribute [go_sem,go_sem ↓] Yab
def UT(tE:Nat)(l:List AV)(K:AV->Prop):Prop:=
 match l with
 | [a,b]=>onPs (λl=>onA (λq=>okPs 1000000 l/\al q<=1000000/\l.length<=100000/\K (.tup [qsA (if imgC l q=0 then imgs l q else []),errV tE (imgC l q)])) b) a
 | _=>False
theorem xaE:type_of% @UT.eq_1:=q_E @UT.eq_1
@[congr] theorem wbT tE{K}{l l'}(h:l=l'):UT tE l K=UT tE l' K:=by subst h;rfl
attribute [go_sem,go_sem ↓] xaE
def JB(l:List AV)(K:AV->Prop):Prop:=
 match l with
 | [a,b]=>onPs (λl=>onA (λq=>okPs 1000000 l/\al q<=1000000/\l.length<=100000/\K (qsA (imgs l q))) b) a
 | _=>False
theorem vR:type_of% @JB.eq_1:=q_E @JB.eq_1
@[congr] theorem ubA{K}{l l'}(h:l=l'):JB l K=JB l' K:=h▸rfl
attribute [go_sem,go_sem ↓] vR
def ZH(l:List AV)(K:AV->Prop):Prop:=
 match l with
 | [a]=>onPs (λl=>okPs 4294967296 l/\K (.one (.lit (.bool (l.all sP))))) a
 | _=>False
theorem jaa:type_of% @ZH.eq_1:=q_E @ZH.eq_1
@[congr] theorem zbG{K}{l l'}(h:l=l'):ZH l K=ZH l' K:=h▸rfl
attribute [go_sem,go_sem ↓] jaa
def JH(l:List AV)(K:AV->Prop):Prop:=
 match l with
 | [a]=>onAs (λl=>okAs 4294967296 l/\K (.one (.lit (.bool (l.all sA))))) a
 | _=>False
theorem Yaf:type_of% @JH.eq_1:=q_E @JH.eq_1
@[congr] theorem qbG{K}{l l'}(h:l=l'):JH l K=JH l' K:=h▸rfl
attribute [go_sem,go_sem ↓] Yaf
def JF(l:List AV)(K:AV->Prop):Prop:=
 match l with
 | [a]=>onPs (λl=>okPs 4294967296 l/\K (.one (.lit (.bool (decide (l.length<=20) && l.all sP))))) a
 | _=>False
theorem Jaa:type_of% @JF.eq_1:=q_E @JF.eq_1
@[congr] theorem JbH{K}{l l'}(h:l=l'):JF l K=JF l' K:=h▸rfl
attribute [go_sem,go_sem ↓] Jaa
def jW(tE:Nat)(l:List AV)(K:AV->Prop):Prop:=
 match l with
 | [a,b]=>onPs (λl=>onAs (λm=>okPs 100000000 l/\okAs 100000000 m/\K (errV tE (chkC l m))) b) a
 | _=>False
theorem jaw:type_of% @jW.eq_1:=q_E @jW.eq_1
@[congr] theorem ubR tE{K}{l l'}(h:l=l'):jW tE l K=jW tE l' K:=by subst h;rfl
attribute [go_sem,go_sem ↓] jaw
def wY(l:List AV)(K:AV->Prop):Prop:=
 match l with
 | [a,b]=>onRs (λl=>onRs (λm=>okRs 4294967296 l/\K (.one (.lit (.bool (decide (l=m)))))) b) a
 | _=>False
theorem waw:type_of% @wY.eq_1:=q_E @wY.eq_1
@[congr] theorem ybQ{K}{l l'}(h:l=l'):wY l K=wY l' K:=h▸rfl
attribute [go_sem,go_sem ↓] waw
end Go.Abs
end
section
namespace Go.Num
open Go.Abs
def ctrQ(p u v:V2):V2:=(p.1+(sqQ u*v.2-sqQ v*u.2) / (2*crossQ u v),p.2+(sqQ v*u.1-sqQ u*v.1) / (2*crossQ u v))
def ciQ(p u v:V2):V2:=if crossQ u v=0 then (0,0) else ctrQ p u v
def ciL(l:List Arc):V2:=ciQ (av (l.getD 0 a0)) (subQ (av (l.getD 1 a0)) (av (l.getD 0 a0))) (subQ (av (l.getD 2 a0)) (av (l.getD 0 a0)))
def crL(l:List Arc):Rat:=crossQ (subQ (av (l.getD 1 a0)) (av (l.getD 0 a0))) (subQ (av (l.getD 2 a0)) (av (l.getD 0 a0)))
end Go.Num
namespace Go.Abs
open Go.Num
variable {P:Program} {Γ:Nat->Spec}
def xY(tE:Nat)(l:List AV)(K:AV->Prop):Prop:=
 match l with
 | [a]=>onAs (λl=>okAs 1000000 l/\3<=l.length/\K (.tup [pQ (ciL l),errV tE (if crL l=0 then 8 else 0)])) a
 | _=>False
theorem vaz:type_of% @xY.eq_1:=q_E @xY.eq_1
@[congr] theorem xbR tE{K}{l l'}(h:l=l'):xY tE l K=xY tE l' K:=by subst h;rfl
attribute [go_sem,go_sem ↓] vaz
def QY(l:List AV)(K:AV->Prop):Prop:=
 match l with
 | [a]=>onAs (λl=>okAs 1000000 l/\3<=l.length/\K (.tup [pQ (ciL l),.one (.lit (.bool (decide (crL l≠0))))])) a
 | _=>False
theorem jaq:type_of% @QY.eq_1:=q_E @QY.eq_1
@[congr] theorem ybS{K}{l l'}(h:l=l'):QY l K=QY l' K:=h▸rfl
attribute [go_sem,go_sem ↓] jaq
end Go.Abs
end
section
namespace Go.Num
open Go.Abs
end Go.Num
end
section
namespace Go.Num
def ptQ(c:CpR)(a b:V2):V2:=addQ a (timQ (subQ b a) c.2.2.2.2.2.1 c.2.2.2.2.2.2)
def hldQ(c:CpR)(a b:V2):Prop:=sqQ (subQ a c.1)=c.2.2.1/\sqQ (subQ b c.2.1)=c.2.2.2.2.1/\sqQ (subQ a b)=c.2.2.2.1
end Go.Num
end
section
namespace Go.Abs
open Go.Num
variable {P:Program} {Γ:Nat->Spec}
def vF(l:List AV)(K:AV->Prop):Prop:=
 match l with
 | [a]=>asInt (λk n=>k=.i64/\n=1/\K (.one (.lit (.string ⟨#[49]⟩)))) a
 | _=>False
theorem Jai:type_of% @vF.eq_1:=q_E @vF.eq_1
@[congr] theorem YbI{K}{l l'}(h:l=l'):vF l K=vF l' K:=h▸rfl
attribute [go_sem,go_sem ↓] Jai
def WY(l:List AV)(K:AV->Prop):Prop:=
 match l with
 | [a,b]=>asInt (λk n=>k=.i64/\n=1/\asInt (λk m=>k=.i64/\m=10/\K (.one (.lit (.string ⟨#[49]⟩)))) b) a
 | _=>False
theorem zaH:type_of% @WY.eq_1:=q_E @WY.eq_1
@[congr] theorem vbR{K}{l l'}(h:l=l'):WY l K=WY l' K:=h▸rfl
attribute [go_sem,go_sem ↓] zaH
def kY(l:List AV)(K:AV->Prop):Prop:=
 match l with
 | [a]=>asInt (λk n=>k=.i64/\n=1/\K (.one (.lit (.string ⟨#[49]⟩)))) a
 | _=>False
theorem Vav:type_of% @kY.eq_1:=q_E @kY.eq_1
@[congr] theorem QbS{K}{l l'}(h:l=l'):kY l K=kY l' K:=h▸rfl
attribute [go_sem,go_sem ↓] Vav
def yZ(l:List AV)(K:AV->Prop):Prop:=
 match l with
 | [a,b]=>a=.one (.slice [[.lit (.string ⟨#[49]⟩)]])/\b=.one (.lit (.string ⟨#[]⟩))/\K (.one (.lit (.string ⟨#[49]⟩)))
 | _=>False
theorem waF:type_of% @yZ.eq_1:=q_E @yZ.eq_1
@[congr] theorem ubT{K}{l l'}(h:l=l'):yZ l K=yZ l' K:=h▸rfl
attribute [go_sem,go_sem ↓] waF
def xT(l:List AV)(K:AV->Prop):Prop:=
 match l with
 | [a]=>onW (λw=>zv w=1/\K (.one (.lit (.string ⟨#[49]⟩)))) a
 | _=>False
theorem yau:type_of% @xT.eq_1:=q_E @xT.eq_1
@[congr] theorem qbR{K}{l l'}(h:l=l'):xT l K=xT l' K:=h▸rfl
attribute [go_sem,go_sem ↓] yau
def XY(l:List AV)(K:AV->Prop):Prop:=
 match l with
 | [a]=>onR (λx=>rv x=1/\rl x<=4294967296/\K (.one (.lit (.string ⟨#[49]⟩)))) a
 | _=>False
theorem WaG:type_of% @XY.eq_1:=q_E @XY.eq_1
@[congr] theorem ybR{K}{l l'}(h:l=l'):XY l K=XY l' K:=h▸rfl
attribute [go_sem,go_sem ↓] WaG
def Jb:AC:=(.o [.m 2 (.c (.one (.lit (.string ⟨#[]⟩))))] [0] (.f (.o [.M 3 0,.I 4 .lss 3 10] [0,4] (.cond (.t 4) (.seq (.p [.M 5 0,.M 6 0,.I 7 .add 6 1,.u 8 (.sop 0 [(.c (.one (.lit (.string ⟨#[48,49,50,51,52,53,54,55,56,57,97,98,99,100,101,102,103,104,105,106,107,108,109,110,111,112,113,114,115,116,117,118,119,120,121,122]⟩)))),(.t 5),(.t 7)]),.M 2 8]) .ret) .skip)) [0] (.seq (.p [.M 9 0,.I 10 .mul 9 2,.M 11 0,.I 12 .mul 11 2,.I 13 .add 12 2,.u 14 (.sop 0 [(.c (.one (.lit (.string ⟨#[48,48,48,49,48,50,48,51,48,52,48,53,48,54,48,55,48,56,48,57,49,48,49,49,49,50,49,51,49,52,49,53,49,54,49,55,49,56,49,57,50,48,50,49,50,50,50,51,50,52,50,53,50,54,50,55,50,56,50,57,51,48,51,49,51,50,51,51,51,52,51,53,51,54,51,55,51,56,51,57,52,48,52,49,52,50,52,51,52,52,52,53,52,54,52,55,52,56,52,57,53,48,53,49,53,50,53,51,53,52,53,53,53,54,53,55,53,56,53,57,54,48,54,49,54,50,54,51,54,52,54,53,54,54,54,55,54,56,54,57,55,48,55,49,55,50,55,51,55,52,55,53,55,54,55,55,55,56,55,57,56,48,56,49,56,50,56,51,56,52,56,53,56,54,56,55,56,56,56,57,57,48,57,49,57,50,57,51,57,52,57,53,57,54,57,55,57,56,57,57]⟩)))),(.t 10),(.t 13)]),.M 2 14]) .ret)))
def uc(f0 f1 f2 f3:Nat):AC:=(.o [.m 4 (.c (.one (.lit (.string ⟨#[]⟩))))] [0,1] (.f (.o [.M 10 1,.I 11 .eql 10 10] [0,1,11] (.cond (.t 11) (.f (.o [.M 12 0,.u 13 (.bin .leq (.i 0) (.t 12)),.M 14 13,.V 15 14 true 0,.w 16 14 true (.bin .lss (.t 15) (.i 100)),.P 17 14 16] [0,17] (.cond (.t 17) (.seq (.p [.M 18 0,.H 19 f0 18,.M 4 19]) .ret) .skip)) [0] (.o [.G 5 [(.lit (.int .u8 0)),(.lit (.int .u8 0)),(.lit (.int .u8 0)),(.lit (.int .u8 0)),(.lit (.int .u8 0)),(.lit (.int .u8 0)),(.lit (.int .u8 0)),(.lit (.int .u8 0)),(.lit (.int .u8 0)),(.lit (.int .u8 0)),(.lit (.int .u8 0)),(.lit (.int .u8 0)),(.lit (.int .u8 0)),(.lit (.int .u8 0)),(.lit (.int .u8 0)),(.lit (.int .u8 0)),(.lit (.int .u8 0)),(.lit (.int .u8 0)),(.lit (.int .u8 0)),(.lit (.int .u8 0)),(.lit (.int .u8 0)),(.lit (.int .u8 0)),(.lit (.int .u8 0)),(.lit (.int .u8 0))]] [0,5] (.o [.M 20 0,.u 21 (.conv .u64 (.t 20)),.M 6 21] [0,5,6] (.f (.o [.M 22 0,.I 23 .lss 22 0] [0,5,6,23] (.cond (.t 23) (.p [.M 24 6,.u 25 (.un .neg (.t 24)),.M 6 25]) .skip)) [0,5,6] (.o [.M 26 6,.H 27 f1 26,.M 7 27] [0,5,6,7] (.o [.M 28 7,.u 29 (.bin .add (.i 1) (.t 28)),.u 30 (.rsb 1 24 (.t 5) (some (.i 1)) (some (.t 29))),.M 31 6,.D 32 f2 30 31] [0,5,7] (.f (.o [.M 33 0,.I 34 .lss 33 0] [5,7,34] (.cond (.t 34) (.o [.u 35 (.ai 1 24 (.t 5) (.i 0)),.n (.st none 1 (.t 35) (.c (.one (.lit (.int .u8 45)))))] [5,7] (.seq (.p [.M 36 7,.u 37 (.bin .add (.i 1) (.t 36)),.u 38 (.rsb 1 24 (.t 5) none (some (.t 37))),.u 39 (.bad),.M 4 39]) .ret)) .skip)) [5,7] (.seq (.p [.M 40 7,.u 41 (.bin .add (.i 1) (.t 40)),.u 42 (.rsb 1 24 (.t 5) (some (.i 1)) (some (.t 41))),.u 43 (.bad),.M 4 43]) .ret)))))))) .skip)) [0,1] (.o [.M 45 0,.u 46 (.conv .u64 (.t 45)),.M 47 1,.M 48 0,.I 49 .lss 48 0,.u 50 (.call f3 [(.c (.one .emp)),(.t 46),(.t 47),(.t 49),.fa]),.M 44 50,.X 51 0 44,.X 52 1 44,.M 8 51,.M 9 52] [9] (.seq (.p [.M 53 9,.M 4 53]) .ret))))
def xe(f0:Nat):AC:=(.o [.m 2 (.c (.one (.lit (.string ⟨#[]⟩))))] [0] (.seq (.p [.M 3 0,.u 4 (.call f0 [(.t 3),(.i 10)]),.M 2 4]) .ret))
def jr(f0:Nat):AC:=(.o [.m 2 (.c (.one (.lit (.string ⟨#[]⟩))))] [0] (.seq (.p [.M 3 0,.H 4 f0 3,.M 2 4]) .ret))
def Zr(f0 f1 f2 f3 f4 f5:Nat):AC:=(.o [.K 1 2 0,.m 2 (.c (.one (.lit (.string ⟨#[]⟩))))] [1] (.o [.L 8 2 1,.H 9 f0 8,.M 3 9] [1,3] (.f (.o [.M 10 3,.Z 11 10,.I 12 .eql 11 0] [1,3,12] (.cond (.t 12) (.seq (.p [.m 2 (.c (.one (.lit (.string ⟨#[48]⟩))))]) .ret) .skip)) [1,3] (.o [.m 4 (.c (.one .emp))] [1,3,4] (.f (.block 0 (.loop (.f (.o [.M 13 3,.Z 14 13,.I 15 .gtr 14 0] [1,3,4,15] (.cond (.t 15) .skip (.exit 0))) [1,3,4] (.block 1 (.o [.m 5 (.c (.one (.lit (.int .u32 0))))] [1,3,4] (.o [.M 17 3,.u 18 (.call f1 [(.t 17),(.c (.one (.lit (.int .u32 1000000000))))]),.M 16 18,.X 19 0 16,.X 20 1 16,.M 3 19,.M 5 20] [1,3,4,5] (.o [.M 21 5,.u 22 (.conv .i64 (.t 21)),.H 23 f2 22,.M 6 23] [1,3,4,6] (.f (.o [.M 24 3,.Z 25 24,.I 26 .gtr 25 0] [1,3,4,6,26] (.cond (.t 26) (.p [.M 27 6,.u 28 (.bad),.u 29 (.bin .sub (.i 9) (.t 28)),.u 30 (.call f3 [(.c (.one (.lit (.string ⟨#[48]⟩)))),(.t 29)]),.M 31 6,.u 32 (.sop 2 [(.t 30),(.t 31)]),.M 6 32]) .skip)) [1,3,4,6] (.p [.M 33 6,.u 34 (.row 1 [[.x 1 (.t 33)]]),.M 35 4,.u 36 (.app 1 (.t 34) (.t 35)),.M 4 36]))))))))) [1,4] (.o [.M 37 4,.u 38 (.call f4 [(.t 37),(.c (.one (.lit (.string ⟨#[]⟩))))]),.M 7 38] [1,7] (.f (.o [.L 39 2 1,.H 40 f5 39] [7,40] (.cond (.t 40) (.p [.M 41 7,.u 42 (.sop 2 [(.c (.one (.lit (.string ⟨#[45]⟩)))),(.t 41)]),.M 7 42]) .skip)) [7] (.seq (.p [.M 43 7,.M 2 43]) .ret))))))))
def Zj(f0 f1 f2 f3:Nat):AC:=(.o [.K 1 3 0,.m 2 (.c (.one (.lit (.string ⟨#[]⟩))))] [1] (.o [.L 6 3 1,.H 7 f0 6,.M 5 7,.X 8 0 5,.X 9 1 5,.G 3 [.z,.emp],.G 4 [.z,.emp],.S 2 3 8,.S 2 4 9] [3,4] (.f (.f (.y [.L 10 2 4,.u 11 (.call f1 []),.D 12 f2 10 11,.I 13 .eql 12 0]) [3,4,13] (.cond (.t 13) (.seq (.p [.L 14 2 3,.H 15 f3 14,.M 2 15]) .ret) .skip)) [3,4] (.seq (.y [.L 16 2 3,.H 17 f3 16,.u 18 (.sop 2 [(.t 17),(.c (.one (.lit (.string ⟨#[47]⟩))))]),.L 19 2 4,.H 20 f3 19,.u 21 (.sop 2 [(.t 18),(.t 20)]),.M 2 21]) .ret))))
end Go.Abs
end
