/-
  Parts of the proof, merged: ChartG, ChartQ, ChartH, ChartR, ChartW, ChartX, ComA, ChartRow, ComB, PoseD, PoseE, PoseT.
-/
import Derived.Test.YtkcleifemnineaaGreatM6
set_option linter.unusedVariables false
set_option linter.unusedSimpArgs false
set_option maxRecDepth 100000
section
namespace Go.Num
def sh1 (by' : Rat) (a:Q2):List Q2:=
 let f:=frac (a.1+by')
 let t:=f+(a.2-a.1)
 if 1<t then (0,t-1)::(if f<1 then [(f,1)] else []) else (if f<t then [(f,t)] else [])
def shL (by' : Rat) (l:List Q2):List Q2:=l.flatMap (sh1 by')
def lim64 (l:List Q2):List Q2:=if 64<l.length then [] else l
def code64 (l:List Q2):Nat:=if 64<l.length then 4 else 0
def shOut (l:List Arc) (y:R):List Q2:=if chk [l]=0∧vldR y=true then lim64 (nrm (shL (rv y) (vals l))) else []
def shCode (l:List Arc) (y:R):Nat:=if chk [l]=0 then (if vldR y=true then code64 (nrm (shL (rv y) (vals l))) else 3) else chk [l]
end Go.Num
namespace Go.Abs
open Go.Num
variable {P:Program} {Γ:Nat→Spec}
def ZS (tE m:Nat) (l:List AV) (K:AV→Prop):Prop:=
 match l with
 | [a,b]=>onAs (fun l=>onR (fun y=>(chk [l]=0→2*l.length≤m)∧okAs 10000000 l∧rl y≤10000000∧K (.tup [.one (.slice (((shOut l y).map acan).map aC)),errV tE (shCode l y)])) b) a
 | _=>False
theorem kY (tE m:Nat) (a b:AV) (K:AV→Prop):ZS tE m [a,b] K=(onAs (fun l=>onR (fun y=>(chk [l]=0→2*l.length≤m)∧okAs 10000000 l∧rl y≤10000000∧K (.tup [.one (.slice (((shOut l y).map acan).map aC)),errV tE (shCode l y)])) b) a):=propext Iff.rfl
@[congr] theorem jbr (tE m:Nat) {K:AV→Prop} {l l' : List AV} (h:l=l'):ZS tE m l K=ZS tE m l' K:=by subst h;rfl
attribute [go_sem] kY
attribute [go_sem ↓] kY
end Go.Abs
end
section
namespace Go.Num
end Go.Num
end
section
namespace Go.Num
end Go.Num
namespace Go.Abs
open Go.Num
variable {P:Program} {Γ:Nat→Spec}
theorem vba (k:List Arc→Prop) (x y:R):onAs k (.one (.slice [[cb x,cn x,cd x,cb y,cn y,cd y]]))=((∀z∈[(x,y)],WLA z)∧k [(x,y)]):=UH k [(x,y)]
theorem Ja6 (k:List Arc→Prop) (x y x' y' : R):onAs k (.one (.slice [[cb x,cn x,cd x,cb y,cn y,cd y],[cb x',cn x',cd x',cb y',cn y',cd y']]))=((∀z∈[(x,y),(x',y')],WLA z)∧k [(x,y),(x',y')]):=UH k [(x,y),(x',y')]
theorem VaW (k:List Arc→Prop) (x:Arc):onAs k (.one (.slice [aC x]))=((∀z∈[x],WLA z)∧k [x]):=UH k [x]
theorem ZaX (k:List Arc→Prop) (x y:Arc):onAs k (.one (.slice [aC x,aC y]))=((∀z∈[x,y],WLA z)∧k [x,y]):=UH k [x,y]
theorem vaZ (k:List Arc→Prop) (y x' y' : R):onAs k (.one (.slice [[.lit (.bool false),.slice [],.slice [],cb y,cn y,cd y],[cb x',cn x',cd x',cb y',cn y',cd y']]))=((∀z∈[(rcan 0,y),(x',y')],WLA z)∧k [(rcan 0,y),(x',y')]):=by
 rw [Jb];exact UH k [((false,[],[]),y),(x',y')]
attribute [go_sem] vba Ja6 VaW ZaX vaZ
attribute [go_sem ↓] vba Ja6 VaW ZaX vaZ
def qT (l:List AV) (K:AV→Prop):Prop:=
 match l with
 | []=>K (.one (.lit (.bool true)))
 | _=>False
theorem X3 (K:AV→Prop):qT [] K=(K (.one (.lit (.bool true)))):=propext Iff.rfl
@[congr] theorem kbu {K:AV→Prop} {l l' : List AV} (h:l=l'):qT l K=qT l' K:=by subst h;rfl
attribute [go_sem] X3
attribute [go_sem ↓] X3
end Go.Abs
end
section
namespace Go.Num
instance (x:Rat) (a:Q2):Decidable (mem x a):=by unfold mem;infer_instance
instance (x:Rat) (l:List Q2):Decidable (memL x l):=by unfold memL;infer_instance
end Go.Num
end
section
namespace Go.Num
def not1 (f t:Rat):List Q2:=if f<t then [(f,t)] else []
def notGo:Rat→List Q2→List Q2
 | f,[]=>not1 f 1
 | f,a::l=>not1 f a.1++notGo a.2 l
def notL (l:List Q2):List Q2:=notGo 0 l
def meet1 (x y:Q2):List Q2:=not1 (mxQ x.1 y.1) (mnQ x.2 y.2)
def meetL (a b:List Q2):List Q2:=a.flatMap fun x=>b.flatMap fun y=>meet1 x y
end Go.Num
namespace Go.Abs
open Go.Num
variable {P:Program} {Γ:Nat→Spec}
def xaH (l:List AV) (K:AV→Prop):Prop:=
 match l with
 | [a]=>onAs (fun l=>l.length≤1000∧okAs 1000000000 l∧K (.one (.slice (((notL (vals l)).map acan).map aC)))) a
 | _=>False
theorem zaU (a:AV) (K:AV→Prop):xaH [a] K=(onAs (fun l=>l.length≤1000∧okAs 1000000000 l∧K (.one (.slice (((notL (vals l)).map acan).map aC)))) a):=propext Iff.rfl
@[congr] theorem xbJ {K:AV→Prop} {l l' : List AV} (h:l=l'):xaH l K=xaH l' K:=by subst h;rfl
attribute [go_sem] zaU
attribute [go_sem ↓] zaU
def jaf (l:List AV) (K:AV→Prop):Prop:=
 match l with
 | [a,b]=>onAs (fun l=>onAs (fun m=>l.length≤1000∧m.length≤1000∧okAs 1000000000 l∧okAs 1000000000 m∧K (.one (.slice (((meetL (vals l) (vals m)).map acan).map aC)))) b) a
 | _=>False
theorem Xaq (a b:AV) (K:AV→Prop):jaf [a,b] K=(onAs (fun l=>onAs (fun m=>l.length≤1000∧m.length≤1000∧okAs 1000000000 l∧okAs 1000000000 m∧K (.one (.slice (((meetL (vals l) (vals m)).map acan).map aC)))) b) a):=propext Iff.rfl
@[congr] theorem qbA {K:AV→Prop} {l l' : List AV} (h:l=l'):jaf l K=jaf l' K:=by subst h;rfl
attribute [go_sem] Xaq
attribute [go_sem ↓] Xaq
end Go.Abs
end
section
namespace Go.Num
def res (c:Nat) (L:List Q2):List Q2:=if c=0 then lim64 L else []
def cod (c:Nat) (L:List Q2):Nat:=if c=0 then code64 L else c
end Go.Num
namespace Go.Abs
open Go.Num
variable {P:Program} {Γ:Nat→Spec}
def XT (tE m:Nat) (l:List AV) (K:AV→Prop):Prop:=
 match l with
 | [a,b]=>onAs (fun l=>onAs (fun k=>(chk [l,k]=0→l.length+k.length≤m)∧okAs 10000000 l∧okAs 10000000 k∧K (.tup [.one (.slice (((res (chk [l,k]) (nrm (vals l++vals k))).map acan).map aC)),errV tE (cod (chk [l,k]) (nrm (vals l++vals k)))])) b) a
 | _=>False
theorem wZ (tE m:Nat) (a b:AV) (K:AV→Prop):XT tE m [a,b] K=(onAs (fun l=>onAs (fun k=>(chk [l,k]=0→l.length+k.length≤m)∧okAs 10000000 l∧okAs 10000000 k∧K (.tup [.one (.slice (((res (chk [l,k]) (nrm (vals l++vals k))).map acan).map aC)),errV tE (cod (chk [l,k]) (nrm (vals l++vals k)))])) b) a):=propext Iff.rfl
@[congr] theorem Ubm (tE m:Nat) {K:AV→Prop} {l l' : List AV} (h:l=l'):XT tE m l K=XT tE m l' K:=by subst h;rfl
attribute [go_sem] wZ
attribute [go_sem ↓] wZ
def Jad (tE m:Nat) (l:List AV) (K:AV→Prop):Prop:=
 match l with
 | [a,b]=>onAs (fun l=>onAs (fun k=>(chk [l,k]=0→l.length≤m∧k.length≤m)∧okAs 10000000 l∧okAs 10000000 k∧K (.tup [.one (.slice (((res (chk [l,k]) (meetL (nrm (vals l)) (nrm (vals k)))).map acan).map aC)),errV tE (cod (chk [l,k]) (meetL (nrm (vals l)) (nrm (vals k))))])) b) a
 | _=>False
theorem Qar (tE m:Nat) (a b:AV) (K:AV→Prop):Jad tE m [a,b] K=(onAs (fun l=>onAs (fun k=>(chk [l,k]=0→l.length≤m∧k.length≤m)∧okAs 10000000 l∧okAs 10000000 k∧K (.tup [.one (.slice (((res (chk [l,k]) (meetL (nrm (vals l)) (nrm (vals k)))).map acan).map aC)),errV tE (cod (chk [l,k]) (meetL (nrm (vals l)) (nrm (vals k))))])) b) a):=propext Iff.rfl
@[congr] theorem kbA (tE m:Nat) {K:AV→Prop} {l l' : List AV} (h:l=l'):Jad tE m l K=Jad tE m l' K:=by subst h;rfl
attribute [go_sem] Qar
attribute [go_sem ↓] Qar
def ZaI (tE m:Nat) (l:List AV) (K:AV→Prop):Prop:=
 match l with
 | [a]=>onAs (fun l=>(chk [l]=0→l.length≤m)∧okAs 10000000 l∧K (.tup [.one (.slice (((res (chk [l]) (notL (nrm (vals l)))).map acan).map aC)),errV tE (cod (chk [l]) (notL (nrm (vals l))))])) a
 | _=>False
theorem zaJ (tE m:Nat) (a:AV) (K:AV→Prop):ZaI tE m [a] K=(onAs (fun l=>(chk [l]=0→l.length≤m)∧okAs 10000000 l∧K (.tup [.one (.slice (((res (chk [l]) (notL (nrm (vals l)))).map acan).map aC)),errV tE (cod (chk [l]) (notL (nrm (vals l))))])) a):=propext Iff.rfl
@[congr] theorem WbJ (tE m:Nat) {K:AV→Prop} {l l' : List AV} (h:l=l'):ZaI tE m l K=ZaI tE m l' K:=by subst h;rfl
attribute [go_sem] zaJ
attribute [go_sem ↓] zaJ
end Go.Abs
end
section
namespace Go.Abs
open Go.Num
variable {P:Program} {Γ:Nat→Spec}
def QV (tE:Nat) (l:List AV) (K:AV→Prop):Prop:=
 match l with
 | [a,e,b,n]=>onAs (fun l=>onErr tE (fun c=>onAs (fun m=>asInt (fun k n=>k=.i64∧okAs 1073741824 l∧okAs 1073741824 m∧K (.one (.lit (.bool (decide ((c:Int)=n) && decide (vals l=vals m)))))) n) b) e) a
 | _=>False
theorem xZ (tE:Nat) (a e b n:AV) (K:AV→Prop):QV tE [a,e,b,n] K=(onAs (fun l=>onErr tE (fun c=>onAs (fun m=>asInt (fun k n=>k=.i64∧okAs 1073741824 l∧okAs 1073741824 m∧K (.one (.lit (.bool (decide ((c:Int)=n) && decide (vals l=vals m)))))) n) b) e) a):=propext Iff.rfl
@[congr] theorem wbm (tE:Nat) {K:AV→Prop} {l l' : List AV} (h:l=l'):QV tE l K=QV tE l' K:=by subst h;rfl
attribute [go_sem] xZ
attribute [go_sem ↓] xZ
def YaL (l:List AV) (K:AV→Prop):Prop:=
 match l with
 | [a,b]=>onAs (fun l=>onR (fun y=>okAs 1073741824 l∧rl y≤1073741824∧K (.one (.lit (.bool (l.any (inA (rv y))))))) b) a
 | _=>False
theorem YaV (a b:AV) (K:AV→Prop):YaL [a,b] K=(onAs (fun l=>onR (fun y=>okAs 1073741824 l∧rl y≤1073741824∧K (.one (.lit (.bool (l.any (inA (rv y))))))) b) a):=propext Iff.rfl
@[congr] theorem wbD {K:AV→Prop} {l l' : List AV} (h:l=l'):YaL l K=YaL l' K:=by subst h;rfl
attribute [go_sem] YaV
attribute [go_sem ↓] YaV
def VT (l:List AV) (K:AV→Prop):Prop:=
 match l with
 | [a,b]=>onL (fun L=>onR (fun y=>(∀l∈L,okAs 1073741824 l)∧rl y≤1073741824∧L.length≤1000000∧K (.one (.lit (.int .i64 (L.countP (fun l=>l.any (inA (rv y))):Nat))))) b) a
 | _=>False
theorem uW (a b:AV) (K:AV→Prop):VT [a,b] K=(onL (fun L=>onR (fun y=>(∀l∈L,okAs 1073741824 l)∧rl y≤1073741824∧L.length≤1000000∧K (.one (.lit (.int .i64 (L.countP (fun l=>l.any (inA (rv y))):Nat))))) b) a):=propext Iff.rfl
@[congr] theorem ybu {K:AV→Prop} {l l' : List AV} (h:l=l'):VT l K=VT l' K:=by subst h;rfl
attribute [go_sem] uW
attribute [go_sem ↓] uW
end Go.Abs
end
section
namespace Go.Abs
open Go.Num
def rC (x:R):List C:=[cb x,cn x,cd x]
theorem qa2 (x:R):rC x=[cb x,cn x,cd x]:=eq_of_heq (HEq.refl _)
theorem Va9 (x:R):(rC x).length=3:=eq_of_heq (HEq.refl _)
theorem Zv (K:List C→Prop) (L:List R) (i:Nat):getE K (L.map rC) i=(i<L.length∧K (rC (L.getD i (rcan 0)))):=by
 simp only [getE,List.length_map,List.getElem?_map]
 refine propext ⟨fun h=>⟨h.1,h.2 _ (by simp [h.1,List.getD_eq_getElem?_getD])⟩,fun h=>⟨h.1,fun e he=>?_⟩⟩
 simp [h.1]at he
 subst he
 have:=h.2
 simpa [List.getD_eq_getElem?_getD,h.1] using this
theorem zH (l:List R):CleanR (l.map rC)=True:=eq_true fun e he c hc=>by
 obtain ⟨x,_,rfl⟩:=List.mem_map.1 he
 exact QQ x c hc
theorem Uba (L:List R):(∀e∈L.map rC,e.length=3)=True:=eq_true fun e he=>by
 obtain ⟨l,_,rfl⟩:=List.mem_map.1 he;rfl
theorem kaZ (h:Nat→HB) (L:List R):(L.map rC).map (fun x=>x.map (datC h))=L.map rC:=by
 rw [List.map_map];exact List.map_congr_left fun x _=>rfl
theorem xaZ (L:List R):(L.map rC).flatMap (fun x=>x.flatMap ownC)=[]:=by
 rw [List.flatMap_map];exact List.flatMap_eq_nil_iff.2 fun x _=>rfl
theorem vaO (h:Nat→HB) (L:List (List Arc)):(L.map lC).map (fun x=>x.map (datC h))=L.map lC:=by
 rw [List.map_map];exact List.map_congr_left fun x _=>rfl
theorem YaH (L:List (List Arc)):(L.map lC).flatMap (fun x=>x.flatMap ownC)=[]:=by
 rw [List.flatMap_map];exact List.flatMap_eq_nil_iff.2 fun x _=>rfl
theorem kaO (h:Nat→HB):frz [] h=h:=eq_of_heq (HEq.refl _)
attribute [go_sem] Va9 Zv zH Uba kaZ xaZ vaO YaH kaO
attribute [go_sem ↓] Va9 Zv zH Uba kaZ xaZ vaO YaH kaO
end Go.Abs
end
section
namespace Go.Num
def posR:List R→Rat→Nat
 | [],_=>0
 | x::l,q=>if rv x<q then posR l q+1 else 0
def insR (l:List R) (y:R):List R:=if (l.drop (posR l (rv y))).head?.map rv=some (rv y) then l else l.take (posR l (rv y))++y::l.drop (posR l (rv y))
def okRs (b:Nat) (l:List R):Prop:=∀x∈l,WLR x∧rl x≤b
def insA (S:List R) (x:Arc):List R:=insR (insR S x.1) x.2
def marksR (L:List (List Arc)):List R:=L.flatten.foldl insA [rcan 0,rcan 1]
end Go.Num
namespace Go.Abs
open Go.Num
variable {P:Program} {Γ:Nat→Spec}
def rsA (l:List R):AV:=.one (.slice (l.map rC))
theorem Qbu {x y:R} (h:rC x=rC y):x=y:=Yq x y (by simpa [rC,rA] using h)
theorem qaQ (x y:List R) (h:rsA x=rsA y):x=y:=by
 simp only [rsA,AV.one.injEq,C.slice.injEq]at h
 exact List.map_inj_right (fun _ _=>Qbu) |>.1 h
def onRs (k:List R→Prop) (a:AV):Prop:=onE rsA (fun l=>(∀x∈l,WLR x)∧k l) a
@[congr] theorem QbG {k:List R→Prop} {a a' : AV} (h:a=a'):onRs k a=onRs k a':=by subst h;rfl
theorem qa6 (k:List R→Prop) (l:List R):onRs k (.one (.slice (l.map rC)))=((∀x∈l,WLR x)∧k l):=Yp qaQ (fun l=>(∀x∈l,WLR x)∧k l) l
theorem xa6 {β:Type} {T:List R→(β→Prop)→Prop} (h:∀l,GoodT (T l)) {a:AV}:GoodT fun K=>onRs (fun l=>T l K) a:=
 ZA (e:=rsA) (T:=fun l K=>(∀x∈l,WLR x)∧T l K) qaQ fun l=>GoodT.and (c:=∀x∈l,WLR x) (T:=T l) fun _=>h l
theorem Zat (l:List R):Clean (.slice (l.map rC))=True:=eq_true (.slice _ (of_eq_true (zH l)))
theorem Jbk (l:List R) (n:Nat):(l.map rC).take n=(l.take n).map rC:=by rw [List.map_take]
theorem Ubg (l:List R) (n:Nat):(l.map rC).drop n=(l.drop n).map rC:=by rw [List.map_drop]
theorem ya6 (l:List R):rsA l=.one (.slice (l.map rC)):=eq_of_heq (HEq.refl _)
attribute [go_sem] qa6 Zat ya6 Jbk Ubg
attribute [go_sem ↓] qa6 Zat ya6
def WU (l:List AV) (K:AV→Prop):Prop:=
 match l with
 | [a]=>onL (fun L=>(∀l∈L,okAs 1073741824 l)∧L.flatten.length≤100000∧K (.one (.slice ((marksR L).map rC)))) a
 | _=>False
theorem Z1 (a:AV) (K:AV→Prop):WU [a] K=(onL (fun L=>(∀l∈L,okAs 1073741824 l)∧L.flatten.length≤100000∧K (.one (.slice ((marksR L).map rC)))) a):=propext Iff.rfl
@[congr] theorem kbt {K:AV→Prop} {l l' : List AV} (h:l=l'):WU l K=WU l' K:=by subst h;rfl
attribute [go_sem] Z1
attribute [go_sem ↓] Z1
def VJ (l:List AV) (K:AV→Prop):Prop:=
 match l with
 | [a,b]=>onRs (fun l=>onR (fun y=>okRs 1073741824 l∧rl y≤1073741824∧l.length≤1000000∧K (.one (.slice ((insR l y).map rC)))) b) a
 | _=>False
theorem YO (a b:AV) (K:AV→Prop):VJ [a,b] K=(onRs (fun l=>onR (fun y=>okRs 1073741824 l∧rl y≤1073741824∧l.length≤1000000∧K (.one (.slice ((insR l y).map rC)))) b) a):=propext Iff.rfl
@[congr] theorem Ubk {K:AV→Prop} {l l' : List AV} (h:l=l'):VJ l K=VJ l' K:=by subst h;rfl
attribute [go_sem] YO
attribute [go_sem ↓] YO
end Go.Abs
end
section
namespace Go.Num
open Go.Abs
theorem kbh {α:Type} {f:α→Bool} {l:List α} {k:Nat} {x:α} (h:l[k]?=some x) (hb:f x=false):l.all f=false:=by
 rw [List.all_eq_false]
 exact ⟨x,List.mem_of_getElem? h,by simp [hb]⟩
theorem xU {α:Type} {f:α→Bool} {l:List α} {k:Nat} {x:α} (h:l[k]?=some x) (ht:(l.take k).all f=true) (hb:f x=true):(l.take (k+1)).all f=true:=by
 rw [List.take_add_one,h,List.all_append,ht];simp [hb]
theorem qA {α:Type} {l:List α} {k:Nat} {x d:α} (hk:k<l.length) (h:l.getD k d=x):l[k]?=some x:=by
 rw [←h,List.getD_eq_getElem?_getD,List.getElem?_eq_getElem hk];rfl
def sR (n:Nat) (x:R):Bool:=decide (x.2.1.length≤n) && decide (x.2.2.length≤n)
def sP (p:Ps):Bool:=sR 2 p.1.1 && (sR 2 p.2.1 && sR 2 p.2.2)
def sA (p:Arc):Bool:=sR 2 p.1 && sR 2 p.2
def placeC (l:List Arc):Nat:=if l.all avld then 0 else 2
def chkC (l:List Ps) (m:List Arc):Nat:=if threeC l≠0 then threeC l else placeC m
theorem JG {n:Nat} {x:R} (h:sR n x=true):rl x≤n:=by
 simp only [sR,Bool.and_eq_true,decide_eq_true_eq]at h
 exact Nat.max_le.2 h
end Go.Num
namespace Go.Abs
open Go.Num
variable {P:Program} {Γ:Nat→Spec}
def qsA (l:List V2):AV:=.one (.slice ((l.map acan).map aC))
theorem ua6 (l:List V2):qsA l=.one (.slice ((l.map acan).map aC)):=eq_of_heq (HEq.refl _)
theorem jaR (k:List Arc→Prop) (a b c d e f:C):onAs k (.one (.slice [[a,b,c,d,e,f]]))=onO (fun x=>onO (fun y=>WLA (x,y)∧k [(x,y)]) (dR d e f)) (dR a b c):=by
 refine propext ⟨fun ⟨t,h,h1⟩=>?_,fun h=>?_⟩
 ·simp only [asA,as,AV.one.injEq,C.slice.injEq]at h
  match t,h with
  | [z],h=>
   simp only [List.map_cons,List.map_nil,aC,List.cons.injEq,and_true]at h
   obtain ⟨rfl,rfl,rfl,rfl,rfl,rfl⟩:=h
   simp only [dR_e,kK]
   exact ⟨h1.1 _ (by simp),h1.2⟩
 ·obtain ⟨x,h1,q1⟩:=Xb.1 h
  obtain ⟨y,h2,q2⟩:=Xb.1 q1
  obtain ⟨rfl,rfl,rfl⟩:=ub.1 h1
  obtain ⟨rfl,rfl,rfl⟩:=ub.1 h2
  exact ⟨[(x,y)],rfl,fun z hz=>by rw [List.mem_singleton.1 hz];exact q2.1,q2.2⟩
theorem VaM (k:List Arc→Prop) (a b c d e f a' b' c' d' e' f' : C):onAs k (.one (.slice [[a,b,c,d,e,f],[a',b',c',d',e',f']]))=onO (fun x=>onO (fun y=>onO (fun z=>onO (fun w=>WLA (x,y)∧WLA (z,w)∧k [(x,y),(z,w)]) (dR d' e' f')) (dR a' b' c')) (dR d e f)) (dR a b c):=by
 refine propext ⟨fun ⟨t,h,h1⟩=>?_,fun h=>?_⟩
 ·simp only [asA,as,AV.one.injEq,C.slice.injEq]at h
  match t,h with
  | [z,w],h=>
   simp only [List.map_cons,List.map_nil,aC,List.cons.injEq,and_true]at h
   obtain ⟨⟨rfl,rfl,rfl,rfl,rfl,rfl⟩,rfl,rfl,rfl,rfl,rfl,rfl⟩:=h
   simp only [dR_e,kK]
   exact ⟨h1.1 _ (by simp),h1.1 _ (by simp),h1.2⟩
 ·obtain ⟨x,h1,q1⟩:=Xb.1 h
  obtain ⟨y,h2,q2⟩:=Xb.1 q1
  obtain ⟨z,h3,q3⟩:=Xb.1 q2
  obtain ⟨w,h4,q4⟩:=Xb.1 q3
  obtain ⟨rfl,rfl,rfl⟩:=ub.1 h1
  obtain ⟨rfl,rfl,rfl⟩:=ub.1 h2
  obtain ⟨rfl,rfl,rfl⟩:=ub.1 h3
  obtain ⟨rfl,rfl,rfl⟩:=ub.1 h4
  refine ⟨[(x,y),(z,w)],rfl,fun v hv=>?_,q4.2.2⟩
  simp only [List.mem_cons,List.not_mem_nil,or_false]at hv
  rcases hv with rfl | rfl
  ·exact q4.1
  ·exact q4.2.1
theorem wa9 (k:List R→Prop) (a b c d e f g h i:C):onRs k (.one (.slice [[a,b,c],[d,e,f],[g,h,i]]))=onO (fun x=>onO (fun y=>onO (fun z=>(WLR x∧WLR y∧WLR z)∧k [x,y,z]) (dR g h i)) (dR d e f)) (dR a b c):=by
 refine propext ⟨fun ⟨t,h,h1⟩=>?_,fun h=>?_⟩
 ·simp only [rsA,AV.one.injEq,C.slice.injEq]at h
  match t,h with
  | [x,y,z],h=>
   simp only [List.map_cons,List.map_nil,rC,List.cons.injEq,and_true]at h
   obtain ⟨⟨rfl,rfl,rfl⟩,⟨rfl,rfl,rfl⟩,rfl,rfl,rfl⟩:=h
   simp only [dR_e,kK]
   exact ⟨⟨h1.1 _ (by simp),h1.1 _ (by simp),h1.1 _ (by simp)⟩,h1.2⟩
 ·obtain ⟨x,h1,q1⟩:=Xb.1 h
  obtain ⟨y,h2,q2⟩:=Xb.1 q1
  obtain ⟨z,h3,q3⟩:=Xb.1 q2
  obtain ⟨rfl,rfl,rfl⟩:=ub.1 h1
  obtain ⟨rfl,rfl,rfl⟩:=ub.1 h2
  obtain ⟨rfl,rfl,rfl⟩:=ub.1 h3
  refine ⟨[x,y,z],rfl,fun v hv=>?_,q3.2⟩
  simp only [List.mem_cons,List.not_mem_nil,or_false]at hv
  rcases hv with rfl | rfl | rfl
  ·exact q3.1.1
  ·exact q3.1.2.1
  ·exact q3.1.2.2
theorem Vba (k:List R→Prop) (a b c d e f g h i j l m n o p:C):onRs k (.one (.slice [[a,b,c],[d,e,f],[g,h,i],[j,l,m],[n,o,p]]))=onO (fun x=>onO (fun y=>onO (fun z=>onO (fun u=>onO (fun v=>(WLR x∧WLR y∧WLR z∧WLR u∧WLR v)∧k [x,y,z,u,v]) (dR n o p)) (dR j l m)) (dR g h i)) (dR d e f)) (dR a b c):=by
 refine propext ⟨fun ⟨t,h,h1⟩=>?_,fun h=>?_⟩
 ·simp only [rsA,AV.one.injEq,C.slice.injEq]at h
  match t,h with
  | [x,y,z,u,v],h=>
   simp only [List.map_cons,List.map_nil,rC,List.cons.injEq,and_true]at h
   obtain ⟨⟨rfl,rfl,rfl⟩,⟨rfl,rfl,rfl⟩,⟨rfl,rfl,rfl⟩,⟨rfl,rfl,rfl⟩,rfl,rfl,rfl⟩:=h
   simp only [dR_e,kK]
   exact ⟨⟨h1.1 _ (by simp),h1.1 _ (by simp),h1.1 _ (by simp),h1.1 _ (by simp),h1.1 _ (by simp)⟩,h1.2⟩
 ·obtain ⟨x,h1,q1⟩:=Xb.1 h
  obtain ⟨y,h2,q2⟩:=Xb.1 q1
  obtain ⟨z,h3,q3⟩:=Xb.1 q2
  obtain ⟨u,h4,q4⟩:=Xb.1 q3
  obtain ⟨v,h5,q5⟩:=Xb.1 q4
  obtain ⟨rfl,rfl,rfl⟩:=ub.1 h1
  obtain ⟨rfl,rfl,rfl⟩:=ub.1 h2
  obtain ⟨rfl,rfl,rfl⟩:=ub.1 h3
  obtain ⟨rfl,rfl,rfl⟩:=ub.1 h4
  obtain ⟨rfl,rfl,rfl⟩:=ub.1 h5
  refine ⟨[x,y,z,u,v],rfl,fun w hw=>?_,q5.2⟩
  obtain ⟨w1,w2,w3,w4,w5⟩:=q5.1
  simp only [List.mem_cons,List.not_mem_nil,or_false]at hw
  rcases hw with rfl | rfl | rfl | rfl | rfl <;> assumption
attribute [go_sem] jaR VaM wa9 Vba ua6
attribute [go_sem ↓] jaR VaM wa9 Vba ua6
def jaD (tE:Nat) (l:List AV) (K:AV→Prop):Prop:=
 match l with
 | [a]=>onPs (fun l=>okPs 100000000 l∧K (errV tE (if l.all pvld=true then 0 else 2))) a
 | _=>False
theorem vaF (tE:Nat) (a:AV) (K:AV→Prop):jaD tE [a] K=(onPs (fun l=>okPs 100000000 l∧K (errV tE (if l.all pvld=true then 0 else 2))) a):=propext Iff.rfl
@[congr] theorem JbE (tE:Nat) {K:AV→Prop} {l l' : List AV} (h:l=l'):jaD tE l K=jaD tE l' K:=by subst h;rfl
attribute [go_sem] vaF
attribute [go_sem ↓] vaF
def JaS (tE:Nat) (l:List AV) (K:AV→Prop):Prop:=
 match l with
 | [a]=>onPs (fun l=>okPs 100000000 l∧K (errV tE (plchk l))) a
 | _=>False
theorem XaH (tE:Nat) (a:AV) (K:AV→Prop):JaS tE [a] K=(onPs (fun l=>okPs 100000000 l∧K (errV tE (plchk l))) a):=propext Iff.rfl
@[congr] theorem ubE (tE:Nat) {K:AV→Prop} {l l' : List AV} (h:l=l'):JaS tE l K=JaS tE l' K:=by subst h;rfl
attribute [go_sem] XaH
attribute [go_sem ↓] XaH
def Uae (l:List AV) (K:AV→Prop):Prop:=
 match l with
 | [a]=>onPs (fun l=>okPs 100000000 l∧K (.one (.lit (.int .i64 (plchk l:Nat))))) a
 | _=>False
theorem Qak (a:AV) (K:AV→Prop):Uae [a] K=(onPs (fun l=>okPs 100000000 l∧K (.one (.lit (.int .i64 (plchk l:Nat))))) a):=propext Iff.rfl
@[congr] theorem ybA {K:AV→Prop} {l l' : List AV} (h:l=l'):Uae l K=Uae l' K:=by subst h;rfl
attribute [go_sem] Qak
attribute [go_sem ↓] Qak
def uR (l:List AV) (K:AV→Prop):Prop:=
 match l with
 | [a]=>onPs (fun l=>okPs 100000000 l∧K (.one (.lit (.int .i64 (threeC l:Nat))))) a
 | _=>False
theorem vZ (a:AV) (K:AV→Prop):uR [a] K=(onPs (fun l=>okPs 100000000 l∧K (.one (.lit (.int .i64 (threeC l:Nat))))) a):=propext Iff.rfl
@[congr] theorem Qbq {K:AV→Prop} {l l' : List AV} (h:l=l'):uR l K=uR l' K:=by subst h;rfl
attribute [go_sem] vZ
attribute [go_sem ↓] vZ
def zah (tE:Nat) (l:List AV) (K:AV→Prop):Prop:=
 match l with
 | [a,b]=>onPs (fun l=>onA (fun q=>okPs 1000000 l∧al q≤1000000∧l.length≤100000∧K (.tup [qsA (if imgC l q=0 then imgs l q else []),errV tE (imgC l q)])) b) a
 | _=>False
theorem qar (tE:Nat) (a b:AV) (K:AV→Prop):zah tE [a,b] K=(onPs (fun l=>onA (fun q=>okPs 1000000 l∧al q≤1000000∧l.length≤100000∧K (.tup [qsA (if imgC l q=0 then imgs l q else []),errV tE (imgC l q)])) b) a):=propext Iff.rfl
@[congr] theorem Wbz (tE:Nat) {K:AV→Prop} {l l' : List AV} (h:l=l'):zah tE l K=zah tE l' K:=by subst h;rfl
attribute [go_sem] qar
attribute [go_sem ↓] qar
def zI (l:List AV) (K:AV→Prop):Prop:=
 match l with
 | [a,b]=>onPs (fun l=>onA (fun q=>okPs 1000000 l∧al q≤1000000∧l.length≤100000∧K (qsA (imgs l q))) b) a
 | _=>False
theorem yO (a b:AV) (K:AV→Prop):zI [a,b] K=(onPs (fun l=>onA (fun q=>okPs 1000000 l∧al q≤1000000∧l.length≤100000∧K (qsA (imgs l q))) b) a):=propext Iff.rfl
@[congr] theorem Vbl {K:AV→Prop} {l l' : List AV} (h:l=l'):zI l K=zI l' K:=by subst h;rfl
attribute [go_sem] yO
attribute [go_sem ↓] yO
def vr (l:List AV) (K:AV→Prop):Prop:=
 match l with
 | [a]=>onPs (fun l=>okPs 4294967296 l∧K (.one (.lit (.bool (l.all sP))))) a
 | _=>False
theorem W2 (a:AV) (K:AV→Prop):vr [a] K=(onPs (fun l=>okPs 4294967296 l∧K (.one (.lit (.bool (l.all sP))))) a):=propext Iff.rfl
@[congr] theorem Wbu {K:AV→Prop} {l l' : List AV} (h:l=l'):vr l K=vr l' K:=by subst h;rfl
attribute [go_sem] W2
attribute [go_sem ↓] W2
theorem qaf:Good vr:=Va fun as=>by
 unfold vr
 split
 ·exact (Wbn fun _=>(.and fun _=>(.ret _)))
 ·exact .of fun K hk=>hk.elim
def vT (l:List AV) (K:AV→Prop):Prop:=
 match l with
 | [a]=>onAs (fun l=>okAs 4294967296 l∧K (.one (.lit (.bool (l.all sA))))) a
 | _=>False
theorem waa (a:AV) (K:AV→Prop):vT [a] K=(onAs (fun l=>okAs 4294967296 l∧K (.one (.lit (.bool (l.all sA))))) a):=propext Iff.rfl
@[congr] theorem ubt {K:AV→Prop} {l l' : List AV} (h:l=l'):vT l K=vT l' K:=by subst h;rfl
attribute [go_sem] waa
attribute [go_sem ↓] waa
def yR (l:List AV) (K:AV→Prop):Prop:=
 match l with
 | [a]=>onPs (fun l=>okPs 4294967296 l∧K (.one (.lit (.bool (decide (l.length≤20) && l.all sP))))) a
 | _=>False
theorem X9 (a:AV) (K:AV→Prop):yR [a] K=(onPs (fun l=>okPs 4294967296 l∧K (.one (.lit (.bool (decide (l.length≤20) && l.all sP))))) a):=propext Iff.rfl
@[congr] theorem Jbp {K:AV→Prop} {l l' : List AV} (h:l=l'):yR l K=yR l' K:=by subst h;rfl
attribute [go_sem] X9
attribute [go_sem ↓] X9
def Zae (tE:Nat) (l:List AV) (K:AV→Prop):Prop:=
 match l with
 | [a,b]=>onPs (fun l=>onAs (fun m=>okPs 100000000 l∧okAs 100000000 m∧K (errV tE (chkC l m))) b) a
 | _=>False
theorem uak (tE:Nat) (a b:AV) (K:AV→Prop):Zae tE [a,b] K=(onPs (fun l=>onAs (fun m=>okPs 100000000 l∧okAs 100000000 m∧K (errV tE (chkC l m))) b) a):=propext Iff.rfl
@[congr] theorem zbz (tE:Nat) {K:AV→Prop} {l l' : List AV} (h:l=l'):Zae tE l K=Zae tE l' K:=by subst h;rfl
attribute [go_sem] uak
attribute [go_sem ↓] uak
def Zx (l:List AV) (K:AV→Prop):Prop:=
 match l with
 | [a,b]=>onRs (fun l=>onRs (fun m=>okRs 4294967296 l∧K (.one (.lit (.bool (decide (l=m)))))) b) a
 | _=>False
theorem Yaw (a b:AV) (K:AV→Prop):Zx [a,b] K=(onRs (fun l=>onRs (fun m=>okRs 4294967296 l∧K (.one (.lit (.bool (decide (l=m)))))) b) a):=propext Iff.rfl
@[congr] theorem YbA {K:AV→Prop} {l l' : List AV} (h:l=l'):Zx l K=Zx l' K:=by subst h;rfl
attribute [go_sem] Yaw
attribute [go_sem ↓] Yaw
theorem qay:Good Zx:=Va fun as=>by
 unfold Zx
 split
 ·exact (xa6 fun _=>(xa6 fun _=>(.and fun _=>(.ret _))))
 ·exact .of fun K hk=>hk.elim
def Yj (f0:Nat):AC:=(.seq (.ops false [.m 4 .fa])
 (.fg [0,1] (.seq (.seq (.ops false [.m 6 (.t 0),.u 7 (.len (.t 6)),.m 8 (.t 1),.u 9 (.len (.t 8)),.u 10 (.bin .neq (.t 7) (.t 9))])
 (.fg [0,1,10] (.cond (.t 10) (.seq (.ops false [.m 4 .fa])
 .ret) .skip)))
 (.fg [0,1] (.seq (.seq (.ops false [.m 5 (.i 0)])
 (.fg [0,1,5] (.block 0 (.loop (.seq (.seq (.ops false [.m 11 (.t 5),.m 12 (.t 0),.u 13 (.len (.t 12)),.u 14 (.bin .lss (.t 11) (.t 13))])
 (.fg [0,1,5,14] (.cond (.t 14) .skip (.exit 0))))
 (.fg [0,1,5] (.seq (.block 1 (.seq (.ops true [.m 17 (.t 0),.m 18 (.t 5),.u 19 (.idx 3 (.t 17) (.t 18)),.u 20 (.ld none 3 true (.t 19)),.m 21 (.t 1),.m 22 (.t 5),.u 23 (.idx 3 (.t 21) (.t 22)),.u 24 (.ld none 3 true (.t 23)),.u 25 (.call f0 [(.t 20),(.t 24)]),.u 26 (.un .not (.t 25))])
 (.fg [0,1,5,26] (.cond (.t 26) (.seq (.ops false [.m 4 .fa])
 .ret) .skip))))
 (.fg [0,1,5] (.ops false [.m 15 (.t 5),.u 16 (.bin .add (.t 15) (.i 1)),.m 5 (.t 16)])))))))))
 (.fg [] (.seq (.ops false [.m 4 .tr])
 .ret)))))))
def jh:AC:=(.seq (.ops false [.m 2 .fa])
 (.fg [0] (.seq (.seq (.ops false [.m 7 (.t 0),.u 8 (.len (.t 7)),.m 9 (.i 0)])
 (.fg [7,8,9] (.block 0 (.loop (.seq (.ops false [.u 10 (.bin .lss (.t 9) (.t 8))])
 (.fg [7,8,9,10] (.seq (.cond (.t 10) .skip (.exit 0))
 (.fg [7,8,9] (.seq (.block 1 (.seq (.ops false [.u 11 (.idx 10 (.t 7) (.t 9)),.u 12 (.ld none 10 true (.t 11)),.u 4 (.alloc [(.lit (.bool false)),.emp,.emp,(.lit (.bool false)),(.lit (.bool false)),.emp,.emp,(.lit (.bool false)),.emp,.emp]),.n (.st none 10 (.t 4) (.t 12))])
 (.fg [4,7,8,9] (.seq (.ops false [.u 13 (.fa 0 (.t 4)),.u 14 (.fa 0 (.t 13)),.u 15 (.ld none 3 true (.t 14)),.u 16 (.fa 4 (.t 4)),.u 17 (.fa 0 (.t 16)),.u 18 (.ld none 3 true (.t 17)),.u 19 (.fa 4 (.t 4)),.u 20 (.fa 3 (.t 19)),.u 21 (.ld none 3 true (.t 20)),.u 22 (.row 3 [[.x 3 (.t 15)],[.x 3 (.t 18)],[.x 3 (.t 21)]]),.u 23 (.len (.t 22)),.m 24 (.i 0)])
 (.fg [7,8,9,22,23,24] (.block 2 (.loop (.seq (.ops false [.u 25 (.bin .lss (.t 24) (.t 23))])
 (.fg [7,8,9,22,23,24,25] (.seq (.cond (.t 25) .skip (.exit 2))
 (.fg [7,8,9,22,23,24] (.seq (.block 3 (.seq (.ops false [.u 26 (.idx 3 (.t 22) (.t 24)),.u 27 (.ld none 3 true (.t 26)),.u 6 (.alloc [(.lit (.bool false)),.emp,.emp]),.n (.st none 3 (.t 6) (.t 27))])
 (.fg [6,7,8,9,22,23,24] (.seq (.ops false [.u 28 (.fa 1 (.t 6)),.u 29 (.ld none 1 false (.t 28)),.u 30 (.len (.t 29)),.u 31 (.bin .gtr (.t 30) (.i 2)),.m 32 (.t 31),.w 33 32 false (.fa 2 (.t 6)),.w 34 32 false (.ld none 1 false (.t 33)),.w 35 32 false (.len (.t 34)),.w 36 32 false (.bin .gtr (.t 35) (.i 2)),.u 37 (.pick (.t 32) .tr (.t 36))])
 (.fg [7,8,9,22,23,24,37] (.cond (.t 37) (.seq (.ops false [.m 2 .fa])
 .ret) .skip))))))
 (.fg [7,8,9,22,23,24] (.ops false [.u 38 (.bin .add (.t 24) (.i 1)),.m 24 (.t 38)]))))))))))))))
 (.fg [7,8,9] (.ops false [.u 39 (.bin .add (.t 9) (.i 1)),.m 9 (.t 39)])))))))))))
 (.fg [] (.seq (.ops false [.m 2 .tr])
 .ret)))))
theorem jbv {b:Nat} {p:Ps} (h:okP b p):rl p.1.1≤b∧al p.2≤b:=⟨Nat.le_trans (Nat.le_max_left _ _) h.2,Nat.le_trans (Nat.le_max_right _ _) h.2⟩
theorem J0 (hΓ:Holds P Γ) {f:Nat} (hc:check P f=some (40,jh.strip,[.tmp 2])):Sound P f (.dat true vr):=by
 refine va hc qaf hΓ (fun args K hcl hfi hG=>?_)
 match args,hG with
 | [a],hG=>
  obtain ⟨l,rfl,hwl,hok,hK⟩:=hG
  refine ⟨by simp,?_⟩
  simp only [go_sem,jh]
  intro _
  refine ka (fun k:Nat=>⟨mkV [(7,psA l),(8,.one (.lit (.int .i64 l.length))),(9,.one (.lit (.int .i64 k)))],mkH []⟩) (fun k=>k≤l.length∧(l.take k).all sP=true) (fun k=>l.length-k) 0 ?_ ?_ ?_
  ·exact Qa (by simp [okS,okV,okC,okL,okH,okB,okE,Za,Ja,qa,ja,wsA,ws,psA,psC]) trivial
  ·exact ⟨Nat.zero_le _,rfl⟩
  ·rintro k ⟨hk,hall⟩
   by_cases hlt:k<l.length
   ·obtain ⟨p,hp⟩:∃p,l.getD k p0=p:=⟨_,rfl⟩
    have hp0:=qA hlt hp
    obtain ⟨hp1,hp2⟩:=hok p (List.mem_of_getElem? hp0)
    obtain ⟨xs,hxs⟩:∃xs:List R,xs=[p.1.1,p.2.1,p.2.2]:=⟨_,rfl⟩
    have hlx:xs.length=3:=by rw [hxs];rfl
    have hwx:∀x∈xs,rl x≤4294967296:=by
     intro x hx
     rw [hxs]at hx
     simp only [List.mem_cons,List.not_mem_nil,or_false]at hx
     obtain ⟨l1,l2⟩:=jbv ⟨hp1,hp2⟩
     obtain ⟨l3,l4⟩:=al1 l2
     rcases hx with rfl | rfl | rfl <;> assumption
    have hex:xs.all (sR 2)=sP p:=by rw [hxs];simp only [List.all_cons,List.all_nil,Bool.and_true];rfl
    simp only [go_sem,hlt,hp,vbG]
    refine ka (fun j:Nat=>⟨mkV [(7,psA l),(8,.one (.lit (.int .i64 l.length))),(9,.one (.lit (.int .i64 k))),(22,.one (.full (xs.map rC))),(23,.one (.lit (.int .i64 3))),(24,.one (.lit (.int .i64 j)))],mkH []⟩) (fun j=>j≤3∧(xs.take j).all (sR 2)=true) (fun j=>3-j) 0 ?_ ?_ ?_
    ·exact Qa (by rw [hxs];simp [okS,okV,okC,okL,okH,okB,okE,Za,Ja,qa,ja,wsA,ws,psA,psC,rC]) trivial
    ·exact ⟨Nat.zero_le _,rfl⟩
    ·rintro j ⟨hj,hallj⟩
     by_cases hltj:j<3
     ·obtain ⟨x,hx⟩:∃x,xs.getD j (rcan 0)=x:=⟨_,rfl⟩
      have hx0:=qA (by omega:j<xs.length) hx
      have hxr:=hwx x (List.mem_of_getElem? hx0)
      have hjx:j<xs.length:=by omega
      obtain ⟨b,n,d⟩:=x
      have w1:n.length≤4294967296:=Nat.le_trans (Nat.le_max_left _ _) hxr
      have w2:d.length≤4294967296:=Nat.le_trans (Nat.le_max_right _ _) hxr
      have bad:¬(sR 2 (b,n,d)=true)→K (.one (.lit (.bool false))):=by
       intro hb
       have e1:sP p=false:=by rw [←hex];exact kbh hx0 (by simpa using hb)
       rw [kbh hp0 e1]at hK;exact hK
      have hsr:sR 2 (b,n,d)=true↔n.length≤2∧d.length≤2:=by simp [sR]
      simp only [go_sem,hltj,hjx,hx,qa2,cb,cn,cd,ws,hlx]
      exact ⟨fun _ _=>⟨fun h=>bad (fun e=>by have:=hsr.1 e;omega),fun h _=>⟨fun h'=>bad (fun e=>by have:=hsr.1 e;omega),fun h'=>⟨by omega,j+1,Qa (by simp [okS,okV,okC,okL,okH,okB,okE,Za,Ja,qa,ja,wsA,ws,psA,psC]) trivial,⟨by omega,xU hx0 hallj (hsr.2 ⟨by omega,by omega⟩)⟩,by omega⟩⟩⟩,fun h=>absurd (by omega) h⟩
     ·rw [List.take_of_length_le (by omega),hex]at hallj
      simp only [go_sem,hltj]
      exact ⟨fun h=>absurd h (by omega),fun _=>⟨by omega,k+1,Qa (by simp [okS,okV,okC,okL,okH,okB,okE,Za,Ja,qa,ja,wsA,ws,psA,psC]) trivial,⟨by omega,xU hp0 hall hallj⟩,by omega⟩⟩
   ·rw [List.take_of_length_le (by omega)]at hall
    rw [hall]at hK
    simp only [go_sem,hlt]
    exact hK
theorem zad (hΓ:Holds P Γ) {f fr:Nat} (hr:Γ fr=.dat true VA) (hc:check P f=some (27,(Yj fr).strip,[.tmp 4])):Sound P f (.dat true Zx):=by
 refine va hc qay hΓ (fun args K hcl hfi hG=>?_)
 match args,hG with
 | [a,b],hG=>
  obtain ⟨x,rfl,hx,y,rfl,hy,hxl,hK⟩:=hG
  refine ⟨by simp,?_⟩
  simp only [go_sem,Yj,hr]
  intro h1 h2
  refine ⟨fun hl=>?_,fun hne=>?_⟩
  rotate_left
  ·rw [decide_eq_false (fun h=>hne (by rw [h]))]at hK;exact hK
  refine ka (fun n:Nat=>⟨mkV [(0,rsA x),(1,rsA y),(5,.one (.lit (.int .i64 n)))],mkH []⟩) (fun n=>n≤x.length∧x.take n=y.take n) (fun n=>x.length-n) 0 ?_ ?_ ?_
  ·exact Qa (by simp [okS,okV,okC,okL,okH,okB,okE,Za,Ja,qa,ja,wsA,ws,rsA]) trivial
  ·exact ⟨Nat.zero_le _,rfl⟩
  ·rintro n ⟨hn,hd⟩
   by_cases hlt:n<x.length
   ·have hlt' : n<y.length:=by omega
    obtain ⟨u,hu⟩:∃u,x.getD n (rcan 0)=u:=⟨_,rfl⟩
    obtain ⟨v,hv⟩:∃v,y.getD n (rcan 0)=v:=⟨_,rfl⟩
    have hu0:=qA hlt hu
    have hv0:=qA hlt' hv
    obtain ⟨u1,u2⟩:=hxl u (List.mem_of_getElem? hu0)
    have v1:=hy v (List.mem_of_getElem? hv0)
    by_cases he:u=v
    ·simp only [go_sem,hr,hlt,hlt',hu,hv,qa2,decide_eq_true he]
     exact fun _=>⟨u1,v1,u2,by omega,n+1,Qa (by simp [okS,okV,okC,okL,okH,okB,okE,Za,Ja,qa,ja,wsA,ws,rsA]) trivial,⟨by omega,by rw [List.take_add_one,List.take_add_one,hu0,hv0,hd,he]⟩,by omega⟩
    ·have hne:decide (x=y)=false:=decide_eq_false fun h=>by
      subst h;rw [hu0]at hv0;exact he (Option.some.inj hv0)
     rw [hne]at hK
     simp only [go_sem,hr,hlt,hlt',hu,hv,qa2,decide_eq_false he]
     exact fun _=>⟨u1,v1,u2,hK⟩
   ·simp only [go_sem,hlt]
    rw [List.take_of_length_le (by omega),List.take_of_length_le (by omega)]at hd
    rw [decide_eq_true hd]at hK
    exact fun _=>hK
end Go.Abs
end
section
namespace Go.Num
open Go.Abs
def ctrQ (p u v:V2):V2:=(p.1+(sqQ u*v.2-sqQ v*u.2) / (2*crossQ u v),p.2+(sqQ v*u.1-sqQ u*v.1) / (2*crossQ u v))
def ciQ (p u v:V2):V2:=if crossQ u v=0 then (0,0) else ctrQ p u v
def ciL (l:List Arc):V2:=ciQ (av (l.getD 0 a0)) (subQ (av (l.getD 1 a0)) (av (l.getD 0 a0))) (subQ (av (l.getD 2 a0)) (av (l.getD 0 a0)))
def crL (l:List Arc):Rat:=crossQ (subQ (av (l.getD 1 a0)) (av (l.getD 0 a0))) (subQ (av (l.getD 2 a0)) (av (l.getD 0 a0)))
end Go.Num
namespace Go.Abs
open Go.Num
variable {P:Program} {Γ:Nat→Spec}
def jag (tE:Nat) (l:List AV) (K:AV→Prop):Prop:=
 match l with
 | [a]=>onAs (fun l=>okAs 1000000 l∧3≤l.length∧K (.tup [pQ (ciL l),errV tE (if crL l=0 then 8 else 0)])) a
 | _=>False
theorem zap (tE:Nat) (a:AV) (K:AV→Prop):jag tE [a] K=(onAs (fun l=>okAs 1000000 l∧3≤l.length∧K (.tup [pQ (ciL l),errV tE (if crL l=0 then 8 else 0)])) a):=propext Iff.rfl
@[congr] theorem ubz (tE:Nat) {K:AV→Prop} {l l' : List AV} (h:l=l'):jag tE l K=jag tE l' K:=by subst h;rfl
attribute [go_sem] zap
attribute [go_sem ↓] zap
def Yac (l:List AV) (K:AV→Prop):Prop:=
 match l with
 | [a]=>onAs (fun l=>okAs 1000000 l∧3≤l.length∧K (.tup [pQ (ciL l),.one (.lit (.bool (decide (crL l≠0))))])) a
 | _=>False
theorem Vak (a:AV) (K:AV→Prop):Yac [a] K=(onAs (fun l=>okAs 1000000 l∧3≤l.length∧K (.tup [pQ (ciL l),.one (.lit (.bool (decide (crL l≠0))))])) a):=propext Iff.rfl
@[congr] theorem wbz {K:AV→Prop} {l l' : List AV} (h:l=l'):Yac l K=Yac l' K:=by subst h;rfl
attribute [go_sem] Vak
attribute [go_sem ↓] Vak
end Go.Abs
end
section
namespace Go.Abs
open Go.Num
variable {P:Program} {Γ:Nat→Spec}
def UV (l:List AV) (K:AV→Prop):Prop:=
 match l with
 | [a]=>asInt (fun k n=>k=.i64∧n=1∧K (.one (.lit (.string ⟨#[49]⟩)))) a
 | _=>False
theorem X6 (a:AV) (K:AV→Prop):UV [a] K=(asInt (fun k n=>k=.i64∧n=1∧K (.one (.lit (.string ⟨#[49]⟩)))) a):=propext Iff.rfl
@[congr] theorem vbq {K:AV→Prop} {l l' : List AV} (h:l=l'):UV l K=UV l' K:=by subst h;rfl
attribute [go_sem] X6
attribute [go_sem ↓] X6
def Wad (l:List AV) (K:AV→Prop):Prop:=
 match l with
 | [a,b]=>asInt (fun k n=>k=.i64∧n=1∧asInt (fun k m=>k=.i64∧m=10∧K (.one (.lit (.string ⟨#[49]⟩)))) b) a
 | _=>False
theorem xas (a b:AV) (K:AV→Prop):Wad [a,b] K=(asInt (fun k n=>k=.i64∧n=1∧asInt (fun k m=>k=.i64∧m=10∧K (.one (.lit (.string ⟨#[49]⟩)))) b) a):=propext Iff.rfl
@[congr] theorem Jbz {K:AV→Prop} {l l' : List AV} (h:l=l'):Wad l K=Wad l' K:=by subst h;rfl
attribute [go_sem] xas
attribute [go_sem ↓] xas
def vaf (l:List AV) (K:AV→Prop):Prop:=
 match l with
 | [a]=>asInt (fun k n=>k=.i64∧n=1∧K (.one (.lit (.string ⟨#[49]⟩)))) a
 | _=>False
theorem xam (a:AV) (K:AV→Prop):vaf [a] K=(asInt (fun k n=>k=.i64∧n=1∧K (.one (.lit (.string ⟨#[49]⟩)))) a):=propext Iff.rfl
@[congr] theorem QbB {K:AV→Prop} {l l' : List AV} (h:l=l'):vaf l K=vaf l' K:=by subst h;rfl
attribute [go_sem] xam
attribute [go_sem ↓] xam
def xaf (l:List AV) (K:AV→Prop):Prop:=
 match l with
 | [a,b]=>a=.one (.slice [[.lit (.string ⟨#[49]⟩)]])∧b=.one (.lit (.string ⟨#[]⟩))∧K (.one (.lit (.string ⟨#[49]⟩)))
 | _=>False
theorem qaw (a b:AV) (K:AV→Prop):xaf [a,b] K=(a=.one (.slice [[.lit (.string ⟨#[49]⟩)]])∧b=.one (.lit (.string ⟨#[]⟩))∧K (.one (.lit (.string ⟨#[49]⟩)))):=propext Iff.rfl
@[congr] theorem vby {K:AV→Prop} {l l' : List AV} (h:l=l'):xaf l K=xaf l' K:=by subst h;rfl
attribute [go_sem] qaw
attribute [go_sem ↓] qaw
def zag (l:List AV) (K:AV→Prop):Prop:=
 match l with
 | [a]=>onW (fun w=>zv w=1∧K (.one (.lit (.string ⟨#[49]⟩)))) a
 | _=>False
theorem Uak (a:AV) (K:AV→Prop):zag [a] K=(onW (fun w=>zv w=1∧K (.one (.lit (.string ⟨#[49]⟩)))) a):=propext Iff.rfl
@[congr] theorem Yby {K:AV→Prop} {l l' : List AV} (h:l=l'):zag l K=zag l' K:=by subst h;rfl
attribute [go_sem] Uak
attribute [go_sem ↓] Uak
def Qag (l:List AV) (K:AV→Prop):Prop:=
 match l with
 | [a]=>onR (fun x=>rv x=1∧rl x≤4294967296∧K (.one (.lit (.string ⟨#[49]⟩)))) a
 | _=>False
theorem Qao (a:AV) (K:AV→Prop):Qag [a] K=(onR (fun x=>rv x=1∧rl x≤4294967296∧K (.one (.lit (.string ⟨#[49]⟩)))) a):=propext Iff.rfl
@[congr] theorem Xby {K:AV→Prop} {l l' : List AV} (h:l=l'):Qag l K=Qag l' K:=by subst h;rfl
attribute [go_sem] Qao
attribute [go_sem ↓] Qao
end Go.Abs
end
