/-
  Parts of the proof, merged: ChartG, ChartQ, ChartH, ChartR, ChartW, ChartX, ComA, ChartRow, ComB, PoseD, PoseE, PoseT.
-/
import Derived.Test.YtjggkdaangghfaaGreatM6
set_option linter.unusedVariables false
set_option linter.unusedSimpArgs false
set_option maxRecDepth 100000
section
namespace Go.Num
def sh1 (by' : Rat) (a:Q2):List Q2:=
 let f:=frac (a.1+by')
 let t:=f+(a.2-a.1)
 if 1<t then (0,t-1)::(if f<1 then [(f,1)] else []) else (if f<t then [(f,t)] else [])
def shL (by' : Rat) (l:List Q2):List Q2:=l.flatMap (sh1 by')
def lim64 (l:List Q2):List Q2:=if 64<l.length then [] else l
def code64 (l:List Q2):Nat:=if 64<l.length then 4 else 0
def shOut (l:List Arc) (y:R):List Q2:=if chk [l]=0/\vldR y=true then lim64 (nrm (shL (rv y) (vals l))) else []
def shCode (l:List Arc) (y:R):Nat:=if chk [l]=0 then (if vldR y=true then code64 (nrm (shL (rv y) (vals l))) else 3) else chk [l]
end Go.Num
namespace Go.Abs
open Go.Num
variable {P:Program} {Γ:Nat->Spec}
def wX (tE m:Nat) (l:List AV) (K:AV->Prop):Prop:=
 match l with
 | [a,b]=>onAs (λl=>onR (λy=>(chk [l]=0->2*l.length<=m)/\okAs 10000000 l/\rl y<=10000000/\K (.tup [.one (.slice (((shOut l y).map acan).map aC)),errV tE (shCode l y)])) b) a
 | _=>False
theorem V0 (tE m:Nat) (a b:AV) (K:AV->Prop):wX tE m [a,b] K=(onAs (λl=>onR (λy=>(chk [l]=0->2*l.length<=m)/\okAs 10000000 l/\rl y<=10000000/\K (.tup [.one (.slice (((shOut l y).map acan).map aC)),errV tE (shCode l y)])) b) a):=propext Iff.rfl
@[congr] theorem Ybx (tE m:Nat) {K:AV->Prop} {l l' : List AV} (h:l=l'):wX tE m l K=wX tE m l' K:=by subst h;rfl
attribute [go_sem] V0
attribute [go_sem ↓] V0
end Go.Abs
end
section
namespace Go.Num
end Go.Num
end
section
namespace Go.Num
end Go.Num
namespace Go.Abs
open Go.Num
variable {P:Program} {Γ:Nat->Spec}
theorem Wbd (k:List Arc->Prop) (x y:R):onAs k (.one (.slice [[cb x,cn x,cd x,cb y,cn y,cd y]]))=((∀z∈[(x,y)],WLA z)/\k [(x,y)]):=UK k [(x,y)]
theorem qbj (k:List Arc->Prop) (x y x' y' : R):onAs k (.one (.slice [[cb x,cn x,cd x,cb y,cn y,cd y],[cb x',cn x',cd x',cb y',cn y',cd y']]))=((∀z∈[(x,y),(x',y')],WLA z)/\k [(x,y),(x',y')]):=UK k [(x,y),(x',y')]
theorem Wa0 (k:List Arc->Prop) (x:Arc):onAs k (.one (.slice [aC x]))=((∀z∈[x],WLA z)/\k [x]):=UK k [x]
theorem va2 (k:List Arc->Prop) (x y:Arc):onAs k (.one (.slice [aC x,aC y]))=((∀z∈[x,y],WLA z)/\k [x,y]):=UK k [x,y]
theorem YaH (k:List Arc->Prop) (y x' y' : R):onAs k (.one (.slice [[.lit (.bool false),.slice [],.slice [],cb y,cn y,cd y],[cb x',cn x',cd x',cb y',cn y',cd y']]))=((∀z∈[(rcan 0,y),(x',y')],WLA z)/\k [(rcan 0,y),(x',y')]):=by
 rw [Wc];exact UK k [((false,[],[]),y),(x',y')]
attribute [go_sem] Wbd qbj Wa0 va2 YaH
attribute [go_sem ↓] Wbd qbj Wa0 va2 YaH
def kW (l:List AV) (K:AV->Prop):Prop:=
 match l with
 | []=>K (.one (.lit (.bool true)))
 | _=>False
theorem vab (K:AV->Prop):kW [] K=(K (.one (.lit (.bool true)))):=propext Iff.rfl
@[congr] theorem UbC {K:AV->Prop} {l l' : List AV} (h:l=l'):kW l K=kW l' K:=by subst h;rfl
attribute [go_sem] vab
attribute [go_sem ↓] vab
end Go.Abs
end
section
namespace Go.Num
instance (x:Rat) (a:Q2):Decidable (mem x a):=by unfold mem;infer_instance
instance (x:Rat) (l:List Q2):Decidable (memL x l):=by unfold memL;infer_instance
end Go.Num
end
section
namespace Go.Num
def not1 (f t:Rat):List Q2:=if f<t then [(f,t)] else []
def notGo:Rat->List Q2->List Q2
 | f,[]=>not1 f 1
 | f,a::l=>not1 f a.1++notGo a.2 l
def notL (l:List Q2):List Q2:=notGo 0 l
def meet1 (x y:Q2):List Q2:=not1 (mxQ x.1 y.1) (mnQ x.2 y.2)
def meetL (a b:List Q2):List Q2:=a.flatMap λx=>b.flatMap λy=>meet1 x y
end Go.Num
namespace Go.Abs
open Go.Num
variable {P:Program} {Γ:Nat->Spec}
def ZaK (l:List AV) (K:AV->Prop):Prop:=
 match l with
 | [a]=>onAs (λl=>l.length<=1000/\okAs 1000000000 l/\K (.one (.slice (((notL (vals l)).map acan).map aC)))) a
 | _=>False
theorem va4 (a:AV) (K:AV->Prop):ZaK [a] K=(onAs (λl=>l.length<=1000/\okAs 1000000000 l/\K (.one (.slice (((notL (vals l)).map acan).map aC)))) a):=propext Iff.rfl
@[congr] theorem vbR {K:AV->Prop} {l l' : List AV} (h:l=l'):ZaK l K=ZaK l' K:=by subst h;rfl
attribute [go_sem] va4
attribute [go_sem ↓] va4
def wah (l:List AV) (K:AV->Prop):Prop:=
 match l with
 | [a,b]=>onAs (λl=>onAs (λm=>l.length<=1000/\m.length<=1000/\okAs 1000000000 l/\okAs 1000000000 m/\K (.one (.slice (((meetL (vals l) (vals m)).map acan).map aC)))) b) a
 | _=>False
theorem Wap (a b:AV) (K:AV->Prop):wah [a,b] K=(onAs (λl=>onAs (λm=>l.length<=1000/\m.length<=1000/\okAs 1000000000 l/\okAs 1000000000 m/\K (.one (.slice (((meetL (vals l) (vals m)).map acan).map aC)))) b) a):=propext Iff.rfl
@[congr] theorem QbL {K:AV->Prop} {l l' : List AV} (h:l=l'):wah l K=wah l' K:=by subst h;rfl
attribute [go_sem] Wap
attribute [go_sem ↓] Wap
end Go.Abs
end
section
namespace Go.Num
def res (c:Nat) (L:List Q2):List Q2:=if c=0 then lim64 L else []
def cod (c:Nat) (L:List Q2):Nat:=if c=0 then code64 L else c
end Go.Num
namespace Go.Abs
open Go.Num
variable {P:Program} {Γ:Nat->Spec}
def xW (tE m:Nat) (l:List AV) (K:AV->Prop):Prop:=
 match l with
 | [a,b]=>onAs (λl=>onAs (λk=>(chk [l,k]=0->l.length+k.length<=m)/\okAs 10000000 l/\okAs 10000000 k/\K (.tup [.one (.slice (((res (chk [l,k]) (nrm (vals l++vals k))).map acan).map aC)),errV tE (cod (chk [l,k]) (nrm (vals l++vals k)))])) b) a
 | _=>False
theorem Qaa (tE m:Nat) (a b:AV) (K:AV->Prop):xW tE m [a,b] K=(onAs (λl=>onAs (λk=>(chk [l,k]=0->l.length+k.length<=m)/\okAs 10000000 l/\okAs 10000000 k/\K (.tup [.one (.slice (((res (chk [l,k]) (nrm (vals l++vals k))).map acan).map aC)),errV tE (cod (chk [l,k]) (nrm (vals l++vals k)))])) b) a):=propext Iff.rfl
@[congr] theorem kbG (tE m:Nat) {K:AV->Prop} {l l' : List AV} (h:l=l'):xW tE m l K=xW tE m l' K:=by subst h;rfl
attribute [go_sem] Qaa
attribute [go_sem ↓] Qaa
def vak (tE m:Nat) (l:List AV) (K:AV->Prop):Prop:=
 match l with
 | [a,b]=>onAs (λl=>onAs (λk=>(chk [l,k]=0->l.length<=m/\k.length<=m)/\okAs 10000000 l/\okAs 10000000 k/\K (.tup [.one (.slice (((res (chk [l,k]) (meetL (nrm (vals l)) (nrm (vals k)))).map acan).map aC)),errV tE (cod (chk [l,k]) (meetL (nrm (vals l)) (nrm (vals k))))])) b) a
 | _=>False
theorem wao (tE m:Nat) (a b:AV) (K:AV->Prop):vak tE m [a,b] K=(onAs (λl=>onAs (λk=>(chk [l,k]=0->l.length<=m/\k.length<=m)/\okAs 10000000 l/\okAs 10000000 k/\K (.tup [.one (.slice (((res (chk [l,k]) (meetL (nrm (vals l)) (nrm (vals k)))).map acan).map aC)),errV tE (cod (chk [l,k]) (meetL (nrm (vals l)) (nrm (vals k))))])) b) a):=propext Iff.rfl
@[congr] theorem ubH (tE m:Nat) {K:AV->Prop} {l l' : List AV} (h:l=l'):vak tE m l K=vak tE m l' K:=by subst h;rfl
attribute [go_sem] wao
attribute [go_sem ↓] wao
def qaP (tE m:Nat) (l:List AV) (K:AV->Prop):Prop:=
 match l with
 | [a]=>onAs (λl=>(chk [l]=0->l.length<=m)/\okAs 10000000 l/\K (.tup [.one (.slice (((res (chk [l]) (notL (nrm (vals l)))).map acan).map aC)),errV tE (cod (chk [l]) (notL (nrm (vals l))))])) a
 | _=>False
theorem XaU (tE m:Nat) (a:AV) (K:AV->Prop):qaP tE m [a] K=(onAs (λl=>(chk [l]=0->l.length<=m)/\okAs 10000000 l/\K (.tup [.one (.slice (((res (chk [l]) (notL (nrm (vals l)))).map acan).map aC)),errV tE (cod (chk [l]) (notL (nrm (vals l))))])) a):=propext Iff.rfl
@[congr] theorem YbP (tE m:Nat) {K:AV->Prop} {l l' : List AV} (h:l=l'):qaP tE m l K=qaP tE m l' K:=by subst h;rfl
attribute [go_sem] XaU
attribute [go_sem ↓] XaU
end Go.Abs
end
section
namespace Go.Abs
open Go.Num
variable {P:Program} {Γ:Nat->Spec}
def yV (tE:Nat) (l:List AV) (K:AV->Prop):Prop:=
 match l with
 | [a,e,b,n]=>onAs (λl=>onErr tE (λc=>onAs (λm=>asInt (λk n=>k=.i64/\okAs 1073741824 l/\okAs 1073741824 m/\K (.one (.lit (.bool (decide ((c:Int)=n) && decide (vals l=vals m)))))) n) b) e) a
 | _=>False
theorem Xae (tE:Nat) (a e b n:AV) (K:AV->Prop):yV tE [a,e,b,n] K=(onAs (λl=>onErr tE (λc=>onAs (λm=>asInt (λk n=>k=.i64/\okAs 1073741824 l/\okAs 1073741824 m/\K (.one (.lit (.bool (decide ((c:Int)=n) && decide (vals l=vals m)))))) n) b) e) a):=propext Iff.rfl
@[congr] theorem jbH (tE:Nat) {K:AV->Prop} {l l' : List AV} (h:l=l'):yV tE l K=yV tE l' K:=by subst h;rfl
attribute [go_sem] Xae
attribute [go_sem ↓] Xae
def JaN (l:List AV) (K:AV->Prop):Prop:=
 match l with
 | [a,b]=>onAs (λl=>onR (λy=>okAs 1073741824 l/\rl y<=1073741824/\K (.one (.lit (.bool (l.any (inA (rv y))))))) b) a
 | _=>False
theorem QaH (a b:AV) (K:AV->Prop):JaN [a,b] K=(onAs (λl=>onR (λy=>okAs 1073741824 l/\rl y<=1073741824/\K (.one (.lit (.bool (l.any (inA (rv y))))))) b) a):=propext Iff.rfl
@[congr] theorem zbS {K:AV->Prop} {l l' : List AV} (h:l=l'):JaN l K=JaN l' K:=by subst h;rfl
attribute [go_sem] QaH
attribute [go_sem ↓] QaH
def jW (l:List AV) (K:AV->Prop):Prop:=
 match l with
 | [a,b]=>onL (λL=>onR (λy=>(∀l∈L,okAs 1073741824 l)/\rl y<=1073741824/\L.length<=1000000/\K (.one (.lit (.int .i64 (L.countP (λl=>l.any (inA (rv y))):Nat))))) b) a
 | _=>False
theorem Xab (a b:AV) (K:AV->Prop):jW [a,b] K=(onL (λL=>onR (λy=>(∀l∈L,okAs 1073741824 l)/\rl y<=1073741824/\L.length<=1000000/\K (.one (.lit (.int .i64 (L.countP (λl=>l.any (inA (rv y))):Nat))))) b) a):=propext Iff.rfl
@[congr] theorem zbw {K:AV->Prop} {l l' : List AV} (h:l=l'):jW l K=jW l' K:=by subst h;rfl
attribute [go_sem] Xab
attribute [go_sem ↓] Xab
end Go.Abs
end
section
namespace Go.Abs
open Go.Num
def rC (x:R):List C:=[cb x,cn x,cd x]
theorem ZbR (x:R):rC x=[cb x,cn x,cd x]:=eq_of_heq (HEq.refl _)
theorem Wbb (x:R):(rC x).length=3:=eq_of_heq (HEq.refl _)
theorem Jv (K:List C->Prop) (L:List R) (i:Nat):getE K (L.map rC) i=(i<L.length/\K (rC (L.getD i (rcan 0)))):=by
 simp only [getE,List.length_map,List.getElem?_map]
 refine propext ⟨λh=>⟨h.1,h.2 _ (by simp [h.1,List.getD_eq_getElem?_getD])⟩,λh=>⟨h.1,λe he=>?_⟩⟩
 simp [h.1]at he
 subst he
 have:=h.2
 simpa [List.getD_eq_getElem?_getD,h.1] using this
theorem XH (l:List R):CleanR (l.map rC)=True:=eq_true λe he c hc=>by
 obtain ⟨x,_,rfl⟩:=List.mem_map.1 he
 exact zaG x c hc
theorem ubh (L:List R):(∀e∈L.map rC,e.length=3)=True:=eq_true λe he=>by
 obtain ⟨l,_,rfl⟩:=List.mem_map.1 he;rfl
theorem kaZ (h:Nat->HB) (L:List R):(L.map rC).map (λx=>x.map (datC h))=L.map rC:=by
 rw [List.map_map];exact List.map_congr_left λx _=>rfl
theorem UaH (L:List R):(L.map rC).flatMap (λx=>x.flatMap ownC)=[]:=by
 rw [List.flatMap_map];exact List.flatMap_eq_nil_iff.2 λx _=>rfl
theorem QaM (h:Nat->HB) (L:List (List Arc)):(L.map lC).map (λx=>x.map (datC h))=L.map lC:=by
 rw [List.map_map];exact List.map_congr_left λx _=>rfl
theorem ZaH (L:List (List Arc)):(L.map lC).flatMap (λx=>x.flatMap ownC)=[]:=by
 rw [List.flatMap_map];exact List.flatMap_eq_nil_iff.2 λx _=>rfl
theorem zaI (h:Nat->HB):frz [] h=h:=eq_of_heq (HEq.refl _)
attribute [go_sem] Wbb Jv XH ubh kaZ UaH QaM ZaH zaI
attribute [go_sem ↓] Wbb Jv XH ubh kaZ UaH QaM ZaH zaI
end Go.Abs
end
section
namespace Go.Num
def posR:List R->Rat->Nat
 | [],_=>0
 | x::l,q=>if rv x<q then posR l q+1 else 0
def insR (l:List R) (y:R):List R:=if (l.drop (posR l (rv y))).head?.map rv=some (rv y) then l else l.take (posR l (rv y))++y::l.drop (posR l (rv y))
def okRs (b:Nat) (l:List R):Prop:=∀x∈l,WLR x/\rl x<=b
def insA (S:List R) (x:Arc):List R:=insR (insR S x.1) x.2
def marksR (L:List (List Arc)):List R:=L.flatten.foldl insA [rcan 0,rcan 1]
end Go.Num
namespace Go.Abs
open Go.Num
variable {P:Program} {Γ:Nat->Spec}
def rsA (l:List R):AV:=.one (.slice (l.map rC))
theorem qbf {x y:R} (h:rC x=rC y):x=y:=Jt x y (by simpa [rC,rA] using h)
theorem qbt (x y:List R) (h:rsA x=rsA y):x=y:=by
 simp only [rsA,AV.one.injEq,C.slice.injEq]at h
 exact List.map_inj_right (λ_ _=>qbf) |>.1 h
def onRs (k:List R->Prop) (a:AV):Prop:=onE rsA (λl=>(∀x∈l,WLR x)/\k l) a
@[congr] theorem JbO {k:List R->Prop} {a a' : AV} (h:a=a'):onRs k a=onRs k a':=by subst h;rfl
theorem Ubc (k:List R->Prop) (l:List R):onRs k (.one (.slice (l.map rC)))=((∀x∈l,WLR x)/\k l):=Wp qbt (λl=>(∀x∈l,WLR x)/\k l) l
theorem Jas (l:List R):Clean (.slice (l.map rC))=True:=eq_true (.slice _ (of_eq_true (XH l)))
theorem jbm (l:List R) (n:Nat):(l.map rC).take n=(l.take n).map rC:=by rw [List.map_take]
theorem Qbo (l:List R) (n:Nat):(l.map rC).drop n=(l.drop n).map rC:=by rw [List.map_drop]
theorem Wbg (l:List R):rsA l=.one (.slice (l.map rC)):=eq_of_heq (HEq.refl _)
attribute [go_sem] Ubc Jas Wbg jbm Qbo
attribute [go_sem ↓] Ubc Jas Wbg
def jV (l:List AV) (K:AV->Prop):Prop:=
 match l with
 | [a]=>onL (λL=>(∀l∈L,okAs 1073741824 l)/\L.flatten.length<=100000/\K (.one (.slice ((marksR L).map rC)))) a
 | _=>False
theorem J9 (a:AV) (K:AV->Prop):jV [a] K=(onL (λL=>(∀l∈L,okAs 1073741824 l)/\L.flatten.length<=100000/\K (.one (.slice ((marksR L).map rC)))) a):=propext Iff.rfl
@[congr] theorem Jby {K:AV->Prop} {l l' : List AV} (h:l=l'):jV l K=jV l' K:=by subst h;rfl
attribute [go_sem] J9
attribute [go_sem ↓] J9
def UI (l:List AV) (K:AV->Prop):Prop:=
 match l with
 | [a,b]=>onRs (λl=>onR (λy=>okRs 1073741824 l/\rl y<=1073741824/\l.length<=1000000/\K (.one (.slice ((insR l y).map rC)))) b) a
 | _=>False
theorem ZP (a b:AV) (K:AV->Prop):UI [a,b] K=(onRs (λl=>onR (λy=>okRs 1073741824 l/\rl y<=1073741824/\l.length<=1000000/\K (.one (.slice ((insR l y).map rC)))) b) a):=propext Iff.rfl
@[congr] theorem jbu {K:AV->Prop} {l l' : List AV} (h:l=l'):UI l K=UI l' K:=by subst h;rfl
attribute [go_sem] ZP
attribute [go_sem ↓] ZP
end Go.Abs
end
section
namespace Go.Num
open Go.Abs
theorem UbO {α:Type} {f:α->Bool} {l:List α} {k:Nat} {x:α} (h:l[k]?=some x) (hb:f x=false):l.all f=false:=by
 rw [List.all_eq_false]
 exact ⟨x,List.mem_of_getElem? h,by simp [hb]⟩
theorem Xa7 {α:Type} {f:α->Bool} {l:List α} {k:Nat} {x:α} (h:l[k]?=some x) (ht:(l.take k).all f=true) (hb:f x=true):(l.take (k+1)).all f=true:=by
 rw [List.take_add_one,h,List.all_append,ht];simp [hb]
theorem jax {α:Type} {l:List α} {k:Nat} {x d:α} (hk:k<l.length) (h:l.getD k d=x):l[k]?=some x:=by
 rw [<-h,List.getD_eq_getElem?_getD,List.getElem?_eq_getElem hk];rfl
def sR (n:Nat) (x:R):Bool:=decide (x.2.1.length<=n) && decide (x.2.2.length<=n)
def sP (p:Ps):Bool:=sR 2 p.1.1 && (sR 2 p.2.1 && sR 2 p.2.2)
def sA (p:Arc):Bool:=sR 2 p.1 && sR 2 p.2
def placeC (l:List Arc):Nat:=if l.all avld then 0 else 2
def chkC (l:List Ps) (m:List Arc):Nat:=if threeC l≠0 then threeC l else placeC m
theorem yW {n:Nat} {x:R} (h:sR n x=true):rl x<=n:=by
 simp only [sR,Bool.and_eq_true,decide_eq_true_eq]at h
 exact Nat.max_le.2 h
end Go.Num
namespace Go.Abs
open Go.Num
variable {P:Program} {Γ:Nat->Spec}
def qsA (l:List V2):AV:=.one (.slice ((l.map acan).map aC))
theorem Ybf (l:List V2):qsA l=.one (.slice ((l.map acan).map aC)):=eq_of_heq (HEq.refl _)
theorem VaZ (k:List Arc->Prop) (a b c d e f:C):onAs k (.one (.slice [[a,b,c,d,e,f]]))=onO (λx=>onO (λy=>WLA (x,y)/\k [(x,y)]) (dR d e f)) (dR a b c):=by
 refine propext ⟨λ⟨t,h,h1⟩=>?_,λh=>?_⟩
 .simp only [asA,as,AV.one.injEq,C.slice.injEq]at h
  match t,h with
  | [z],h=>
   simp only [List.map_cons,List.map_nil,aC,List.cons.injEq,and_true]at h
   obtain ⟨rfl,rfl,rfl,rfl,rfl,rfl⟩:=h
   simp only [dR_e,WK]
   exact ⟨h1.1 _ (by simp),h1.2⟩
 .obtain ⟨x,h1,q1⟩:=zc.1 h
  obtain ⟨y,h2,q2⟩:=zc.1 q1
  obtain ⟨rfl,rfl,rfl⟩:=qc.1 h1
  obtain ⟨rfl,rfl,rfl⟩:=qc.1 h2
  exact ⟨[(x,y)],rfl,λz hz=>by rw [List.mem_singleton.1 hz];exact q2.1,q2.2⟩
theorem uaM (k:List Arc->Prop) (a b c d e f a' b' c' d' e' f' : C):onAs k (.one (.slice [[a,b,c,d,e,f],[a',b',c',d',e',f']]))=onO (λx=>onO (λy=>onO (λz=>onO (λw=>WLA (x,y)/\WLA (z,w)/\k [(x,y),(z,w)]) (dR d' e' f')) (dR a' b' c')) (dR d e f)) (dR a b c):=by
 refine propext ⟨λ⟨t,h,h1⟩=>?_,λh=>?_⟩
 .simp only [asA,as,AV.one.injEq,C.slice.injEq]at h
  match t,h with
  | [z,w],h=>
   simp only [List.map_cons,List.map_nil,aC,List.cons.injEq,and_true]at h
   obtain ⟨⟨rfl,rfl,rfl,rfl,rfl,rfl⟩,rfl,rfl,rfl,rfl,rfl,rfl⟩:=h
   simp only [dR_e,WK]
   exact ⟨h1.1 _ (by simp),h1.1 _ (by simp),h1.2⟩
 .obtain ⟨x,h1,q1⟩:=zc.1 h
  obtain ⟨y,h2,q2⟩:=zc.1 q1
  obtain ⟨z,h3,q3⟩:=zc.1 q2
  obtain ⟨w,h4,q4⟩:=zc.1 q3
  obtain ⟨rfl,rfl,rfl⟩:=qc.1 h1
  obtain ⟨rfl,rfl,rfl⟩:=qc.1 h2
  obtain ⟨rfl,rfl,rfl⟩:=qc.1 h3
  obtain ⟨rfl,rfl,rfl⟩:=qc.1 h4
  refine ⟨[(x,y),(z,w)],rfl,λv hv=>?_,q4.2.2⟩
  simp only [List.mem_cons,List.not_mem_nil,or_false]at hv
  rcases hv with rfl | rfl
  .exact q4.1
  .exact q4.2.1
theorem vbc (k:List R->Prop) (a b c d e f g h i:C):onRs k (.one (.slice [[a,b,c],[d,e,f],[g,h,i]]))=onO (λx=>onO (λy=>onO (λz=>(WLR x/\WLR y/\WLR z)/\k [x,y,z]) (dR g h i)) (dR d e f)) (dR a b c):=by
 refine propext ⟨λ⟨t,h,h1⟩=>?_,λh=>?_⟩
 .simp only [rsA,AV.one.injEq,C.slice.injEq]at h
  match t,h with
  | [x,y,z],h=>
   simp only [List.map_cons,List.map_nil,rC,List.cons.injEq,and_true]at h
   obtain ⟨⟨rfl,rfl,rfl⟩,⟨rfl,rfl,rfl⟩,rfl,rfl,rfl⟩:=h
   simp only [dR_e,WK]
   exact ⟨⟨h1.1 _ (by simp),h1.1 _ (by simp),h1.1 _ (by simp)⟩,h1.2⟩
 .obtain ⟨x,h1,q1⟩:=zc.1 h
  obtain ⟨y,h2,q2⟩:=zc.1 q1
  obtain ⟨z,h3,q3⟩:=zc.1 q2
  obtain ⟨rfl,rfl,rfl⟩:=qc.1 h1
  obtain ⟨rfl,rfl,rfl⟩:=qc.1 h2
  obtain ⟨rfl,rfl,rfl⟩:=qc.1 h3
  refine ⟨[x,y,z],rfl,λv hv=>?_,q3.2⟩
  simp only [List.mem_cons,List.not_mem_nil,or_false]at hv
  rcases hv with rfl | rfl | rfl
  .exact q3.1.1
  .exact q3.1.2.1
  .exact q3.1.2.2
theorem jbb (k:List R->Prop) (a b c d e f g h i j l m n o p:C):onRs k (.one (.slice [[a,b,c],[d,e,f],[g,h,i],[j,l,m],[n,o,p]]))=onO (λx=>onO (λy=>onO (λz=>onO (λu=>onO (λv=>(WLR x/\WLR y/\WLR z/\WLR u/\WLR v)/\k [x,y,z,u,v]) (dR n o p)) (dR j l m)) (dR g h i)) (dR d e f)) (dR a b c):=by
 refine propext ⟨λ⟨t,h,h1⟩=>?_,λh=>?_⟩
 .simp only [rsA,AV.one.injEq,C.slice.injEq]at h
  match t,h with
  | [x,y,z,u,v],h=>
   simp only [List.map_cons,List.map_nil,rC,List.cons.injEq,and_true]at h
   obtain ⟨⟨rfl,rfl,rfl⟩,⟨rfl,rfl,rfl⟩,⟨rfl,rfl,rfl⟩,⟨rfl,rfl,rfl⟩,rfl,rfl,rfl⟩:=h
   simp only [dR_e,WK]
   exact ⟨⟨h1.1 _ (by simp),h1.1 _ (by simp),h1.1 _ (by simp),h1.1 _ (by simp),h1.1 _ (by simp)⟩,h1.2⟩
 .obtain ⟨x,h1,q1⟩:=zc.1 h
  obtain ⟨y,h2,q2⟩:=zc.1 q1
  obtain ⟨z,h3,q3⟩:=zc.1 q2
  obtain ⟨u,h4,q4⟩:=zc.1 q3
  obtain ⟨v,h5,q5⟩:=zc.1 q4
  obtain ⟨rfl,rfl,rfl⟩:=qc.1 h1
  obtain ⟨rfl,rfl,rfl⟩:=qc.1 h2
  obtain ⟨rfl,rfl,rfl⟩:=qc.1 h3
  obtain ⟨rfl,rfl,rfl⟩:=qc.1 h4
  obtain ⟨rfl,rfl,rfl⟩:=qc.1 h5
  refine ⟨[x,y,z,u,v],rfl,λw hw=>?_,q5.2⟩
  obtain ⟨w1,w2,w3,w4,w5⟩:=q5.1
  simp only [List.mem_cons,List.not_mem_nil,or_false]at hw
  rcases hw with rfl | rfl | rfl | rfl | rfl <;> assumption
attribute [go_sem] VaZ uaM vbc jbb Ybf
attribute [go_sem ↓] VaZ uaM vbc jbb Ybf
def Va1 (tE:Nat) (l:List AV) (K:AV->Prop):Prop:=
 match l with
 | [a]=>onPs (λl=>okPs 100000000 l/\K (errV tE (if l.all pvld=true then 0 else 2))) a
 | _=>False
theorem ZaZ (tE:Nat) (a:AV) (K:AV->Prop):Va1 tE [a] K=(onPs (λl=>okPs 100000000 l/\K (errV tE (if l.all pvld=true then 0 else 2))) a):=propext Iff.rfl
@[congr] theorem XbQ (tE:Nat) {K:AV->Prop} {l l' : List AV} (h:l=l'):Va1 tE l K=Va1 tE l' K:=by subst h;rfl
attribute [go_sem] ZaZ
attribute [go_sem ↓] ZaZ
def WaZ (tE:Nat) (l:List AV) (K:AV->Prop):Prop:=
 match l with
 | [a]=>onPs (λl=>okPs 100000000 l/\K (errV tE (plchk l))) a
 | _=>False
theorem waZ (tE:Nat) (a:AV) (K:AV->Prop):WaZ tE [a] K=(onPs (λl=>okPs 100000000 l/\K (errV tE (plchk l))) a):=propext Iff.rfl
@[congr] theorem jbR (tE:Nat) {K:AV->Prop} {l l' : List AV} (h:l=l'):WaZ tE l K=WaZ tE l' K:=by subst h;rfl
attribute [go_sem] waZ
attribute [go_sem ↓] waZ
def Zaf (l:List AV) (K:AV->Prop):Prop:=
 match l with
 | [a]=>onPs (λl=>okPs 100000000 l/\K (.one (.lit (.int .i64 (plchk l:Nat))))) a
 | _=>False
theorem Yar (a:AV) (K:AV->Prop):Zaf [a] K=(onPs (λl=>okPs 100000000 l/\K (.one (.lit (.int .i64 (plchk l:Nat))))) a):=propext Iff.rfl
@[congr] theorem QbI {K:AV->Prop} {l l' : List AV} (h:l=l'):Zaf l K=Zaf l' K:=by subst h;rfl
attribute [go_sem] Yar
attribute [go_sem ↓] Yar
def YU (l:List AV) (K:AV->Prop):Prop:=
 match l with
 | [a]=>onPs (λl=>okPs 100000000 l/\K (.one (.lit (.int .i64 (threeC l:Nat))))) a
 | _=>False
theorem QZ (a:AV) (K:AV->Prop):YU [a] K=(onPs (λl=>okPs 100000000 l/\K (.one (.lit (.int .i64 (threeC l:Nat))))) a):=propext Iff.rfl
@[congr] theorem vbw {K:AV->Prop} {l l' : List AV} (h:l=l'):YU l K=YU l' K:=by subst h;rfl
attribute [go_sem] QZ
attribute [go_sem ↓] QZ
def Xag (tE:Nat) (l:List AV) (K:AV->Prop):Prop:=
 match l with
 | [a,b]=>onPs (λl=>onA (λq=>okPs 1000000 l/\al q<=1000000/\l.length<=100000/\K (.tup [qsA (if imgC l q=0 then imgs l q else []),errV tE (imgC l q)])) b) a
 | _=>False
theorem kar (tE:Nat) (a b:AV) (K:AV->Prop):Xag tE [a,b] K=(onPs (λl=>onA (λq=>okPs 1000000 l/\al q<=1000000/\l.length<=100000/\K (.tup [qsA (if imgC l q=0 then imgs l q else []),errV tE (imgC l q)])) b) a):=propext Iff.rfl
@[congr] theorem ZbL (tE:Nat) {K:AV->Prop} {l l' : List AV} (h:l=l'):Xag tE l K=Xag tE l' K:=by subst h;rfl
attribute [go_sem] kar
attribute [go_sem ↓] kar
def VK (l:List AV) (K:AV->Prop):Prop:=
 match l with
 | [a,b]=>onPs (λl=>onA (λq=>okPs 1000000 l/\al q<=1000000/\l.length<=100000/\K (qsA (imgs l q))) b) a
 | _=>False
theorem jP (a b:AV) (K:AV->Prop):VK [a,b] K=(onPs (λl=>onA (λq=>okPs 1000000 l/\al q<=1000000/\l.length<=100000/\K (qsA (imgs l q))) b) a):=propext Iff.rfl
@[congr] theorem Ybt {K:AV->Prop} {l l' : List AV} (h:l=l'):VK l K=VK l' K:=by subst h;rfl
attribute [go_sem] jP
attribute [go_sem ↓] jP
def VW (l:List AV) (K:AV->Prop):Prop:=
 match l with
 | [a]=>onPs (λl=>okPs 4294967296 l/\K (.one (.lit (.bool (l.all sP))))) a
 | _=>False
theorem X8 (a:AV) (K:AV->Prop):VW [a] K=(onPs (λl=>okPs 4294967296 l/\K (.one (.lit (.bool (l.all sP))))) a):=propext Iff.rfl
@[congr] theorem Zbx {K:AV->Prop} {l l' : List AV} (h:l=l'):VW l K=VW l' K:=by subst h;rfl
attribute [go_sem] X8
attribute [go_sem ↓] X8
def vX (l:List AV) (K:AV->Prop):Prop:=
 match l with
 | [a]=>onAs (λl=>okAs 4294967296 l/\K (.one (.lit (.bool (l.all sA))))) a
 | _=>False
theorem Y9 (a:AV) (K:AV->Prop):vX [a] K=(onAs (λl=>okAs 4294967296 l/\K (.one (.lit (.bool (l.all sA))))) a):=propext Iff.rfl
@[congr] theorem XbG {K:AV->Prop} {l l' : List AV} (h:l=l'):vX l K=vX l' K:=by subst h;rfl
attribute [go_sem] Y9
attribute [go_sem ↓] Y9
def XX (l:List AV) (K:AV->Prop):Prop:=
 match l with
 | [a]=>onPs (λl=>okPs 4294967296 l/\K (.one (.lit (.bool (decide (l.length<=20) && l.all sP))))) a
 | _=>False
theorem xac (a:AV) (K:AV->Prop):XX [a] K=(onPs (λl=>okPs 4294967296 l/\K (.one (.lit (.bool (decide (l.length<=20) && l.all sP))))) a):=propext Iff.rfl
@[congr] theorem WbF {K:AV->Prop} {l l' : List AV} (h:l=l'):XX l K=XX l' K:=by subst h;rfl
attribute [go_sem] xac
attribute [go_sem ↓] xac
def Vaj (tE:Nat) (l:List AV) (K:AV->Prop):Prop:=
 match l with
 | [a,b]=>onPs (λl=>onAs (λm=>okPs 100000000 l/\okAs 100000000 m/\K (errV tE (chkC l m))) b) a
 | _=>False
theorem waw (tE:Nat) (a b:AV) (K:AV->Prop):Vaj tE [a,b] K=(onPs (λl=>onAs (λm=>okPs 100000000 l/\okAs 100000000 m/\K (errV tE (chkC l m))) b) a):=propext Iff.rfl
@[congr] theorem ybK (tE:Nat) {K:AV->Prop} {l l' : List AV} (h:l=l'):Vaj tE l K=Vaj tE l' K:=by subst h;rfl
attribute [go_sem] waw
attribute [go_sem ↓] waw
def Yal (l:List AV) (K:AV->Prop):Prop:=
 match l with
 | [a,b]=>onRs (λl=>onRs (λm=>okRs 4294967296 l/\K (.one (.lit (.bool (decide (l=m)))))) b) a
 | _=>False
theorem Qaq (a b:AV) (K:AV->Prop):Yal [a,b] K=(onRs (λl=>onRs (λm=>okRs 4294967296 l/\K (.one (.lit (.bool (decide (l=m)))))) b) a):=propext Iff.rfl
@[congr] theorem WbK {K:AV->Prop} {l l' : List AV} (h:l=l'):Yal l K=Yal l' K:=by subst h;rfl
attribute [go_sem] Qaq
attribute [go_sem ↓] Qaq
end Go.Abs
end
section
namespace Go.Num
open Go.Abs
def ctrQ (p u v:V2):V2:=(p.1+(sqQ u*v.2-sqQ v*u.2) / (2*crossQ u v),p.2+(sqQ v*u.1-sqQ u*v.1) / (2*crossQ u v))
def ciQ (p u v:V2):V2:=if crossQ u v=0 then (0,0) else ctrQ p u v
def ciL (l:List Arc):V2:=ciQ (av (l.getD 0 a0)) (subQ (av (l.getD 1 a0)) (av (l.getD 0 a0))) (subQ (av (l.getD 2 a0)) (av (l.getD 0 a0)))
def crL (l:List Arc):Rat:=crossQ (subQ (av (l.getD 1 a0)) (av (l.getD 0 a0))) (subQ (av (l.getD 2 a0)) (av (l.getD 0 a0)))
end Go.Num
namespace Go.Abs
open Go.Num
variable {P:Program} {Γ:Nat->Spec}
def zal (tE:Nat) (l:List AV) (K:AV->Prop):Prop:=
 match l with
 | [a]=>onAs (λl=>okAs 1000000 l/\3<=l.length/\K (.tup [pQ (ciL l),errV tE (if crL l=0 then 8 else 0)])) a
 | _=>False
theorem Qaw (tE:Nat) (a:AV) (K:AV->Prop):zal tE [a] K=(onAs (λl=>okAs 1000000 l/\3<=l.length/\K (.tup [pQ (ciL l),errV tE (if crL l=0 then 8 else 0)])) a):=propext Iff.rfl
@[congr] theorem UbJ (tE:Nat) {K:AV->Prop} {l l' : List AV} (h:l=l'):zal tE l K=zal tE l' K:=by subst h;rfl
attribute [go_sem] Qaw
attribute [go_sem ↓] Qaw
def Qag (l:List AV) (K:AV->Prop):Prop:=
 match l with
 | [a]=>onAs (λl=>okAs 1000000 l/\3<=l.length/\K (.tup [pQ (ciL l),.one (.lit (.bool (decide (crL l≠0))))])) a
 | _=>False
theorem jat (a:AV) (K:AV->Prop):Qag [a] K=(onAs (λl=>okAs 1000000 l/\3<=l.length/\K (.tup [pQ (ciL l),.one (.lit (.bool (decide (crL l≠0))))])) a):=propext Iff.rfl
@[congr] theorem VbI {K:AV->Prop} {l l' : List AV} (h:l=l'):Qag l K=Qag l' K:=by subst h;rfl
attribute [go_sem] jat
attribute [go_sem ↓] jat
end Go.Abs
end
section
namespace Go.Abs
open Go.Num
variable {P:Program} {Γ:Nat->Spec}
def qU (l:List AV) (K:AV->Prop):Prop:=
 match l with
 | [a]=>asInt (λk n=>k=.i64/\n=1/\K (.one (.lit (.string ⟨#[49]⟩)))) a
 | _=>False
theorem X0 (a:AV) (K:AV->Prop):qU [a] K=(asInt (λk n=>k=.i64/\n=1/\K (.one (.lit (.string ⟨#[49]⟩)))) a):=propext Iff.rfl
@[congr] theorem Xbu {K:AV->Prop} {l l' : List AV} (h:l=l'):qU l K=qU l' K:=by subst h;rfl
attribute [go_sem] X0
attribute [go_sem ↓] X0
def xag (l:List AV) (K:AV->Prop):Prop:=
 match l with
 | [a,b]=>asInt (λk n=>k=.i64/\n=1/\asInt (λk m=>k=.i64/\m=10/\K (.one (.lit (.string ⟨#[49]⟩)))) b) a
 | _=>False
theorem yan (a b:AV) (K:AV->Prop):xag [a,b] K=(asInt (λk n=>k=.i64/\n=1/\asInt (λk m=>k=.i64/\m=10/\K (.one (.lit (.string ⟨#[49]⟩)))) b) a):=propext Iff.rfl
@[congr] theorem wbK {K:AV->Prop} {l l' : List AV} (h:l=l'):xag l K=xag l' K:=by subst h;rfl
attribute [go_sem] yan
attribute [go_sem ↓] yan
def uak (l:List AV) (K:AV->Prop):Prop:=
 match l with
 | [a]=>asInt (λk n=>k=.i64/\n=1/\K (.one (.lit (.string ⟨#[49]⟩)))) a
 | _=>False
theorem qap (a:AV) (K:AV->Prop):uak [a] K=(asInt (λk n=>k=.i64/\n=1/\K (.one (.lit (.string ⟨#[49]⟩)))) a):=propext Iff.rfl
@[congr] theorem ubK {K:AV->Prop} {l l' : List AV} (h:l=l'):uak l K=uak l' K:=by subst h;rfl
attribute [go_sem] qap
attribute [go_sem ↓] qap
def zak (l:List AV) (K:AV->Prop):Prop:=
 match l with
 | [a,b]=>a=.one (.slice [[.lit (.string ⟨#[49]⟩)]])/\b=.one (.lit (.string ⟨#[]⟩))/\K (.one (.lit (.string ⟨#[49]⟩)))
 | _=>False
theorem wat (a b:AV) (K:AV->Prop):zak [a,b] K=(a=.one (.slice [[.lit (.string ⟨#[49]⟩)]])/\b=.one (.lit (.string ⟨#[]⟩))/\K (.one (.lit (.string ⟨#[49]⟩)))):=propext Iff.rfl
@[congr] theorem WbH {K:AV->Prop} {l l' : List AV} (h:l=l'):zak l K=zak l' K:=by subst h;rfl
attribute [go_sem] wat
attribute [go_sem ↓] wat
def yaj (l:List AV) (K:AV->Prop):Prop:=
 match l with
 | [a]=>onW (λw=>zv w=1/\K (.one (.lit (.string ⟨#[49]⟩)))) a
 | _=>False
theorem vas (a:AV) (K:AV->Prop):yaj [a] K=(onW (λw=>zv w=1/\K (.one (.lit (.string ⟨#[49]⟩)))) a):=propext Iff.rfl
@[congr] theorem ubJ {K:AV->Prop} {l l' : List AV} (h:l=l'):yaj l K=yaj l' K:=by subst h;rfl
attribute [go_sem] vas
attribute [go_sem ↓] vas
def Zai (l:List AV) (K:AV->Prop):Prop:=
 match l with
 | [a]=>onR (λx=>rv x=1/\rl x<=4294967296/\K (.one (.lit (.string ⟨#[49]⟩)))) a
 | _=>False
theorem zax (a:AV) (K:AV->Prop):Zai [a] K=(onR (λx=>rv x=1/\rl x<=4294967296/\K (.one (.lit (.string ⟨#[49]⟩)))) a):=propext Iff.rfl
@[congr] theorem YbJ {K:AV->Prop} {l l' : List AV} (h:l=l'):Zai l K=Zai l' K:=by subst h;rfl
attribute [go_sem] zax
attribute [go_sem ↓] zax
end Go.Abs
end
