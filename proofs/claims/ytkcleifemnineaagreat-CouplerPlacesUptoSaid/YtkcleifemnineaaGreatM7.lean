/-
  Parts of the proof, merged: ChartG, ChartQ, ChartH, ChartR, ChartW, ChartX, ComA, ChartRow, ComB, PoseD, PoseE, PoseT.
-/
import Derived.Test.YtkcleifemnineaaGreatM6
set_option linter.unusedVariables false
set_option linter.unusedSimpArgs false
set_option maxRecDepth 100000
section
namespace Go.Num
def sh1 (by' : Rat) (a:Q2):List Q2:=
 let f:=frac (a.1+by')
 let t:=f+(a.2-a.1)
 if 1<t then (0,t-1)::(if f<1 then [(f,1)] else []) else (if f<t then [(f,t)] else [])
def shL (by' : Rat) (l:List Q2):List Q2:=l.flatMap (sh1 by')
def lim64 (l:List Q2):List Q2:=if 64<l.length then [] else l
def code64 (l:List Q2):Nat:=if 64<l.length then 4 else 0
def shOut (l:List Arc) (y:R):List Q2:=if chk [l]=0∧vldR y=true then lim64 (nrm (shL (rv y) (vals l))) else []
def shCode (l:List Arc) (y:R):Nat:=if chk [l]=0 then (if vldR y=true then code64 (nrm (shL (rv y) (vals l))) else 3) else chk [l]
end Go.Num
namespace Go.Abs
open Go.Num
variable {P:Program} {Γ:Nat→Spec}
def xT (tE m:Nat) (l:List AV) (K:AV→Prop):Prop:=
 match l with
 | [a,b]=>onAs (fun l=>onR (fun y=>(chk [l]=0→2*l.length≤m)∧okAs 10000000 l∧rl y≤10000000∧K (.tup [.one (.slice (((shOut l y).map acan).map aC)),errV tE (shCode l y)])) b) a
 | _=>False
theorem X4 (tE m:Nat) (a b:AV) (K:AV→Prop):xT tE m [a,b] K=(onAs (fun l=>onR (fun y=>(chk [l]=0→2*l.length≤m)∧okAs 10000000 l∧rl y≤10000000∧K (.tup [.one (.slice (((shOut l y).map acan).map aC)),errV tE (shCode l y)])) b) a):=propext Iff.rfl
@[congr] theorem Vbk (tE m:Nat) {K:AV→Prop} {l l' : List AV} (h:l=l'):xT tE m l K=xT tE m l' K:=by subst h;rfl
attribute [go_sem] X4
attribute [go_sem ↓] X4
end Go.Abs
end
section
namespace Go.Num
end Go.Num
end
section
namespace Go.Num
end Go.Num
namespace Go.Abs
open Go.Num
variable {P:Program} {Γ:Nat→Spec}
theorem ja9 (k:List Arc→Prop) (x y:R):onAs k (.one (.slice [[cb x,cn x,cd x,cb y,cn y,cd y]]))=((∀z∈[(x,y)],WLA z)∧k [(x,y)]):=vH k [(x,y)]
theorem Qa5 (k:List Arc→Prop) (x y x' y' : R):onAs k (.one (.slice [[cb x,cn x,cd x,cb y,cn y,cd y],[cb x',cn x',cd x',cb y',cn y',cd y']]))=((∀z∈[(x,y),(x',y')],WLA z)∧k [(x,y),(x',y')]):=vH k [(x,y),(x',y')]
theorem VaC (k:List Arc→Prop) (x:Arc):onAs k (.one (.slice [aC x]))=((∀z∈[x],WLA z)∧k [x]):=vH k [x]
theorem vaM (k:List Arc→Prop) (x y:Arc):onAs k (.one (.slice [aC x,aC y]))=((∀z∈[x,y],WLA z)∧k [x,y]):=vH k [x,y]
theorem XaI (k:List Arc→Prop) (y x' y' : R):onAs k (.one (.slice [[.lit (.bool false),.slice [],.slice [],cb y,cn y,cd y],[cb x',cn x',cd x',cb y',cn y',cd y']]))=((∀z∈[(rcan 0,y),(x',y')],WLA z)∧k [(rcan 0,y),(x',y')]):=by
 rw [wb];exact vH k [((false,[],[]),y),(x',y')]
attribute [go_sem] ja9 Qa5 VaC vaM XaI
attribute [go_sem ↓] ja9 Qa5 VaC vaM XaI
def VS (l:List AV) (K:AV→Prop):Prop:=
 match l with
 | []=>K (.one (.lit (.bool true)))
 | _=>False
theorem X7 (K:AV→Prop):VS [] K=(K (.one (.lit (.bool true)))):=propext Iff.rfl
@[congr] theorem ubl {K:AV→Prop} {l l' : List AV} (h:l=l'):VS l K=VS l' K:=by subst h;rfl
attribute [go_sem] X7
attribute [go_sem ↓] X7
end Go.Abs
end
section
namespace Go.Num
instance (x:Rat) (a:Q2):Decidable (mem x a):=by unfold mem;infer_instance
instance (x:Rat) (l:List Q2):Decidable (memL x l):=by unfold memL;infer_instance
end Go.Num
end
section
namespace Go.Num
def not1 (f t:Rat):List Q2:=if f<t then [(f,t)] else []
def notGo:Rat→List Q2→List Q2
 | f,[]=>not1 f 1
 | f,a::l=>not1 f a.1++notGo a.2 l
def notL (l:List Q2):List Q2:=notGo 0 l
def meet1 (x y:Q2):List Q2:=not1 (mxQ x.1 y.1) (mnQ x.2 y.2)
def meetL (a b:List Q2):List Q2:=a.flatMap fun x=>b.flatMap fun y=>meet1 x y
end Go.Num
namespace Go.Abs
open Go.Num
variable {P:Program} {Γ:Nat→Spec}
def QaP (l:List AV) (K:AV→Prop):Prop:=
 match l with
 | [a]=>onAs (fun l=>l.length≤1000∧okAs 1000000000 l∧K (.one (.slice (((notL (vals l)).map acan).map aC)))) a
 | _=>False
theorem ZaD (a:AV) (K:AV→Prop):QaP [a] K=(onAs (fun l=>l.length≤1000∧okAs 1000000000 l∧K (.one (.slice (((notL (vals l)).map acan).map aC)))) a):=propext Iff.rfl
@[congr] theorem ubB {K:AV→Prop} {l l' : List AV} (h:l=l'):QaP l K=QaP l' K:=by subst h;rfl
attribute [go_sem] ZaD
attribute [go_sem ↓] ZaD
def kag (l:List AV) (K:AV→Prop):Prop:=
 match l with
 | [a,b]=>onAs (fun l=>onAs (fun m=>l.length≤1000∧m.length≤1000∧okAs 1000000000 l∧okAs 1000000000 m∧K (.one (.slice (((meetL (vals l) (vals m)).map acan).map aC)))) b) a
 | _=>False
theorem wav (a b:AV) (K:AV→Prop):kag [a,b] K=(onAs (fun l=>onAs (fun m=>l.length≤1000∧m.length≤1000∧okAs 1000000000 l∧okAs 1000000000 m∧K (.one (.slice (((meetL (vals l) (vals m)).map acan).map aC)))) b) a):=propext Iff.rfl
@[congr] theorem wbx {K:AV→Prop} {l l' : List AV} (h:l=l'):kag l K=kag l' K:=by subst h;rfl
attribute [go_sem] wav
attribute [go_sem ↓] wav
end Go.Abs
end
section
namespace Go.Num
def res (c:Nat) (L:List Q2):List Q2:=if c=0 then lim64 L else []
def cod (c:Nat) (L:List Q2):Nat:=if c=0 then code64 L else c
end Go.Num
namespace Go.Abs
open Go.Num
variable {P:Program} {Γ:Nat→Spec}
def uT (tE m:Nat) (l:List AV) (K:AV→Prop):Prop:=
 match l with
 | [a,b]=>onAs (fun l=>onAs (fun k=>(chk [l,k]=0→l.length+k.length≤m)∧okAs 10000000 l∧okAs 10000000 k∧K (.tup [.one (.slice (((res (chk [l,k]) (nrm (vals l++vals k))).map acan).map aC)),errV tE (cod (chk [l,k]) (nrm (vals l++vals k)))])) b) a
 | _=>False
theorem J0 (tE m:Nat) (a b:AV) (K:AV→Prop):uT tE m [a,b] K=(onAs (fun l=>onAs (fun k=>(chk [l,k]=0→l.length+k.length≤m)∧okAs 10000000 l∧okAs 10000000 k∧K (.tup [.one (.slice (((res (chk [l,k]) (nrm (vals l++vals k))).map acan).map aC)),errV tE (cod (chk [l,k]) (nrm (vals l++vals k)))])) b) a):=propext Iff.rfl
@[congr] theorem Ubl (tE m:Nat) {K:AV→Prop} {l l' : List AV} (h:l=l'):uT tE m l K=uT tE m l' K:=by subst h;rfl
attribute [go_sem] J0
attribute [go_sem ↓] J0
def zaf (tE m:Nat) (l:List AV) (K:AV→Prop):Prop:=
 match l with
 | [a,b]=>onAs (fun l=>onAs (fun k=>(chk [l,k]=0→l.length≤m∧k.length≤m)∧okAs 10000000 l∧okAs 10000000 k∧K (.tup [.one (.slice (((res (chk [l,k]) (meetL (nrm (vals l)) (nrm (vals k)))).map acan).map aC)),errV tE (cod (chk [l,k]) (meetL (nrm (vals l)) (nrm (vals k))))])) b) a
 | _=>False
theorem uap (tE m:Nat) (a b:AV) (K:AV→Prop):zaf tE m [a,b] K=(onAs (fun l=>onAs (fun k=>(chk [l,k]=0→l.length≤m∧k.length≤m)∧okAs 10000000 l∧okAs 10000000 k∧K (.tup [.one (.slice (((res (chk [l,k]) (meetL (nrm (vals l)) (nrm (vals k)))).map acan).map aC)),errV tE (cod (chk [l,k]) (meetL (nrm (vals l)) (nrm (vals k))))])) b) a):=propext Iff.rfl
@[congr] theorem ybw (tE m:Nat) {K:AV→Prop} {l l' : List AV} (h:l=l'):zaf tE m l K=zaf tE m l' K:=by subst h;rfl
attribute [go_sem] uap
attribute [go_sem ↓] uap
def waE (tE m:Nat) (l:List AV) (K:AV→Prop):Prop:=
 match l with
 | [a]=>onAs (fun l=>(chk [l]=0→l.length≤m)∧okAs 10000000 l∧K (.tup [.one (.slice (((res (chk [l]) (notL (nrm (vals l)))).map acan).map aC)),errV tE (cod (chk [l]) (notL (nrm (vals l))))])) a
 | _=>False
theorem jaT (tE m:Nat) (a:AV) (K:AV→Prop):waE tE m [a] K=(onAs (fun l=>(chk [l]=0→l.length≤m)∧okAs 10000000 l∧K (.tup [.one (.slice (((res (chk [l]) (notL (nrm (vals l)))).map acan).map aC)),errV tE (cod (chk [l]) (notL (nrm (vals l))))])) a):=propext Iff.rfl
@[congr] theorem VbB (tE m:Nat) {K:AV→Prop} {l l' : List AV} (h:l=l'):waE tE m l K=waE tE m l' K:=by subst h;rfl
attribute [go_sem] jaT
attribute [go_sem ↓] jaT
end Go.Abs
end
section
namespace Go.Abs
open Go.Num
variable {P:Program} {Γ:Nat→Spec}
def xS (tE:Nat) (l:List AV) (K:AV→Prop):Prop:=
 match l with
 | [a,e,b,n]=>onAs (fun l=>onErr tE (fun c=>onAs (fun m=>asInt (fun k n=>k=.i64∧okAs 1073741824 l∧okAs 1073741824 m∧K (.one (.lit (.bool (decide ((c:Int)=n) && decide (vals l=vals m)))))) n) b) e) a
 | _=>False
theorem X5 (tE:Nat) (a e b n:AV) (K:AV→Prop):xS tE [a,e,b,n] K=(onAs (fun l=>onErr tE (fun c=>onAs (fun m=>asInt (fun k n=>k=.i64∧okAs 1073741824 l∧okAs 1073741824 m∧K (.one (.lit (.bool (decide ((c:Int)=n) && decide (vals l=vals m)))))) n) b) e) a):=propext Iff.rfl
@[congr] theorem Ybm (tE:Nat) {K:AV→Prop} {l l' : List AV} (h:l=l'):xS tE l K=xS tE l' K:=by subst h;rfl
attribute [go_sem] X5
attribute [go_sem ↓] X5
def yaT (l:List AV) (K:AV→Prop):Prop:=
 match l with
 | [a,b]=>onAs (fun l=>onR (fun y=>okAs 1073741824 l∧rl y≤1073741824∧K (.one (.lit (.bool (l.any (inA (rv y))))))) b) a
 | _=>False
theorem XaE (a b:AV) (K:AV→Prop):yaT [a,b] K=(onAs (fun l=>onR (fun y=>okAs 1073741824 l∧rl y≤1073741824∧K (.one (.lit (.bool (l.any (inA (rv y))))))) b) a):=propext Iff.rfl
@[congr] theorem ubD {K:AV→Prop} {l l' : List AV} (h:l=l'):yaT l K=yaT l' K:=by subst h;rfl
attribute [go_sem] XaE
attribute [go_sem ↓] XaE
def vT (l:List AV) (K:AV→Prop):Prop:=
 match l with
 | [a,b]=>onL (fun L=>onR (fun y=>(∀l∈L,okAs 1073741824 l)∧rl y≤1073741824∧L.length≤1000000∧K (.one (.lit (.int .i64 (L.countP (fun l=>l.any (inA (rv y))):Nat))))) b) a
 | _=>False
theorem Y3 (a b:AV) (K:AV→Prop):vT [a,b] K=(onL (fun L=>onR (fun y=>(∀l∈L,okAs 1073741824 l)∧rl y≤1073741824∧L.length≤1000000∧K (.one (.lit (.int .i64 (L.countP (fun l=>l.any (inA (rv y))):Nat))))) b) a):=propext Iff.rfl
@[congr] theorem qbp {K:AV→Prop} {l l' : List AV} (h:l=l'):vT l K=vT l' K:=by subst h;rfl
attribute [go_sem] Y3
attribute [go_sem ↓] Y3
end Go.Abs
end
section
namespace Go.Abs
open Go.Num
def rC (x:R):List C:=[cb x,cn x,cd x]
theorem Jbm (x:R):rC x=[cb x,cn x,cd x]:=eq_of_heq (HEq.refl _)
theorem va9 (x:R):(rC x).length=3:=eq_of_heq (HEq.refl _)
theorem Yt (K:List C→Prop) (L:List R) (i:Nat):getE K (L.map rC) i=(i<L.length∧K (rC (L.getD i (rcan 0)))):=by
 simp only [getE,List.length_map,List.getElem?_map]
 refine propext ⟨fun h=>⟨h.1,h.2 _ (by simp [h.1,List.getD_eq_getElem?_getD])⟩,fun h=>⟨h.1,fun e he=>?_⟩⟩
 simp [h.1]at he
 subst he
 have:=h.2
 simpa [List.getD_eq_getElem?_getD,h.1] using this
theorem jF (l:List R):CleanR (l.map rC)=True:=eq_true fun e he c hc=>by
 obtain ⟨x,_,rfl⟩:=List.mem_map.1 he
 exact yay x c hc
theorem Za7 (L:List R):(∀e∈L.map rC,e.length=3)=True:=eq_true fun e he=>by
 obtain ⟨l,_,rfl⟩:=List.mem_map.1 he;rfl
theorem VaD (h:Nat→HB) (L:List R):(L.map rC).map (fun x=>x.map (datC h))=L.map rC:=by
 rw [List.map_map];exact List.map_congr_left fun x _=>rfl
theorem uaK (L:List R):(L.map rC).flatMap (fun x=>x.flatMap ownC)=[]:=by
 rw [List.flatMap_map];exact List.flatMap_eq_nil_iff.2 fun x _=>rfl
theorem qaH (h:Nat→HB) (L:List (List Arc)):(L.map lC).map (fun x=>x.map (datC h))=L.map lC:=by
 rw [List.map_map];exact List.map_congr_left fun x _=>rfl
theorem uaX (L:List (List Arc)):(L.map lC).flatMap (fun x=>x.flatMap ownC)=[]:=by
 rw [List.flatMap_map];exact List.flatMap_eq_nil_iff.2 fun x _=>rfl
theorem kaL (h:Nat→HB):frz [] h=h:=eq_of_heq (HEq.refl _)
attribute [go_sem] va9 Yt jF Za7 VaD uaK qaH uaX kaL
attribute [go_sem ↓] va9 Yt jF Za7 VaD uaK qaH uaX kaL
end Go.Abs
end
section
namespace Go.Num
def posR:List R→Rat→Nat
 | [],_=>0
 | x::l,q=>if rv x<q then posR l q+1 else 0
def insR (l:List R) (y:R):List R:=if (l.drop (posR l (rv y))).head?.map rv=some (rv y) then l else l.take (posR l (rv y))++y::l.drop (posR l (rv y))
def okRs (b:Nat) (l:List R):Prop:=∀x∈l,WLR x∧rl x≤b
def insA (S:List R) (x:Arc):List R:=insR (insR S x.1) x.2
def marksR (L:List (List Arc)):List R:=L.flatten.foldl insA [rcan 0,rcan 1]
end Go.Num
namespace Go.Abs
open Go.Num
variable {P:Program} {Γ:Nat→Spec}
def rsA (l:List R):AV:=.one (.slice (l.map rC))
theorem vbr {x y:R} (h:rC x=rC y):x=y:=qs x y (by simpa [rC,rA] using h)
theorem vbc (x y:List R) (h:rsA x=rsA y):x=y:=by
 simp only [rsA,AV.one.injEq,C.slice.injEq]at h
 exact List.map_inj_right (fun _ _=>vbr) |>.1 h
def onRs (k:List R→Prop) (a:AV):Prop:=onE rsA (fun l=>(∀x∈l,WLR x)∧k l) a
@[congr] theorem ybF {k:List R→Prop} {a a' : AV} (h:a=a'):onRs k a=onRs k a':=by subst h;rfl
theorem ka4 (k:List R→Prop) (l:List R):onRs k (.one (.slice (l.map rC)))=((∀x∈l,WLR x)∧k l):=ko vbc (fun l=>(∀x∈l,WLR x)∧k l) l
theorem Jaj (l:List R):Clean (.slice (l.map rC))=True:=eq_true (.slice _ (of_eq_true (jF l)))
theorem Wbi (l:List R) (n:Nat):(l.map rC).take n=(l.take n).map rC:=by rw [List.map_take]
theorem wbi (l:List R) (n:Nat):(l.map rC).drop n=(l.drop n).map rC:=by rw [List.map_drop]
theorem ja8 (l:List R):rsA l=.one (.slice (l.map rC)):=eq_of_heq (HEq.refl _)
attribute [go_sem] ka4 Jaj ja8 Wbi wbi
attribute [go_sem ↓] ka4 Jaj ja8
def qS (l:List AV) (K:AV→Prop):Prop:=
 match l with
 | [a]=>onL (fun L=>(∀l∈L,okAs 1073741824 l)∧L.flatten.length≤100000∧K (.one (.slice ((marksR L).map rC)))) a
 | _=>False
theorem U5 (a:AV) (K:AV→Prop):qS [a] K=(onL (fun L=>(∀l∈L,okAs 1073741824 l)∧L.flatten.length≤100000∧K (.one (.slice ((marksR L).map rC)))) a):=propext Iff.rfl
@[congr] theorem Wbn {K:AV→Prop} {l l' : List AV} (h:l=l'):qS l K=qS l' K:=by subst h;rfl
attribute [go_sem] U5
attribute [go_sem ↓] U5
def YJ (l:List AV) (K:AV→Prop):Prop:=
 match l with
 | [a,b]=>onRs (fun l=>onR (fun y=>okRs 1073741824 l∧rl y≤1073741824∧l.length≤1000000∧K (.one (.slice ((insR l y).map rC)))) b) a
 | _=>False
theorem vP (a b:AV) (K:AV→Prop):YJ [a,b] K=(onRs (fun l=>onR (fun y=>okRs 1073741824 l∧rl y≤1073741824∧l.length≤1000000∧K (.one (.slice ((insR l y).map rC)))) b) a):=propext Iff.rfl
@[congr] theorem ubj {K:AV→Prop} {l l' : List AV} (h:l=l'):YJ l K=YJ l' K:=by subst h;rfl
attribute [go_sem] vP
attribute [go_sem ↓] vP
end Go.Abs
end
section
namespace Go.Num
open Go.Abs
theorem Ubf {α:Type} {f:α→Bool} {l:List α} {k:Nat} {x:α} (h:l[k]?=some x) (hb:f x=false):l.all f=false:=by
 rw [List.all_eq_false]
 exact ⟨x,List.mem_of_getElem? h,by simp [hb]⟩
theorem YQ {α:Type} {f:α→Bool} {l:List α} {k:Nat} {x:α} (h:l[k]?=some x) (ht:(l.take k).all f=true) (hb:f x=true):(l.take (k+1)).all f=true:=by
 rw [List.take_add_one,h,List.all_append,ht];simp [hb]
theorem WF {α:Type} {l:List α} {k:Nat} {x d:α} (hk:k<l.length) (h:l.getD k d=x):l[k]?=some x:=by
 rw [←h,List.getD_eq_getElem?_getD,List.getElem?_eq_getElem hk];rfl
def sR (n:Nat) (x:R):Bool:=decide (x.2.1.length≤n) && decide (x.2.2.length≤n)
def sP (p:Ps):Bool:=sR 2 p.1.1 && (sR 2 p.2.1 && sR 2 p.2.2)
def sA (p:Arc):Bool:=sR 2 p.1 && sR 2 p.2
def placeC (l:List Arc):Nat:=if l.all avld then 0 else 2
def chkC (l:List Ps) (m:List Arc):Nat:=if threeC l≠0 then threeC l else placeC m
theorem QI {n:Nat} {x:R} (h:sR n x=true):rl x≤n:=by
 simp only [sR,Bool.and_eq_true,decide_eq_true_eq]at h
 exact Nat.max_le.2 h
end Go.Num
namespace Go.Abs
open Go.Num
variable {P:Program} {Γ:Nat→Spec}
def qsA (l:List V2):AV:=.one (.slice ((l.map acan).map aC))
theorem Ya9 (l:List V2):qsA l=.one (.slice ((l.map acan).map aC)):=eq_of_heq (HEq.refl _)
theorem UaV (k:List Arc→Prop) (a b c d e f:C):onAs k (.one (.slice [[a,b,c,d,e,f]]))=onO (fun x=>onO (fun y=>WLA (x,y)∧k [(x,y)]) (dR d e f)) (dR a b c):=by
 refine propext ⟨fun ⟨t,h,h1⟩=>?_,fun h=>?_⟩
 ·simp only [asA,as,AV.one.injEq,C.slice.injEq]at h
  match t,h with
  | [z],h=>
   simp only [List.map_cons,List.map_nil,aC,List.cons.injEq,and_true]at h
   obtain ⟨rfl,rfl,rfl,rfl,rfl,rfl⟩:=h
   simp only [dR_e,qH]
   exact ⟨h1.1 _ (by simp),h1.2⟩
 ·obtain ⟨x,h1,q1⟩:=Wb.1 h
  obtain ⟨y,h2,q2⟩:=Wb.1 q1
  obtain ⟨rfl,rfl,rfl⟩:=yb.1 h1
  obtain ⟨rfl,rfl,rfl⟩:=yb.1 h2
  exact ⟨[(x,y)],rfl,fun z hz=>by rw [List.mem_singleton.1 hz];exact q2.1,q2.2⟩
theorem JaO (k:List Arc→Prop) (a b c d e f a' b' c' d' e' f' : C):onAs k (.one (.slice [[a,b,c,d,e,f],[a',b',c',d',e',f']]))=onO (fun x=>onO (fun y=>onO (fun z=>onO (fun w=>WLA (x,y)∧WLA (z,w)∧k [(x,y),(z,w)]) (dR d' e' f')) (dR a' b' c')) (dR d e f)) (dR a b c):=by
 refine propext ⟨fun ⟨t,h,h1⟩=>?_,fun h=>?_⟩
 ·simp only [asA,as,AV.one.injEq,C.slice.injEq]at h
  match t,h with
  | [z,w],h=>
   simp only [List.map_cons,List.map_nil,aC,List.cons.injEq,and_true]at h
   obtain ⟨⟨rfl,rfl,rfl,rfl,rfl,rfl⟩,rfl,rfl,rfl,rfl,rfl,rfl⟩:=h
   simp only [dR_e,qH]
   exact ⟨h1.1 _ (by simp),h1.1 _ (by simp),h1.2⟩
 ·obtain ⟨x,h1,q1⟩:=Wb.1 h
  obtain ⟨y,h2,q2⟩:=Wb.1 q1
  obtain ⟨z,h3,q3⟩:=Wb.1 q2
  obtain ⟨w,h4,q4⟩:=Wb.1 q3
  obtain ⟨rfl,rfl,rfl⟩:=yb.1 h1
  obtain ⟨rfl,rfl,rfl⟩:=yb.1 h2
  obtain ⟨rfl,rfl,rfl⟩:=yb.1 h3
  obtain ⟨rfl,rfl,rfl⟩:=yb.1 h4
  refine ⟨[(x,y),(z,w)],rfl,fun v hv=>?_,q4.2.2⟩
  simp only [List.mem_cons,List.not_mem_nil,or_false]at hv
  rcases hv with rfl | rfl
  ·exact q4.1
  ·exact q4.2.1
theorem Ua8 (k:List R→Prop) (a b c d e f g h i:C):onRs k (.one (.slice [[a,b,c],[d,e,f],[g,h,i]]))=onO (fun x=>onO (fun y=>onO (fun z=>(WLR x∧WLR y∧WLR z)∧k [x,y,z]) (dR g h i)) (dR d e f)) (dR a b c):=by
 refine propext ⟨fun ⟨t,h,h1⟩=>?_,fun h=>?_⟩
 ·simp only [rsA,AV.one.injEq,C.slice.injEq]at h
  match t,h with
  | [x,y,z],h=>
   simp only [List.map_cons,List.map_nil,rC,List.cons.injEq,and_true]at h
   obtain ⟨⟨rfl,rfl,rfl⟩,⟨rfl,rfl,rfl⟩,rfl,rfl,rfl⟩:=h
   simp only [dR_e,qH]
   exact ⟨⟨h1.1 _ (by simp),h1.1 _ (by simp),h1.1 _ (by simp)⟩,h1.2⟩
 ·obtain ⟨x,h1,q1⟩:=Wb.1 h
  obtain ⟨y,h2,q2⟩:=Wb.1 q1
  obtain ⟨z,h3,q3⟩:=Wb.1 q2
  obtain ⟨rfl,rfl,rfl⟩:=yb.1 h1
  obtain ⟨rfl,rfl,rfl⟩:=yb.1 h2
  obtain ⟨rfl,rfl,rfl⟩:=yb.1 h3
  refine ⟨[x,y,z],rfl,fun v hv=>?_,q3.2⟩
  simp only [List.mem_cons,List.not_mem_nil,or_false]at hv
  rcases hv with rfl | rfl | rfl
  ·exact q3.1.1
  ·exact q3.1.2.1
  ·exact q3.1.2.2
theorem ya8 (k:List R→Prop) (a b c d e f g h i j l m n o p:C):onRs k (.one (.slice [[a,b,c],[d,e,f],[g,h,i],[j,l,m],[n,o,p]]))=onO (fun x=>onO (fun y=>onO (fun z=>onO (fun u=>onO (fun v=>(WLR x∧WLR y∧WLR z∧WLR u∧WLR v)∧k [x,y,z,u,v]) (dR n o p)) (dR j l m)) (dR g h i)) (dR d e f)) (dR a b c):=by
 refine propext ⟨fun ⟨t,h,h1⟩=>?_,fun h=>?_⟩
 ·simp only [rsA,AV.one.injEq,C.slice.injEq]at h
  match t,h with
  | [x,y,z,u,v],h=>
   simp only [List.map_cons,List.map_nil,rC,List.cons.injEq,and_true]at h
   obtain ⟨⟨rfl,rfl,rfl⟩,⟨rfl,rfl,rfl⟩,⟨rfl,rfl,rfl⟩,⟨rfl,rfl,rfl⟩,rfl,rfl,rfl⟩:=h
   simp only [dR_e,qH]
   exact ⟨⟨h1.1 _ (by simp),h1.1 _ (by simp),h1.1 _ (by simp),h1.1 _ (by simp),h1.1 _ (by simp)⟩,h1.2⟩
 ·obtain ⟨x,h1,q1⟩:=Wb.1 h
  obtain ⟨y,h2,q2⟩:=Wb.1 q1
  obtain ⟨z,h3,q3⟩:=Wb.1 q2
  obtain ⟨u,h4,q4⟩:=Wb.1 q3
  obtain ⟨v,h5,q5⟩:=Wb.1 q4
  obtain ⟨rfl,rfl,rfl⟩:=yb.1 h1
  obtain ⟨rfl,rfl,rfl⟩:=yb.1 h2
  obtain ⟨rfl,rfl,rfl⟩:=yb.1 h3
  obtain ⟨rfl,rfl,rfl⟩:=yb.1 h4
  obtain ⟨rfl,rfl,rfl⟩:=yb.1 h5
  refine ⟨[x,y,z,u,v],rfl,fun w hw=>?_,q5.2⟩
  obtain ⟨w1,w2,w3,w4,w5⟩:=q5.1
  simp only [List.mem_cons,List.not_mem_nil,or_false]at hw
  rcases hw with rfl | rfl | rfl | rfl | rfl <;> assumption
attribute [go_sem] UaV JaO Ua8 ya8 Ya9
attribute [go_sem ↓] UaV JaO Ua8 ya8 Ya9
def jaF (tE:Nat) (l:List AV) (K:AV→Prop):Prop:=
 match l with
 | [a]=>onPs (fun l=>okPs 100000000 l∧K (errV tE (if l.all pvld=true then 0 else 2))) a
 | _=>False
theorem ZaO (tE:Nat) (a:AV) (K:AV→Prop):jaF tE [a] K=(onPs (fun l=>okPs 100000000 l∧K (errV tE (if l.all pvld=true then 0 else 2))) a):=propext Iff.rfl
@[congr] theorem qbC (tE:Nat) {K:AV→Prop} {l l' : List AV} (h:l=l'):jaF tE l K=jaF tE l' K:=by subst h;rfl
attribute [go_sem] ZaO
attribute [go_sem ↓] ZaO
def WaW (tE:Nat) (l:List AV) (K:AV→Prop):Prop:=
 match l with
 | [a]=>onPs (fun l=>okPs 100000000 l∧K (errV tE (plchk l))) a
 | _=>False
theorem uaH (tE:Nat) (a:AV) (K:AV→Prop):WaW tE [a] K=(onPs (fun l=>okPs 100000000 l∧K (errV tE (plchk l))) a):=propext Iff.rfl
@[congr] theorem XbC (tE:Nat) {K:AV→Prop} {l l' : List AV} (h:l=l'):WaW tE l K=WaW tE l' K:=by subst h;rfl
attribute [go_sem] uaH
attribute [go_sem ↓] uaH
def Qad (l:List AV) (K:AV→Prop):Prop:=
 match l with
 | [a]=>onPs (fun l=>okPs 100000000 l∧K (.one (.lit (.int .i64 (plchk l:Nat))))) a
 | _=>False
theorem vaj (a:AV) (K:AV→Prop):Qad [a] K=(onPs (fun l=>okPs 100000000 l∧K (.one (.lit (.int .i64 (plchk l:Nat))))) a):=propext Iff.rfl
@[congr] theorem Yby {K:AV→Prop} {l l' : List AV} (h:l=l'):Qad l K=Qad l' K:=by subst h;rfl
attribute [go_sem] vaj
attribute [go_sem ↓] vaj
def YR (l:List AV) (K:AV→Prop):Prop:=
 match l with
 | [a]=>onPs (fun l=>okPs 100000000 l∧K (.one (.lit (.int .i64 (threeC l:Nat))))) a
 | _=>False
theorem xW (a:AV) (K:AV→Prop):YR [a] K=(onPs (fun l=>okPs 100000000 l∧K (.one (.lit (.int .i64 (threeC l:Nat))))) a):=propext Iff.rfl
@[congr] theorem Ybn {K:AV→Prop} {l l' : List AV} (h:l=l'):YR l K=YR l' K:=by subst h;rfl
attribute [go_sem] xW
attribute [go_sem ↓] xW
def uab (tE:Nat) (l:List AV) (K:AV→Prop):Prop:=
 match l with
 | [a,b]=>onPs (fun l=>onA (fun q=>okPs 1000000 l∧al q≤1000000∧l.length≤100000∧K (.tup [qsA (if imgC l q=0 then imgs l q else []),errV tE (imgC l q)])) b) a
 | _=>False
theorem qam (tE:Nat) (a b:AV) (K:AV→Prop):uab tE [a,b] K=(onPs (fun l=>onA (fun q=>okPs 1000000 l∧al q≤1000000∧l.length≤100000∧K (.tup [qsA (if imgC l q=0 then imgs l q else []),errV tE (imgC l q)])) b) a):=propext Iff.rfl
@[congr] theorem Ubx (tE:Nat) {K:AV→Prop} {l l' : List AV} (h:l=l'):uab tE l K=uab tE l' K:=by subst h;rfl
attribute [go_sem] qam
attribute [go_sem ↓] qam
def jH (l:List AV) (K:AV→Prop):Prop:=
 match l with
 | [a,b]=>onPs (fun l=>onA (fun q=>okPs 1000000 l∧al q≤1000000∧l.length≤100000∧K (qsA (imgs l q))) b) a
 | _=>False
theorem uP (a b:AV) (K:AV→Prop):jH [a,b] K=(onPs (fun l=>onA (fun q=>okPs 1000000 l∧al q≤1000000∧l.length≤100000∧K (qsA (imgs l q))) b) a):=propext Iff.rfl
@[congr] theorem Ubj {K:AV→Prop} {l l' : List AV} (h:l=l'):jH l K=jH l' K:=by subst h;rfl
attribute [go_sem] uP
attribute [go_sem ↓] uP
def XQ (l:List AV) (K:AV→Prop):Prop:=
 match l with
 | [a]=>onPs (fun l=>okPs 4294967296 l∧K (.one (.lit (.bool (l.all sP))))) a
 | _=>False
theorem Qaa (a:AV) (K:AV→Prop):XQ [a] K=(onPs (fun l=>okPs 4294967296 l∧K (.one (.lit (.bool (l.all sP))))) a):=propext Iff.rfl
@[congr] theorem wbo {K:AV→Prop} {l l' : List AV} (h:l=l'):XQ l K=XQ l' K:=by subst h;rfl
attribute [go_sem] Qaa
attribute [go_sem ↓] Qaa
def Up (l:List AV) (K:AV→Prop):Prop:=
 match l with
 | [a]=>onAs (fun l=>okAs 4294967296 l∧K (.one (.lit (.bool (l.all sA))))) a
 | _=>False
theorem WW (a:AV) (K:AV→Prop):Up [a] K=(onAs (fun l=>okAs 4294967296 l∧K (.one (.lit (.bool (l.all sA))))) a):=propext Iff.rfl
@[congr] theorem Zbl {K:AV→Prop} {l l' : List AV} (h:l=l'):Up l K=Up l' K:=by subst h;rfl
attribute [go_sem] WW
attribute [go_sem ↓] WW
theorem qaf:Good Up:=Va fun as=>by
 unfold Up
 split
 ·exact (xa8 fun _=>(.and fun _=>(.ret _)))
 ·exact .of fun K hk=>hk.elim
def YT (l:List AV) (K:AV→Prop):Prop:=
 match l with
 | [a]=>onPs (fun l=>okPs 4294967296 l∧K (.one (.lit (.bool (decide (l.length≤20) && l.all sP))))) a
 | _=>False
theorem WV (a:AV) (K:AV→Prop):YT [a] K=(onPs (fun l=>okPs 4294967296 l∧K (.one (.lit (.bool (decide (l.length≤20) && l.all sP))))) a):=propext Iff.rfl
@[congr] theorem Xbu {K:AV→Prop} {l l' : List AV} (h:l=l'):YT l K=YT l' K:=by subst h;rfl
attribute [go_sem] WV
attribute [go_sem ↓] WV
def jab (tE:Nat) (l:List AV) (K:AV→Prop):Prop:=
 match l with
 | [a,b]=>onPs (fun l=>onAs (fun m=>okPs 100000000 l∧okAs 100000000 m∧K (errV tE (chkC l m))) b) a
 | _=>False
theorem Waq (tE:Nat) (a b:AV) (K:AV→Prop):jab tE [a,b] K=(onPs (fun l=>onAs (fun m=>okPs 100000000 l∧okAs 100000000 m∧K (errV tE (chkC l m))) b) a):=propext Iff.rfl
@[congr] theorem ubw (tE:Nat) {K:AV→Prop} {l l' : List AV} (h:l=l'):jab tE l K=jab tE l' K:=by subst h;rfl
attribute [go_sem] Waq
attribute [go_sem ↓] Waq
def xaf (l:List AV) (K:AV→Prop):Prop:=
 match l with
 | [a,b]=>onRs (fun l=>onRs (fun m=>okRs 4294967296 l∧K (.one (.lit (.bool (decide (l=m)))))) b) a
 | _=>False
theorem wai (a b:AV) (K:AV→Prop):xaf [a,b] K=(onRs (fun l=>onRs (fun m=>okRs 4294967296 l∧K (.one (.lit (.bool (decide (l=m)))))) b) a):=propext Iff.rfl
@[congr] theorem zbw {K:AV→Prop} {l l' : List AV} (h:l=l'):xaf l K=xaf l' K:=by subst h;rfl
attribute [go_sem] wai
attribute [go_sem ↓] wai
def Vd:AC:=(.seq (.ops false [.m 2 .fa])
 (.fg [0] (.seq (.seq (.ops false [.m 7 (.t 0),.u 8 (.len (.t 7)),.m 9 (.i 0)])
 (.fg [7,8,9] (.block 0 (.loop (.seq (.ops false [.u 10 (.bin .lss (.t 9) (.t 8))])
 (.fg [7,8,9,10] (.seq (.cond (.t 10) .skip (.exit 0))
 (.fg [7,8,9] (.seq (.block 1 (.seq (.ops false [.u 11 (.idx 6 (.t 7) (.t 9)),.u 12 (.ld none 6 true (.t 11)),.u 4 (.alloc [(.lit (.bool false)),.emp,.emp,(.lit (.bool false)),.emp,.emp]),.n (.st none 6 (.t 4) (.t 12))])
 (.fg [4,7,8,9] (.seq (.ops false [.u 13 (.fa 0 (.t 4)),.u 14 (.ld none 3 true (.t 13)),.u 15 (.fa 3 (.t 4)),.u 16 (.ld none 3 true (.t 15)),.u 17 (.row 3 [[.x 3 (.t 14)],[.x 3 (.t 16)]]),.u 18 (.len (.t 17)),.m 19 (.i 0)])
 (.fg [7,8,9,17,18,19] (.block 2 (.loop (.seq (.ops false [.u 20 (.bin .lss (.t 19) (.t 18))])
 (.fg [7,8,9,17,18,19,20] (.seq (.cond (.t 20) .skip (.exit 2))
 (.fg [7,8,9,17,18,19] (.seq (.block 3 (.seq (.ops false [.u 21 (.idx 3 (.t 17) (.t 19)),.u 22 (.ld none 3 true (.t 21)),.u 6 (.alloc [(.lit (.bool false)),.emp,.emp]),.n (.st none 3 (.t 6) (.t 22))])
 (.fg [6,7,8,9,17,18,19] (.seq (.ops false [.u 23 (.fa 1 (.t 6)),.u 24 (.ld none 1 false (.t 23)),.u 25 (.len (.t 24)),.u 26 (.bin .gtr (.t 25) (.i 2)),.m 27 (.t 26),.w 28 27 false (.fa 2 (.t 6)),.w 29 27 false (.ld none 1 false (.t 28)),.w 30 27 false (.len (.t 29)),.w 31 27 false (.bin .gtr (.t 30) (.i 2)),.u 32 (.pick (.t 27) .tr (.t 31))])
 (.fg [7,8,9,17,18,19,32] (.cond (.t 32) (.seq (.ops false [.m 2 .fa])
 .ret) .skip))))))
 (.fg [7,8,9,17,18,19] (.ops false [.u 33 (.bin .add (.t 19) (.i 1)),.m 19 (.t 33)]))))))))))))))
 (.fg [7,8,9] (.ops false [.u 34 (.bin .add (.t 9) (.i 1)),.m 9 (.t 34)])))))))))))
 (.fg [] (.seq (.ops false [.m 2 .tr])
 .ret)))))
theorem Z6 (hΓ:Holds P Γ) {f:Nat} (hc:check P f=some (35,Vd.strip,[.tmp 2])):Sound P f (.dat true Up):=by
 refine va hc qaf hΓ (fun args K hcl hfi hG=>?_)
 match args,hG with
 | [a],hG=>
  obtain ⟨l,rfl,hwl,hok,hK⟩:=hG
  refine ⟨by simp,?_⟩
  simp only [go_sem,Vd]
  intro _
  refine ka (fun k:Nat=>⟨mkV [(7,asA l),(8,.one (.lit (.int .i64 l.length))),(9,.one (.lit (.int .i64 k)))],mkH []⟩) (fun k=>k≤l.length∧(l.take k).all sA=true) (fun k=>l.length-k) 0 ?_ ?_ ?_
  ·exact Qa (by simp [okS,okV,okC,okL,okH,okB,okE,Za,Ja,za,ja,wsA,ws,asA,as]) trivial
  ·exact ⟨Nat.zero_le _,rfl⟩
  ·rintro k ⟨hk,hall⟩
   by_cases hlt:k<l.length
   ·obtain ⟨p,hp⟩:∃p,l.getD k a0=p:=⟨_,rfl⟩
    have hp0:=WF hlt hp
    obtain ⟨hp1,hp2⟩:=hok p (List.mem_of_getElem? hp0)
    obtain ⟨xs,hxs⟩:∃xs:List R,xs=[p.1,p.2]:=⟨_,rfl⟩
    have hlx:xs.length=2:=by rw [hxs];rfl
    have hwx:∀x∈xs,rl x≤4294967296:=by
     intro x hx
     rw [hxs]at hx
     simp only [List.mem_cons,List.not_mem_nil,or_false]at hx
     obtain ⟨l3,l4⟩:=al1 hp2
     rcases hx with rfl | rfl <;> assumption
    have hex:xs.all (sR 2)=sA p:=by rw [hxs];simp only [List.all_cons,List.all_nil,Bool.and_true];rfl
    simp only [go_sem,hlt,hp,xd]
    refine ka (fun j:Nat=>⟨mkV [(7,asA l),(8,.one (.lit (.int .i64 l.length))),(9,.one (.lit (.int .i64 k))),(17,.one (.full (xs.map rC))),(18,.one (.lit (.int .i64 2))),(19,.one (.lit (.int .i64 j)))],mkH []⟩) (fun j=>j≤2∧(xs.take j).all (sR 2)=true) (fun j=>2-j) 0 ?_ ?_ ?_
    ·exact Qa (by rw [hxs];simp [okS,okV,okC,okL,okH,okB,okE,Za,Ja,za,ja,wsA,ws,asA,as,rC]) trivial
    ·exact ⟨Nat.zero_le _,rfl⟩
    ·rintro j ⟨hj,hallj⟩
     by_cases hltj:j<2
     ·obtain ⟨x,hx⟩:∃x,xs.getD j (rcan 0)=x:=⟨_,rfl⟩
      have hx0:=WF (by omega:j<xs.length) hx
      have hxr:=hwx x (List.mem_of_getElem? hx0)
      have hjx:j<xs.length:=by omega
      obtain ⟨b,n,d⟩:=x
      have w1:n.length≤4294967296:=Nat.le_trans (Nat.le_max_left _ _) hxr
      have w2:d.length≤4294967296:=Nat.le_trans (Nat.le_max_right _ _) hxr
      have bad:¬(sR 2 (b,n,d)=true)→K (.one (.lit (.bool false))):=by
       intro hb
       have e1:sA p=false:=by rw [←hex];exact Ubf hx0 (by simpa using hb)
       rw [Ubf hp0 e1]at hK;exact hK
      have hsr:sR 2 (b,n,d)=true↔n.length≤2∧d.length≤2:=by simp [sR]
      simp only [go_sem,hltj,hjx,hx,Jbm,cb,cn,cd,ws,hlx]
      exact ⟨fun _ _=>⟨fun h=>bad (fun e=>by have:=hsr.1 e;omega),fun h _=>⟨fun h'=>bad (fun e=>by have:=hsr.1 e;omega),fun h'=>⟨by omega,j+1,Qa (by simp [okS,okV,okC,okL,okH,okB,okE,Za,Ja,za,ja,wsA,ws,asA,as]) trivial,⟨by omega,YQ hx0 hallj (hsr.2 ⟨by omega,by omega⟩)⟩,by omega⟩⟩⟩,fun h=>absurd (by omega) h⟩
     ·rw [List.take_of_length_le (by omega),hex]at hallj
      simp only [go_sem,hltj]
      exact ⟨fun h=>absurd h (by omega),fun _=>⟨by omega,k+1,Qa (by simp [okS,okV,okC,okL,okH,okB,okE,Za,Ja,za,ja,wsA,ws,asA,as]) trivial,⟨by omega,YQ hp0 hall hallj⟩,by omega⟩⟩
   ·rw [List.take_of_length_le (by omega)]at hall
    rw [hall]at hK
    simp only [go_sem,hlt]
    exact hK
end Go.Abs
end
section
namespace Go.Num
open Go.Abs
def ctrQ (p u v:V2):V2:=(p.1+(sqQ u*v.2-sqQ v*u.2) / (2*crossQ u v),p.2+(sqQ v*u.1-sqQ u*v.1) / (2*crossQ u v))
def ciQ (p u v:V2):V2:=if crossQ u v=0 then (0,0) else ctrQ p u v
def ciL (l:List Arc):V2:=ciQ (av (l.getD 0 a0)) (subQ (av (l.getD 1 a0)) (av (l.getD 0 a0))) (subQ (av (l.getD 2 a0)) (av (l.getD 0 a0)))
def crL (l:List Arc):Rat:=crossQ (subQ (av (l.getD 1 a0)) (av (l.getD 0 a0))) (subQ (av (l.getD 2 a0)) (av (l.getD 0 a0)))
end Go.Num
namespace Go.Abs
open Go.Num
variable {P:Program} {Γ:Nat→Spec}
def yad (tE:Nat) (l:List AV) (K:AV→Prop):Prop:=
 match l with
 | [a]=>onAs (fun l=>okAs 1000000 l∧3≤l.length∧K (.tup [pQ (ciL l),errV tE (if crL l=0 then 8 else 0)])) a
 | _=>False
theorem Xap (tE:Nat) (a:AV) (K:AV→Prop):yad tE [a] K=(onAs (fun l=>okAs 1000000 l∧3≤l.length∧K (.tup [pQ (ciL l),errV tE (if crL l=0 then 8 else 0)])) a):=propext Iff.rfl
@[congr] theorem Xbx (tE:Nat) {K:AV→Prop} {l l' : List AV} (h:l=l'):yad tE l K=yad tE l' K:=by subst h;rfl
attribute [go_sem] Xap
attribute [go_sem ↓] Xap
def Qag (l:List AV) (K:AV→Prop):Prop:=
 match l with
 | [a]=>onAs (fun l=>okAs 1000000 l∧3≤l.length∧K (.tup [pQ (ciL l),.one (.lit (.bool (decide (crL l≠0))))])) a
 | _=>False
theorem Qam (a:AV) (K:AV→Prop):Qag [a] K=(onAs (fun l=>okAs 1000000 l∧3≤l.length∧K (.tup [pQ (ciL l),.one (.lit (.bool (decide (crL l≠0))))])) a):=propext Iff.rfl
@[congr] theorem ybx {K:AV→Prop} {l l' : List AV} (h:l=l'):Qag l K=Qag l' K:=by subst h;rfl
attribute [go_sem] Qam
attribute [go_sem ↓] Qam
end Go.Abs
end
section
namespace Go.Abs
open Go.Num
variable {P:Program} {Γ:Nat→Spec}
def YU (l:List AV) (K:AV→Prop):Prop:=
 match l with
 | [a]=>asInt (fun k n=>k=.i64∧n=1∧K (.one (.lit (.string ⟨#[49]⟩)))) a
 | _=>False
theorem Q7 (a:AV) (K:AV→Prop):YU [a] K=(asInt (fun k n=>k=.i64∧n=1∧K (.one (.lit (.string ⟨#[49]⟩)))) a):=propext Iff.rfl
@[congr] theorem Wbs {K:AV→Prop} {l l' : List AV} (h:l=l'):YU l K=YU l' K:=by subst h;rfl
attribute [go_sem] Q7
attribute [go_sem ↓] Q7
def jae (l:List AV) (K:AV→Prop):Prop:=
 match l with
 | [a,b]=>asInt (fun k n=>k=.i64∧n=1∧asInt (fun k m=>k=.i64∧m=10∧K (.one (.lit (.string ⟨#[49]⟩)))) b) a
 | _=>False
theorem Yao (a b:AV) (K:AV→Prop):jae [a,b] K=(asInt (fun k n=>k=.i64∧n=1∧asInt (fun k m=>k=.i64∧m=10∧K (.one (.lit (.string ⟨#[49]⟩)))) b) a):=propext Iff.rfl
@[congr] theorem Ubw {K:AV→Prop} {l l' : List AV} (h:l=l'):jae l K=jae l' K:=by subst h;rfl
attribute [go_sem] Yao
attribute [go_sem ↓] Yao
def vad (l:List AV) (K:AV→Prop):Prop:=
 match l with
 | [a]=>asInt (fun k n=>k=.i64∧n=1∧K (.one (.lit (.string ⟨#[49]⟩)))) a
 | _=>False
theorem ual (a:AV) (K:AV→Prop):vad [a] K=(asInt (fun k n=>k=.i64∧n=1∧K (.one (.lit (.string ⟨#[49]⟩)))) a):=propext Iff.rfl
@[congr] theorem uby {K:AV→Prop} {l l' : List AV} (h:l=l'):vad l K=vad l' K:=by subst h;rfl
attribute [go_sem] ual
attribute [go_sem ↓] ual
def vaf (l:List AV) (K:AV→Prop):Prop:=
 match l with
 | [a,b]=>a=.one (.slice [[.lit (.string ⟨#[49]⟩)]])∧b=.one (.lit (.string ⟨#[]⟩))∧K (.one (.lit (.string ⟨#[49]⟩)))
 | _=>False
theorem Vah (a b:AV) (K:AV→Prop):vaf [a,b] K=(a=.one (.slice [[.lit (.string ⟨#[49]⟩)]])∧b=.one (.lit (.string ⟨#[]⟩))∧K (.one (.lit (.string ⟨#[49]⟩)))):=propext Iff.rfl
@[congr] theorem xbw {K:AV→Prop} {l l' : List AV} (h:l=l'):vaf l K=vaf l' K:=by subst h;rfl
attribute [go_sem] Vah
attribute [go_sem ↓] Vah
def Xac (l:List AV) (K:AV→Prop):Prop:=
 match l with
 | [a]=>onW (fun w=>zv w=1∧K (.one (.lit (.string ⟨#[49]⟩)))) a
 | _=>False
theorem xas (a:AV) (K:AV→Prop):Xac [a] K=(onW (fun w=>zv w=1∧K (.one (.lit (.string ⟨#[49]⟩)))) a):=propext Iff.rfl
@[congr] theorem kbx {K:AV→Prop} {l l' : List AV} (h:l=l'):Xac l K=Xac l' K:=by subst h;rfl
attribute [go_sem] xas
attribute [go_sem ↓] xas
def Jae (l:List AV) (K:AV→Prop):Prop:=
 match l with
 | [a]=>onR (fun x=>rv x=1∧rl x≤4294967296∧K (.one (.lit (.string ⟨#[49]⟩)))) a
 | _=>False
theorem Zat (a:AV) (K:AV→Prop):Jae [a] K=(onR (fun x=>rv x=1∧rl x≤4294967296∧K (.one (.lit (.string ⟨#[49]⟩)))) a):=propext Iff.rfl
@[congr] theorem zbz {K:AV→Prop} {l l' : List AV} (h:l=l'):Jae l K=Jae l' K:=by subst h;rfl
attribute [go_sem] Zat
attribute [go_sem ↓] Zat
end Go.Abs
end
