/-
  Parts of the proof, merged: ChartG, ChartQ, ChartH, ChartR, ChartW, ChartX, ComA, ChartRow, ComB, PoseD, PoseE, PoseT.
-/
import Derived.Test.YtkcleifemnineaaGreatM6
set_option linter.unusedVariables false
set_option linter.unusedSimpArgs false
set_option maxRecDepth 100000
section
namespace Go.Num
def sh1 (by' : Rat) (a:Q2):List Q2:=
 let f:=frac (a.1+by')
 let t:=f+(a.2-a.1)
 if 1<t then (0,t-1)::(if f<1 then [(f,1)] else []) else (if f<t then [(f,t)] else [])
def shL (by' : Rat) (l:List Q2):List Q2:=l.flatMap (sh1 by')
def lim64 (l:List Q2):List Q2:=if 64<l.length then [] else l
def code64 (l:List Q2):Nat:=if 64<l.length then 4 else 0
def shOut (l:List Arc) (y:R):List Q2:=if chk [l]=0∧vldR y=true then lim64 (nrm (shL (rv y) (vals l))) else []
def shCode (l:List Arc) (y:R):Nat:=if chk [l]=0 then (if vldR y=true then code64 (nrm (shL (rv y) (vals l))) else 3) else chk [l]
end Go.Num
namespace Go.Abs
open Go.Num
variable {P:Program} {Γ:Nat→Spec}
def QR (tE m:Nat) (l:List AV) (K:AV→Prop):Prop:=
 match l with
 | [a,b]=>onAs (fun l=>onR (fun y=>(chk [l]=0→2*l.length≤m)∧okAs 10000000 l∧rl y≤10000000∧K (.tup [.one (.slice (((shOut l y).map acan).map aC)),errV tE (shCode l y)])) b) a
 | _=>False
theorem V5 (tE m:Nat) (a b:AV) (K:AV→Prop):QR tE m [a,b] K=(onAs (fun l=>onR (fun y=>(chk [l]=0→2*l.length≤m)∧okAs 10000000 l∧rl y≤10000000∧K (.tup [.one (.slice (((shOut l y).map acan).map aC)),errV tE (shCode l y)])) b) a):=propext Iff.rfl
@[congr] theorem vbp (tE m:Nat) {K:AV→Prop} {l l' : List AV} (h:l=l'):QR tE m l K=QR tE m l' K:=by subst h;rfl
attribute [go_sem] V5
attribute [go_sem ↓] V5
end Go.Abs
end
section
namespace Go.Num
end Go.Num
end
section
namespace Go.Num
end Go.Num
namespace Go.Abs
open Go.Num
variable {P:Program} {Γ:Nat→Spec}
theorem za8 (k:List Arc→Prop) (x y:R):onAs k (.one (.slice [[cb x,cn x,cd x,cb y,cn y,cd y]]))=((∀z∈[(x,y)],WLA z)∧k [(x,y)]):=xH k [(x,y)]
theorem Va4 (k:List Arc→Prop) (x y x' y' : R):onAs k (.one (.slice [[cb x,cn x,cd x,cb y,cn y,cd y],[cb x',cn x',cd x',cb y',cn y',cd y']]))=((∀z∈[(x,y),(x',y')],WLA z)∧k [(x,y),(x',y')]):=xH k [(x,y),(x',y')]
theorem YaP (k:List Arc→Prop) (x:Arc):onAs k (.one (.slice [aC x]))=((∀z∈[x],WLA z)∧k [x]):=xH k [x]
theorem kaN (k:List Arc→Prop) (x y:Arc):onAs k (.one (.slice [aC x,aC y]))=((∀z∈[x,y],WLA z)∧k [x,y]):=xH k [x,y]
theorem jaQ (k:List Arc→Prop) (y x' y' : R):onAs k (.one (.slice [[.lit (.bool false),.slice [],.slice [],cb y,cn y,cd y],[cb x',cn x',cd x',cb y',cn y',cd y']]))=((∀z∈[(rcan 0,y),(x',y')],WLA z)∧k [(rcan 0,y),(x',y')]):=by
 rw [jb];exact xH k [((false,[],[]),y),(x',y')]
attribute [go_sem] za8 Va4 YaP kaN jaQ
attribute [go_sem ↓] za8 Va4 YaP kaN jaQ
def vT (l:List AV) (K:AV→Prop):Prop:=
 match l with
 | []=>K (.one (.lit (.bool true)))
 | _=>False
theorem J5 (K:AV→Prop):vT [] K=(K (.one (.lit (.bool true)))):=propext Iff.rfl
@[congr] theorem Ubp {K:AV→Prop} {l l' : List AV} (h:l=l'):vT l K=vT l' K:=by subst h;rfl
attribute [go_sem] J5
attribute [go_sem ↓] J5
end Go.Abs
end
section
namespace Go.Num
instance (x:Rat) (a:Q2):Decidable (mem x a):=by unfold mem;infer_instance
instance (x:Rat) (l:List Q2):Decidable (memL x l):=by unfold memL;infer_instance
end Go.Num
end
section
namespace Go.Num
def not1 (f t:Rat):List Q2:=if f<t then [(f,t)] else []
def notGo:Rat→List Q2→List Q2
 | f,[]=>not1 f 1
 | f,a::l=>not1 f a.1++notGo a.2 l
def notL (l:List Q2):List Q2:=notGo 0 l
def meet1 (x y:Q2):List Q2:=not1 (mxQ x.1 y.1) (mnQ x.2 y.2)
def meetL (a b:List Q2):List Q2:=a.flatMap fun x=>b.flatMap fun y=>meet1 x y
end Go.Num
namespace Go.Abs
open Go.Num
variable {P:Program} {Γ:Nat→Spec}
def QaI (l:List AV) (K:AV→Prop):Prop:=
 match l with
 | [a]=>onAs (fun l=>l.length≤1000∧okAs 1000000000 l∧K (.one (.slice (((notL (vals l)).map acan).map aC)))) a
 | _=>False
theorem yaT (a:AV) (K:AV→Prop):QaI [a] K=(onAs (fun l=>l.length≤1000∧okAs 1000000000 l∧K (.one (.slice (((notL (vals l)).map acan).map aC)))) a):=propext Iff.rfl
@[congr] theorem qbJ {K:AV→Prop} {l l' : List AV} (h:l=l'):QaI l K=QaI l' K:=by subst h;rfl
attribute [go_sem] yaT
attribute [go_sem ↓] yaT
def Xaf (l:List AV) (K:AV→Prop):Prop:=
 match l with
 | [a,b]=>onAs (fun l=>onAs (fun m=>l.length≤1000∧m.length≤1000∧okAs 1000000000 l∧okAs 1000000000 m∧K (.one (.slice (((meetL (vals l) (vals m)).map acan).map aC)))) b) a
 | _=>False
theorem kaj (a b:AV) (K:AV→Prop):Xaf [a,b] K=(onAs (fun l=>onAs (fun m=>l.length≤1000∧m.length≤1000∧okAs 1000000000 l∧okAs 1000000000 m∧K (.one (.slice (((meetL (vals l) (vals m)).map acan).map aC)))) b) a):=propext Iff.rfl
@[congr] theorem zby {K:AV→Prop} {l l' : List AV} (h:l=l'):Xaf l K=Xaf l' K:=by subst h;rfl
attribute [go_sem] kaj
attribute [go_sem ↓] kaj
end Go.Abs
end
section
namespace Go.Num
def res (c:Nat) (L:List Q2):List Q2:=if c=0 then lim64 L else []
def cod (c:Nat) (L:List Q2):Nat:=if c=0 then code64 L else c
end Go.Num
namespace Go.Abs
open Go.Num
variable {P:Program} {Γ:Nat→Spec}
def VT (tE m:Nat) (l:List AV) (K:AV→Prop):Prop:=
 match l with
 | [a,b]=>onAs (fun l=>onAs (fun k=>(chk [l,k]=0→l.length+k.length≤m)∧okAs 10000000 l∧okAs 10000000 k∧K (.tup [.one (.slice (((res (chk [l,k]) (nrm (vals l++vals k))).map acan).map aC)),errV tE (cod (chk [l,k]) (nrm (vals l++vals k)))])) b) a
 | _=>False
theorem W7 (tE m:Nat) (a b:AV) (K:AV→Prop):VT tE m [a,b] K=(onAs (fun l=>onAs (fun k=>(chk [l,k]=0→l.length+k.length≤m)∧okAs 10000000 l∧okAs 10000000 k∧K (.tup [.one (.slice (((res (chk [l,k]) (nrm (vals l++vals k))).map acan).map aC)),errV tE (cod (chk [l,k]) (nrm (vals l++vals k)))])) b) a):=propext Iff.rfl
@[congr] theorem wbp (tE m:Nat) {K:AV→Prop} {l l' : List AV} (h:l=l'):VT tE m l K=VT tE m l' K:=by subst h;rfl
attribute [go_sem] W7
attribute [go_sem ↓] W7
def xac (tE m:Nat) (l:List AV) (K:AV→Prop):Prop:=
 match l with
 | [a,b]=>onAs (fun l=>onAs (fun k=>(chk [l,k]=0→l.length≤m∧k.length≤m)∧okAs 10000000 l∧okAs 10000000 k∧K (.tup [.one (.slice (((res (chk [l,k]) (meetL (nrm (vals l)) (nrm (vals k)))).map acan).map aC)),errV tE (cod (chk [l,k]) (meetL (nrm (vals l)) (nrm (vals k))))])) b) a
 | _=>False
theorem Jaj (tE m:Nat) (a b:AV) (K:AV→Prop):xac tE m [a,b] K=(onAs (fun l=>onAs (fun k=>(chk [l,k]=0→l.length≤m∧k.length≤m)∧okAs 10000000 l∧okAs 10000000 k∧K (.tup [.one (.slice (((res (chk [l,k]) (meetL (nrm (vals l)) (nrm (vals k)))).map acan).map aC)),errV tE (cod (chk [l,k]) (meetL (nrm (vals l)) (nrm (vals k))))])) b) a):=propext Iff.rfl
@[congr] theorem JbA (tE m:Nat) {K:AV→Prop} {l l' : List AV} (h:l=l'):xac tE m l K=xac tE m l' K:=by subst h;rfl
attribute [go_sem] Jaj
attribute [go_sem ↓] Jaj
def ZaT (tE m:Nat) (l:List AV) (K:AV→Prop):Prop:=
 match l with
 | [a]=>onAs (fun l=>(chk [l]=0→l.length≤m)∧okAs 10000000 l∧K (.tup [.one (.slice (((res (chk [l]) (notL (nrm (vals l)))).map acan).map aC)),errV tE (cod (chk [l]) (notL (nrm (vals l))))])) a
 | _=>False
theorem JaR (tE m:Nat) (a:AV) (K:AV→Prop):ZaT tE m [a] K=(onAs (fun l=>(chk [l]=0→l.length≤m)∧okAs 10000000 l∧K (.tup [.one (.slice (((res (chk [l]) (notL (nrm (vals l)))).map acan).map aC)),errV tE (cod (chk [l]) (notL (nrm (vals l))))])) a):=propext Iff.rfl
@[congr] theorem vbB (tE m:Nat) {K:AV→Prop} {l l' : List AV} (h:l=l'):ZaT tE m l K=ZaT tE m l' K:=by subst h;rfl
attribute [go_sem] JaR
attribute [go_sem ↓] JaR
end Go.Abs
end
section
namespace Go.Abs
open Go.Num
variable {P:Program} {Γ:Nat→Spec}
def zR (tE:Nat) (l:List AV) (K:AV→Prop):Prop:=
 match l with
 | [a,e,b,n]=>onAs (fun l=>onErr tE (fun c=>onAs (fun m=>asInt (fun k n=>k=.i64∧okAs 1073741824 l∧okAs 1073741824 m∧K (.one (.lit (.bool (decide ((c:Int)=n) && decide (vals l=vals m)))))) n) b) e) a
 | _=>False
theorem Q7 (tE:Nat) (a e b n:AV) (K:AV→Prop):zR tE [a,e,b,n] K=(onAs (fun l=>onErr tE (fun c=>onAs (fun m=>asInt (fun k n=>k=.i64∧okAs 1073741824 l∧okAs 1073741824 m∧K (.one (.lit (.bool (decide ((c:Int)=n) && decide (vals l=vals m)))))) n) b) e) a):=propext Iff.rfl
@[congr] theorem jbw (tE:Nat) {K:AV→Prop} {l l' : List AV} (h:l=l'):zR tE l K=zR tE l' K:=by subst h;rfl
attribute [go_sem] Q7
attribute [go_sem ↓] Q7
def JaP (l:List AV) (K:AV→Prop):Prop:=
 match l with
 | [a,b]=>onAs (fun l=>onR (fun y=>okAs 1073741824 l∧rl y≤1073741824∧K (.one (.lit (.bool (l.any (inA (rv y))))))) b) a
 | _=>False
theorem uaK (a b:AV) (K:AV→Prop):JaP [a,b] K=(onAs (fun l=>onR (fun y=>okAs 1073741824 l∧rl y≤1073741824∧K (.one (.lit (.bool (l.any (inA (rv y))))))) b) a):=propext Iff.rfl
@[congr] theorem wbB {K:AV→Prop} {l l' : List AV} (h:l=l'):JaP l K=JaP l' K:=by subst h;rfl
attribute [go_sem] uaK
attribute [go_sem ↓] uaK
def VP (l:List AV) (K:AV→Prop):Prop:=
 match l with
 | [a,b]=>onL (fun L=>onR (fun y=>(∀l∈L,okAs 1073741824 l)∧rl y≤1073741824∧L.length≤1000000∧K (.one (.lit (.int .i64 (L.countP (fun l=>l.any (inA (rv y))):Nat))))) b) a
 | _=>False
theorem Z2 (a b:AV) (K:AV→Prop):VP [a,b] K=(onL (fun L=>onR (fun y=>(∀l∈L,okAs 1073741824 l)∧rl y≤1073741824∧L.length≤1000000∧K (.one (.lit (.int .i64 (L.countP (fun l=>l.any (inA (rv y))):Nat))))) b) a):=propext Iff.rfl
@[congr] theorem kbv {K:AV→Prop} {l l' : List AV} (h:l=l'):VP l K=VP l' K:=by subst h;rfl
attribute [go_sem] Z2
attribute [go_sem ↓] Z2
end Go.Abs
end
section
namespace Go.Abs
open Go.Num
def rC (x:R):List C:=[cb x,cn x,cd x]
theorem vbj (x:R):rC x=[cb x,cn x,cd x]:=eq_of_heq (HEq.refl _)
theorem qa7 (x:R):(rC x).length=3:=eq_of_heq (HEq.refl _)
theorem jE (K:List C→Prop) (L:List R) (i:Nat):getE K (L.map rC) i=(i<L.length∧K (rC (L.getD i (rcan 0)))):=by
 simp only [getE,List.length_map,List.getElem?_map]
 refine propext ⟨fun h=>⟨h.1,h.2 _ (by simp [h.1,List.getD_eq_getElem?_getD])⟩,fun h=>⟨h.1,fun e he=>?_⟩⟩
 simp [h.1]at he
 subst he
 have:=h.2
 simpa [List.getD_eq_getElem?_getD,h.1] using this
theorem QQ (l:List R):CleanR (l.map rC)=True:=eq_true fun e he c hc=>by
 obtain ⟨x,_,rfl⟩:=List.mem_map.1 he
 exact jaA x c hc
theorem Va8 (L:List R):(∀e∈L.map rC,e.length=3)=True:=eq_true fun e he=>by
 obtain ⟨l,_,rfl⟩:=List.mem_map.1 he;rfl
theorem qaD (h:Nat→HB) (L:List R):(L.map rC).map (fun x=>x.map (datC h))=L.map rC:=by
 rw [List.map_map];exact List.map_congr_left fun x _=>rfl
theorem qaN (L:List R):(L.map rC).flatMap (fun x=>x.flatMap ownC)=[]:=by
 rw [List.flatMap_map];exact List.flatMap_eq_nil_iff.2 fun x _=>rfl
theorem YaN (h:Nat→HB) (L:List (List Arc)):(L.map lC).map (fun x=>x.map (datC h))=L.map lC:=by
 rw [List.map_map];exact List.map_congr_left fun x _=>rfl
theorem waI (L:List (List Arc)):(L.map lC).flatMap (fun x=>x.flatMap ownC)=[]:=by
 rw [List.flatMap_map];exact List.flatMap_eq_nil_iff.2 fun x _=>rfl
theorem QaO (h:Nat→HB):frz [] h=h:=eq_of_heq (HEq.refl _)
attribute [go_sem] qa7 jE QQ Va8 qaD qaN YaN waI QaO
attribute [go_sem ↓] qa7 jE QQ Va8 qaD qaN YaN waI QaO
end Go.Abs
end
section
namespace Go.Num
def posR:List R→Rat→Nat
 | [],_=>0
 | x::l,q=>if rv x<q then posR l q+1 else 0
def insR (l:List R) (y:R):List R:=if (l.drop (posR l (rv y))).head?.map rv=some (rv y) then l else l.take (posR l (rv y))++y::l.drop (posR l (rv y))
def okRs (b:Nat) (l:List R):Prop:=∀x∈l,WLR x∧rl x≤b
def insA (S:List R) (x:Arc):List R:=insR (insR S x.1) x.2
def marksR (L:List (List Arc)):List R:=L.flatten.foldl insA [rcan 0,rcan 1]
end Go.Num
namespace Go.Abs
open Go.Num
variable {P:Program} {Γ:Nat→Spec}
def rsA (l:List R):AV:=.one (.slice (l.map rC))
theorem xbw {x y:R} (h:rC x=rC y):x=y:=Yo x y (by simpa [rC,rA] using h)
theorem jbd (x y:List R) (h:rsA x=rsA y):x=y:=by
 simp only [rsA,AV.one.injEq,C.slice.injEq]at h
 exact List.map_inj_right (fun _ _=>xbw) |>.1 h
def onRs (k:List R→Prop) (a:AV):Prop:=onE rsA (fun l=>(∀x∈l,WLR x)∧k l) a
@[congr] theorem QbJ {k:List R→Prop} {a a' : AV} (h:a=a'):onRs k a=onRs k a':=by subst h;rfl
theorem Zbb (k:List R→Prop) (l:List R):onRs k (.one (.slice (l.map rC)))=((∀x∈l,WLR x)∧k l):=Un jbd (fun l=>(∀x∈l,WLR x)∧k l) l
theorem Vag (l:List R):Clean (.slice (l.map rC))=True:=eq_true (.slice _ (of_eq_true (QQ l)))
theorem vbe (l:List R) (n:Nat):(l.map rC).take n=(l.take n).map rC:=by rw [List.map_take]
theorem ybh (l:List R) (n:Nat):(l.map rC).drop n=(l.drop n).map rC:=by rw [List.map_drop]
theorem ua8 (l:List R):rsA l=.one (.slice (l.map rC)):=eq_of_heq (HEq.refl _)
attribute [go_sem] Zbb Vag ua8 vbe ybh
attribute [go_sem ↓] Zbb Vag ua8
def vQ (l:List AV) (K:AV→Prop):Prop:=
 match l with
 | [a]=>onL (fun L=>(∀l∈L,okAs 1073741824 l)∧L.flatten.length≤100000∧K (.one (.slice ((marksR L).map rC)))) a
 | _=>False
theorem Z4 (a:AV) (K:AV→Prop):vQ [a] K=(onL (fun L=>(∀l∈L,okAs 1073741824 l)∧L.flatten.length≤100000∧K (.one (.slice ((marksR L).map rC)))) a):=propext Iff.rfl
@[congr] theorem qbs {K:AV→Prop} {l l' : List AV} (h:l=l'):vQ l K=vQ l' K:=by subst h;rfl
attribute [go_sem] Z4
attribute [go_sem ↓] Z4
def UG (l:List AV) (K:AV→Prop):Prop:=
 match l with
 | [a,b]=>onRs (fun l=>onR (fun y=>okRs 1073741824 l∧rl y≤1073741824∧l.length≤1000000∧K (.one (.slice ((insR l y).map rC)))) b) a
 | _=>False
theorem QO (a b:AV) (K:AV→Prop):UG [a,b] K=(onRs (fun l=>onR (fun y=>okRs 1073741824 l∧rl y≤1073741824∧l.length≤1000000∧K (.one (.slice ((insR l y).map rC)))) b) a):=propext Iff.rfl
@[congr] theorem Ybk {K:AV→Prop} {l l' : List AV} (h:l=l'):UG l K=UG l' K:=by subst h;rfl
attribute [go_sem] QO
attribute [go_sem ↓] QO
end Go.Abs
end
section
namespace Go.Num
open Go.Abs
theorem WaX {α:Type} {f:α→Bool} {l:List α} {k:Nat} {x:α} (h:l[k]?=some x) (hb:f x=false):l.all f=false:=by
 rw [List.all_eq_false]
 exact ⟨x,List.mem_of_getElem? h,by simp [hb]⟩
theorem YD {α:Type} {f:α→Bool} {l:List α} {k:Nat} {x:α} (h:l[k]?=some x) (ht:(l.take k).all f=true) (hb:f x=true):(l.take (k+1)).all f=true:=by
 rw [List.take_add_one,h,List.all_append,ht];simp [hb]
theorem vy {α:Type} {l:List α} {k:Nat} {x d:α} (hk:k<l.length) (h:l.getD k d=x):l[k]?=some x:=by
 rw [←h,List.getD_eq_getElem?_getD,List.getElem?_eq_getElem hk];rfl
def sR (n:Nat) (x:R):Bool:=decide (x.2.1.length≤n) && decide (x.2.2.length≤n)
def sP (p:Ps):Bool:=sR 2 p.1.1 && (sR 2 p.2.1 && sR 2 p.2.2)
def sA (p:Arc):Bool:=sR 2 p.1 && sR 2 p.2
def placeC (l:List Arc):Nat:=if l.all avld then 0 else 2
def chkC (l:List Ps) (m:List Arc):Nat:=if threeC l≠0 then threeC l else placeC m
theorem qD {n:Nat} {x:R} (h:sR n x=true):rl x≤n:=by
 simp only [sR,Bool.and_eq_true,decide_eq_true_eq]at h
 exact Nat.max_le.2 h
end Go.Num
namespace Go.Abs
open Go.Num
variable {P:Program} {Γ:Nat→Spec}
def qsA (l:List V2):AV:=.one (.slice ((l.map acan).map aC))
theorem Jba (l:List V2):qsA l=.one (.slice ((l.map acan).map aC)):=eq_of_heq (HEq.refl _)
theorem waT (k:List Arc→Prop) (a b c d e f:C):onAs k (.one (.slice [[a,b,c,d,e,f]]))=onO (fun x=>onO (fun y=>WLA (x,y)∧k [(x,y)]) (dR d e f)) (dR a b c):=by
 refine propext ⟨fun ⟨t,h,h1⟩=>?_,fun h=>?_⟩
 ·simp only [asA,as,AV.one.injEq,C.slice.injEq]at h
  match t,h with
  | [z],h=>
   simp only [List.map_cons,List.map_nil,aC,List.cons.injEq,and_true]at h
   obtain ⟨rfl,rfl,rfl,rfl,rfl,rfl⟩:=h
   simp only [dR_e,kH]
   exact ⟨h1.1 _ (by simp),h1.2⟩
 ·obtain ⟨x,h1,q1⟩:=Yb.1 h
  obtain ⟨y,h2,q2⟩:=Yb.1 q1
  obtain ⟨rfl,rfl,rfl⟩:=Xb.1 h1
  obtain ⟨rfl,rfl,rfl⟩:=Xb.1 h2
  exact ⟨[(x,y)],rfl,fun z hz=>by rw [List.mem_singleton.1 hz];exact q2.1,q2.2⟩
theorem qaM (k:List Arc→Prop) (a b c d e f a' b' c' d' e' f' : C):onAs k (.one (.slice [[a,b,c,d,e,f],[a',b',c',d',e',f']]))=onO (fun x=>onO (fun y=>onO (fun z=>onO (fun w=>WLA (x,y)∧WLA (z,w)∧k [(x,y),(z,w)]) (dR d' e' f')) (dR a' b' c')) (dR d e f)) (dR a b c):=by
 refine propext ⟨fun ⟨t,h,h1⟩=>?_,fun h=>?_⟩
 ·simp only [asA,as,AV.one.injEq,C.slice.injEq]at h
  match t,h with
  | [z,w],h=>
   simp only [List.map_cons,List.map_nil,aC,List.cons.injEq,and_true]at h
   obtain ⟨⟨rfl,rfl,rfl,rfl,rfl,rfl⟩,rfl,rfl,rfl,rfl,rfl,rfl⟩:=h
   simp only [dR_e,kH]
   exact ⟨h1.1 _ (by simp),h1.1 _ (by simp),h1.2⟩
 ·obtain ⟨x,h1,q1⟩:=Yb.1 h
  obtain ⟨y,h2,q2⟩:=Yb.1 q1
  obtain ⟨z,h3,q3⟩:=Yb.1 q2
  obtain ⟨w,h4,q4⟩:=Yb.1 q3
  obtain ⟨rfl,rfl,rfl⟩:=Xb.1 h1
  obtain ⟨rfl,rfl,rfl⟩:=Xb.1 h2
  obtain ⟨rfl,rfl,rfl⟩:=Xb.1 h3
  obtain ⟨rfl,rfl,rfl⟩:=Xb.1 h4
  refine ⟨[(x,y),(z,w)],rfl,fun v hv=>?_,q4.2.2⟩
  simp only [List.mem_cons,List.not_mem_nil,or_false]at hv
  rcases hv with rfl | rfl
  ·exact q4.1
  ·exact q4.2.1
theorem uba (k:List R→Prop) (a b c d e f g h i:C):onRs k (.one (.slice [[a,b,c],[d,e,f],[g,h,i]]))=onO (fun x=>onO (fun y=>onO (fun z=>(WLR x∧WLR y∧WLR z)∧k [x,y,z]) (dR g h i)) (dR d e f)) (dR a b c):=by
 refine propext ⟨fun ⟨t,h,h1⟩=>?_,fun h=>?_⟩
 ·simp only [rsA,AV.one.injEq,C.slice.injEq]at h
  match t,h with
  | [x,y,z],h=>
   simp only [List.map_cons,List.map_nil,rC,List.cons.injEq,and_true]at h
   obtain ⟨⟨rfl,rfl,rfl⟩,⟨rfl,rfl,rfl⟩,rfl,rfl,rfl⟩:=h
   simp only [dR_e,kH]
   exact ⟨⟨h1.1 _ (by simp),h1.1 _ (by simp),h1.1 _ (by simp)⟩,h1.2⟩
 ·obtain ⟨x,h1,q1⟩:=Yb.1 h
  obtain ⟨y,h2,q2⟩:=Yb.1 q1
  obtain ⟨z,h3,q3⟩:=Yb.1 q2
  obtain ⟨rfl,rfl,rfl⟩:=Xb.1 h1
  obtain ⟨rfl,rfl,rfl⟩:=Xb.1 h2
  obtain ⟨rfl,rfl,rfl⟩:=Xb.1 h3
  refine ⟨[x,y,z],rfl,fun v hv=>?_,q3.2⟩
  simp only [List.mem_cons,List.not_mem_nil,or_false]at hv
  rcases hv with rfl | rfl | rfl
  ·exact q3.1.1
  ·exact q3.1.2.1
  ·exact q3.1.2.2
theorem wa5 (k:List R→Prop) (a b c d e f g h i j l m n o p:C):onRs k (.one (.slice [[a,b,c],[d,e,f],[g,h,i],[j,l,m],[n,o,p]]))=onO (fun x=>onO (fun y=>onO (fun z=>onO (fun u=>onO (fun v=>(WLR x∧WLR y∧WLR z∧WLR u∧WLR v)∧k [x,y,z,u,v]) (dR n o p)) (dR j l m)) (dR g h i)) (dR d e f)) (dR a b c):=by
 refine propext ⟨fun ⟨t,h,h1⟩=>?_,fun h=>?_⟩
 ·simp only [rsA,AV.one.injEq,C.slice.injEq]at h
  match t,h with
  | [x,y,z,u,v],h=>
   simp only [List.map_cons,List.map_nil,rC,List.cons.injEq,and_true]at h
   obtain ⟨⟨rfl,rfl,rfl⟩,⟨rfl,rfl,rfl⟩,⟨rfl,rfl,rfl⟩,⟨rfl,rfl,rfl⟩,rfl,rfl,rfl⟩:=h
   simp only [dR_e,kH]
   exact ⟨⟨h1.1 _ (by simp),h1.1 _ (by simp),h1.1 _ (by simp),h1.1 _ (by simp),h1.1 _ (by simp)⟩,h1.2⟩
 ·obtain ⟨x,h1,q1⟩:=Yb.1 h
  obtain ⟨y,h2,q2⟩:=Yb.1 q1
  obtain ⟨z,h3,q3⟩:=Yb.1 q2
  obtain ⟨u,h4,q4⟩:=Yb.1 q3
  obtain ⟨v,h5,q5⟩:=Yb.1 q4
  obtain ⟨rfl,rfl,rfl⟩:=Xb.1 h1
  obtain ⟨rfl,rfl,rfl⟩:=Xb.1 h2
  obtain ⟨rfl,rfl,rfl⟩:=Xb.1 h3
  obtain ⟨rfl,rfl,rfl⟩:=Xb.1 h4
  obtain ⟨rfl,rfl,rfl⟩:=Xb.1 h5
  refine ⟨[x,y,z,u,v],rfl,fun w hw=>?_,q5.2⟩
  obtain ⟨w1,w2,w3,w4,w5⟩:=q5.1
  simp only [List.mem_cons,List.not_mem_nil,or_false]at hw
  rcases hw with rfl | rfl | rfl | rfl | rfl <;> assumption
attribute [go_sem] waT qaM uba wa5 Jba
attribute [go_sem ↓] waT qaM uba wa5 Jba
def YaK (tE:Nat) (l:List AV) (K:AV→Prop):Prop:=
 match l with
 | [a]=>onPs (fun l=>okPs 100000000 l∧K (errV tE (if l.all pvld=true then 0 else 2))) a
 | _=>False
theorem QaB (tE:Nat) (a:AV) (K:AV→Prop):YaK tE [a] K=(onPs (fun l=>okPs 100000000 l∧K (errV tE (if l.all pvld=true then 0 else 2))) a):=propext Iff.rfl
@[congr] theorem ybJ (tE:Nat) {K:AV→Prop} {l l' : List AV} (h:l=l'):YaK tE l K=YaK tE l' K:=by subst h;rfl
attribute [go_sem] QaB
attribute [go_sem ↓] QaB
def VaB (tE:Nat) (l:List AV) (K:AV→Prop):Prop:=
 match l with
 | [a]=>onPs (fun l=>okPs 100000000 l∧K (errV tE (plchk l))) a
 | _=>False
theorem vaG (tE:Nat) (a:AV) (K:AV→Prop):VaB tE [a] K=(onPs (fun l=>okPs 100000000 l∧K (errV tE (plchk l))) a):=propext Iff.rfl
@[congr] theorem jbC (tE:Nat) {K:AV→Prop} {l l' : List AV} (h:l=l'):VaB tE l K=VaB tE l' K:=by subst h;rfl
attribute [go_sem] vaG
attribute [go_sem ↓] vaG
def Uae (l:List AV) (K:AV→Prop):Prop:=
 match l with
 | [a]=>onPs (fun l=>okPs 100000000 l∧K (.one (.lit (.int .i64 (plchk l:Nat))))) a
 | _=>False
theorem qah (a:AV) (K:AV→Prop):Uae [a] K=(onPs (fun l=>okPs 100000000 l∧K (.one (.lit (.int .i64 (plchk l:Nat))))) a):=propext Iff.rfl
@[congr] theorem wbx {K:AV→Prop} {l l' : List AV} (h:l=l'):Uae l K=Uae l' K:=by subst h;rfl
attribute [go_sem] qah
attribute [go_sem ↓] qah
def kS (l:List AV) (K:AV→Prop):Prop:=
 match l with
 | [a]=>onPs (fun l=>okPs 100000000 l∧K (.one (.lit (.int .i64 (threeC l:Nat))))) a
 | _=>False
theorem WX (a:AV) (K:AV→Prop):kS [a] K=(onPs (fun l=>okPs 100000000 l∧K (.one (.lit (.int .i64 (threeC l:Nat))))) a):=propext Iff.rfl
@[congr] theorem Vbn {K:AV→Prop} {l l' : List AV} (h:l=l'):kS l K=kS l' K:=by subst h;rfl
attribute [go_sem] WX
attribute [go_sem ↓] WX
def qaa (tE:Nat) (l:List AV) (K:AV→Prop):Prop:=
 match l with
 | [a,b]=>onPs (fun l=>onA (fun q=>okPs 1000000 l∧al q≤1000000∧l.length≤100000∧K (.tup [qsA (if imgC l q=0 then imgs l q else []),errV tE (imgC l q)])) b) a
 | _=>False
theorem Yai (tE:Nat) (a b:AV) (K:AV→Prop):qaa tE [a,b] K=(onPs (fun l=>onA (fun q=>okPs 1000000 l∧al q≤1000000∧l.length≤100000∧K (.tup [qsA (if imgC l q=0 then imgs l q else []),errV tE (imgC l q)])) b) a):=propext Iff.rfl
@[congr] theorem ubA (tE:Nat) {K:AV→Prop} {l l' : List AV} (h:l=l'):qaa tE l K=qaa tE l' K:=by subst h;rfl
attribute [go_sem] Yai
attribute [go_sem ↓] Yai
def QH (l:List AV) (K:AV→Prop):Prop:=
 match l with
 | [a,b]=>onPs (fun l=>onA (fun q=>okPs 1000000 l∧al q≤1000000∧l.length≤100000∧K (qsA (imgs l q))) b) a
 | _=>False
theorem jL (a b:AV) (K:AV→Prop):QH [a,b] K=(onPs (fun l=>onA (fun q=>okPs 1000000 l∧al q≤1000000∧l.length≤100000∧K (qsA (imgs l q))) b) a):=propext Iff.rfl
@[congr] theorem kbk {K:AV→Prop} {l l' : List AV} (h:l=l'):QH l K=QH l' K:=by subst h;rfl
attribute [go_sem] jL
attribute [go_sem ↓] jL
def Wp (l:List AV) (K:AV→Prop):Prop:=
 match l with
 | [a]=>onPs (fun l=>okPs 4294967296 l∧K (.one (.lit (.bool (l.all sP))))) a
 | _=>False
theorem X0 (a:AV) (K:AV→Prop):Wp [a] K=(onPs (fun l=>okPs 4294967296 l∧K (.one (.lit (.bool (l.all sP))))) a):=propext Iff.rfl
@[congr] theorem Ubq {K:AV→Prop} {l l' : List AV} (h:l=l'):Wp l K=Wp l' K:=by subst h;rfl
attribute [go_sem] X0
attribute [go_sem ↓] X0
theorem Vac:Good Wp:=Va fun as=>by
 unfold Wp
 split
 ·exact (Qbt fun _=>(.and fun _=>(.ret _)))
 ·exact .of fun K hk=>hk.elim
def vp (l:List AV) (K:AV→Prop):Prop:=
 match l with
 | [a]=>onAs (fun l=>okAs 4294967296 l∧K (.one (.lit (.bool (l.all sA))))) a
 | _=>False
theorem JV (a:AV) (K:AV→Prop):vp [a] K=(onAs (fun l=>okAs 4294967296 l∧K (.one (.lit (.bool (l.all sA))))) a):=propext Iff.rfl
@[congr] theorem Qbu {K:AV→Prop} {l l' : List AV} (h:l=l'):vp l K=vp l' K:=by subst h;rfl
attribute [go_sem] JV
attribute [go_sem ↓] JV
theorem Z9:Good vp:=Va fun as=>by
 unfold vp
 split
 ·exact (ka5 fun _=>(.and fun _=>(.ret _)))
 ·exact .of fun K hk=>hk.elim
def XP (l:List AV) (K:AV→Prop):Prop:=
 match l with
 | [a]=>onPs (fun l=>okPs 4294967296 l∧K (.one (.lit (.bool (decide (l.length≤20) && l.all sP))))) a
 | _=>False
theorem XV (a:AV) (K:AV→Prop):XP [a] K=(onPs (fun l=>okPs 4294967296 l∧K (.one (.lit (.bool (decide (l.length≤20) && l.all sP))))) a):=propext Iff.rfl
@[congr] theorem ybm {K:AV→Prop} {l l' : List AV} (h:l=l'):XP l K=XP l' K:=by subst h;rfl
attribute [go_sem] XV
attribute [go_sem ↓] XV
def Wae (tE:Nat) (l:List AV) (K:AV→Prop):Prop:=
 match l with
 | [a,b]=>onPs (fun l=>onAs (fun m=>okPs 100000000 l∧okAs 100000000 m∧K (errV tE (chkC l m))) b) a
 | _=>False
theorem Yas (tE:Nat) (a b:AV) (K:AV→Prop):Wae tE [a,b] K=(onPs (fun l=>onAs (fun m=>okPs 100000000 l∧okAs 100000000 m∧K (errV tE (chkC l m))) b) a):=propext Iff.rfl
@[congr] theorem Zby (tE:Nat) {K:AV→Prop} {l l' : List AV} (h:l=l'):Wae tE l K=Wae tE l' K:=by subst h;rfl
attribute [go_sem] Yas
attribute [go_sem ↓] Yas
def Vaf (l:List AV) (K:AV→Prop):Prop:=
 match l with
 | [a,b]=>onRs (fun l=>onRs (fun m=>okRs 4294967296 l∧K (.one (.lit (.bool (decide (l=m)))))) b) a
 | _=>False
theorem Yau (a b:AV) (K:AV→Prop):Vaf [a,b] K=(onRs (fun l=>onRs (fun m=>okRs 4294967296 l∧K (.one (.lit (.bool (decide (l=m)))))) b) a):=propext Iff.rfl
@[congr] theorem vbx {K:AV→Prop} {l l' : List AV} (h:l=l'):Vaf l K=Vaf l' K:=by subst h;rfl
attribute [go_sem] Yau
attribute [go_sem ↓] Yau
def yf:AC:=(.seq (.ops false [.m 2 .fa])
 (.fg [0] (.seq (.seq (.ops false [.m 7 (.t 0),.u 8 (.len (.t 7)),.m 9 (.i 0)])
 (.fg [7,8,9] (.block 0 (.loop (.seq (.ops false [.u 10 (.bin .lss (.t 9) (.t 8))])
 (.fg [7,8,9,10] (.seq (.cond (.t 10) .skip (.exit 0))
 (.fg [7,8,9] (.seq (.block 1 (.seq (.ops false [.u 11 (.idx 10 (.t 7) (.t 9)),.u 12 (.ld none 10 true (.t 11)),.u 4 (.alloc [(.lit (.bool false)),.emp,.emp,(.lit (.bool false)),(.lit (.bool false)),.emp,.emp,(.lit (.bool false)),.emp,.emp]),.n (.st none 10 (.t 4) (.t 12))])
 (.fg [4,7,8,9] (.seq (.ops false [.u 13 (.fa 0 (.t 4)),.u 14 (.fa 0 (.t 13)),.u 15 (.ld none 3 true (.t 14)),.u 16 (.fa 4 (.t 4)),.u 17 (.fa 0 (.t 16)),.u 18 (.ld none 3 true (.t 17)),.u 19 (.fa 4 (.t 4)),.u 20 (.fa 3 (.t 19)),.u 21 (.ld none 3 true (.t 20)),.u 22 (.row 3 [[.x 3 (.t 15)],[.x 3 (.t 18)],[.x 3 (.t 21)]]),.u 23 (.len (.t 22)),.m 24 (.i 0)])
 (.fg [7,8,9,22,23,24] (.block 2 (.loop (.seq (.ops false [.u 25 (.bin .lss (.t 24) (.t 23))])
 (.fg [7,8,9,22,23,24,25] (.seq (.cond (.t 25) .skip (.exit 2))
 (.fg [7,8,9,22,23,24] (.seq (.block 3 (.seq (.ops false [.u 26 (.idx 3 (.t 22) (.t 24)),.u 27 (.ld none 3 true (.t 26)),.u 6 (.alloc [(.lit (.bool false)),.emp,.emp]),.n (.st none 3 (.t 6) (.t 27))])
 (.fg [6,7,8,9,22,23,24] (.seq (.ops false [.u 28 (.fa 1 (.t 6)),.u 29 (.ld none 1 false (.t 28)),.u 30 (.len (.t 29)),.u 31 (.bin .gtr (.t 30) (.i 2)),.m 32 (.t 31),.w 33 32 false (.fa 2 (.t 6)),.w 34 32 false (.ld none 1 false (.t 33)),.w 35 32 false (.len (.t 34)),.w 36 32 false (.bin .gtr (.t 35) (.i 2)),.u 37 (.pick (.t 32) .tr (.t 36))])
 (.fg [7,8,9,22,23,24,37] (.cond (.t 37) (.seq (.ops false [.m 2 .fa])
 .ret) .skip))))))
 (.fg [7,8,9,22,23,24] (.ops false [.u 38 (.bin .add (.t 24) (.i 1)),.m 24 (.t 38)]))))))))))))))
 (.fg [7,8,9] (.ops false [.u 39 (.bin .add (.t 9) (.i 1)),.m 9 (.t 39)])))))))))))
 (.fg [] (.seq (.ops false [.m 2 .tr])
 .ret)))))
def Jd:AC:=(.seq (.ops false [.m 2 .fa])
 (.fg [0] (.seq (.seq (.ops false [.m 7 (.t 0),.u 8 (.len (.t 7)),.m 9 (.i 0)])
 (.fg [7,8,9] (.block 0 (.loop (.seq (.ops false [.u 10 (.bin .lss (.t 9) (.t 8))])
 (.fg [7,8,9,10] (.seq (.cond (.t 10) .skip (.exit 0))
 (.fg [7,8,9] (.seq (.block 1 (.seq (.ops false [.u 11 (.idx 6 (.t 7) (.t 9)),.u 12 (.ld none 6 true (.t 11)),.u 4 (.alloc [(.lit (.bool false)),.emp,.emp,(.lit (.bool false)),.emp,.emp]),.n (.st none 6 (.t 4) (.t 12))])
 (.fg [4,7,8,9] (.seq (.ops false [.u 13 (.fa 0 (.t 4)),.u 14 (.ld none 3 true (.t 13)),.u 15 (.fa 3 (.t 4)),.u 16 (.ld none 3 true (.t 15)),.u 17 (.row 3 [[.x 3 (.t 14)],[.x 3 (.t 16)]]),.u 18 (.len (.t 17)),.m 19 (.i 0)])
 (.fg [7,8,9,17,18,19] (.block 2 (.loop (.seq (.ops false [.u 20 (.bin .lss (.t 19) (.t 18))])
 (.fg [7,8,9,17,18,19,20] (.seq (.cond (.t 20) .skip (.exit 2))
 (.fg [7,8,9,17,18,19] (.seq (.block 3 (.seq (.ops false [.u 21 (.idx 3 (.t 17) (.t 19)),.u 22 (.ld none 3 true (.t 21)),.u 6 (.alloc [(.lit (.bool false)),.emp,.emp]),.n (.st none 3 (.t 6) (.t 22))])
 (.fg [6,7,8,9,17,18,19] (.seq (.ops false [.u 23 (.fa 1 (.t 6)),.u 24 (.ld none 1 false (.t 23)),.u 25 (.len (.t 24)),.u 26 (.bin .gtr (.t 25) (.i 2)),.m 27 (.t 26),.w 28 27 false (.fa 2 (.t 6)),.w 29 27 false (.ld none 1 false (.t 28)),.w 30 27 false (.len (.t 29)),.w 31 27 false (.bin .gtr (.t 30) (.i 2)),.u 32 (.pick (.t 27) .tr (.t 31))])
 (.fg [7,8,9,17,18,19,32] (.cond (.t 32) (.seq (.ops false [.m 2 .fa])
 .ret) .skip))))))
 (.fg [7,8,9,17,18,19] (.ops false [.u 33 (.bin .add (.t 19) (.i 1)),.m 19 (.t 33)]))))))))))))))
 (.fg [7,8,9] (.ops false [.u 34 (.bin .add (.t 9) (.i 1)),.m 9 (.t 34)])))))))))))
 (.fg [] (.seq (.ops false [.m 2 .tr])
 .ret)))))
theorem qbw {b:Nat} {p:Ps} (h:okP b p):rl p.1.1≤b∧al p.2≤b:=⟨Nat.le_trans (Nat.le_max_left _ _) h.2,Nat.le_trans (Nat.le_max_right _ _) h.2⟩
theorem VZ (hΓ:Holds P Γ) {f:Nat} (hc:check P f=some (40,yf.strip,[.tmp 2])):Sound P f (.dat true Wp):=by
 refine va hc Vac hΓ (fun args K hcl hfi hG=>?_)
 match args,hG with
 | [a],hG=>
  obtain ⟨l,rfl,hwl,hok,hK⟩:=hG
  refine ⟨by simp,?_⟩
  simp only [go_sem,yf]
  intro _
  refine ka (fun k:Nat=>⟨mkV [(7,psA l),(8,.one (.lit (.int .i64 l.length))),(9,.one (.lit (.int .i64 k)))],mkH []⟩) (fun k=>k≤l.length∧(l.take k).all sP=true) (fun k=>l.length-k) 0 ?_ ?_ ?_
  ·exact Qa (by simp [okS,okV,okC,okL,okH,okB,okE,Za,Ja,za,ja,wsA,ws,psA,psC]) trivial
  ·exact ⟨Nat.zero_le _,rfl⟩
  ·rintro k ⟨hk,hall⟩
   by_cases hlt:k<l.length
   ·obtain ⟨p,hp⟩:∃p,l.getD k p0=p:=⟨_,rfl⟩
    have hp0:=vy hlt hp
    obtain ⟨hp1,hp2⟩:=hok p (List.mem_of_getElem? hp0)
    obtain ⟨xs,hxs⟩:∃xs:List R,xs=[p.1.1,p.2.1,p.2.2]:=⟨_,rfl⟩
    have hlx:xs.length=3:=by rw [hxs];rfl
    have hwx:∀x∈xs,rl x≤4294967296:=by
     intro x hx
     rw [hxs]at hx
     simp only [List.mem_cons,List.not_mem_nil,or_false]at hx
     obtain ⟨l1,l2⟩:=qbw ⟨hp1,hp2⟩
     obtain ⟨l3,l4⟩:=al1 l2
     rcases hx with rfl | rfl | rfl <;> assumption
    have hex:xs.all (sR 2)=sP p:=by rw [hxs];simp only [List.all_cons,List.all_nil,Bool.and_true];rfl
    simp only [go_sem,hlt,hp,WbC]
    refine ka (fun j:Nat=>⟨mkV [(7,psA l),(8,.one (.lit (.int .i64 l.length))),(9,.one (.lit (.int .i64 k))),(22,.one (.full (xs.map rC))),(23,.one (.lit (.int .i64 3))),(24,.one (.lit (.int .i64 j)))],mkH []⟩) (fun j=>j≤3∧(xs.take j).all (sR 2)=true) (fun j=>3-j) 0 ?_ ?_ ?_
    ·exact Qa (by rw [hxs];simp [okS,okV,okC,okL,okH,okB,okE,Za,Ja,za,ja,wsA,ws,psA,psC,rC]) trivial
    ·exact ⟨Nat.zero_le _,rfl⟩
    ·rintro j ⟨hj,hallj⟩
     by_cases hltj:j<3
     ·obtain ⟨x,hx⟩:∃x,xs.getD j (rcan 0)=x:=⟨_,rfl⟩
      have hx0:=vy (by omega:j<xs.length) hx
      have hxr:=hwx x (List.mem_of_getElem? hx0)
      have hjx:j<xs.length:=by omega
      obtain ⟨b,n,d⟩:=x
      have w1:n.length≤4294967296:=Nat.le_trans (Nat.le_max_left _ _) hxr
      have w2:d.length≤4294967296:=Nat.le_trans (Nat.le_max_right _ _) hxr
      have bad:¬(sR 2 (b,n,d)=true)→K (.one (.lit (.bool false))):=by
       intro hb
       have e1:sP p=false:=by rw [←hex];exact WaX hx0 (by simpa using hb)
       rw [WaX hp0 e1]at hK;exact hK
      have hsr:sR 2 (b,n,d)=true↔n.length≤2∧d.length≤2:=by simp [sR]
      simp only [go_sem,hltj,hjx,hx,vbj,cb,cn,cd,ws,hlx]
      exact ⟨fun _ _=>⟨fun h=>bad (fun e=>by have:=hsr.1 e;omega),fun h _=>⟨fun h'=>bad (fun e=>by have:=hsr.1 e;omega),fun h'=>⟨by omega,j+1,Qa (by simp [okS,okV,okC,okL,okH,okB,okE,Za,Ja,za,ja,wsA,ws,psA,psC]) trivial,⟨by omega,YD hx0 hallj (hsr.2 ⟨by omega,by omega⟩)⟩,by omega⟩⟩⟩,fun h=>absurd (by omega) h⟩
     ·rw [List.take_of_length_le (by omega),hex]at hallj
      simp only [go_sem,hltj]
      exact ⟨fun h=>absurd h (by omega),fun _=>⟨by omega,k+1,Qa (by simp [okS,okV,okC,okL,okH,okB,okE,Za,Ja,za,ja,wsA,ws,psA,psC]) trivial,⟨by omega,YD hp0 hall hallj⟩,by omega⟩⟩
   ·rw [List.take_of_length_le (by omega)]at hall
    rw [hall]at hK
    simp only [go_sem,hlt]
    exact hK
theorem uX (hΓ:Holds P Γ) {f:Nat} (hc:check P f=some (35,Jd.strip,[.tmp 2])):Sound P f (.dat true vp):=by
 refine va hc Z9 hΓ (fun args K hcl hfi hG=>?_)
 match args,hG with
 | [a],hG=>
  obtain ⟨l,rfl,hwl,hok,hK⟩:=hG
  refine ⟨by simp,?_⟩
  simp only [go_sem,Jd]
  intro _
  refine ka (fun k:Nat=>⟨mkV [(7,asA l),(8,.one (.lit (.int .i64 l.length))),(9,.one (.lit (.int .i64 k)))],mkH []⟩) (fun k=>k≤l.length∧(l.take k).all sA=true) (fun k=>l.length-k) 0 ?_ ?_ ?_
  ·exact Qa (by simp [okS,okV,okC,okL,okH,okB,okE,Za,Ja,za,ja,wsA,ws,asA,as]) trivial
  ·exact ⟨Nat.zero_le _,rfl⟩
  ·rintro k ⟨hk,hall⟩
   by_cases hlt:k<l.length
   ·obtain ⟨p,hp⟩:∃p,l.getD k a0=p:=⟨_,rfl⟩
    have hp0:=vy hlt hp
    obtain ⟨hp1,hp2⟩:=hok p (List.mem_of_getElem? hp0)
    obtain ⟨xs,hxs⟩:∃xs:List R,xs=[p.1,p.2]:=⟨_,rfl⟩
    have hlx:xs.length=2:=by rw [hxs];rfl
    have hwx:∀x∈xs,rl x≤4294967296:=by
     intro x hx
     rw [hxs]at hx
     simp only [List.mem_cons,List.not_mem_nil,or_false]at hx
     obtain ⟨l3,l4⟩:=al1 hp2
     rcases hx with rfl | rfl <;> assumption
    have hex:xs.all (sR 2)=sA p:=by rw [hxs];simp only [List.all_cons,List.all_nil,Bool.and_true];rfl
    simp only [go_sem,hlt,hp,yh]
    refine ka (fun j:Nat=>⟨mkV [(7,asA l),(8,.one (.lit (.int .i64 l.length))),(9,.one (.lit (.int .i64 k))),(17,.one (.full (xs.map rC))),(18,.one (.lit (.int .i64 2))),(19,.one (.lit (.int .i64 j)))],mkH []⟩) (fun j=>j≤2∧(xs.take j).all (sR 2)=true) (fun j=>2-j) 0 ?_ ?_ ?_
    ·exact Qa (by rw [hxs];simp [okS,okV,okC,okL,okH,okB,okE,Za,Ja,za,ja,wsA,ws,asA,as,rC]) trivial
    ·exact ⟨Nat.zero_le _,rfl⟩
    ·rintro j ⟨hj,hallj⟩
     by_cases hltj:j<2
     ·obtain ⟨x,hx⟩:∃x,xs.getD j (rcan 0)=x:=⟨_,rfl⟩
      have hx0:=vy (by omega:j<xs.length) hx
      have hxr:=hwx x (List.mem_of_getElem? hx0)
      have hjx:j<xs.length:=by omega
      obtain ⟨b,n,d⟩:=x
      have w1:n.length≤4294967296:=Nat.le_trans (Nat.le_max_left _ _) hxr
      have w2:d.length≤4294967296:=Nat.le_trans (Nat.le_max_right _ _) hxr
      have bad:¬(sR 2 (b,n,d)=true)→K (.one (.lit (.bool false))):=by
       intro hb
       have e1:sA p=false:=by rw [←hex];exact WaX hx0 (by simpa using hb)
       rw [WaX hp0 e1]at hK;exact hK
      have hsr:sR 2 (b,n,d)=true↔n.length≤2∧d.length≤2:=by simp [sR]
      simp only [go_sem,hltj,hjx,hx,vbj,cb,cn,cd,ws,hlx]
      exact ⟨fun _ _=>⟨fun h=>bad (fun e=>by have:=hsr.1 e;omega),fun h _=>⟨fun h'=>bad (fun e=>by have:=hsr.1 e;omega),fun h'=>⟨by omega,j+1,Qa (by simp [okS,okV,okC,okL,okH,okB,okE,Za,Ja,za,ja,wsA,ws,asA,as]) trivial,⟨by omega,YD hx0 hallj (hsr.2 ⟨by omega,by omega⟩)⟩,by omega⟩⟩⟩,fun h=>absurd (by omega) h⟩
     ·rw [List.take_of_length_le (by omega),hex]at hallj
      simp only [go_sem,hltj]
      exact ⟨fun h=>absurd h (by omega),fun _=>⟨by omega,k+1,Qa (by simp [okS,okV,okC,okL,okH,okB,okE,Za,Ja,za,ja,wsA,ws,asA,as]) trivial,⟨by omega,YD hp0 hall hallj⟩,by omega⟩⟩
   ·rw [List.take_of_length_le (by omega)]at hall
    rw [hall]at hK
    simp only [go_sem,hlt]
    exact hK
end Go.Abs
end
section
namespace Go.Num
open Go.Abs
def ctrQ (p u v:V2):V2:=(p.1+(sqQ u*v.2-sqQ v*u.2) / (2*crossQ u v),p.2+(sqQ v*u.1-sqQ u*v.1) / (2*crossQ u v))
def ciQ (p u v:V2):V2:=if crossQ u v=0 then (0,0) else ctrQ p u v
def ciL (l:List Arc):V2:=ciQ (av (l.getD 0 a0)) (subQ (av (l.getD 1 a0)) (av (l.getD 0 a0))) (subQ (av (l.getD 2 a0)) (av (l.getD 0 a0)))
def crL (l:List Arc):Rat:=crossQ (subQ (av (l.getD 1 a0)) (av (l.getD 0 a0))) (subQ (av (l.getD 2 a0)) (av (l.getD 0 a0)))
end Go.Num
namespace Go.Abs
open Go.Num
variable {P:Program} {Γ:Nat→Spec}
def Yaf (tE:Nat) (l:List AV) (K:AV→Prop):Prop:=
 match l with
 | [a]=>onAs (fun l=>okAs 1000000 l∧3≤l.length∧K (.tup [pQ (ciL l),errV tE (if crL l=0 then 8 else 0)])) a
 | _=>False
theorem yal (tE:Nat) (a:AV) (K:AV→Prop):Yaf tE [a] K=(onAs (fun l=>okAs 1000000 l∧3≤l.length∧K (.tup [pQ (ciL l),errV tE (if crL l=0 then 8 else 0)])) a):=propext Iff.rfl
@[congr] theorem ybA (tE:Nat) {K:AV→Prop} {l l' : List AV} (h:l=l'):Yaf tE l K=Yaf tE l' K:=by subst h;rfl
attribute [go_sem] yal
attribute [go_sem ↓] yal
def uaf (l:List AV) (K:AV→Prop):Prop:=
 match l with
 | [a]=>onAs (fun l=>okAs 1000000 l∧3≤l.length∧K (.tup [pQ (ciL l),.one (.lit (.bool (decide (crL l≠0))))])) a
 | _=>False
theorem Qah (a:AV) (K:AV→Prop):uaf [a] K=(onAs (fun l=>okAs 1000000 l∧3≤l.length∧K (.tup [pQ (ciL l),.one (.lit (.bool (decide (crL l≠0))))])) a):=propext Iff.rfl
@[congr] theorem vbz {K:AV→Prop} {l l' : List AV} (h:l=l'):uaf l K=uaf l' K:=by subst h;rfl
attribute [go_sem] Qah
attribute [go_sem ↓] Qah
end Go.Abs
end
section
namespace Go.Abs
open Go.Num
variable {P:Program} {Γ:Nat→Spec}
def kQ (l:List AV) (K:AV→Prop):Prop:=
 match l with
 | [a]=>asInt (fun k n=>k=.i64∧n=1∧K (.one (.lit (.string ⟨#[49]⟩)))) a
 | _=>False
theorem W5 (a:AV) (K:AV→Prop):kQ [a] K=(asInt (fun k n=>k=.i64∧n=1∧K (.one (.lit (.string ⟨#[49]⟩)))) a):=propext Iff.rfl
@[congr] theorem ybu {K:AV→Prop} {l l' : List AV} (h:l=l'):kQ l K=kQ l' K:=by subst h;rfl
attribute [go_sem] W5
attribute [go_sem ↓] W5
def qae (l:List AV) (K:AV→Prop):Prop:=
 match l with
 | [a,b]=>asInt (fun k n=>k=.i64∧n=1∧asInt (fun k m=>k=.i64∧m=10∧K (.one (.lit (.string ⟨#[49]⟩)))) b) a
 | _=>False
theorem xan (a b:AV) (K:AV→Prop):qae [a,b] K=(asInt (fun k n=>k=.i64∧n=1∧asInt (fun k m=>k=.i64∧m=10∧K (.one (.lit (.string ⟨#[49]⟩)))) b) a):=propext Iff.rfl
@[congr] theorem qby {K:AV→Prop} {l l' : List AV} (h:l=l'):qae l K=qae l' K:=by subst h;rfl
attribute [go_sem] xan
attribute [go_sem ↓] xan
def zaa (l:List AV) (K:AV→Prop):Prop:=
 match l with
 | [a]=>asInt (fun k n=>k=.i64∧n=1∧K (.one (.lit (.string ⟨#[49]⟩)))) a
 | _=>False
theorem Vao (a:AV) (K:AV→Prop):zaa [a] K=(asInt (fun k n=>k=.i64∧n=1∧K (.one (.lit (.string ⟨#[49]⟩)))) a):=propext Iff.rfl
@[congr] theorem WbA {K:AV→Prop} {l l' : List AV} (h:l=l'):zaa l K=zaa l' K:=by subst h;rfl
attribute [go_sem] Vao
attribute [go_sem ↓] Vao
def uac (l:List AV) (K:AV→Prop):Prop:=
 match l with
 | [a,b]=>a=.one (.slice [[.lit (.string ⟨#[49]⟩)]])∧b=.one (.lit (.string ⟨#[]⟩))∧K (.one (.lit (.string ⟨#[49]⟩)))
 | _=>False
theorem Wah (a b:AV) (K:AV→Prop):uac [a,b] K=(a=.one (.slice [[.lit (.string ⟨#[49]⟩)]])∧b=.one (.lit (.string ⟨#[]⟩))∧K (.one (.lit (.string ⟨#[49]⟩)))):=propext Iff.rfl
@[congr] theorem xbz {K:AV→Prop} {l l' : List AV} (h:l=l'):uac l K=uac l' K:=by subst h;rfl
attribute [go_sem] Wah
attribute [go_sem ↓] Wah
def uae (l:List AV) (K:AV→Prop):Prop:=
 match l with
 | [a]=>onW (fun w=>zv w=1∧K (.one (.lit (.string ⟨#[49]⟩)))) a
 | _=>False
theorem Uam (a:AV) (K:AV→Prop):uae [a] K=(onW (fun w=>zv w=1∧K (.one (.lit (.string ⟨#[49]⟩)))) a):=propext Iff.rfl
@[congr] theorem kbx {K:AV→Prop} {l l' : List AV} (h:l=l'):uae l K=uae l' K:=by subst h;rfl
attribute [go_sem] Uam
attribute [go_sem ↓] Uam
def uad (l:List AV) (K:AV→Prop):Prop:=
 match l with
 | [a]=>onR (fun x=>rv x=1∧rl x≤4294967296∧K (.one (.lit (.string ⟨#[49]⟩)))) a
 | _=>False
theorem uar (a:AV) (K:AV→Prop):uad [a] K=(onR (fun x=>rv x=1∧rl x≤4294967296∧K (.one (.lit (.string ⟨#[49]⟩)))) a):=propext Iff.rfl
@[congr] theorem QbA {K:AV→Prop} {l l' : List AV} (h:l=l'):uad l K=uad l' K:=by subst h;rfl
attribute [go_sem] uar
attribute [go_sem ↓] uar
end Go.Abs
end
