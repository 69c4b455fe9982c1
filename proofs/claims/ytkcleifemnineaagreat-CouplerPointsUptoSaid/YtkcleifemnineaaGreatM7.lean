/-
  Parts of the proof, merged: ChartG, ChartQ, ChartH, ChartR, ChartW, ChartX, ComA, ChartRow, ComB, PoseD, PoseE, PoseT.
-/
import Derived.Test.YtkcleifemnineaaGreatM6
set_option linter.unusedVariables false
set_option linter.unusedSimpArgs false
section
set_option linter.unusedVariables false
set_option linter.unusedSimpArgs false
set_option maxRecDepth 100000
namespace Go.Num
def sh1 (by' : Rat) (a:Q2):List Q2:=
 let f:=frac (a.1+by')
 let t:=f+(a.2-a.1)
 if 1<t then (0,t-1)::(if f<1 then [(f,1)] else []) else (if f<t then [(f,t)] else [])
def shL (by' : Rat) (l:List Q2):List Q2:=l.flatMap (sh1 by')
def lim64 (l:List Q2):List Q2:=if 64<l.length then [] else l
def code64 (l:List Q2):Nat:=if 64<l.length then 4 else 0
def shOut (l:List Arc) (y:R):List Q2:=if chk [l]=0∧vldR y=true then lim64 (nrm (shL (rv y) (vals l))) else []
def shCode (l:List Arc) (y:R):Nat:=if chk [l]=0 then (if vldR y=true then code64 (nrm (shL (rv y) (vals l))) else 3) else chk [l]
end Go.Num
namespace Go.Abs
open Go.Num
variable {P:Program} {Γ:Nat→Spec}
def cShift_G (tE m:Nat) (l:List AV) (K:AV→Prop):Prop:=
 match l with
 | [a,b]=>onAs (fun l=>onR (fun y=>(chk [l]=0→2*l.length≤m)∧okAs 10000000 l∧rl y≤10000000∧K (.tup [.one (.slice (((shOut l y).map acan).map aC)),errV tE (shCode l y)])) b) a
 | _=>False
theorem cShift_Ge (tE m:Nat) (a b:AV) (K:AV→Prop):cShift_G tE m [a,b] K=(onAs (fun l=>onR (fun y=>(chk [l]=0→2*l.length≤m)∧okAs 10000000 l∧rl y≤10000000∧K (.tup [.one (.slice (((shOut l y).map acan).map aC)),errV tE (shCode l y)])) b) a):=propext Iff.rfl
@[congr] theorem cShift_Gc (tE m:Nat) {K:AV→Prop} {l l' : List AV} (h:l=l'):cShift_G tE m l K=cShift_G tE m l' K:=by subst h;rfl
attribute [go_sem] cShift_Ge
attribute [go_sem ↓] cShift_Ge
end Go.Abs
end
section
set_option linter.unusedVariables false
namespace Go.Num
end Go.Num
end
section
set_option linter.unusedVariables false
set_option linter.unusedSimpArgs false
set_option maxRecDepth 100000
namespace Go.Num
end Go.Num
namespace Go.Abs
open Go.Num
variable {P:Program} {Γ:Nat→Spec}
theorem onAs_1 (k:List Arc→Prop) (x y:R):onAs k (.one (.slice [[cb x,cn x,cd x,cb y,cn y,cd y]]))=((∀z∈[(x,y)],WLA z)∧k [(x,y)]):=onAs_e k [(x,y)]
theorem onAs_2 (k:List Arc→Prop) (x y x' y' : R):onAs k (.one (.slice [[cb x,cn x,cd x,cb y,cn y,cd y],[cb x',cn x',cd x',cb y',cn y',cd y']]))=((∀z∈[(x,y),(x',y')],WLA z)∧k [(x,y),(x',y')]):=onAs_e k [(x,y),(x',y')]
theorem onAs_x1 (k:List Arc→Prop) (x:Arc):onAs k (.one (.slice [aC x]))=((∀z∈[x],WLA z)∧k [x]):=onAs_e k [x]
theorem onAs_x2 (k:List Arc→Prop) (x y:Arc):onAs k (.one (.slice [aC x,aC y]))=((∀z∈[x,y],WLA z)∧k [x,y]):=onAs_e k [x,y]
theorem onAs_z2 (k:List Arc→Prop) (y x' y' : R):onAs k (.one (.slice [[.lit (.bool false),.slice [],.slice [],cb y,cn y,cd y],[cb x',cn x',cd x',cb y',cn y',cd y']]))=((∀z∈[(rcan 0,y),(x',y')],WLA z)∧k [(rcan 0,y),(x',y')]):=by
 rw [rcan_zero];exact onAs_e k [((false,[],[]),y),(x',y')]
attribute [go_sem] onAs_1 onAs_2 onAs_x1 onAs_x2 onAs_z2
attribute [go_sem ↓] onAs_1 onAs_2 onAs_x1 onAs_x2 onAs_z2
def lawake_G (l:List AV) (K:AV→Prop):Prop:=
 match l with
 | []=>K (.one (.lit (.bool true)))
 | _=>False
theorem lawake_Ge (K:AV→Prop):lawake_G [] K=(K (.one (.lit (.bool true)))):=propext Iff.rfl
@[congr] theorem lawake_Gc {K:AV→Prop} {l l' : List AV} (h:l=l'):lawake_G l K=lawake_G l' K:=by subst h;rfl
attribute [go_sem] lawake_Ge
attribute [go_sem ↓] lawake_Ge
end Go.Abs
end
section
set_option linter.unusedVariables false
namespace Go.Num
instance (x:Rat) (a:Q2):Decidable (mem x a):=by unfold mem;infer_instance
instance (x:Rat) (l:List Q2):Decidable (memL x l):=by unfold memL;infer_instance
end Go.Num
end
section
set_option linter.unusedVariables false
set_option linter.unusedSimpArgs false
set_option maxRecDepth 100000
namespace Go.Num
def not1 (f t:Rat):List Q2:=if f<t then [(f,t)] else []
def notGo:Rat→List Q2→List Q2
 | f,[]=>not1 f 1
 | f,a::l=>not1 f a.1++notGo a.2 l
def notL (l:List Q2):List Q2:=notGo 0 l
def meet1 (x y:Q2):List Q2:=not1 (mxQ x.1 y.1) (mnQ x.2 y.2)
def meetL (a b:List Q2):List Q2:=a.flatMap fun x=>b.flatMap fun y=>meet1 x y
end Go.Num
namespace Go.Abs
open Go.Num
variable {P:Program} {Γ:Nat→Spec}
def cnot_G (l:List AV) (K:AV→Prop):Prop:=
 match l with
 | [a]=>onAs (fun l=>l.length≤1000∧okAs 1000000000 l∧K (.one (.slice (((notL (vals l)).map acan).map aC)))) a
 | _=>False
theorem cnot_Ge (a:AV) (K:AV→Prop):cnot_G [a] K=(onAs (fun l=>l.length≤1000∧okAs 1000000000 l∧K (.one (.slice (((notL (vals l)).map acan).map aC)))) a):=propext Iff.rfl
@[congr] theorem cnot_Gc {K:AV→Prop} {l l' : List AV} (h:l=l'):cnot_G l K=cnot_G l' K:=by subst h;rfl
attribute [go_sem] cnot_Ge
attribute [go_sem ↓] cnot_Ge
def cmeet_G (l:List AV) (K:AV→Prop):Prop:=
 match l with
 | [a,b]=>onAs (fun l=>onAs (fun m=>l.length≤1000∧m.length≤1000∧okAs 1000000000 l∧okAs 1000000000 m∧K (.one (.slice (((meetL (vals l) (vals m)).map acan).map aC)))) b) a
 | _=>False
theorem cmeet_Ge (a b:AV) (K:AV→Prop):cmeet_G [a,b] K=(onAs (fun l=>onAs (fun m=>l.length≤1000∧m.length≤1000∧okAs 1000000000 l∧okAs 1000000000 m∧K (.one (.slice (((meetL (vals l) (vals m)).map acan).map aC)))) b) a):=propext Iff.rfl
@[congr] theorem cmeet_Gc {K:AV→Prop} {l l' : List AV} (h:l=l'):cmeet_G l K=cmeet_G l' K:=by subst h;rfl
attribute [go_sem] cmeet_Ge
attribute [go_sem ↓] cmeet_Ge
end Go.Abs
end
section
set_option linter.unusedVariables false
set_option linter.unusedSimpArgs false
set_option maxRecDepth 100000
namespace Go.Num
def res (c:Nat) (L:List Q2):List Q2:=if c=0 then lim64 L else []
def cod (c:Nat) (L:List Q2):Nat:=if c=0 then code64 L else c
end Go.Num
namespace Go.Abs
open Go.Num
variable {P:Program} {Γ:Nat→Spec}
def cUnion_G (tE m:Nat) (l:List AV) (K:AV→Prop):Prop:=
 match l with
 | [a,b]=>onAs (fun l=>onAs (fun k=>(chk [l,k]=0→l.length+k.length≤m)∧okAs 10000000 l∧okAs 10000000 k∧K (.tup [.one (.slice (((res (chk [l,k]) (nrm (vals l++vals k))).map acan).map aC)),errV tE (cod (chk [l,k]) (nrm (vals l++vals k)))])) b) a
 | _=>False
theorem cUnion_Ge (tE m:Nat) (a b:AV) (K:AV→Prop):cUnion_G tE m [a,b] K=(onAs (fun l=>onAs (fun k=>(chk [l,k]=0→l.length+k.length≤m)∧okAs 10000000 l∧okAs 10000000 k∧K (.tup [.one (.slice (((res (chk [l,k]) (nrm (vals l++vals k))).map acan).map aC)),errV tE (cod (chk [l,k]) (nrm (vals l++vals k)))])) b) a):=propext Iff.rfl
@[congr] theorem cUnion_Gc (tE m:Nat) {K:AV→Prop} {l l' : List AV} (h:l=l'):cUnion_G tE m l K=cUnion_G tE m l' K:=by subst h;rfl
attribute [go_sem] cUnion_Ge
attribute [go_sem ↓] cUnion_Ge
def cMeet_G (tE m:Nat) (l:List AV) (K:AV→Prop):Prop:=
 match l with
 | [a,b]=>onAs (fun l=>onAs (fun k=>(chk [l,k]=0→l.length≤m∧k.length≤m)∧okAs 10000000 l∧okAs 10000000 k∧K (.tup [.one (.slice (((res (chk [l,k]) (meetL (nrm (vals l)) (nrm (vals k)))).map acan).map aC)),errV tE (cod (chk [l,k]) (meetL (nrm (vals l)) (nrm (vals k))))])) b) a
 | _=>False
theorem cMeet_Ge (tE m:Nat) (a b:AV) (K:AV→Prop):cMeet_G tE m [a,b] K=(onAs (fun l=>onAs (fun k=>(chk [l,k]=0→l.length≤m∧k.length≤m)∧okAs 10000000 l∧okAs 10000000 k∧K (.tup [.one (.slice (((res (chk [l,k]) (meetL (nrm (vals l)) (nrm (vals k)))).map acan).map aC)),errV tE (cod (chk [l,k]) (meetL (nrm (vals l)) (nrm (vals k))))])) b) a):=propext Iff.rfl
@[congr] theorem cMeet_Gc (tE m:Nat) {K:AV→Prop} {l l' : List AV} (h:l=l'):cMeet_G tE m l K=cMeet_G tE m l' K:=by subst h;rfl
attribute [go_sem] cMeet_Ge
attribute [go_sem ↓] cMeet_Ge
def cNot_G (tE m:Nat) (l:List AV) (K:AV→Prop):Prop:=
 match l with
 | [a]=>onAs (fun l=>(chk [l]=0→l.length≤m)∧okAs 10000000 l∧K (.tup [.one (.slice (((res (chk [l]) (notL (nrm (vals l)))).map acan).map aC)),errV tE (cod (chk [l]) (notL (nrm (vals l))))])) a
 | _=>False
theorem cNot_Ge (tE m:Nat) (a:AV) (K:AV→Prop):cNot_G tE m [a] K=(onAs (fun l=>(chk [l]=0→l.length≤m)∧okAs 10000000 l∧K (.tup [.one (.slice (((res (chk [l]) (notL (nrm (vals l)))).map acan).map aC)),errV tE (cod (chk [l]) (notL (nrm (vals l))))])) a):=propext Iff.rfl
@[congr] theorem cNot_Gc (tE m:Nat) {K:AV→Prop} {l l' : List AV} (h:l=l'):cNot_G tE m l K=cNot_G tE m l' K:=by subst h;rfl
attribute [go_sem] cNot_Ge
attribute [go_sem ↓] cNot_Ge
end Go.Abs
end
section
set_option linter.unusedVariables false
set_option linter.unusedSimpArgs false
set_option maxRecDepth 100000
namespace Go.Abs
open Go.Num
variable {P:Program} {Γ:Nat→Spec}
def bgives_G (tE:Nat) (l:List AV) (K:AV→Prop):Prop:=
 match l with
 | [a,e,b,n]=>onAs (fun l=>onErr tE (fun c=>onAs (fun m=>asInt (fun k n=>k=.i64∧okAs 1073741824 l∧okAs 1073741824 m∧K (.one (.lit (.bool (decide ((c:Int)=n) && decide (vals l=vals m)))))) n) b) e) a
 | _=>False
theorem bgives_Ge (tE:Nat) (a e b n:AV) (K:AV→Prop):bgives_G tE [a,e,b,n] K=(onAs (fun l=>onErr tE (fun c=>onAs (fun m=>asInt (fun k n=>k=.i64∧okAs 1073741824 l∧okAs 1073741824 m∧K (.one (.lit (.bool (decide ((c:Int)=n) && decide (vals l=vals m)))))) n) b) e) a):=propext Iff.rfl
@[congr] theorem bgives_Gc (tE:Nat) {K:AV→Prop} {l l' : List AV} (h:l=l'):bgives_G tE l K=bgives_G tE l' K:=by subst h;rfl
attribute [go_sem] bgives_Ge
attribute [go_sem ↓] bgives_Ge
def fhas_G (l:List AV) (K:AV→Prop):Prop:=
 match l with
 | [a,b]=>onAs (fun l=>onR (fun y=>okAs 1073741824 l∧rl y≤1073741824∧K (.one (.lit (.bool (l.any (inA (rv y))))))) b) a
 | _=>False
theorem fhas_Ge (a b:AV) (K:AV→Prop):fhas_G [a,b] K=(onAs (fun l=>onR (fun y=>okAs 1073741824 l∧rl y≤1073741824∧K (.one (.lit (.bool (l.any (inA (rv y))))))) b) a):=propext Iff.rfl
@[congr] theorem fhas_Gc {K:AV→Prop} {l l' : List AV} (h:l=l'):fhas_G l K=fhas_G l' K:=by subst h;rfl
attribute [go_sem] fhas_Ge
attribute [go_sem ↓] fhas_Ge
def fcount_G (l:List AV) (K:AV→Prop):Prop:=
 match l with
 | [a,b]=>onL (fun L=>onR (fun y=>(∀l∈L,okAs 1073741824 l)∧rl y≤1073741824∧L.length≤1000000∧K (.one (.lit (.int .i64 (L.countP (fun l=>l.any (inA (rv y))):Nat))))) b) a
 | _=>False
theorem fcount_Ge (a b:AV) (K:AV→Prop):fcount_G [a,b] K=(onL (fun L=>onR (fun y=>(∀l∈L,okAs 1073741824 l)∧rl y≤1073741824∧L.length≤1000000∧K (.one (.lit (.int .i64 (L.countP (fun l=>l.any (inA (rv y))):Nat))))) b) a):=propext Iff.rfl
@[congr] theorem fcount_Gc {K:AV→Prop} {l l' : List AV} (h:l=l'):fcount_G l K=fcount_G l' K:=by subst h;rfl
attribute [go_sem] fcount_Ge
attribute [go_sem ↓] fcount_Ge
end Go.Abs
end
section
set_option linter.unusedVariables false
namespace Go.Abs
open Go.Num
def rC (x:R):List C:=[cb x,cn x,cd x]
theorem rC_eq (x:R):rC x=[cb x,cn x,cd x]:=eq_of_heq (HEq.refl _)
theorem len_rC (x:R):(rC x).length=3:=eq_of_heq (HEq.refl _)
theorem getE_rC (K:List C→Prop) (L:List R) (i:Nat):getE K (L.map rC) i=(i<L.length∧K (rC (L.getD i (rcan 0)))):=by
 simp only [getE,List.length_map,List.getElem?_map]
 refine propext ⟨fun h=>⟨h.1,h.2 _ (by simp [h.1,List.getD_eq_getElem?_getD])⟩,fun h=>⟨h.1,fun e he=>?_⟩⟩
 simp [h.1]at he
 subst he
 have:=h.2
 simpa [List.getD_eq_getElem?_getD,h.1] using this
theorem clean_rC (l:List R):CleanR (l.map rC)=True:=eq_true fun e he c hc=>by
 obtain ⟨x,_,rfl⟩:=List.mem_map.1 he
 exact clean_ref3 x c hc
theorem all_rC (L:List R):(∀e∈L.map rC,e.length=3)=True:=eq_true fun e he=>by
 obtain ⟨l,_,rfl⟩:=List.mem_map.1 he;rfl
theorem dats_rC (h:Nat→HB) (L:List R):(L.map rC).map (fun x=>x.map (datC h))=L.map rC:=by
 rw [List.map_map];exact List.map_congr_left fun x _=>rfl
theorem owns_rC (L:List R):(L.map rC).flatMap (fun x=>x.flatMap ownC)=[]:=by
 rw [List.flatMap_map];exact List.flatMap_eq_nil_iff.2 fun x _=>rfl
theorem dats_lC (h:Nat→HB) (L:List (List Arc)):(L.map lC).map (fun x=>x.map (datC h))=L.map lC:=by
 rw [List.map_map];exact List.map_congr_left fun x _=>rfl
theorem owns_lC (L:List (List Arc)):(L.map lC).flatMap (fun x=>x.flatMap ownC)=[]:=by
 rw [List.flatMap_map];exact List.flatMap_eq_nil_iff.2 fun x _=>rfl
theorem frz_nil (h:Nat→HB):frz [] h=h:=eq_of_heq (HEq.refl _)
attribute [go_sem] len_rC getE_rC clean_rC all_rC dats_rC owns_rC dats_lC owns_lC frz_nil
attribute [go_sem ↓] len_rC getE_rC clean_rC all_rC dats_rC owns_rC dats_lC owns_lC frz_nil
end Go.Abs
end
section
set_option linter.unusedVariables false
set_option linter.unusedSimpArgs false
set_option maxRecDepth 100000
namespace Go.Num
def posR:List R→Rat→Nat
 | [],_=>0
 | x::l,q=>if rv x<q then posR l q+1 else 0
def insR (l:List R) (y:R):List R:=if (l.drop (posR l (rv y))).head?.map rv=some (rv y) then l else l.take (posR l (rv y))++y::l.drop (posR l (rv y))
def okRs (b:Nat) (l:List R):Prop:=∀x∈l,WLR x∧rl x≤b
def insA (S:List R) (x:Arc):List R:=insR (insR S x.1) x.2
def marksR (L:List (List Arc)):List R:=L.flatten.foldl insA [rcan 0,rcan 1]
end Go.Num
namespace Go.Abs
open Go.Num
variable {P:Program} {Γ:Nat→Spec}
def rsA (l:List R):AV:=.one (.slice (l.map rC))
theorem rC_inj {x y:R} (h:rC x=rC y):x=y:=rA_inj x y (by simpa [rC,rA] using h)
theorem rsA_inj (x y:List R) (h:rsA x=rsA y):x=y:=by
 simp only [rsA,AV.one.injEq,C.slice.injEq]at h
 exact List.map_inj_right (fun _ _=>rC_inj) |>.1 h
def onRs (k:List R→Prop) (a:AV):Prop:=onE rsA (fun l=>(∀x∈l,WLR x)∧k l) a
@[congr] theorem onRs_cg {k:List R→Prop} {a a' : AV} (h:a=a'):onRs k a=onRs k a':=by subst h;rfl
theorem onRs_e (k:List R→Prop) (l:List R):onRs k (.one (.slice (l.map rC)))=((∀x∈l,WLR x)∧k l):=onE_e rsA_inj (fun l=>(∀x∈l,WLR x)∧k l) l
theorem clean_rs (l:List R):Clean (.slice (l.map rC))=True:=eq_true (.slice _ (of_eq_true (clean_rC l)))
theorem take_rC (l:List R) (n:Nat):(l.map rC).take n=(l.take n).map rC:=by rw [List.map_take]
theorem drop_rC (l:List R) (n:Nat):(l.map rC).drop n=(l.drop n).map rC:=by rw [List.map_drop]
theorem rsA_eq (l:List R):rsA l=.one (.slice (l.map rC)):=eq_of_heq (HEq.refl _)
attribute [go_sem] onRs_e clean_rs rsA_eq take_rC drop_rC
attribute [go_sem ↓] onRs_e clean_rs rsA_eq
def fmarks_G (l:List AV) (K:AV→Prop):Prop:=
 match l with
 | [a]=>onL (fun L=>(∀l∈L,okAs 1073741824 l)∧L.flatten.length≤100000∧K (.one (.slice ((marksR L).map rC)))) a
 | _=>False
theorem fmarks_Ge (a:AV) (K:AV→Prop):fmarks_G [a] K=(onL (fun L=>(∀l∈L,okAs 1073741824 l)∧L.flatten.length≤100000∧K (.one (.slice ((marksR L).map rC)))) a):=propext Iff.rfl
@[congr] theorem fmarks_Gc {K:AV→Prop} {l l' : List AV} (h:l=l'):fmarks_G l K=fmarks_G l' K:=by subst h;rfl
attribute [go_sem] fmarks_Ge
attribute [go_sem ↓] fmarks_Ge
def finsert_G (l:List AV) (K:AV→Prop):Prop:=
 match l with
 | [a,b]=>onRs (fun l=>onR (fun y=>okRs 1073741824 l∧rl y≤1073741824∧l.length≤1000000∧K (.one (.slice ((insR l y).map rC)))) b) a
 | _=>False
theorem finsert_Ge (a b:AV) (K:AV→Prop):finsert_G [a,b] K=(onRs (fun l=>onR (fun y=>okRs 1073741824 l∧rl y≤1073741824∧l.length≤1000000∧K (.one (.slice ((insR l y).map rC)))) b) a):=propext Iff.rfl
@[congr] theorem finsert_Gc {K:AV→Prop} {l l' : List AV} (h:l=l'):finsert_G l K=finsert_G l' K:=by subst h;rfl
attribute [go_sem] finsert_Ge
attribute [go_sem ↓] finsert_Ge
end Go.Abs
end
section
set_option linter.unusedVariables false
set_option linter.unusedSimpArgs false
set_option maxRecDepth 100000
namespace Go.Num
open Go.Abs
theorem all_f {α:Type} {f:α→Bool} {l:List α} {k:Nat} {x:α} (h:l[k]?=some x) (hb:f x=false):l.all f=false:=by
 rw [List.all_eq_false]
 exact ⟨x,List.mem_of_getElem? h,by simp [hb]⟩
theorem all_step {α:Type} {f:α→Bool} {l:List α} {k:Nat} {x:α} (h:l[k]?=some x) (ht:(l.take k).all f=true) (hb:f x=true):(l.take (k+1)).all f=true:=by
 rw [List.take_add_one,h,List.all_append,ht];simp [hb]
theorem getD_get {α:Type} {l:List α} {k:Nat} {x d:α} (hk:k<l.length) (h:l.getD k d=x):l[k]?=some x:=by
 rw [←h,List.getD_eq_getElem?_getD,List.getElem?_eq_getElem hk];rfl
def sR (n:Nat) (x:R):Bool:=decide (x.2.1.length≤n) && decide (x.2.2.length≤n)
def sP (p:Ps):Bool:=sR 2 p.1.1 && (sR 2 p.2.1 && sR 2 p.2.2)
def sA (p:Arc):Bool:=sR 2 p.1 && sR 2 p.2
def placeC (l:List Arc):Nat:=if l.all avld then 0 else 2
def chkC (l:List Ps) (m:List Arc):Nat:=if threeC l≠0 then threeC l else placeC m
theorem sR_rl {n:Nat} {x:R} (h:sR n x=true):rl x≤n:=by
 simp only [sR,Bool.and_eq_true,decide_eq_true_eq]at h
 exact Nat.max_le.2 h
end Go.Num
namespace Go.Abs
open Go.Num
variable {P:Program} {Γ:Nat→Spec}
def qsA (l:List V2):AV:=.one (.slice ((l.map acan).map aC))
theorem qsA_eq (l:List V2):qsA l=.one (.slice ((l.map acan).map aC)):=eq_of_heq (HEq.refl _)
theorem onAs_m1 (k:List Arc→Prop) (a b c d e f:C):onAs k (.one (.slice [[a,b,c,d,e,f]]))=onO (fun x=>onO (fun y=>WLA (x,y)∧k [(x,y)]) (dR d e f)) (dR a b c):=by
 refine propext ⟨fun ⟨t,h,h1⟩=>?_,fun h=>?_⟩
 ·simp only [asA,as,AV.one.injEq,C.slice.injEq]at h
  match t,h with
  | [z],h=>
   simp only [List.map_cons,List.map_nil,aC,List.cons.injEq,and_true]at h
   obtain ⟨rfl,rfl,rfl,rfl,rfl,rfl⟩:=h
   simp only [dR_e,onO_s]
   exact ⟨h1.1 _ (by simp),h1.2⟩
 ·obtain ⟨x,h1,q1⟩:=onO_iff.1 h
  obtain ⟨y,h2,q2⟩:=onO_iff.1 q1
  obtain ⟨rfl,rfl,rfl⟩:=dR_some.1 h1
  obtain ⟨rfl,rfl,rfl⟩:=dR_some.1 h2
  exact ⟨[(x,y)],rfl,fun z hz=>by rw [List.mem_singleton.1 hz];exact q2.1,q2.2⟩
theorem onAs_m2 (k:List Arc→Prop) (a b c d e f a' b' c' d' e' f' : C):onAs k (.one (.slice [[a,b,c,d,e,f],[a',b',c',d',e',f']]))=onO (fun x=>onO (fun y=>onO (fun z=>onO (fun w=>WLA (x,y)∧WLA (z,w)∧k [(x,y),(z,w)]) (dR d' e' f')) (dR a' b' c')) (dR d e f)) (dR a b c):=by
 refine propext ⟨fun ⟨t,h,h1⟩=>?_,fun h=>?_⟩
 ·simp only [asA,as,AV.one.injEq,C.slice.injEq]at h
  match t,h with
  | [z,w],h=>
   simp only [List.map_cons,List.map_nil,aC,List.cons.injEq,and_true]at h
   obtain ⟨⟨rfl,rfl,rfl,rfl,rfl,rfl⟩,rfl,rfl,rfl,rfl,rfl,rfl⟩:=h
   simp only [dR_e,onO_s]
   exact ⟨h1.1 _ (by simp),h1.1 _ (by simp),h1.2⟩
 ·obtain ⟨x,h1,q1⟩:=onO_iff.1 h
  obtain ⟨y,h2,q2⟩:=onO_iff.1 q1
  obtain ⟨z,h3,q3⟩:=onO_iff.1 q2
  obtain ⟨w,h4,q4⟩:=onO_iff.1 q3
  obtain ⟨rfl,rfl,rfl⟩:=dR_some.1 h1
  obtain ⟨rfl,rfl,rfl⟩:=dR_some.1 h2
  obtain ⟨rfl,rfl,rfl⟩:=dR_some.1 h3
  obtain ⟨rfl,rfl,rfl⟩:=dR_some.1 h4
  refine ⟨[(x,y),(z,w)],rfl,fun v hv=>?_,q4.2.2⟩
  simp only [List.mem_cons,List.not_mem_nil,or_false]at hv
  rcases hv with rfl | rfl
  ·exact q4.1
  ·exact q4.2.1
theorem onRs_3 (k:List R→Prop) (a b c d e f g h i:C):onRs k (.one (.slice [[a,b,c],[d,e,f],[g,h,i]]))=onO (fun x=>onO (fun y=>onO (fun z=>(WLR x∧WLR y∧WLR z)∧k [x,y,z]) (dR g h i)) (dR d e f)) (dR a b c):=by
 refine propext ⟨fun ⟨t,h,h1⟩=>?_,fun h=>?_⟩
 ·simp only [rsA,AV.one.injEq,C.slice.injEq]at h
  match t,h with
  | [x,y,z],h=>
   simp only [List.map_cons,List.map_nil,rC,List.cons.injEq,and_true]at h
   obtain ⟨⟨rfl,rfl,rfl⟩,⟨rfl,rfl,rfl⟩,rfl,rfl,rfl⟩:=h
   simp only [dR_e,onO_s]
   exact ⟨⟨h1.1 _ (by simp),h1.1 _ (by simp),h1.1 _ (by simp)⟩,h1.2⟩
 ·obtain ⟨x,h1,q1⟩:=onO_iff.1 h
  obtain ⟨y,h2,q2⟩:=onO_iff.1 q1
  obtain ⟨z,h3,q3⟩:=onO_iff.1 q2
  obtain ⟨rfl,rfl,rfl⟩:=dR_some.1 h1
  obtain ⟨rfl,rfl,rfl⟩:=dR_some.1 h2
  obtain ⟨rfl,rfl,rfl⟩:=dR_some.1 h3
  refine ⟨[x,y,z],rfl,fun v hv=>?_,q3.2⟩
  simp only [List.mem_cons,List.not_mem_nil,or_false]at hv
  rcases hv with rfl | rfl | rfl
  ·exact q3.1.1
  ·exact q3.1.2.1
  ·exact q3.1.2.2
theorem onRs_5 (k:List R→Prop) (a b c d e f g h i j l m n o p:C):onRs k (.one (.slice [[a,b,c],[d,e,f],[g,h,i],[j,l,m],[n,o,p]]))=onO (fun x=>onO (fun y=>onO (fun z=>onO (fun u=>onO (fun v=>(WLR x∧WLR y∧WLR z∧WLR u∧WLR v)∧k [x,y,z,u,v]) (dR n o p)) (dR j l m)) (dR g h i)) (dR d e f)) (dR a b c):=by
 refine propext ⟨fun ⟨t,h,h1⟩=>?_,fun h=>?_⟩
 ·simp only [rsA,AV.one.injEq,C.slice.injEq]at h
  match t,h with
  | [x,y,z,u,v],h=>
   simp only [List.map_cons,List.map_nil,rC,List.cons.injEq,and_true]at h
   obtain ⟨⟨rfl,rfl,rfl⟩,⟨rfl,rfl,rfl⟩,⟨rfl,rfl,rfl⟩,⟨rfl,rfl,rfl⟩,rfl,rfl,rfl⟩:=h
   simp only [dR_e,onO_s]
   exact ⟨⟨h1.1 _ (by simp),h1.1 _ (by simp),h1.1 _ (by simp),h1.1 _ (by simp),h1.1 _ (by simp)⟩,h1.2⟩
 ·obtain ⟨x,h1,q1⟩:=onO_iff.1 h
  obtain ⟨y,h2,q2⟩:=onO_iff.1 q1
  obtain ⟨z,h3,q3⟩:=onO_iff.1 q2
  obtain ⟨u,h4,q4⟩:=onO_iff.1 q3
  obtain ⟨v,h5,q5⟩:=onO_iff.1 q4
  obtain ⟨rfl,rfl,rfl⟩:=dR_some.1 h1
  obtain ⟨rfl,rfl,rfl⟩:=dR_some.1 h2
  obtain ⟨rfl,rfl,rfl⟩:=dR_some.1 h3
  obtain ⟨rfl,rfl,rfl⟩:=dR_some.1 h4
  obtain ⟨rfl,rfl,rfl⟩:=dR_some.1 h5
  refine ⟨[x,y,z,u,v],rfl,fun w hw=>?_,q5.2⟩
  obtain ⟨w1,w2,w3,w4,w5⟩:=q5.1
  simp only [List.mem_cons,List.not_mem_nil,or_false]at hw
  rcases hw with rfl | rfl | rfl | rfl | rfl <;> assumption
attribute [go_sem] onAs_m1 onAs_m2 onRs_3 onRs_5 qsA_eq
attribute [go_sem ↓] onAs_m1 onAs_m2 onRs_3 onRs_5 qsA_eq
def plck_G (tE:Nat) (l:List AV) (K:AV→Prop):Prop:=
 match l with
 | [a]=>onPs (fun l=>okPs 100000000 l∧K (errV tE (if l.all pvld=true then 0 else 2))) a
 | _=>False
theorem plck_Ge (tE:Nat) (a:AV) (K:AV→Prop):plck_G tE [a] K=(onPs (fun l=>okPs 100000000 l∧K (errV tE (if l.all pvld=true then 0 else 2))) a):=propext Iff.rfl
@[congr] theorem plck_Gc (tE:Nat) {K:AV→Prop} {l l' : List AV} (h:l=l'):plck_G tE l K=plck_G tE l' K:=by subst h;rfl
attribute [go_sem] plck_Ge
attribute [go_sem ↓] plck_Ge
def plCk_G (tE:Nat) (l:List AV) (K:AV→Prop):Prop:=
 match l with
 | [a]=>onPs (fun l=>okPs 100000000 l∧K (errV tE (plchk l))) a
 | _=>False
theorem plCk_Ge (tE:Nat) (a:AV) (K:AV→Prop):plCk_G tE [a] K=(onPs (fun l=>okPs 100000000 l∧K (errV tE (plchk l))) a):=propext Iff.rfl
@[congr] theorem plCk_Gc (tE:Nat) {K:AV→Prop} {l l' : List AV} (h:l=l'):plCk_G tE l K=plCk_G tE l' K:=by subst h;rfl
attribute [go_sem] plCk_Ge
attribute [go_sem ↓] plCk_Ge
def rplck_G (l:List AV) (K:AV→Prop):Prop:=
 match l with
 | [a]=>onPs (fun l=>okPs 100000000 l∧K (.one (.lit (.int .i64 (plchk l:Nat))))) a
 | _=>False
theorem rplck_Ge (a:AV) (K:AV→Prop):rplck_G [a] K=(onPs (fun l=>okPs 100000000 l∧K (.one (.lit (.int .i64 (plchk l:Nat))))) a):=propext Iff.rfl
@[congr] theorem rplck_Gc {K:AV→Prop} {l l' : List AV} (h:l=l'):rplck_G l K=rplck_G l' K:=by subst h;rfl
attribute [go_sem] rplck_Ge
attribute [go_sem ↓] rplck_Ge
def rthree_G (l:List AV) (K:AV→Prop):Prop:=
 match l with
 | [a]=>onPs (fun l=>okPs 100000000 l∧K (.one (.lit (.int .i64 (threeC l:Nat))))) a
 | _=>False
theorem rthree_Ge (a:AV) (K:AV→Prop):rthree_G [a] K=(onPs (fun l=>okPs 100000000 l∧K (.one (.lit (.int .i64 (threeC l:Nat))))) a):=propext Iff.rfl
@[congr] theorem rthree_Gc {K:AV→Prop} {l l' : List AV} (h:l=l'):rthree_G l K=rthree_G l' K:=by subst h;rfl
attribute [go_sem] rthree_Ge
attribute [go_sem ↓] rthree_Ge
def pimgs_G (tE:Nat) (l:List AV) (K:AV→Prop):Prop:=
 match l with
 | [a,b]=>onPs (fun l=>onA (fun q=>okPs 1000000 l∧al q≤1000000∧l.length≤100000∧K (.tup [qsA (if imgC l q=0 then imgs l q else []),errV tE (imgC l q)])) b) a
 | _=>False
theorem pimgs_Ge (tE:Nat) (a b:AV) (K:AV→Prop):pimgs_G tE [a,b] K=(onPs (fun l=>onA (fun q=>okPs 1000000 l∧al q≤1000000∧l.length≤100000∧K (.tup [qsA (if imgC l q=0 then imgs l q else []),errV tE (imgC l q)])) b) a):=propext Iff.rfl
@[congr] theorem pimgs_Gc (tE:Nat) {K:AV→Prop} {l l' : List AV} (h:l=l'):pimgs_G tE l K=pimgs_G tE l' K:=by subst h;rfl
attribute [go_sem] pimgs_Ge
attribute [go_sem ↓] pimgs_Ge
def rplaces_G (l:List AV) (K:AV→Prop):Prop:=
 match l with
 | [a,b]=>onPs (fun l=>onA (fun q=>okPs 1000000 l∧al q≤1000000∧l.length≤100000∧K (qsA (imgs l q))) b) a
 | _=>False
theorem rplaces_Ge (a b:AV) (K:AV→Prop):rplaces_G [a,b] K=(onPs (fun l=>onA (fun q=>okPs 1000000 l∧al q≤1000000∧l.length≤100000∧K (qsA (imgs l q))) b) a):=propext Iff.rfl
@[congr] theorem rplaces_Gc {K:AV→Prop} {l l' : List AV} (h:l=l'):rplaces_G l K=rplaces_G l' K:=by subst h;rfl
attribute [go_sem] rplaces_Ge
attribute [go_sem ↓] rplaces_Ge
def pshort_G (l:List AV) (K:AV→Prop):Prop:=
 match l with
 | [a]=>onPs (fun l=>okPs 4294967296 l∧K (.one (.lit (.bool (l.all sP))))) a
 | _=>False
theorem pshort_Ge (a:AV) (K:AV→Prop):pshort_G [a] K=(onPs (fun l=>okPs 4294967296 l∧K (.one (.lit (.bool (l.all sP))))) a):=propext Iff.rfl
@[congr] theorem pshort_Gc {K:AV→Prop} {l l' : List AV} (h:l=l'):pshort_G l K=pshort_G l' K:=by subst h;rfl
attribute [go_sem] pshort_Ge
attribute [go_sem ↓] pshort_Ge
def ashort_G (l:List AV) (K:AV→Prop):Prop:=
 match l with
 | [a]=>onAs (fun l=>okAs 4294967296 l∧K (.one (.lit (.bool (l.all sA))))) a
 | _=>False
theorem ashort_Ge (a:AV) (K:AV→Prop):ashort_G [a] K=(onAs (fun l=>okAs 4294967296 l∧K (.one (.lit (.bool (l.all sA))))) a):=propext Iff.rfl
@[congr] theorem ashort_Gc {K:AV→Prop} {l l' : List AV} (h:l=l'):ashort_G l K=ashort_G l' K:=by subst h;rfl
attribute [go_sem] ashort_Ge
attribute [go_sem ↓] ashort_Ge
theorem ashort_good:Good ashort_G:=good_of fun as=>by
 unfold ashort_G
 split
 ·exact (g_onAs fun _=>(.and fun _=>(.ret _)))
 ·exact .of fun K hk=>hk.elim
def lshort_G (l:List AV) (K:AV→Prop):Prop:=
 match l with
 | [a]=>onPs (fun l=>okPs 4294967296 l∧K (.one (.lit (.bool (decide (l.length≤20) && l.all sP))))) a
 | _=>False
theorem lshort_Ge (a:AV) (K:AV→Prop):lshort_G [a] K=(onPs (fun l=>okPs 4294967296 l∧K (.one (.lit (.bool (decide (l.length≤20) && l.all sP))))) a):=propext Iff.rfl
@[congr] theorem lshort_Gc {K:AV→Prop} {l l' : List AV} (h:l=l'):lshort_G l K=lshort_G l' K:=by subst h;rfl
attribute [go_sem] lshort_Ge
attribute [go_sem ↓] lshort_Ge
def tchk3_G (tE:Nat) (l:List AV) (K:AV→Prop):Prop:=
 match l with
 | [a,b]=>onPs (fun l=>onAs (fun m=>okPs 100000000 l∧okAs 100000000 m∧K (errV tE (chkC l m))) b) a
 | _=>False
theorem tchk3_Ge (tE:Nat) (a b:AV) (K:AV→Prop):tchk3_G tE [a,b] K=(onPs (fun l=>onAs (fun m=>okPs 100000000 l∧okAs 100000000 m∧K (errV tE (chkC l m))) b) a):=propext Iff.rfl
@[congr] theorem tchk3_Gc (tE:Nat) {K:AV→Prop} {l l' : List AV} (h:l=l'):tchk3_G tE l K=tchk3_G tE l' K:=by subst h;rfl
attribute [go_sem] tchk3_Ge
attribute [go_sem ↓] tchk3_Ge
def brats_G (l:List AV) (K:AV→Prop):Prop:=
 match l with
 | [a,b]=>onRs (fun l=>onRs (fun m=>okRs 4294967296 l∧K (.one (.lit (.bool (decide (l=m)))))) b) a
 | _=>False
theorem brats_Ge (a b:AV) (K:AV→Prop):brats_G [a,b] K=(onRs (fun l=>onRs (fun m=>okRs 4294967296 l∧K (.one (.lit (.bool (decide (l=m)))))) b) a):=propext Iff.rfl
@[congr] theorem brats_Gc {K:AV→Prop} {l l' : List AV} (h:l=l'):brats_G l K=brats_G l' K:=by subst h;rfl
attribute [go_sem] brats_Ge
attribute [go_sem ↓] brats_Ge
def ac_linkworkref17_ShortPlace:AC:=(.seq (.ops false [.m 2 .fa])
 (.fg [0] (.seq (.seq (.ops false [.m 7 (.t 0),.u 8 (.len (.t 7)),.m 9 (.i 0)])
 (.fg [7,8,9] (.block 0 (.loop (.seq (.ops false [.u 10 (.bin .lss (.t 9) (.t 8))])
 (.fg [7,8,9,10] (.seq (.cond (.t 10) .skip (.exit 0))
 (.fg [7,8,9] (.seq (.block 1 (.seq (.ops false [.u 11 (.idx 6 (.t 7) (.t 9)),.u 12 (.ld none 6 true (.t 11)),.u 4 (.alloc [(.lit (.bool false)),.emp,.emp,(.lit (.bool false)),.emp,.emp]),.n (.st none 6 (.t 4) (.t 12))])
 (.fg [4,7,8,9] (.seq (.ops false [.u 13 (.fa 0 (.t 4)),.u 14 (.ld none 3 true (.t 13)),.u 15 (.fa 3 (.t 4)),.u 16 (.ld none 3 true (.t 15)),.u 17 (.row 3 [[.x 3 (.t 14)],[.x 3 (.t 16)]]),.u 18 (.len (.t 17)),.m 19 (.i 0)])
 (.fg [7,8,9,17,18,19] (.block 2 (.loop (.seq (.ops false [.u 20 (.bin .lss (.t 19) (.t 18))])
 (.fg [7,8,9,17,18,19,20] (.seq (.cond (.t 20) .skip (.exit 2))
 (.fg [7,8,9,17,18,19] (.seq (.block 3 (.seq (.ops false [.u 21 (.idx 3 (.t 17) (.t 19)),.u 22 (.ld none 3 true (.t 21)),.u 6 (.alloc [(.lit (.bool false)),.emp,.emp]),.n (.st none 3 (.t 6) (.t 22))])
 (.fg [6,7,8,9,17,18,19] (.seq (.ops false [.u 23 (.fa 1 (.t 6)),.u 24 (.ld none 1 false (.t 23)),.u 25 (.len (.t 24)),.u 26 (.bin .gtr (.t 25) (.i 2)),.m 27 (.t 26),.w 28 27 false (.fa 2 (.t 6)),.w 29 27 false (.ld none 1 false (.t 28)),.w 30 27 false (.len (.t 29)),.w 31 27 false (.bin .gtr (.t 30) (.i 2)),.u 32 (.pick (.t 27) .tr (.t 31))])
 (.fg [7,8,9,17,18,19,32] (.cond (.t 32) (.seq (.ops false [.m 2 .fa])
 .ret) .skip))))))
 (.fg [7,8,9,17,18,19] (.ops false [.u 33 (.bin .add (.t 19) (.i 1)),.m 19 (.t 33)]))))))))))))))
 (.fg [7,8,9] (.ops false [.u 34 (.bin .add (.t 9) (.i 1)),.m 9 (.t 34)])))))))))))
 (.fg [] (.seq (.ops false [.m 2 .tr])
 .ret)))))
theorem ashort_sound (hΓ:Holds P Γ) {f:Nat} (hc:check P f=some (35,ac_linkworkref17_ShortPlace.strip,[.tmp 2])):Sound P f (.dat true ashort_G):=by
 refine sound_dat hc ashort_good hΓ (fun args K hcl hfi hG=>?_)
 match args,hG with
 | [a],hG=>
  obtain ⟨l,rfl,hwl,hok,hK⟩:=hG
  refine ⟨by simp,?_⟩
  simp only [go_sem,ac_linkworkref17_ShortPlace]
  intro _
  refine wpA_loop (fun k:Nat=>⟨mkV [(7,asA l),(8,.one (.lit (.int .i64 l.length))),(9,.one (.lit (.int .i64 k)))],mkH []⟩) (fun k=>k≤l.length∧(l.take k).all sA=true) (fun k=>l.length-k) 0 ?_ ?_ ?_
  ·exact weak_lit (by simp [okS,okV,okC,okL,okH,okB,okE,mkV_cons,mkV_nil,mkH_cons,mkH_nil,wsA,ws,asA,as]) trivial
  ·exact ⟨Nat.zero_le _,rfl⟩
  ·rintro k ⟨hk,hall⟩
   by_cases hlt:k<l.length
   ·obtain ⟨p,hp⟩:∃p,l.getD k a0=p:=⟨_,rfl⟩
    have hp0:=getD_get hlt hp
    obtain ⟨hp1,hp2⟩:=hok p (List.mem_of_getElem? hp0)
    obtain ⟨xs,hxs⟩:∃xs:List R,xs=[p.1,p.2]:=⟨_,rfl⟩
    have hlx:xs.length=2:=by rw [hxs];rfl
    have hwx:∀x∈xs,rl x≤4294967296:=by
     intro x hx
     rw [hxs]at hx
     simp only [List.mem_cons,List.not_mem_nil,or_false]at hx
     obtain ⟨l3,l4⟩:=al1 hp2
     rcases hx with rfl | rfl <;> assumption
    have hex:xs.all (sR 2)=sA p:=by rw [hxs];simp only [List.all_cons,List.all_nil,Bool.and_true];rfl
    simp only [go_sem,hlt,hp,aC_eq]
    refine wpA_loop (fun j:Nat=>⟨mkV [(7,asA l),(8,.one (.lit (.int .i64 l.length))),(9,.one (.lit (.int .i64 k))),(17,.one (.full (xs.map rC))),(18,.one (.lit (.int .i64 2))),(19,.one (.lit (.int .i64 j)))],mkH []⟩) (fun j=>j≤2∧(xs.take j).all (sR 2)=true) (fun j=>2-j) 0 ?_ ?_ ?_
    ·exact weak_lit (by rw [hxs];simp [okS,okV,okC,okL,okH,okB,okE,mkV_cons,mkV_nil,mkH_cons,mkH_nil,wsA,ws,asA,as,rC]) trivial
    ·exact ⟨Nat.zero_le _,rfl⟩
    ·rintro j ⟨hj,hallj⟩
     by_cases hltj:j<2
     ·obtain ⟨x,hx⟩:∃x,xs.getD j (rcan 0)=x:=⟨_,rfl⟩
      have hx0:=getD_get (by omega:j<xs.length) hx
      have hxr:=hwx x (List.mem_of_getElem? hx0)
      have hjx:j<xs.length:=by omega
      obtain ⟨b,n,d⟩:=x
      have w1:n.length≤4294967296:=Nat.le_trans (Nat.le_max_left _ _) hxr
      have w2:d.length≤4294967296:=Nat.le_trans (Nat.le_max_right _ _) hxr
      have bad:¬(sR 2 (b,n,d)=true)→K (.one (.lit (.bool false))):=by
       intro hb
       have e1:sA p=false:=by rw [←hex];exact all_f hx0 (by simpa using hb)
       rw [all_f hp0 e1]at hK;exact hK
      have hsr:sR 2 (b,n,d)=true↔n.length≤2∧d.length≤2:=by simp [sR]
      simp only [go_sem,hltj,hjx,hx,rC_eq,cb,cn,cd,ws,hlx]
      exact ⟨fun _ _=>⟨fun h=>bad (fun e=>by have:=hsr.1 e;omega),fun h _=>⟨fun h'=>bad (fun e=>by have:=hsr.1 e;omega),fun h'=>⟨by omega,j+1,weak_lit (by simp [okS,okV,okC,okL,okH,okB,okE,mkV_cons,mkV_nil,mkH_cons,mkH_nil,wsA,ws,asA,as]) trivial,⟨by omega,all_step hx0 hallj (hsr.2 ⟨by omega,by omega⟩)⟩,by omega⟩⟩⟩,fun h=>absurd (by omega) h⟩
     ·rw [List.take_of_length_le (by omega),hex]at hallj
      simp only [go_sem,hltj]
      exact ⟨fun h=>absurd h (by omega),fun _=>⟨by omega,k+1,weak_lit (by simp [okS,okV,okC,okL,okH,okB,okE,mkV_cons,mkV_nil,mkH_cons,mkH_nil,wsA,ws,asA,as]) trivial,⟨by omega,all_step hp0 hall hallj⟩,by omega⟩⟩
   ·rw [List.take_of_length_le (by omega)]at hall
    rw [hall]at hK
    simp only [go_sem,hlt]
    exact hK
end Go.Abs
end
section
set_option linter.unusedVariables false
set_option linter.unusedSimpArgs false
set_option maxRecDepth 100000
namespace Go.Num
open Go.Abs
def ctrQ (p u v:V2):V2:=(p.1+(sqQ u*v.2-sqQ v*u.2) / (2*crossQ u v),p.2+(sqQ v*u.1-sqQ u*v.1) / (2*crossQ u v))
def ciQ (p u v:V2):V2:=if crossQ u v=0 then (0,0) else ctrQ p u v
def ciL (l:List Arc):V2:=ciQ (av (l.getD 0 a0)) (subQ (av (l.getD 1 a0)) (av (l.getD 0 a0))) (subQ (av (l.getD 2 a0)) (av (l.getD 0 a0)))
def crL (l:List Arc):Rat:=crossQ (subQ (av (l.getD 1 a0)) (av (l.getD 0 a0))) (subQ (av (l.getD 2 a0)) (av (l.getD 0 a0)))
end Go.Num
namespace Go.Abs
open Go.Num
variable {P:Program} {Γ:Nat→Spec}
def pcirc_G (tE:Nat) (l:List AV) (K:AV→Prop):Prop:=
 match l with
 | [a]=>onAs (fun l=>okAs 1000000 l∧3≤l.length∧K (.tup [pQ (ciL l),errV tE (if crL l=0 then 8 else 0)])) a
 | _=>False
theorem pcirc_Ge (tE:Nat) (a:AV) (K:AV→Prop):pcirc_G tE [a] K=(onAs (fun l=>okAs 1000000 l∧3≤l.length∧K (.tup [pQ (ciL l),errV tE (if crL l=0 then 8 else 0)])) a):=propext Iff.rfl
@[congr] theorem pcirc_Gc (tE:Nat) {K:AV→Prop} {l l' : List AV} (h:l=l'):pcirc_G tE l K=pcirc_G tE l' K:=by subst h;rfl
attribute [go_sem] pcirc_Ge
attribute [go_sem ↓] pcirc_Ge
def rcirc_G (l:List AV) (K:AV→Prop):Prop:=
 match l with
 | [a]=>onAs (fun l=>okAs 1000000 l∧3≤l.length∧K (.tup [pQ (ciL l),.one (.lit (.bool (decide (crL l≠0))))])) a
 | _=>False
theorem rcirc_Ge (a:AV) (K:AV→Prop):rcirc_G [a] K=(onAs (fun l=>okAs 1000000 l∧3≤l.length∧K (.tup [pQ (ciL l),.one (.lit (.bool (decide (crL l≠0))))])) a):=propext Iff.rfl
@[congr] theorem rcirc_Gc {K:AV→Prop} {l l' : List AV} (h:l=l'):rcirc_G l K=rcirc_G l' K:=by subst h;rfl
attribute [go_sem] rcirc_Ge
attribute [go_sem ↓] rcirc_Ge
end Go.Abs
end
section
set_option linter.unusedVariables false
set_option linter.unusedSimpArgs false
set_option maxRecDepth 100000
namespace Go.Abs
open Go.Num
variable {P:Program} {Γ:Nat→Spec}
def ssmall_G (l:List AV) (K:AV→Prop):Prop:=
 match l with
 | [a]=>asInt (fun k n=>k=.i64∧n=1∧K (.one (.lit (.string ⟨#[49]⟩)))) a
 | _=>False
theorem ssmall_Ge (a:AV) (K:AV→Prop):ssmall_G [a] K=(asInt (fun k n=>k=.i64∧n=1∧K (.one (.lit (.string ⟨#[49]⟩)))) a):=propext Iff.rfl
@[congr] theorem ssmall_Gc {K:AV→Prop} {l l' : List AV} (h:l=l'):ssmall_G l K=ssmall_G l' K:=by subst h;rfl
attribute [go_sem] ssmall_Ge
attribute [go_sem ↓] ssmall_Ge
def sform_G (l:List AV) (K:AV→Prop):Prop:=
 match l with
 | [a,b]=>asInt (fun k n=>k=.i64∧n=1∧asInt (fun k m=>k=.i64∧m=10∧K (.one (.lit (.string ⟨#[49]⟩)))) b) a
 | _=>False
theorem sform_Ge (a b:AV) (K:AV→Prop):sform_G [a,b] K=(asInt (fun k n=>k=.i64∧n=1∧asInt (fun k m=>k=.i64∧m=10∧K (.one (.lit (.string ⟨#[49]⟩)))) b) a):=propext Iff.rfl
@[congr] theorem sform_Gc {K:AV→Prop} {l l' : List AV} (h:l=l'):sform_G l K=sform_G l' K:=by subst h;rfl
attribute [go_sem] sform_Ge
attribute [go_sem ↓] sform_Ge
def sitoa_G (l:List AV) (K:AV→Prop):Prop:=
 match l with
 | [a]=>asInt (fun k n=>k=.i64∧n=1∧K (.one (.lit (.string ⟨#[49]⟩)))) a
 | _=>False
theorem sitoa_Ge (a:AV) (K:AV→Prop):sitoa_G [a] K=(asInt (fun k n=>k=.i64∧n=1∧K (.one (.lit (.string ⟨#[49]⟩)))) a):=propext Iff.rfl
@[congr] theorem sitoa_Gc {K:AV→Prop} {l l' : List AV} (h:l=l'):sitoa_G l K=sitoa_G l' K:=by subst h;rfl
attribute [go_sem] sitoa_Ge
attribute [go_sem ↓] sitoa_Ge
def sjoin_G (l:List AV) (K:AV→Prop):Prop:=
 match l with
 | [a,b]=>a=.one (.slice [[.lit (.string ⟨#[49]⟩)]])∧b=.one (.lit (.string ⟨#[]⟩))∧K (.one (.lit (.string ⟨#[49]⟩)))
 | _=>False
theorem sjoin_Ge (a b:AV) (K:AV→Prop):sjoin_G [a,b] K=(a=.one (.slice [[.lit (.string ⟨#[49]⟩)]])∧b=.one (.lit (.string ⟨#[]⟩))∧K (.one (.lit (.string ⟨#[49]⟩)))):=propext Iff.rfl
@[congr] theorem sjoin_Gc {K:AV→Prop} {l l' : List AV} (h:l=l'):sjoin_G l K=sjoin_G l' K:=by subst h;rfl
attribute [go_sem] sjoin_Ge
attribute [go_sem ↓] sjoin_Ge
def ztext_G (l:List AV) (K:AV→Prop):Prop:=
 match l with
 | [a]=>onW (fun w=>zv w=1∧K (.one (.lit (.string ⟨#[49]⟩)))) a
 | _=>False
theorem ztext_Ge (a:AV) (K:AV→Prop):ztext_G [a] K=(onW (fun w=>zv w=1∧K (.one (.lit (.string ⟨#[49]⟩)))) a):=propext Iff.rfl
@[congr] theorem ztext_Gc {K:AV→Prop} {l l' : List AV} (h:l=l'):ztext_G l K=ztext_G l' K:=by subst h;rfl
attribute [go_sem] ztext_Ge
attribute [go_sem ↓] ztext_Ge
def rtext_G (l:List AV) (K:AV→Prop):Prop:=
 match l with
 | [a]=>onR (fun x=>rv x=1∧rl x≤4294967296∧K (.one (.lit (.string ⟨#[49]⟩)))) a
 | _=>False
theorem rtext_Ge (a:AV) (K:AV→Prop):rtext_G [a] K=(onR (fun x=>rv x=1∧rl x≤4294967296∧K (.one (.lit (.string ⟨#[49]⟩)))) a):=propext Iff.rfl
@[congr] theorem rtext_Gc {K:AV→Prop} {l l' : List AV} (h:l=l'):rtext_G l K=rtext_G l' K:=by subst h;rfl
attribute [go_sem] rtext_Ge
attribute [go_sem ↓] rtext_Ge
end Go.Abs
end
