/-
  Parts of the proof, merged: ChartG, ChartQ, ChartH, ChartR, ChartW, ChartX, ComA, ChartRow, ComB, PoseD, PoseE, PoseQ, CoupQ, PoseT.
-/
import Derived.Test.YthoibmokhnoccaaGreatDoorM7
set_option linter.unusedVariables false
set_option linter.unusedSimpArgs false
set_option maxRecDepth 100000
section
namespace Go.Num
end Go.Num
namespace Go.Abs
open Go.Num
variable {P:Program} {Γ:Nat->Spec}
end Go.Abs
end
section
namespace Go.Num
end Go.Num
end
section
namespace Go.Num
end Go.Num
namespace Go.Abs
open Go.Num
variable {P:Program} {Γ:Nat->Spec}
theorem qa0(k:List Arc->Prop)(x y:R):onAs k (.one (.slice [[cb x,cn x,cd x,cb y,cn y,cd y]]))=((∀z∈[(x,y)],WLA z)/\k [(x,y)]):=zI k [(x,y)]
theorem za4(k:List Arc->Prop)(x y x' y' : R):onAs k (.one (.slice [[cb x,cn x,cd x,cb y,cn y,cd y],[cb x',cn x',cd x',cb y',cn y',cd y']]))=((∀z∈[(x,y),(x',y')],WLA z)/\k [(x,y),(x',y')]):=zI k [(x,y),(x',y')]
theorem zaE(k:List Arc->Prop)(x:Arc):onAs k (.one (.slice [aC x]))=((∀z∈[x],WLA z)/\k [x]):=zI k [x]
theorem WaK(k:List Arc->Prop)(x y:Arc):onAs k (.one (.slice [aC x,aC y]))=((∀z∈[x,y],WLA z)/\k [x,y]):=zI k [x,y]
theorem xaA(k:List Arc->Prop)(y x' y' : R):onAs k (.one (.slice [[.lit (.bool false),.slice [],.slice [],cb y,cn y,cd y],[cb x',cn x',cd x',cb y',cn y',cd y']]))=((∀z∈[(rcan 0,y),(x',y')],WLA z)/\k [(rcan 0,y),(x',y')]):=by
 rw [Ye];exact zI k [((false,[],[]),y),(x',y')]
attribute [go_sem,go_sem ↓] qa0 za4 zaE WaK xaA
end Go.Abs
end
section
namespace Go.Num
instance(x:Rat)(a:Q2):Decidable (mem x a):=by unfold mem;infer_instance
instance(x:Rat)(l:List Q2):Decidable (memL x l):=by unfold memL;infer_instance
end Go.Num
end
section
namespace Go.Num
end Go.Num
namespace Go.Abs
open Go.Num
variable {P:Program} {Γ:Nat->Spec}
end Go.Abs
end
section
namespace Go.Num
end Go.Num
namespace Go.Abs
open Go.Num
variable {P:Program} {Γ:Nat->Spec}
end Go.Abs
end
section
namespace Go.Abs
open Go.Num
variable {P:Program} {Γ:Nat->Spec}
end Go.Abs
end
section
namespace Go.Abs
open Go.Num
def rC(x:R):List C:=[cb x,cn x,cd x]
theorem Xf(x:R):rC x=[cb x,cn x,cd x]:=eq_of_heq (HEq.refl _)
theorem ya2(x:R):(rC x).length=3:=eq_of_heq (HEq.refl _)
theorem WaG(K:List C->Prop)(L:List R)(i:Nat):getE K (L.map rC) i=(i<L.length/\K (rC (L.getD i (rcan 0)))):=by
 simp only [getE,List.length_map,List.getElem?_map];refine propext ⟨λh=>⟨h.1,h.2 _ (by simp [h.1,List.getD_eq_getElem?_getD])⟩,λh=>⟨h.1,λe he=>?_⟩⟩
 simp [h.1]at he;subst he;have:=h.2;simpa [List.getD_eq_getElem?_getD,h.1] using this
theorem xu(l:List R):CleanR (l.map rC)=True:=eq_true λe he c hc=>by
 obtain⟨x,_,rfl⟩:=List.mem_map.1 he;exact zaz x c hc
theorem uaY(L:List R):(∀e∈L.map rC,e.length=3)=True:=eq_true λe he=>by
 obtain⟨l,_,rfl⟩:=List.mem_map.1 he;rfl
theorem vaO(h:Nat->HB)(L:List R):(L.map rC).map (λx=>x.map (datC h))=L.map rC:=by
 rw [List.map_map];exact List.map_congr_left λx _=>rfl
theorem kaO(L:List R):(L.map rC).flatMap (λx=>x.flatMap ownC)=[]:=by
 rw [List.flatMap_map];exact List.flatMap_eq_nil_iff.2 λx _=>rfl
theorem YaP(h:Nat->HB)(L:List (List Arc)):(L.map lC).map (λx=>x.map (datC h))=L.map lC:=by
 rw [List.map_map];exact List.map_congr_left λx _=>rfl
theorem jaJ(L:List (List Arc)):(L.map lC).flatMap (λx=>x.flatMap ownC)=[]:=by
 rw [List.flatMap_map];exact List.flatMap_eq_nil_iff.2 λx _=>rfl
theorem qaG(h:Nat->HB):frz [] h=h:=eq_of_heq (HEq.refl _)
attribute [go_sem,go_sem ↓] ya2 WaG xu uaY vaO kaO YaP jaJ qaG
theorem qC{h h' : Nat->HB}{z:Nat}{b:Bool}{es:List (List C)}{S:List R}(e:es=S.map rC):okB h h' (some ⟨es,z,b⟩) (some ⟨S.map rC,z,b⟩):=by
 subst e;exact⟨⟨rfl,rfl⟩,.inl ⟨rfl,of_eq_true (xu S)⟩⟩
end Go.Abs
end
section
namespace Go.Num
def okRs(b:Nat)(l:List R):Prop:=∀x∈l,WLR x/\rl x<=b
end Go.Num
namespace Go.Abs
open Go.Num
variable {P:Program} {Γ:Nat->Spec}
def rsA(l:List R):AV:=.one (.slice (l.map rC))
theorem Zbn{x y:R}(h:rC x=rC y):x=y:=Yq x y (by simpa [rC,rA] using h)
theorem qaf(x y:List R)(h:rsA x=rsA y):x=y:=by
 simp only [rsA,AV.one.injEq,C.slice.injEq]at h;exact List.map_inj_right (λ_ _=>Zbn) |>.1 h
def onRs(k:List R->Prop)(a:AV):Prop:=onE rsA (λl=>(∀x∈l,WLR x)/\k l) a
@[congr] theorem ybs{k:List R->Prop}{a a'}(h:a=a'):onRs k a=onRs k a':=by subst h;rfl
theorem Jat(k:List R->Prop)(l:List R):onRs k (.one (.slice (l.map rC)))=((∀x∈l,WLR x)/\k l):=yf qaf (λl=>(∀x∈l,WLR x)/\k l) l
theorem jW{β:Type}{T:List R->(β->Prop)->Prop}(h:∀l,GoodT (T l)){a:AV}:GoodT λK=>onRs (λl=>T l K) a:=
 xz (e:=rsA) (T:=λl K=>(∀x∈l,WLR x)/\T l K) qaf λl=>GoodT.and (c:=∀x∈l,WLR x) (T:=T l) λ_=>h l
theorem qF(l:List R):Clean (.slice (l.map rC))=True:=eq_true (.slice _ (of_eq_true (xu l)))
theorem Qbe(l:List R)(n:Nat):(l.map rC).take n=(l.take n).map rC:=by rw [List.map_take]
theorem Jbd(l:List R)(n:Nat):(l.map rC).drop n=(l.drop n).map rC:=by rw [List.map_drop]
theorem waI(l:List R):rsA l=.one (.slice (l.map rC)):=eq_of_heq (HEq.refl _)
attribute [go_sem] Jat qF waI Qbe Jbd
attribute [go_sem ↓] Jat qF waI
end Go.Abs
end
section
namespace Go.Num
open Go.Abs
theorem qS{α:Type}{l:List α}{k:Nat}{x d:α}(hk:k<l.length)(h:l.getD k d=x):l[k]?=some x:=by
 rw [<-h,List.getD_eq_getElem?_getD,List.getElem?_eq_getElem hk];rfl
end Go.Num
namespace Go.Abs
open Go.Num
variable {P:Program} {Γ:Nat->Spec}
def qsA(l:List V2):AV:=.one (.slice ((l.map acan).map aC))
theorem za0(l:List V2):qsA l=.one (.slice ((l.map acan).map aC)):=eq_of_heq (HEq.refl _)
theorem JaN(k:List Arc->Prop)(a b c d e f:C):onAs k (.one (.slice [[a,b,c,d,e,f]]))=onO (λx=>onO (λy=>WLA (x,y)/\k [(x,y)]) (dR d e f)) (dR a b c):=by
 refine propext ⟨λ⟨t,h,h1⟩=>?_,λh=>?_⟩
 .simp only [asA,as,AV.one.injEq,C.slice.injEq]at h;match t,h with
  | [z],h=>
   simp only [List.map_cons,List.map_nil,aC,List.cons.injEq,and_true]at h;obtain⟨rfl,rfl,rfl,rfl,rfl,rfl⟩:=h;simp only [dR_e,qJ];exact⟨h1.1 _ (by simp),h1.2⟩
 .obtain⟨x,h1,q1⟩:=kb.1 h;obtain⟨y,h2,q2⟩:=kb.1 q1;obtain⟨rfl,rfl,rfl⟩:=Wb.1 h1;obtain⟨rfl,rfl,rfl⟩:=Wb.1 h2;exact⟨[(x,y)],rfl,λz hz=>by rw [List.mem_singleton.1 hz];exact q2.1,q2.2⟩
theorem YaJ(k:List Arc->Prop)(a b c d e f a' b' c' d' e' f' : C):onAs k (.one (.slice [[a,b,c,d,e,f],[a',b',c',d',e',f']]))=onO (λx=>onO (λy=>onO (λz=>onO (λw=>WLA (x,y)/\WLA (z,w)/\k [(x,y),(z,w)]) (dR d' e' f')) (dR a' b' c')) (dR d e f)) (dR a b c):=by
 refine propext ⟨λ⟨t,h,h1⟩=>?_,λh=>?_⟩
 .simp only [asA,as,AV.one.injEq,C.slice.injEq]at h;match t,h with
  | [z,w],h=>
   simp only [List.map_cons,List.map_nil,aC,List.cons.injEq,and_true]at h;obtain⟨⟨rfl,rfl,rfl,rfl,rfl,rfl⟩,rfl,rfl,rfl,rfl,rfl,rfl⟩:=h;simp only [dR_e,qJ];exact⟨h1.1 _ (by simp),h1.1 _ (by simp),h1.2⟩
 .obtain⟨x,h1,q1⟩:=kb.1 h;obtain⟨y,h2,q2⟩:=kb.1 q1;obtain⟨z,h3,q3⟩:=kb.1 q2;obtain⟨w,h4,q4⟩:=kb.1 q3;obtain⟨rfl,rfl,rfl⟩:=Wb.1 h1;obtain⟨rfl,rfl,rfl⟩:=Wb.1 h2;obtain⟨rfl,rfl,rfl⟩:=Wb.1 h3;obtain⟨rfl,rfl,rfl⟩:=Wb.1 h4;refine⟨[(x,y),(z,w)],rfl,λv hv=>?_,q4.2.2⟩;simp only [List.mem_cons,List.not_mem_nil,or_false]at hv;rcases hv with rfl | rfl
  .exact q4.1
  .exact q4.2.1
theorem waZ(k:List R->Prop)(a b c d e f g h i:C):onRs k (.one (.slice [[a,b,c],[d,e,f],[g,h,i]]))=onO (λx=>onO (λy=>onO (λz=>(WLR x/\WLR y/\WLR z)/\k [x,y,z]) (dR g h i)) (dR d e f)) (dR a b c):=by
 refine propext ⟨λ⟨t,h,h1⟩=>?_,λh=>?_⟩
 .simp only [rsA,AV.one.injEq,C.slice.injEq]at h;match t,h with
  | [x,y,z],h=>
   simp only [List.map_cons,List.map_nil,rC,List.cons.injEq,and_true]at h;obtain⟨⟨rfl,rfl,rfl⟩,⟨rfl,rfl,rfl⟩,rfl,rfl,rfl⟩:=h;simp only [dR_e,qJ];exact⟨⟨h1.1 _ (by simp),h1.1 _ (by simp),h1.1 _ (by simp)⟩,h1.2⟩
 .obtain⟨x,h1,q1⟩:=kb.1 h;obtain⟨y,h2,q2⟩:=kb.1 q1;obtain⟨z,h3,q3⟩:=kb.1 q2;obtain⟨rfl,rfl,rfl⟩:=Wb.1 h1;obtain⟨rfl,rfl,rfl⟩:=Wb.1 h2;obtain⟨rfl,rfl,rfl⟩:=Wb.1 h3;refine⟨[x,y,z],rfl,λv hv=>?_,q3.2⟩;simp only [List.mem_cons,List.not_mem_nil,or_false]at hv;rcases hv with rfl | rfl | rfl
  .exact q3.1.1
  .exact q3.1.2.1
  .exact q3.1.2.2
theorem ka5(k:List R->Prop)(a b c d e f g h i j l m n o p:C):onRs k (.one (.slice [[a,b,c],[d,e,f],[g,h,i],[j,l,m],[n,o,p]]))=onO (λx=>onO (λy=>onO (λz=>onO (λu=>onO (λv=>(WLR x/\WLR y/\WLR z/\WLR u/\WLR v)/\k [x,y,z,u,v]) (dR n o p)) (dR j l m)) (dR g h i)) (dR d e f)) (dR a b c):=by
 refine propext ⟨λ⟨t,h,h1⟩=>?_,λh=>?_⟩
 .simp only [rsA,AV.one.injEq,C.slice.injEq]at h;match t,h with
  | [x,y,z,u,v],h=>
   simp only [List.map_cons,List.map_nil,rC,List.cons.injEq,and_true]at h;obtain⟨⟨rfl,rfl,rfl⟩,⟨rfl,rfl,rfl⟩,⟨rfl,rfl,rfl⟩,⟨rfl,rfl,rfl⟩,rfl,rfl,rfl⟩:=h;simp only [dR_e,qJ];exact⟨⟨h1.1 _ (by simp),h1.1 _ (by simp),h1.1 _ (by simp),h1.1 _ (by simp),h1.1 _ (by simp)⟩,h1.2⟩
 .obtain⟨x,h1,q1⟩:=kb.1 h;obtain⟨y,h2,q2⟩:=kb.1 q1;obtain⟨z,h3,q3⟩:=kb.1 q2;obtain⟨u,h4,q4⟩:=kb.1 q3;obtain⟨v,h5,q5⟩:=kb.1 q4;obtain⟨rfl,rfl,rfl⟩:=Wb.1 h1;obtain⟨rfl,rfl,rfl⟩:=Wb.1 h2;obtain⟨rfl,rfl,rfl⟩:=Wb.1 h3;obtain⟨rfl,rfl,rfl⟩:=Wb.1 h4;obtain⟨rfl,rfl,rfl⟩:=Wb.1 h5;refine⟨[x,y,z,u,v],rfl,λw hw=>?_,q5.2⟩;obtain⟨w1,w2,w3,w4,w5⟩:=q5.1;simp only [List.mem_cons,List.not_mem_nil,or_false]at hw;rcases hw with rfl | rfl | rfl | rfl | rfl <;> assumption
attribute [go_sem,go_sem ↓] JaN YaJ waZ ka5 za0
def Vr:q_T:=q_c2 λa b K=>onRs (λl=>onRs (λm=>okRs 4294967296 l/\K (.one (.lit (.bool (decide (l=m)))))) b) a
theorem QQ:Good Vr:=q_g2 λ_ _=>(jW λ_=>(jW λ_=>(.and λ_=>(.ret _))))
attribute [go_sem] Vr
def vi(f0:Nat):AC:=(.o [.m 4 .fa] [0,1] (.f (.o [.M 6 0,.Z 7 6,.M 8 1,.Z 9 8,.B 10 .neq 7 9] [0,1,10] (.cond (.t 10) (.seq (.p [.m 4 .fa]) .ret) .skip)) [0,1] (.f (.o [.N 5 0] [0,1,5] (.block 0 (.loop (.f (.o [.M 11 5,.M 12 0,.Z 13 12,.B 14 .lss 11 13] [0,1,5,14] (.cond (.t 14) .skip (.exit 0))) [0,1,5] (.f (.block 1 (.f (.y [.M 17 0,.M 18 5,.J 19 3 17 18,.L 20 3 19,.M 21 1,.M 22 5,.J 23 3 21 22,.L 24 3 23,.D 25 f0 20 24,.u 26 (.un .not (.t 25))]) [0,1,5,26] (.cond (.t 26) (.seq (.p [.m 4 .fa]) .ret) .skip))) [0,1,5] (.p [.M 15 5,.I 16 .add 15 1,.M 5 16])))))) [] (.seq (.p [.m 4 .tr]) .ret))))
theorem Qad(hΓ:Holds P Γ){f fr:Nat}(hr:Γ fr=.dat true Xv)(hc:check P f=some (27,(vi fr).strip,[.tmp 4])):Sound P f (.dat true Vr):=by
 refine Qa hc QQ hΓ (λargs K hcl hfi hG=>?_);match args,hG with
 | [a,b],hG=>
  obtain⟨x,rfl,hx,y,rfl,hy,hxl,hK⟩:=hG;refine⟨by simp,?_⟩
  simp only [go_sem,vi,hr];intro h1 h2;refine⟨λhl=>?_,λhne=>?_⟩
  rotate_left
  .rw [decide_eq_false (λh=>hne (by rw [h]))]at hK;exact hK
  refine ja (λn:Nat=>⟨mkV [(0,rsA x),(1,rsA y),(5,.one (.lit (.int .i64 n)))],mkH []⟩) (λn=>n<=x.length/\x.take n=y.take n) (λn=>x.length-n) 0 ?_ ?_ ?_
  .exact za (by simp [bitvec_to_nat,rsA]) trivial
  .exact⟨Nat.zero_le _,rfl⟩
  .rintro n ⟨hn,hd⟩;by_cases hlt:n<x.length
   .have hlt' : n<y.length:=by omega
    obtain⟨u,hu⟩:∃u,x.getD n (rcan 0)=u:=⟨_,rfl⟩;obtain⟨v,hv⟩:∃v,y.getD n (rcan 0)=v:=⟨_,rfl⟩;have hu0:=qS hlt hu;have hv0:=qS hlt' hv;obtain⟨u1,u2⟩:=hxl u (List.mem_of_getElem? hu0);have v1:=hy v (List.mem_of_getElem? hv0);by_cases he:u=v
    .simp only [go_sem,hr,hlt,hlt',hu,hv,Xf,decide_eq_true he];exact λ_=>⟨u1,v1,u2,by omega,n+1,za (by simp [bitvec_to_nat,rsA]) trivial,⟨by omega,by rw [List.take_add_one,List.take_add_one,hu0,hv0,hd,he]⟩,by omega⟩
    .have hne:decide (x=y)=false:=decide_eq_false λh=>by
      subst h;rw [hu0]at hv0;exact he (Option.some.inj hv0)
     rw [hne]at hK;simp only [go_sem,hr,hlt,hlt',hu,hv,Xf,decide_eq_false he];exact λ_=>⟨u1,v1,u2,hK⟩
   .simp only [go_sem,hlt];rw [List.take_of_length_le (by omega),List.take_of_length_le (by omega)]at hd
    rw [decide_eq_true hd]at hK;exact λ_=>hK
end Go.Abs
end
section
namespace Go.Num
open Go.Abs
end Go.Num
namespace Go.Abs
open Go.Num
variable {P:Program} {Γ:Nat->Spec}
end Go.Abs
end
section
namespace Go.Num
open Go.Abs
end Go.Num
end
section
namespace Go.Num
def hldQ(c:CpR)(a b:V2):Prop:=sqQ (subQ a c.1)=c.2.2.1/\sqQ (subQ b c.2.1)=c.2.2.2.2.1/\sqQ (subQ a b)=c.2.2.2.1
end Go.Num
end
section
namespace Go.Abs
open Go.Num
variable {P:Program} {Γ:Nat->Spec}
def Jb:AC:=(.o [.m 2 (.c (.one (.lit (.string ⟨#[]⟩))))] [0] (.f (.o [.M 3 0,.I 4 .lss 3 10] [0,4] (.cond (.t 4) (.seq (.p [.M 5 0,.M 6 0,.I 7 .add 6 1,.u 8 (.sop 0 [(.c (.one (.lit (.string ⟨#[48,49,50,51,52,53,54,55,56,57,97,98,99,100,101,102,103,104,105,106,107,108,109,110,111,112,113,114,115,116,117,118,119,120,121,122]⟩)))),(.t 5),(.t 7)]),.M 2 8]) .ret) .skip)) [0] (.seq (.p [.M 9 0,.I 10 .mul 9 2,.M 11 0,.I 12 .mul 11 2,.I 13 .add 12 2,.u 14 (.sop 0 [(.c (.one (.lit (.string ⟨#[48,48,48,49,48,50,48,51,48,52,48,53,48,54,48,55,48,56,48,57,49,48,49,49,49,50,49,51,49,52,49,53,49,54,49,55,49,56,49,57,50,48,50,49,50,50,50,51,50,52,50,53,50,54,50,55,50,56,50,57,51,48,51,49,51,50,51,51,51,52,51,53,51,54,51,55,51,56,51,57,52,48,52,49,52,50,52,51,52,52,52,53,52,54,52,55,52,56,52,57,53,48,53,49,53,50,53,51,53,52,53,53,53,54,53,55,53,56,53,57,54,48,54,49,54,50,54,51,54,52,54,53,54,54,54,55,54,56,54,57,55,48,55,49,55,50,55,51,55,52,55,53,55,54,55,55,55,56,55,57,56,48,56,49,56,50,56,51,56,52,56,53,56,54,56,55,56,56,56,57,57,48,57,49,57,50,57,51,57,52,57,53,57,54,57,55,57,56,57,57]⟩)))),(.t 10),(.t 13)]),.M 2 14]) .ret)))
def Uc(f0 f1 f2 f3:Nat):AC:=(.o [.m 4 (.c (.one (.lit (.string ⟨#[]⟩))))] [0,1] (.f (.o [.M 10 1,.I 11 .eql 10 10] [0,1,11] (.cond (.t 11) (.f (.o [.M 12 0,.u 13 (.bin .leq (.i 0) (.t 12)),.M 14 13,.V 15 14 true 0,.w 16 14 true (.bin .lss (.t 15) (.i 100)),.P 17 14 16] [0,17] (.cond (.t 17) (.seq (.p [.M 18 0,.H 19 f0 18,.M 4 19]) .ret) .skip)) [0] (.o [.G 5 [(.lit (.int .u8 0)),(.lit (.int .u8 0)),(.lit (.int .u8 0)),(.lit (.int .u8 0)),(.lit (.int .u8 0)),(.lit (.int .u8 0)),(.lit (.int .u8 0)),(.lit (.int .u8 0)),(.lit (.int .u8 0)),(.lit (.int .u8 0)),(.lit (.int .u8 0)),(.lit (.int .u8 0)),(.lit (.int .u8 0)),(.lit (.int .u8 0)),(.lit (.int .u8 0)),(.lit (.int .u8 0)),(.lit (.int .u8 0)),(.lit (.int .u8 0)),(.lit (.int .u8 0)),(.lit (.int .u8 0)),(.lit (.int .u8 0)),(.lit (.int .u8 0)),(.lit (.int .u8 0)),(.lit (.int .u8 0))]] [0,5] (.o [.M 20 0,.u 21 (.conv .u64 (.t 20)),.M 6 21] [0,5,6] (.f (.o [.M 22 0,.I 23 .lss 22 0] [0,5,6,23] (.cond (.t 23) (.p [.M 24 6,.u 25 (.un .neg (.t 24)),.M 6 25]) .skip)) [0,5,6] (.o [.M 26 6,.H 27 f1 26,.M 7 27] [0,5,6,7] (.o [.M 28 7,.u 29 (.bin .add (.i 1) (.t 28)),.u 30 (.rsb 1 24 (.t 5) (some (.i 1)) (some (.t 29))),.M 31 6,.D 32 f2 30 31] [0,5,7] (.f (.o [.M 33 0,.I 34 .lss 33 0] [5,7,34] (.cond (.t 34) (.o [.u 35 (.ai 1 24 (.t 5) (.i 0)),.n (.st none 1 (.t 35) (.c (.one (.lit (.int .u8 45)))))] [5,7] (.seq (.p [.M 36 7,.u 37 (.bin .add (.i 1) (.t 36)),.u 38 (.rsb 1 24 (.t 5) none (some (.t 37))),.u 39 (.bad),.M 4 39]) .ret)) .skip)) [5,7] (.seq (.p [.M 40 7,.u 41 (.bin .add (.i 1) (.t 40)),.u 42 (.rsb 1 24 (.t 5) (some (.i 1)) (some (.t 41))),.u 43 (.bad),.M 4 43]) .ret)))))))) .skip)) [0,1] (.o [.M 45 0,.u 46 (.conv .u64 (.t 45)),.M 47 1,.M 48 0,.I 49 .lss 48 0,.u 50 (.call f3 [(.c (.one .emp)),(.t 46),(.t 47),(.t 49),.fa]),.M 44 50,.X 51 0 44,.X 52 1 44,.M 8 51,.M 9 52] [9] (.seq (.p [.M 53 9,.M 4 53]) .ret))))
def Xe(f0:Nat):AC:=(.o [.m 2 (.c (.one (.lit (.string ⟨#[]⟩))))] [0] (.seq (.p [.M 3 0,.u 4 (.call f0 [(.t 3),(.i 10)]),.M 2 4]) .ret))
def zq(f0:Nat):AC:=(.o [.m 2 (.c (.one (.lit (.string ⟨#[]⟩))))] [0] (.seq (.p [.M 3 0,.H 4 f0 3,.M 2 4]) .ret))
def Up(f0 f1 f2 f3 f4 f5:Nat):AC:=(.o [.K 1 2 0,.m 2 (.c (.one (.lit (.string ⟨#[]⟩))))] [1] (.o [.L 8 2 1,.H 9 f0 8,.M 3 9] [1,3] (.f (.o [.M 10 3,.Z 11 10,.I 12 .eql 11 0] [1,3,12] (.cond (.t 12) (.seq (.p [.m 2 (.c (.one (.lit (.string ⟨#[48]⟩))))]) .ret) .skip)) [1,3] (.o [.m 4 (.c (.one .emp))] [1,3,4] (.f (.block 0 (.loop (.f (.o [.M 13 3,.Z 14 13,.I 15 .gtr 14 0] [1,3,4,15] (.cond (.t 15) .skip (.exit 0))) [1,3,4] (.block 1 (.o [.m 5 (.c (.one (.lit (.int .u32 0))))] [1,3,4] (.o [.M 17 3,.u 18 (.call f1 [(.t 17),(.c (.one (.lit (.int .u32 1000000000))))]),.M 16 18,.X 19 0 16,.X 20 1 16,.M 3 19,.M 5 20] [1,3,4,5] (.o [.M 21 5,.u 22 (.conv .i64 (.t 21)),.H 23 f2 22,.M 6 23] [1,3,4,6] (.f (.o [.M 24 3,.Z 25 24,.I 26 .gtr 25 0] [1,3,4,6,26] (.cond (.t 26) (.p [.M 27 6,.u 28 (.bad),.u 29 (.bin .sub (.i 9) (.t 28)),.u 30 (.call f3 [(.c (.one (.lit (.string ⟨#[48]⟩)))),(.t 29)]),.M 31 6,.u 32 (.sop 2 [(.t 30),(.t 31)]),.M 6 32]) .skip)) [1,3,4,6] (.p [.M 33 6,.u 34 (.row 1 [[.x 1 (.t 33)]]),.M 35 4,.u 36 (.app 1 (.t 34) (.t 35)),.M 4 36]))))))))) [1,4] (.o [.M 37 4,.u 38 (.call f4 [(.t 37),(.c (.one (.lit (.string ⟨#[]⟩))))]),.M 7 38] [1,7] (.f (.o [.L 39 2 1,.H 40 f5 39] [7,40] (.cond (.t 40) (.p [.M 41 7,.u 42 (.sop 2 [(.c (.one (.lit (.string ⟨#[45]⟩)))),(.t 41)]),.M 7 42]) .skip)) [7] (.seq (.p [.M 43 7,.M 2 43]) .ret))))))))
def kj(f0 f1 f2 f3:Nat):AC:=(.o [.K 1 3 0,.m 2 (.c (.one (.lit (.string ⟨#[]⟩))))] [1] (.o [.L 6 3 1,.H 7 f0 6,.M 5 7,.X 8 0 5,.X 9 1 5,.G 3 [.z,.emp],.G 4 [.z,.emp],.S 2 3 8,.S 2 4 9] [3,4] (.f (.f (.y [.L 10 2 4,.u 11 (.call f1 []),.D 12 f2 10 11,.I 13 .eql 12 0]) [3,4,13] (.cond (.t 13) (.seq (.p [.L 14 2 3,.H 15 f3 14,.M 2 15]) .ret) .skip)) [3,4] (.seq (.y [.L 16 2 3,.H 17 f3 16,.u 18 (.sop 2 [(.t 17),(.c (.one (.lit (.string ⟨#[47]⟩))))]),.L 19 2 4,.H 20 f3 19,.u 21 (.sop 2 [(.t 18),(.t 20)]),.M 2 21]) .ret))))
end Go.Abs
end
