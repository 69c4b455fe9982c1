/-
  Parts of the proof, merged: ArgI, RatC, RefA, RatD, RatE, PoseP, PoseB, PoseC, ChartE, ChartF.
-/
import Derived.Test.YtfichbefnpcdeaaGreatM6
import Derived.ChangeSame
import Derived.OpenShut
set_option linter.unusedVariables false
set_option linter.unusedSimpArgs false
set_option linter.unnecessarySimpa false
set_option maxRecDepth 100000
section
namespace Go.Abs
open Go.Num
section
variable {H:Type} {enc:TypeId×Value->H} {bulk:DataW H->Nat} {P:Program} {w:World}
structure MoT (P:Program) (t:TypeId):Prop where
 ex:∃f0 f1 f2:Field,P.underlying t=some (.struct #[f0,f1,f2])/\f0.offset=0/\f1.offset=1/\f2.offset=2/\P.cellsOf t=5/\P.cellsOf f0.type=1/\P.cellsOf f1.type=1/\P.cellsOf f2.type=3/\
  P.underlying f0.type=some (.int .i64)/\P.underlying f1.type=some (.int .i64)/\RatT P f2.type
structure BpT (P:Program) (t:TypeId):Prop where
 ex:∃u,P.underlying t=some (.slice u)/\P.cellsOf u=5/\MoT P u
structure X2T (P:Program) (t:TypeId):Prop where
 ex:∃u,P.underlying t=some (.array 2 u)/\P.cellsOf u=3/\P.cellsOf t=6/\RatT P u
variable {α:Type}
end
end Go.Abs
namespace Go.ChangeShapes
section
variable {H:Type} {enc:TypeId×Value->H} {P:Program}
theorem UL{f:Func}{s:ChangeSpec}{apart fresh handsOn again:Bool}{W W' : World}{args:Array Value}{v:Value}{ds gs:List (DataW H)}{before pa pv:List MemPlace}
  (hW:DataW.Whole enc P f.params.toList s.vars apart W args.toList ds gs before)
  (hres:∀(b:Nat) (sp:Nat->Bool) (hd:Bool),DataW.TrodAll enc P W' b sp hd f.resultTypes.toList (v.resultList f.resultTypes.size) (s.fn H (ds++gs)).results [])
  (hargs:∀sp:Nat->Bool,(∀p∈before,sp p.block=true)->DataW.TrodAll enc P W' 0 sp true f.params.toList args.toList (s.fn H (ds++gs)).args pa)
  (hvars:∀sp:Nat->Bool,(∀p∈before,sp p.block=true)->DataW.TrodVars enc P W' sp s.vars (s.fn H (ds++gs)).vars pv)
  (hps:before=pa++pv) (hk:W.keptBut W' (·∈before)) (hfz:∀a:Addr,a.block<W.heap.size->W'.frozen? a=W.frozen? a)
  (hok:∀(j:Nat) (t:TypeId) (r:Value),f.resultTypes[j]?=some t->(v.resultList f.resultTypes.size)[j]?=some r->Value.okWide P W' .any 0 t r) :
  s.post enc P f apart fresh handsOn again W args v W':=by
 have hlt:=hW.lt;have hold:∀p∈before,(λb=>decide (b<W.heap.size)) p.block=true:=λp hp=>by simpa using hlt p hp
 refine⟨ds,gs,before,[],pa,pv,hW,hres _ _ _,hargs _ hold,hvars _ hold,World.keptBut_mono (λp hp=>⟨hp,?_⟩) hk,λ_=>?_⟩
 .rw [hps,List.mem_append]at hp;exact Or.inr hp
 .obtain⟨_,_,_,_,_,hz,hn⟩:=hW;refine⟨hok,_,_,([]++pa)++pv,⟨[]++pa,pv,trodAll_append (hargs _ (λ_ _=>rfl)) (hres _ _ _),hvars _ (λ_ _=>rfl),rfl,?_,?_⟩,?_⟩
  .intro b off hp;have hp':=hp;rw [List.nil_append,<-hps]at hp';rw [hfz _ (hlt _ hp')];exact hz b off hp'
  .intro ha;have:=hn ha;rw [hps]at this;simpa using this
  .intro p hp _;rw [hps];simpa using hp
end
end Go.ChangeShapes
end
section
namespace Go.Abs
open Go.Num
variable {P:Program} {Γ:Nat->Spec}
def Wh(f0 f1 f2 f3:Nat):AC:=(.o [.K 1 3 0,.m 2 .fa] [1] (.f (.o [.A 5 1 1,.F 6 1 5,.Z 7 6,.I 8 .eql 7 0,.M 9 8,.T 10 9 true 2 1,.U 11 9 true 1 false 10,.w 12 9 true (.len (.t 11)),.w 13 9 true (.bin .eql (.t 12) (.i 0)),.P 14 9 13] [1,14] (.cond (.t 14) (.seq (.p [.A 15 0 1,.F 16 1 15,.u 17 (.un .not (.t 16)),.M 2 17]) .ret) .skip)) [1] (.f (.y [.A 18 1 1,.u 19 (.ld (some 1) 1 false (.t 18)),.u 20 (.build [.z [.z],.x 1 (.t 19)]),.A 21 2 1,.u 22 (.ld (some 1) 1 false (.t 21)),.u 23 (.build [.z [.z],.x 1 (.t 22)]),.G 3 [.z,.emp],.G 4 [.z,.emp],.n (.st (some 3) 2 (.t 3) (.t 20)),.n (.st (some 4) 2 (.t 4) (.t 23))]) [1,3,4] (.f (.o [.A 24 1 1,.F 25 1 24,.Z 26 25,.I 27 .eql 26 0,.M 28 27,.T 29 28 false 2 1,.U 30 28 false 1 false 29,.w 31 28 false (.len (.t 30)),.w 32 28 false (.bin .eql (.t 31) (.i 0)),.Q 33 28 32,.M 34 33,.U 35 34 false 2 true 3,.W 36 34 false f0 35,.w 37 34 false (.un .not (.t 36)),.Q 38 34 37,.M 39 38,.U 40 39 false 2 true 4,.W 41 39 false f0 40,.w 42 39 false (.un .not (.t 41)),.Q 43 39 42] [3,4,43] (.cond (.t 43) (.seq (.p [.m 2 .fa]) .ret) .skip)) [3,4] (.seq (.p [.L 44 2 3,.L 45 2 4,.D 46 f1 44 45,.u 47 (.call f2 []),.D 48 f3 46 47,.I 49 .eql 48 0,.M 2 49]) .ret)))))
def qi(f0 f1:Nat):AC:=(.o [.K 1 3 0,.G 2 [.z,.emp],.G 3 [.z,.emp]] [1,2,3] (.f (.o [.L 4 3 1,.H 5 f0 4,.u 6 (.un .not (.t 5)),.M 7 6,.T 8 7 false 1 1,.U 9 7 false 1 false 8,.w 10 7 false (.len (.t 9)),.w 11 7 false (.bin .eql (.t 10) (.i 0)),.Q 12 7 11] [1,2,3,12] (.cond (.t 12) (.seq (.p [.u 13 (.build [.z [.z,.emp]]),.u 14 (.call f1 []),.S 2 2 13,.S 2 3 14]) .ret) .skip)) [1,2,3] (.f (.y [.A 15 0 1,.F 16 1 15,.m 17 (.c (.one .emp)),.A 18 1 1,.F 19 1 18,.u 20 (.app0 1 (.t 17) (.t 19)),.u 21 (.build [.x 1 (.t 16),.x 1 (.t 20)]),.S 2 2 21]) [1,2,3] (.seq (.y [.L 22 2 2,.m 23 (.c (.one .emp)),.A 24 2 1,.F 25 1 24,.u 26 (.app0 1 (.t 23) (.t 25)),.u 27 (.build [.z [.z],.x 1 (.t 26)]),.S 2 2 22,.S 2 3 27]) .ret))))
def Wj(f0 f1 f2 f3:Nat):AC:=(.o [.K 2 2 0,.K 3 2 1,.G 4 [.z,.emp,.emp]] [2,3,4] (.f (.o [.L 7 2 2,.H 8 f0 7,.I 9 .eql 8 0] [2,3,4,9] (.cond (.t 9) (.seq (.p [.u 10 (.build [.z [.z,.emp,.emp]]),.S 3 4 10]) .ret) .skip)) [2,3,4] (.f (.o [.L 11 2 3,.H 12 f0 11,.I 13 .lss 12 0] [2,3,4,13] (.cond (.t 13) (.y [.L 14 2 2,.H 15 f1 14,.L 16 2 3,.H 17 f1 16,.S 2 2 15,.S 2 3 17]) .skip)) [2,3,4] (.o [.L 18 2 2,.L 19 2 3,.D 20 f2 18 19,.G 5 [.z,.emp],.S 2 5 20] [2,3,4,5] (.o [.L 21 2 2,.H 22 f0 21,.I 23 .lss 22 0,.M 6 23] [2,3,4,5,6] (.f (.o [.M 24 6] [2,3,4,5,6,24] (.cond (.t 24) (.p [.L 25 2 2,.H 26 f1 25,.S 2 2 26]) .skip)) [2,3,4,5,6] (.o [.L 28 2 2,.L 29 2 5,.D 30 f3 28 29,.M 27 30,.X 31 0 27,.X 32 1 27,.X 33 2 27,.S 2 2 31] [2,3,4,5,6] (.o [.L 35 2 3,.L 36 2 5,.D 37 f3 35 36,.M 34 37,.X 38 0 34,.X 39 1 34,.X 40 2 34,.S 2 3 38] [2,3,4,6] (.seq (.p [.M 41 6,.A 42 1 2,.F 43 1 42,.A 44 1 3,.F 45 1 44,.u 46 (.build [.x 1 (.t 41),.x 1 (.t 43),.x 1 (.t 45)]),.S 3 4 46]) .ret)))))))))
def Zh(f0:Nat):AC:=(.o [.G 0 [.z,.emp]] [0] (.seq (.p [.u 1 (.call f0 [(.i 1)]),.S 2 0 1]) .ret))
def Wm(f0 f1 f2:Nat):AC:=(.o [.G 2 [.z,.emp,.emp]] [0,2] (.seq (.p [.M 3 0,.H 4 f0 3,.u 5 (.call f1 []),.D 6 f2 4 5,.S 3 2 6]) .ret))
def ul(f0 f1 f2:Nat):AC:=(.o [.K 1 3 0,.G 2 [.z,.emp,.emp]] [1,2] (.o [.L 6 3 1,.H 7 f0 6,.M 5 7,.X 8 0 5,.X 9 1 5,.G 3 [.z,.emp],.G 4 [.z,.emp],.S 2 3 8,.S 2 4 9] [2,3,4] (.seq (.y [.L 10 2 3,.H 11 f1 10,.L 12 2 4,.D 13 f2 11 12,.S 3 2 13]) .ret)))
def zg(f0 f1:Nat):AC:=(.o [.K 1 3 0,.N 2 0] [1] (.o [.L 6 3 1,.H 7 f0 6,.M 5 7,.X 8 0 5,.X 9 1 5,.G 3 [.z,.emp],.G 4 [.z,.emp],.S 2 3 8,.S 2 4 9] [3] (.seq (.p [.L 10 2 3,.H 11 f1 10,.M 2 11]) .ret)))
def uk(f0 f1 f2:Nat):AC:=(.o [.K 2 3 0,.K 3 3 1,.N 4 0] [2,3] (.o [.L 10 3 2,.H 11 f0 10,.M 9 11,.X 12 0 9,.X 13 1 9,.G 5 [.z,.emp],.G 6 [.z,.emp],.S 2 5 12,.S 2 6 13] [3,5,6] (.o [.L 15 3 3,.H 16 f0 15,.M 14 16,.X 17 0 14,.X 18 1 14,.G 7 [.z,.emp],.G 8 [.z,.emp],.S 2 7 17,.S 2 8 18] [5,6,7,8] (.seq (.y [.L 19 2 5,.L 20 2 8,.D 21 f1 19 20,.L 22 2 7,.L 23 2 6,.D 24 f1 22 23,.D 25 f2 21 24,.M 4 25]) .ret))))
def xk(f0 f1 f2 f3:Nat):AC:=(.o [.K 2 3 0,.K 3 3 1,.G 4 [.z,.emp,.emp]] [2,3,4] (.o [.L 10 3 2,.H 11 f0 10,.M 9 11,.X 12 0 9,.X 13 1 9,.G 5 [.z,.emp],.G 6 [.z,.emp],.S 2 5 12,.S 2 6 13] [3,4,5,6] (.o [.L 15 3 3,.H 16 f0 15,.M 14 16,.X 17 0 14,.X 18 1 14,.G 7 [.z,.emp],.G 8 [.z,.emp],.S 2 7 17,.S 2 8 18] [4,5,6,7,8] (.seq (.y [.L 19 2 5,.L 20 2 8,.D 21 f1 19 20,.L 22 2 7,.L 23 2 6,.D 24 f1 22 23,.D 25 f2 21 24,.L 26 2 6,.L 27 2 8,.D 28 f1 26 27,.D 29 f3 25 28,.S 3 4 29]) .ret))))
def jl(f0 f1:Nat):AC:=(.o [.K 2 3 0,.K 3 3 1,.G 4 [.z,.emp,.emp]] [2,3,4] (.seq (.y [.L 5 3 2,.L 6 3 3,.H 7 f0 6,.D 8 f1 5 7,.S 3 4 8]) .ret))
def Qj(f0 f1 tE:Nat):AC:=(.o [.K 2 2 0,.K 3 2 1,.G 4 [.z,.emp,.emp],.m 5 (.c (.one (.lit .nilIface)))] [2,3,4] (.f (.o [.L 6 2 3,.H 7 f0 6,.I 8 .eql 7 0] [2,3,4,8] (.cond (.t 8) (.seq (.p [.u 9 (.build [.z [.z,.emp,.emp]]),.u 10 (.iface tE (.i 8)),.S 3 4 9,.M 5 10]) .ret) .skip)) [2,3,4] (.seq (.p [.L 11 2 2,.L 12 2 3,.D 13 f1 11 12,.S 3 4 13,.m 5 (.c (.one (.lit .nilIface)))]) .ret)))
theorem YaV{n:Int}:n.sign<0↔n<0:=by
 rcases Int.lt_trichotomy n 0 with h | h | h
 .rw [Int.sign_eq_neg_one_of_neg h];omega
 .subst h;simp
 .rw [Int.sign_eq_one_of_pos h];omega
theorem vr{n d N D:Int}{g:Nat}{m:Bool}(hd:d≠0)(hn:n≠0)(hN:0<=N)(hD:0<=D)(e1:N.natAbs=n.natAbs)(e2:D.natAbs=d.natAbs)(eg:g=Int.gcd n d)(em:m=decide (d.sign*n<0)) :
  AV.agg [.lit (.bool m),zm (zcan (N / (g:Int))),zm (zcan (D / (g:Int)))]=.agg [cb (rcan (Rat.divInt n d)),cn (rcan (Rat.divInt n d)),cd (rcan (Rat.divInt n d))]:=by
 obtain⟨N',rfl⟩:=Int.eq_ofNat_of_zero_le hN;obtain⟨D',rfl⟩:=Int.eq_ofNat_of_zero_le hD;simp only [Int.natAbs_natCast]at e1 e2;subst e1 e2 eg em;rw [Yal,xal,vaA,XE hd hn,QaD,QaD];simp only [zcan];rw [<-Int.natCast_ediv,<-Int.natCast_ediv];simp only [Int.natAbs_natCast]
theorem VaL{v w:Int}{s:Nat}(h:w≠0)(hw:zs w<=s):zs ((Int.gcd v w:Nat):Int)<=s:=by
 refine Nat.le_trans (VX ?_) hw;simp only [Int.natAbs_natCast];exact Nat.le_of_dvd (by omega) (Int.gcd_dvd_natAbs_right _ _)
theorem zR{a b:Int}:ordI a b=0↔a=b:=by unfold ordI;split <;> (try split) <;> omega
theorem Uat{l:List Nat}(h:l≠[]):vldW (false,l)=decide (NZ l):=by unfold vldW;rw [if_neg h]
theorem zv_f{l:List Nat}(h:NZ l):zv (false,l)=(val l:Int):=by
 unfold zv;by_cases e:l=[]
 .subst e;simp [vldW]
 .rw [Uat e];simp [h]
theorem zH(hΓ:Holds P Γ){f fo:Nat}(ho:Γ fo=.dat false YL)(hc:check P f=some (2,(Zh fo).strip,[.cell 0 2 true])):Sound P f (.dat false ko):=by
 refine qa hc qas hΓ (λargs K hcl hfi hG=>?_);match args,hG with
 | [],hG=>
  have hK:=hG;simp only [ko]at hK;refine⟨by simp,?_⟩
  simp only [go_sem,Zh,ho];refine⟨by omega,by omega,hK⟩
theorem xM(hΓ:Holds P Γ){f fv fg fo fc:Nat}(hv:Γ fv=.dat true Wi)(hg:Γ fg=.dat false Yq)(ho:Γ fo=.dat false ko)(hc' : Γ fc=.dat true Xz)(hc:check P f=some (50,(Wh fv fg fo fc).strip,[.tmp 2])):Sound P f (.dat true Xc):=by
 refine qa hc yD hΓ (λargs K hcl hfi hG=>?_);match args,hG with
 | [a],hG=>
  obtain⟨x,rfl,hx,hl,hK⟩:=hG;refine⟨by simp,?_⟩
  simp only [go_sem,Wh,hv,hg,ho,hc',Yal,xal,vaA];have hl1:x.2.1.length<=4294967296:=Nat.le_trans (Nat.le_max_left _ _) hl;have hl2:x.2.2.length<=4294967296:=Nat.le_trans (Nat.le_max_right _ _) hl;have key:x.2.1≠[]->x.2.2≠[]->WL x.2.1/\(vldW (false,x.2.1)=true->WL x.2.2/\(vldW (false,x.2.2)=true->WL x.2.1/\WL x.2.2/\zs (zv (false,x.2.1))<=17179869184/\zs (zv (false,x.2.2))<=17179869184/\
    K (AV.one (C.lit (Value.bool (decide (ordI (((zv (false,x.2.1)).gcd (zv (false,x.2.2)):Nat):Int) 1=0))))))/\(vldW (false,x.2.2)=false->K (AV.one (C.lit (Value.bool false)))))/\(vldW (false,x.2.1)=false->K (AV.one (C.lit (Value.bool false)))):=by
   intro hn hd;unfold vldR at hK;rw [if_neg (λe=>hn e.1)]at hK;rw [Uat hn,Uat hd];refine⟨hx.1,λh1=>⟨hx.2,λh2=>⟨hx.1,hx.2,?_,?_,?_⟩,λh2=>?_⟩,λh1=>?_⟩
   .rw [zv_f (of_decide_eq_true h1),yN,Jc hx.1 (of_decide_eq_true h1)];omega
   .rw [zv_f (of_decide_eq_true h2),yN,Jc hx.2 (of_decide_eq_true h2)];omega
   .rw [zv_f (of_decide_eq_true h1),zv_f (of_decide_eq_true h2)];have e:decide (ordI (((((val x.2.1:Nat):Int)).gcd ((val x.2.2:Nat):Int):Nat):Int) 1=0)=decide (x.2.1≠[]/\x.2.2≠[]/\NZ x.2.1/\NZ x.2.2/\Nat.gcd (val x.2.1) (val x.2.2)=1):=by
     rw [decide_eq_decide,zR,Int.gcd_natCast_natCast];have h1':=of_decide_eq_true h1;have h2':=of_decide_eq_true h2;constructor
     .intro h;exact⟨hn,hd,h1',h2',by omega⟩
     .rintro⟨_,_,_,_,h⟩;omega
    rw [e];exact hK
   .rw [decide_eq_false (λh=>of_decide_eq_false h2 h.2.2.2.1)]at hK;exact hK
   .rw [decide_eq_false (λh=>of_decide_eq_false h1 h.2.2.1)]at hK;exact hK
  have e0:∀{l:List Nat},¬l.length=0->l≠[]:=λh e=>h (by rw [e];rfl)
  have key0:¬(x.2.1=[]/\x.2.2=[])->(x.2.1=[]∨x.2.2=[])->K (AV.one (C.lit (Value.bool false))):=by
   intro h1 h2;unfold vldR at hK;rw [if_neg h1,decide_eq_false (λh=>h2.elim h.1 h.2.1)]at hK;exact hK
  refine λ_=>⟨λhn _=>⟨λhd=>?_,λhd _=>⟨λh=>?_,λh=>absurd hn h⟩⟩,λhn _=>⟨λh=>absurd h hn,λ_ _=>⟨λhd=>?_,λhd=>key (e0 hn) (e0 hd)⟩⟩⟩
  .unfold vldR at hK;rw [if_pos ⟨List.eq_nil_of_length_eq_zero hn,List.eq_nil_of_length_eq_zero hd⟩]at hK;exact hK
  .exact key0 (λh=>e0 hd h.2) (.inl (List.eq_nil_of_length_eq_zero hn))
  .exact key0 (λh=>e0 hn h.1) (.inr (List.eq_nil_of_length_eq_zero hd))
theorem yO(hΓ:Holds P Γ){f fv fo:Nat}(hv:Γ fv=.dat true Xc)(ho:Γ fo=.dat false ko)(hc:check P f=some (28,(qi fv fo).strip,[.cell 2 2 true,.cell 3 2 true])):Sound P f (.dat false qe):=by
 refine qa hc ZD hΓ (λargs K hcl hfi hG=>?_);match args,hG with
 | [a],hG=>
  obtain⟨x,rfl,hx,hl,hK⟩:=hG;refine⟨by simp,?_⟩
  simp only [go_sem,qi,hv,ho,Yal,xal,vaA];have hl1:x.2.1.length<=4294967296:=Nat.le_trans (Nat.le_max_left _ _) hl;have hl2:x.2.2.length<=4294967296:=Nat.le_trans (Nat.le_max_right _ _) hl;have e0:(zcan 0)=(false,[]):=by simp [zcan,Xa]
  have h0:rv x=0->K (AV.tup [AV.agg [C.lit (Value.bool false),C.slice []],AV.agg [zb (zcan 1),zm (zcan 1)]]):=by
   intro h;rw [h]at hK;have e1:((0:Rat).num)=0:=rfl;have e2:((0:Rat).den:Int)=1:=rfl;rw [e1,e2,e0]at hK;exact hK
  refine⟨hx,hl,λhv _=>⟨λhn=>h0 ?_,λhn=>⟨by omega,by omega,?_⟩⟩,λhv=>h0 (yV hv)⟩
  .unfold rv;rw [if_pos hv,List.eq_nil_of_length_eq_zero hn];simp [val,sg]
  .obtain⟨p1,p2,p3,p4,p5,p6⟩:=Xy hx hv (λe=>hn (by rw [e];rfl))
   have hn0:=ub p4 (λe=>hn (by rw [e];rfl))
   rw [p1,p2]at hK;have e1:zcan (sg x.1 (val x.2.1))=(x.1,x.2.1):=by
    rw [<-QG,Jc hx.1 p4];have:decide (0<x.2.1.length)=true:=by simp only [decide_eq_true_eq];omega
    rw [this,Bool.and_true]
   have e2:zcan ((val x.2.2:Nat):Int)=(false,x.2.2):=by
    have:=QG false (val x.2.2);rw [Jc hx.2 p5,Bool.false_and]at this;exact this.symm
   rw [e1,e2]at hK;exact hK
theorem JU(hΓ:Holds P Γ){f fs fn fg fd:Nat}(hs:Γ fs=.dat true Xh)(hn:Γ fn=.dat false Vs)(hg:Γ fg=.dat false Yq)(hd:Γ fd=.dat false wG)(hc:check P f=some (47,(Wj fs fn fg fd).strip,[.cell 4 3 true])):Sound P f (.dat false Zn):=by
 refine qa hc xai hΓ (λargs K hcl hfi hG=>?_);match args,hG with
 | [a,b],hG=>
  obtain⟨v,rfl,hv,w,rfl,hw,hz,hz',h0,hK⟩:=hG;refine⟨by simp,?_⟩
  simp only [go_sem,Wj,hs,hn,hg,hd,hv,hw];generalize zv v=n at *
  generalize zv w=d at *
  have hd0:=h0;refine⟨λh=>?_,λh=>?_⟩
  .rw [Int.sign_eq_zero_iff_zero.1 h,Rat.zero_divInt,Ya]at hK;exact hK
  have hn0:n≠0:=λe=>h (by rw [e];rfl)
  have hg0:((Int.gcd n d:Nat):Int)≠0:=by
   have:=Int.gcd_pos_of_ne_zero_left d hn0;omega
  have hgz:zs ((Int.gcd n d:Nat):Int)<=17179869184:=VaL hd0 hz';simp only [Int.gcd_neg,Int.neg_gcd,X1,YaV];refine⟨λhdn=>⟨by omega,by omega,hz,hz',λhnn=>⟨by omega,hz,hgz,hg0,hz',hgz,hg0,?_⟩,λhnn=>⟨hz,hgz,hg0,hz',hgz,hg0,?_⟩⟩,λhdn=>⟨hz,hz',λhnn=>⟨by omega,hz,hgz,hg0,hz',hgz,hg0,?_⟩,λhnn=>⟨hz,hgz,hg0,hz',hgz,hg0,?_⟩⟩⟩
  .rw [vr hd0 hn0 (by omega) (by omega) (by omega) (by omega) rfl (by rw [decide_eq_decide,Int.sign_eq_neg_one_of_neg hdn];omega)];exact hK
  .rw [vr hd0 hn0 (by omega) (by omega) (by omega) (by omega) rfl (by rw [decide_eq_decide,Int.sign_eq_neg_one_of_neg hdn];omega)];exact hK
  .rw [vr hd0 hn0 (by omega) (by omega) (by omega) (by omega) rfl (by rw [decide_eq_decide,Int.sign_eq_one_of_pos (by omega)];omega)];exact hK
  .rw [vr hd0 hn0 (by omega) (by omega) (by omega) (by omega) rfl (by rw [decide_eq_decide,Int.sign_eq_one_of_pos (by omega)];omega)];exact hK
theorem vaq(hΓ:Holds P Γ){f fo fn ff:Nat}(ho:Γ fo=.dat false YL)(hn:Γ fn=.dat false ko)(hf:Γ ff=.dat false Zn)(hc:check P f=some (7,(Wm fo fn ff).strip,[.cell 2 3 true])):Sound P f (.dat false QE):=by
 refine qa hc XaG hΓ (λargs K hcl hfi hG=>?_);match args,hG with
 | [a],hG=>
  obtain⟨k,n,rfl,rfl,hn1,hn2,hK⟩:=yb hG;refine⟨by simp,?_⟩
  simp only [go_sem,Wm,ho,hn,hf];have e:Rat.divInt n 1=(n:Rat):=Rat.num_divInt_den (n:Rat);rw [e];have h1:zs 1<=2:=zaj (by decide)
  have h2:zs n<=2:=zaj (by omega)
  exact⟨hn1,hn2,by omega,by omega,by decide,hK⟩
theorem vak(hΓ:Holds P Γ){f fp fn ff:Nat}(hp:Γ fp=.dat false qe)(hn:Γ fn=.dat false Vs)(hf:Γ ff=.dat false Zn)(hc:check P f=some (14,(ul fp fn ff).strip,[.cell 2 3 true])):Sound P f (.dat false Ys):=by
 refine qa hc UaA hΓ (λargs K hcl hfi hG=>?_);match args,hG with
 | [a],hG=>
  obtain⟨x,rfl,hx,hl,hK⟩:=hG;refine⟨by simp,?_⟩
  simp only [go_sem,ul,hp,hn,hf,hx];have n1:=Vu hx;have d1:=Qu hx;rw [kay,X1];exact⟨hl,by omega,by omega,by omega,Xq _,hK⟩
theorem wE(hΓ:Holds P Γ){f fp fs:Nat}(hp:Γ fp=.dat false qe)(hs:Γ fs=.dat true Xh)(hc:check P f=some (12,(zg fp fs).strip,[.tmp 2])):Sound P f (.dat true jh):=by
 refine qa hc zah hΓ (λargs K hcl hfi hG=>?_);match args,hG with
 | [a],hG=>
  obtain⟨x,rfl,hx,hl,hK⟩:=hG;refine⟨by simp,?_⟩
  simp only [go_sem,zg,hp,hs,hx];rw [<-Zap];exact⟨hl,hK⟩
theorem Waj(hΓ:Holds P Γ){f fp fm fc:Nat}(hp:Γ fp=.dat false qe)(hm:Γ fm=.dat false Vv)(hc' : Γ fc=.dat true Xz)(hc:check P f=some (26,(uk fp fm fc).strip,[.tmp 4])):Sound P f (.dat true ux):=by
 refine qa hc wan hΓ (λargs K hcl hfi hG=>?_);match args,hG with
 | [a,b],hG=>
  obtain⟨x,rfl,hx,y,rfl,hy,hl,hl',hK⟩:=hG;refine⟨by simp,?_⟩
  simp only [go_sem,uk,hp,hm,hc',hx,hy];have n1:=Vu hx;have d1:=Qu hx;have n2:=Vu hy;have d2:=Qu hy;rw [<-yax];exact⟨hl,hl',by omega,by omega,by omega,by omega,hK⟩
theorem Yaj(hΓ:Holds P Γ){f fp fm fa ff:Nat}(hp:Γ fp=.dat false qe)(hm:Γ fm=.dat false Vv)(ha:Γ fa=.dat false Xs)(hf:Γ ff=.dat false Zn)(hc:check P f=some (30,(xk fp fm fa ff).strip,[.cell 4 3 true])):Sound P f (.dat false Wl):=by
 refine qa hc Zay hΓ (λargs K hcl hfi hG=>?_);match args,hG with
 | [a,b],hG=>
  obtain⟨x,rfl,hx,y,rfl,hy,hl,hl',hK⟩:=hG;refine⟨by simp,?_⟩
  simp only [go_sem,xk,hp,hm,ha,hf,hx,hy];have n1:=Vu hx;have d1:=Qu hx;have n2:=Vu hy;have d2:=Qu hy;rw [Int.natCast_mul,vE];have m1:=Wk (rv x).num (rv y).den;have m2:=Wk (rv y).num (rv x).den;have m3:=Wk ((rv x).den:Int) (rv y).den;have a1:=VJ ((rv x).num*(rv y).den) ((rv y).num*(rv x).den);exact⟨hl,hl',by omega,by omega,by omega,by omega,by omega,by omega,by omega,by omega,by omega,by omega,Int.mul_ne_zero (Xq _) (Xq _),hK⟩
theorem Jak(hΓ:Holds P Γ){f fn fa:Nat}(hn:Γ fn=.dat false Ys)(ha:Γ fa=.dat false Wl)(hc:check P f=some (9,(jl fn fa).strip,[.cell 4 3 true])):Sound P f (.dat false Un):=by
 refine qa hc XaA hΓ (λargs K hcl hfi hG=>?_);match args,hG with
 | [a,b],hG=>
  obtain⟨x,rfl,hx,y,rfl,hy,hl,hl',hK⟩:=hG;refine⟨by simp,?_⟩
  simp only [go_sem,jl,hn,ha,hx,hy];rw [<-Rat.sub_eq_add_neg,Ws];exact⟨hl',hl,Nat.le_trans (Wn hy) hl',hK⟩
end Go.Abs
end
section
namespace Go.Num
theorem Xar(l:List Nat)(m:Nat):val l=val (l.take m)+4294967296 ^ m*val (l.drop m):=by
 by_cases h:m<=l.length
 .conv=>lhs;rw [<-List.take_append_drop m l,kb,List.length_take,Nat.min_eq_left h]
 .rw [List.take_of_length_le (by omega),List.drop_of_length_le (by omega)];simp [val]
theorem jy(l:List Nat)(m:Nat):val (l.drop m)=l.getD m 0+4294967296*val (l.drop (m+1)):=by
 by_cases h:m<l.length
 .have:=Vz l (n:=m+1) (by omega) (by omega)
  exact this
 .rw [List.drop_of_length_le (by omega),List.drop_of_length_le (by omega),List.getD_eq_getElem?_getD,List.getElem?_eq_none (by omega)];simp [val]
theorem VaP{l:List Nat}(h:WL l)(m:Nat):val (l.take m)<4294967296 ^ m:=
 Nat.lt_of_lt_of_le (Vh (uo h m)) (Nat.pow_le_pow_right (by omega) (by rw [List.length_take];omega))
theorem JaJ{x y:List Nat}{m:Nat}(hx:WL x)(hd:val (x.drop (m+1))=val (y.drop (m+1)))(h:x.getD m 0<y.getD m 0):val x<val y:=by
 have h1:=Xar x m;have h2:=Xar y m;have h3:=VaP hx m;rw [jy,hd]at h1;rw [jy]at h2;generalize 4294967296 ^ m=p at *
 have:p*(x.getD m 0+4294967296*val (y.drop (m+1))+1)<=p*(y.getD m 0+4294967296*val (y.drop (m+1))):=Nat.mul_le_mul_left _ (by omega)
 rw [Nat.mul_add p _ 1]at this;omega
theorem qM{x y c:Nat}(hx:x<4294967296)(hy:y<4294967296)(hc:c<=1):∃s:Nat,((((4294967296+(x:Int)) % 18446744073709551616-(y:Int)) % 18446744073709551616-(c:Int)) % 18446744073709551616)=(s:Int)/\
  (1-(s:Int) / 4294967296) % 18446744073709551616=((1-s / 4294967296:Nat):Int)/\s % 4294967296+y+c=x+4294967296*(1-s / 4294967296)/\1-s / 4294967296<=1:=by
 exact⟨4294967296+x-y-c,by omega,by omega,by omega,by omega⟩
theorem XaD{V Q c xa ya a b u w B:Nat}(h:V+Q*c=xa+ya)(hs:u+B*w=a+b+c):V+Q*u+Q*B*w=xa+Q*a+(ya+Q*b):=by
 have:=congrArg (Q * ·) hs;simp only [Nat.mul_add]at this;rw [Nat.mul_assoc Q B w];omega
theorem Uaw{o l post:List Nat}(h:o.length<=l.length):(o++(l.drop o.length++post)).length=l.length+post.length:=by simp;omega
theorem ZY{o l post:List Nat}(h:o.length<=l.length):(o++(l.drop o.length++post)).take l.length=o++l.drop o.length:=by
 rw [<-List.append_assoc,List.take_append_of_le_length (by simp;omega),List.take_of_length_le (by simp;omega)]
theorem W2(o l:List Nat)(k:Nat):(o++l.drop o.length).getD (o.length+k) 0=l.getD (o.length+k) 0:=by
 simp only [List.getD_eq_getElem?_getD];rw [List.getElem?_append_right (by omega),List.getElem?_drop,show o.length+(o.length+k-o.length)=o.length+k by omega]
theorem jY(o l:List Nat):(o++l.drop o.length).getD o.length 0=l.getD o.length 0:=W2 o l 0
theorem kaq{o l post:List Nat}(v:Nat)(h:o.length<l.length):(o++(l.drop o.length++post)).set o.length v=(o++[v])++(l.drop (o++[v]).length++post):=by
 have:=QY [] o l post v h;simpa using this
theorem qaU{o l:List Nat}(ho:WL o)(hl:WL l):WL (o++l.drop o.length):=uc.2 ⟨ho,WaR hl _⟩
theorem WaH{a b:Nat}(ha:a<4294967296)(hb:b<4294967296):(a / 2 ||| b*2147483648 % 18446744073709551616) % 4294967296=(a+4294967296*b) / 2 ^ 1 % 4294967296:=by
 have:=Nat.two_pow_add_eq_or_of_lt (i:=31) (b:=a / 2) (by omega) b
 rw [Nat.mod_eq_of_lt (show b*2147483648<18446744073709551616 by omega),Nat.or_comm,show b*2147483648=2 ^ 31*b by omega,<-this]
 omega
theorem Xav{l post:List Nat}{i:Nat}(h:i<l.length):(l++post).getD i 0=l.getD i 0:=by
 simp only [List.getD_eq_getElem?_getD];rw [List.getElem?_append_left h]
theorem Jg{a:Nat}(h:a≠0):0<(digs a).length:=by rw [Uj h];simp
theorem vn{a:Nat}(h:a≠0)(p:List Nat):(digs a++p).getD 0 0=a % 4294967296:=by rw [Uj h];rfl
theorem Xn{a:Nat}:(digs a).length=0↔a=0:=by rw [List.length_eq_zero_iff,Jd]
theorem Ja5{a b k g:Nat}(ha:a % 2=0)(hb:b % 2=0)(h:Nat.gcd a b*2 ^ k=g):Nat.gcd (a / 2) (b / 2)*2 ^ (k+1)=g:=by
 obtain⟨a',rfl⟩:∃a',a=2*a':=⟨a / 2,by omega⟩
 obtain⟨b',rfl⟩:∃b',b=2*b':=⟨b / 2,by omega⟩
 rw [Nat.gcd_mul_left]at h;rw [Nat.mul_div_cancel_left _ (by omega),Nat.mul_div_cancel_left _ (by omega),Nat.pow_succ,<-h]
 rw [Nat.mul_comm (2 ^ k) 2,<-Nat.mul_assoc,Nat.mul_comm _ 2]
theorem Qaz{a b:Nat}(ha:a % 2=0)(hb:b % 2≠0):Nat.gcd (a / 2) b=Nat.gcd a b:=by
 obtain⟨a',rfl⟩:∃a',a=2*a':=⟨a / 2,by omega⟩
 rw [Nat.mul_div_cancel_left _ (by omega)]
 have:Nat.Coprime 2 b:=by
  rw [Nat.coprime_iff_gcd_eq_one,Nat.gcd_rec,show b % 2=1 by omega];rfl
 exact(Nat.Coprime.gcd_mul_left_cancel a' this).symm
theorem qaL{a b:Nat}(ha:a % 2≠0)(hb:b % 2=0):Nat.gcd a (b / 2)=Nat.gcd a b:=by
 rw [Nat.gcd_comm a,Nat.gcd_comm a];exact Qaz hb ha
theorem XJ{a b:Nat}(h:b<=a):Nat.gcd (a-b) b=Nat.gcd a b:=Nat.gcd_sub_self_left h
theorem waP{k n:Nat}(h:2 ^ k<=n){s:Nat}(hn:n<4294967296 ^ s):k<32*s:=by
 have e:(4294967296:Nat) ^ s=2 ^ (32*s):=by rw [Nat.pow_mul]
 rw [e]at hn;exact(Nat.pow_lt_pow_iff_right (by omega)).1 (Nat.lt_of_le_of_lt h hn)
theorem uy{a b:Nat}:ordN a b<0↔a<b:=by unfold ordN;split <;> (try split) <;> omega
end Go.Num
namespace Go.Abs
open Go.Num
theorem share4{c1 c2 c3 p d1 d2 d3 q X L:Prop}(h1:c1)(h2:c2)(h3:c3)(k1:d1)(k2:d2)(k3:d3)(hx:p->q->X)(hl:¬p∨¬q->L):c1/\c2/\c3/\(p->d1/\d2/\d3/\(q->X)/\(¬q->L))/\(¬p->L):=
 ⟨h1,h2,h3,λhp=>⟨k1,k2,k3,hx hp,λhq=>hl (.inr hq)⟩,λhp=>hl (.inl hp)⟩
theorem uh(K:AV->Prop)(a:Nat):arith K .and .u32 (a:Int) 1=(a<2 ^ IntKind.u32.bits/\intR K .u32 ((a % 2:Nat):Int)):=qah K .u32 a rfl (by decide)
theorem jS{h' : Nat->HB}{k v v' z:Nat}{b:Bool}{es:List (List C)}{l' : List Nat}{r:List (Nat×HB)}(e:es=l'.map wc):okH (mkH ((k,⟨v,some ⟨es,z,b⟩⟩)::r)) h' [(k,⟨v',some ⟨l'.map wc,z,b⟩⟩)]:=by
 subst e;exact ue rfl
theorem yaB{h h' : Nat->HB}{z:Nat}{b:Bool}{es:List (List C)}{l' : List Nat}(e:es=l'.map wc):okB h h' (some ⟨es,z,b⟩) (some ⟨l'.map wc,z,b⟩):=by
 subst e;exact ua rfl
theorem yaz(L:List Nat)(i s:Nat):(L.map wc).set i [C.lit (.int .u32 ((s:Int) % 4294967296))]=(L.set i (s % 4294967296)).map wc:=by
 rw [List.map_set];simp [wc]
def onWx(k:List Nat->Prop)(a:AV):Prop:=∃l,(a=.one (ws l)∨a=.one (.full (l.map wc))∨(a=.one .emp/\l=[]))/\WL l/\k l
@[congr] theorem ybb{k:List Nat->Prop}{a a'}(h:a=a'):onWx k a=onWx k a':=by subst h;rfl
theorem uS(k:List Nat->Prop)(l:List Nat):onWx k (.one (.slice (l.map wc)))=(WL l/\k l):=by
 refine propext ⟨λ⟨x,h,h1,h2⟩=>?_,λh=>⟨l,.inl rfl,h⟩⟩;rcases h with h | h | h
 .have:=xo l x h;subst this;exact⟨h1,h2⟩
 .simp at h
 .simp at h
theorem Yaw(k:List Nat->Prop)(l:List Nat):onWx k (.one (.full (l.map wc)))=(WL l/\k l):=by
 refine propext ⟨λ⟨x,h,h1,h2⟩=>?_,λh=>⟨l,.inr (.inl rfl),h⟩⟩;rcases h with h | h | h
 .simp [ws]at h
 .have:=xG (x:=l) (y:=x) (by simpa using h);subst this;exact⟨h1,h2⟩
 .simp at h
theorem kar(k:List Nat->Prop):onWx k (.one .emp)=k []:=by
 refine propext ⟨λ⟨x,h,h1,h2⟩=>?_,λh=>⟨[],.inr (.inr ⟨rfl,rfl⟩),Ub,h⟩⟩;rcases h with h | h | h
 .simp [ws]at h
 .simp at h
 .obtain⟨_,rfl⟩:=h;exact h2
attribute [go_sem,go_sem ↓] uS Yaw kar
theorem Ya1{β:Type}{T:List Nat->(β->Prop)->Prop}(h:∀l,GoodT (T l)){a:AV}:GoodT λK=>onWx (λl=>T l K) a:=
 .of λK hx=>by
  obtain⟨l,ha,hw,hk⟩:=hx;rcases ha with ha | ha | ⟨ha,rfl⟩
  .have:(λK=>onWx (λl=>T l K) a)=λK=>WL l/\T l K:=funext λK=>by rw [ha];exact uS _ l
   rw [this];exact .and λ_=>h l
  .have:(λK=>onWx (λl=>T l K) a)=λK=>WL l/\T l K:=funext λK=>by rw [ha];exact Yaw _ l
   rw [this];exact .and λ_=>h l
  .have:(λK=>onWx (λl=>T l K) a)=T []:=funext λK=>by rw [ha];exact kar _
   rw [this];exact h []
def ju:q_F:=q_c1 λa K=>onWx (λl=>l.length<=68719476736/\K ((digs (val l)).map wc)) a
theorem Yao:Good ju:=q_g1 λ_=>(Ya1 λ_=>(.and λ_=>(.ret _)))
def Wt:q_T:=q_c2 λa b K=>onWs (λx=>onWs (λy=>K (.one (.lit (.int .i64 (ordN (val x) (val y)))))) b) a
theorem Qai:Good Wt:=q_g2 λ_ _=>(xf λ_=>(xf λ_=>(.ret _)))
def Jw:q_T:=q_c2 λa b K=>onWs (λx=>onWs (λy=>x.length<=17179869184/\y.length<=17179869184/\K (.one (.slice ((digs (Nat.gcd (val x) (val y))).map wc)))) b) a
theorem Zaj:Good Jw:=q_g2 λ_ _=>(xf λ_=>(xf λ_=>(.and λ_=>(.and λ_=>(.ret _)))))
def YF:q_T:=q_c2 λa b K=>onW (λv=>onW (λw=>zs (zv v)<=17179869184/\zs (zv w)<=17179869184/\K (.agg [zb (zcan (zv v-zv w)),zm (zcan (zv v-zv w))])) b) a
theorem zar:Good YF:=q_g2 λ_ _=>(yk λ_=>(yk λ_=>(.and λ_=>(.and λ_=>(.ret _)))))
def kr:q_T:=q_c2 λa b K=>onW (λv=>onW (λw=>zs (zv v)<=17179869184/\zs (zv w)<=17179869184/\zs (zv v-zv w)<=17179869184/\K (.one (.lit (.int .i64 (ordI (zv v) (zv w)))))) b) a
theorem YW:Good kr:=q_g2 λ_ _=>(yk λ_=>(yk λ_=>(.and λ_=>(.and λ_=>(.and λ_=>(.ret _))))))
attribute [go_sem] ju Wt Jw YF kr
def VR(d:Option Nat)(args:List AV)(h:Nat->HB)(K:AV->(Nat->HB)->Prop):Prop:=
 match args with
 | [.one (.own r ver 1 0 len)]=>∃l post,len=l.length/\h r=⟨ver,some ⟨(l++post).map wc,1,true⟩⟩/\WL l/\len<=68719476736/\
   ∀post',K (.one (.own r ver 1 0 (digs (val l)).length)) (upd h r ⟨ver,some ⟨(digs (val l)++post').map wc,1,true⟩⟩)
 | _=>False
@[congr] theorem vbd {d:Option Nat} {l l' : List AV} {h h' : Nat->HB} {K:AV->(Nat->HB)->Prop} (e1:l=l') (e2:h=h'):VR d l h K=VR d l' h' K:=by subst e1;subst e2;rfl
def Vj(d:Option Nat)(args:List AV)(h:Nat->HB)(K:AV->(Nat->HB)->Prop):Prop:=
 match args with
 | [.one (.own r ver 1 0 len)]=>∃l post,len=l.length/\h r=⟨ver,some ⟨(l++post).map wc,1,true⟩⟩/\WL l/\len<=68719476736/\
   ∀post',K (.one (.own r ver 1 0 (digs (val l / 2)).length)) (upd h r ⟨ver,some ⟨(digs (val l / 2)++post').map wc,1,true⟩⟩)
 | _=>False
@[congr] theorem ka8 {d:Option Nat} {l l' : List AV} {h h' : Nat->HB} {K:AV->(Nat->HB)->Prop} (e1:l=l') (e2:h=h'):Vj d l h K=Vj d l' h' K:=by subst e1;subst e2;rfl
def Uq(d:Option Nat)(args:List AV)(h:Nat->HB)(K:AV->(Nat->HB)->Prop):Prop:=
 match args with
 | [.one (.own r ver 1 0 len),.one (.own r2 ver2 1 0 len2)]=>∃l post y posty,r≠r2/\len=l.length/\h r=⟨ver,some ⟨(l++post).map wc,1,true⟩⟩/\WL l/\len<=68719476736/\
   len2=y.length/\h r2=⟨ver2,some ⟨(y++posty).map wc,1,true⟩⟩/\WL y/\val y<=val l/\
   K (.tup []) (upd (upd h r2 ⟨ver2,some ⟨(y++posty).map wc,1,true⟩⟩) r ⟨ver,some ⟨(dig l.length (val l-val y)++post).map wc,1,true⟩⟩)
 | [.one (.own r ver 1 0 len),b]=>onWs (λy=>∃l post,len=l.length/\h r=⟨ver,some ⟨(l++post).map wc,1,true⟩⟩/\WL l/\len<=68719476736/\val y<=val l/\
   K (.tup []) (upd h r ⟨ver,some ⟨(dig l.length (val l-val y)++post).map wc,1,true⟩⟩)) b
 | _=>False
@[congr] theorem xba {d:Option Nat} {l l' : List AV} {h h' : Nat->HB} {K:AV->(Nat->HB)->Prop} (e1:l=l') (e2:h=h'):Uq d l h K=Uq d l' h' K:=by subst e1;subst e2;rfl
end Go.Abs
end
section
namespace Go.Abs
open Go.Num
variable {P:Program} {Γ:Nat->Spec}
def yd(f0 f1 f2 f3:Nat):AC:=(.o [.K 1 3 0,.m 2 .fa] [1] (.f (.o [.A 3 1 1,.F 4 1 3,.Z 5 4,.I 6 .eql 5 0,.M 7 6,.T 8 7 true 2 1,.U 9 7 true 1 false 8,.w 10 7 true (.len (.t 9)),.w 11 7 true (.bin .eql (.t 10) (.i 0)),.P 12 7 11] [1,12] (.cond (.t 12) (.seq (.p [.A 13 0 1,.F 14 1 13,.u 15 (.un .not (.t 14)),.M 2 15]) .ret) .skip)) [1] (.seq (.p [.A 16 1 1,.F 17 1 16,.H 18 f0 17,.M 19 18,.T 20 19 true 2 1,.U 21 19 true 1 false 20,.W 22 19 true f0 21,.P 23 19 22,.M 24 23,.T 25 24 true 1 1,.U 26 24 true 1 false 25,.w 27 24 true (.build [.z [.z],.x 1 (.t 26)]),.T 28 24 true 2 1,.U 29 24 true 1 false 28,.w 30 24 true (.build [.z [.z],.x 1 (.t 29)]),.Y 31 24 true f1 27 30,.w 32 24 true (.call f2 []),.Y 33 24 true f3 31 32,.w 34 24 true (.bin .eql (.t 33) (.i 0)),.P 35 24 34,.M 2 35]) .ret)))
def xd(f0 f1:Nat):AC:=(.o [.K 1 3 0,.G 2 [.z,.emp],.G 3 [.z,.emp]] [1,2,3] (.f (.o [.L 4 3 1,.H 5 f0 4,.u 6 (.un .not (.t 5)),.M 7 6,.T 8 7 false 1 1,.U 9 7 false 1 false 8,.w 10 7 false (.len (.t 9)),.w 11 7 false (.bin .eql (.t 10) (.i 0)),.Q 12 7 11] [1,2,3,12] (.cond (.t 12) (.seq (.p [.u 13 (.build [.z [.z,.emp]]),.u 14 (.call f1 []),.S 2 2 13,.S 2 3 14]) .ret) .skip)) [1,2,3] (.seq (.y [.A 15 0 1,.u 16 (.ld (some 1) 1 false (.t 15)),.A 17 1 1,.u 18 (.ld (some 1) 1 false (.t 17)),.u 19 (.build [.x 1 (.t 16),.x 1 (.t 18)]),.A 20 2 1,.u 21 (.ld (some 1) 1 false (.t 20)),.u 22 (.build [.z [.z],.x 1 (.t 21)]),.n (.st (some 2) 2 (.t 2) (.t 19)),.n (.st (some 3) 2 (.t 3) (.t 22))]) .ret)))
def Yd:AC:=(.o [.m 2 .fa] [0] (.seq (.p [.M 3 0,.Z 4 3,.I 5 .gtr 4 0,.M 6 5,.V 7 6 true 0,.V 8 6 true 0,.w 9 6 true (.len (.t 8)),.w 10 6 true (.bin .sub (.t 9) (.i 1)),.w 11 6 true (.idx 1 (.t 7) (.t 10)),.U 12 6 true 1 false 11,.w 13 6 true (.bin .neq (.t 12) (.c (.one (.lit (.int .u32 0))))),.P 14 6 13,.M 2 14]) .ret))
theorem UE(hΓ:Holds P Γ){f:Nat}(hc:check P f=some (15,Yd.strip,[.tmp 2])):Sound P f (.dat true js):=by
 refine qa hc YX hΓ (λargs K hcl hfi hG=>?_);match args,hG with
 | [a],hG=>
  obtain⟨l,rfl,hl,hK⟩:=hG;refine⟨by simp,?_⟩
  simp only [go_sem,Yd];intro _;refine⟨λh _=>⟨by omega,by omega,by omega,?_⟩,λh=>?_⟩
  .have hne:l≠[]:=λe=>by rw [e]at h;simp at h
   rw [show((l.length:Int)-1).toNat=l.length-1 by omega]
   have e:(!decide (l.getD (l.length-1) 0=0))=decide (l≠[]/\NZ l):=by
    rw [<-decide_not,decide_eq_decide];unfold NZ;rw [List.getLast?_eq_getElem?,List.getElem?_eq_getElem (by omega),List.getD_eq_getElem?_getD,List.getElem?_eq_getElem (by omega)]
    simp [hne]
   rw [e];exact hK
  .have hne:l=[]:=List.eq_nil_of_length_eq_zero (by omega)
   rw [decide_eq_false (λe=>e.1 hne)]at hK;exact hK
theorem zF(hΓ:Holds P Γ){f fv fg fo fc:Nat}(hv:Γ fv=.dat true js)(hg:Γ fg=.dat false Yq)(ho:Γ fo=.dat false ko)(hc' : Γ fc=.dat true kr)(hc:check P f=some (36,(yd fv fg fo fc).strip,[.tmp 2])):Sound P f (.dat true Xc):=by
 refine qa hc yD hΓ (λargs K hcl hfi hG=>?_);match args,hG with
 | [a],hG=>
  obtain⟨x,rfl,hx,hl,hK⟩:=hG;refine⟨by simp,?_⟩
  simp only [go_sem,yd,hv,hg,ho,hc',Yal,xal,vaA];have hl1:x.2.1.length<=4294967296:=Nat.le_trans (Nat.le_max_left _ _) hl;have hl2:x.2.2.length<=4294967296:=Nat.le_trans (Nat.le_max_right _ _) hl;have e0:∀{l:List Nat},¬l.length=0->l≠[]:=λh e=>h (by rw [e];rfl)
  have key:¬(x.2.1=[]/\x.2.2=[])->WL x.2.1/\(x.2.1≠[]/\NZ x.2.1->WL x.2.2/\(x.2.2≠[]/\NZ x.2.2->WL x.2.1/\WL x.2.2/\zs (zv (false,x.2.1))<=17179869184/\zs (zv (false,x.2.2))<=17179869184/\
    zs (((zv (false,x.2.1)).gcd (zv (false,x.2.2)):Nat):Int)<=17179869184/\zs 1<=17179869184/\zs ((((zv (false,x.2.1)).gcd (zv (false,x.2.2)):Nat):Int)-1)<=17179869184/\
    K (AV.one (C.lit (Value.bool (decide (ordI (((zv (false,x.2.1)).gcd (zv (false,x.2.2)):Nat):Int) 1=0))))))/\(¬(x.2.2≠[]/\NZ x.2.2)->K (AV.one (C.lit (Value.bool false)))))/\(¬(x.2.1≠[]/\NZ x.2.1)->K (AV.one (C.lit (Value.bool false)))):=by
   intro hnd;unfold vldR at hK;rw [if_neg hnd]at hK;refine⟨hx.1,λh1=>⟨hx.2,λh2=>?_,λh2=>?_⟩,λh1=>?_⟩
   .have s2:zs (zv (false,x.2.2))<=4294967296:=by rw [zv_f h2.2,yN,Jc hx.2 h2.2];exact hl2
    have hne:zv (false,x.2.2)≠0:=by
     rw [zv_f h2.2];have:=ub h2.2 h2.1;omega
    have s3:=VaL (v:=zv (false,x.2.1)) hne s2;have s4:zs 1<=2:=zaj (by decide)
    have s5:=VJ ((((zv (false,x.2.1)).gcd (zv (false,x.2.2)):Nat):Int)) (-1);rw [X1,<-Int.sub_eq_add_neg]at s5;refine⟨hx.1,hx.2,?_,by omega,by omega,by omega,by omega,?_⟩
    .rw [zv_f h1.2,yN,Jc hx.1 h1.2];omega
    .rw [zv_f h1.2,zv_f h2.2];have e:decide (ordI (((((val x.2.1:Nat):Int)).gcd ((val x.2.2:Nat):Int):Nat):Int) 1=0)=decide (x.2.1≠[]/\x.2.2≠[]/\NZ x.2.1/\NZ x.2.2/\Nat.gcd (val x.2.1) (val x.2.2)=1):=by
      rw [decide_eq_decide,zR,Int.gcd_natCast_natCast];constructor
      .intro h;exact⟨h1.1,h2.1,h1.2,h2.2,by omega⟩
      .rintro⟨_,_,_,_,h⟩;omega
     rw [e];exact hK
   .rw [decide_eq_false (λh=>h2 ⟨h.2.1,h.2.2.2.1⟩)]at hK;exact hK
   .rw [decide_eq_false (λh=>h1 ⟨h.1,h.2.2.1⟩)]at hK;exact hK
  refine λ_=>⟨λhn _=>⟨λhd=>?_,λhd=>key (λh=>e0 hd h.2)⟩,λhn=>key (λh=>e0 hn h.1)⟩;unfold vldR at hK;rw [if_pos ⟨List.eq_nil_of_length_eq_zero hn,List.eq_nil_of_length_eq_zero hd⟩]at hK;exact hK
theorem qF(hΓ:Holds P Γ){f fv fo:Nat}(hv:Γ fv=.dat true Xc)(ho:Γ fo=.dat false ko)(hc:check P f=some (23,(xd fv fo).strip,[.cell 2 2 true,.cell 3 2 true])):Sound P f (.dat false qe):=by
 refine qa hc ZD hΓ (λargs K hcl hfi hG=>?_);match args,hG with
 | [a],hG=>
  obtain⟨x,rfl,hx,hl,hK⟩:=hG;refine⟨by simp,?_⟩
  simp only [go_sem,xd,hv,ho,Yal,xal,vaA];have hl1:x.2.1.length<=4294967296:=Nat.le_trans (Nat.le_max_left _ _) hl;have hl2:x.2.2.length<=4294967296:=Nat.le_trans (Nat.le_max_right _ _) hl;have e0:(zcan 0)=(false,[]):=by simp [zcan,Xa]
  have h0:rv x=0->K (AV.tup [AV.agg [C.lit (Value.bool false),C.slice []],AV.agg [zb (zcan 1),zm (zcan 1)]]):=by
   intro h;rw [h]at hK;have e1:((0:Rat).num)=0:=rfl;have e2:((0:Rat).den:Int)=1:=rfl;rw [e1,e2,e0]at hK;exact hK
  refine⟨hx,hl,λhv _=>⟨λhn=>h0 ?_,λhn=>?_⟩,λhv=>h0 (yV hv)⟩
  .unfold rv;rw [if_pos hv,List.eq_nil_of_length_eq_zero hn];simp [val,sg]
  .obtain⟨p1,p2,p3,p4,p5,p6⟩:=Xy hx hv (λe=>hn (by rw [e];rfl))
   have hn0:=ub p4 (λe=>hn (by rw [e];rfl))
   rw [p1,p2]at hK;have e1:zcan (sg x.1 (val x.2.1))=(x.1,x.2.1):=by
    rw [<-QG,Jc hx.1 p4];have:decide (0<x.2.1.length)=true:=by simp only [decide_eq_true_eq];omega
    rw [this,Bool.and_true]
   have e2:zcan ((val x.2.2:Nat):Int)=(false,x.2.2):=by
    have:=QG false (val x.2.2);rw [Jc hx.2 p5,Bool.false_and]at this;exact this.symm
   rw [e1,e2]at hK;exact hK
end Go.Abs
end
section
namespace Go.Num
open Go.Abs
theorem rz_0:rz 0=0:=by unfold rz;rw [Ya];rfl
theorem rz_1:rz 1<=2:=by
 have:=ZaO 1;have h1:zs 1<=2:=zaj (by decide)
 have e:((1:Int):Rat)=1:=rfl;rw [e]at this;omega
theorem ze(p q:Rat):rz (p*q)<=rz p+rz q+2:=by
 rw [<-Uz];have n1:=kC p;have n2:=kC q;have d1:=uC p;have d2:=uC q;have m1:=Wk p.num q.num;have m2:=Wk (p.den:Int) (q.den:Int);refine XA (by exact Int.mul_ne_zero (Xq _) (Xq _)) (by omega) (by omega)
theorem kE{p q:Rat}(hq:q≠0):Rat.divInt (p.num*q.den) (p.den*q.num)=p / q:=by
 have hn:q.num≠0:=UR hq;have e1:(p.num:Rat) / (p.den:Rat)=p:=by have:=Rat.num_divInt_den p;rw [Rat.divInt_eq_div]at this;exact this
 have e2:(q.num:Rat) / (q.den:Rat)=q:=by have:=Rat.num_divInt_den q;rw [Rat.divInt_eq_div]at this;exact this
 have d1:(p.den:Rat)≠0:=by exact_mod_cast p.den_nz
 have d2:(q.den:Rat)≠0:=by exact_mod_cast q.den_nz
 have d3:(q.num:Rat)≠0:=by exact_mod_cast hn
 rw [Rat.divInt_eq_div];simp only [Rat.intCast_mul,Rat.intCast_natCast];have f1:(p.num:Rat)=p*(p.den:Rat):=by grind
 have f2:(q.num:Rat)=q*(q.den:Rat):=by grind
 rw [f1,f2];grind
theorem zC(p q:Rat):rz (p / q)<=rz p+rz q+2:=by
 by_cases hq:q=0
 .subst hq;rw [Rat.div_def,Rat.inv_zero,Rat.mul_zero,rz_0];omega
 .rw [<-kE hq];have n1:=kC p;have n2:=kC q;have d1:=uC p;have d2:=uC q;have m1:=Wk p.num (q.den:Int);have m2:=Wk (p.den:Int) q.num;refine XA (by exact Int.mul_ne_zero (Xq _) (UR hq)) (by omega) (by omega)
theorem Wa2(p q:Rat):Rat.divInt (p.num*q.den) (p.den*q.num)=p / q:=by
 by_cases hq:q=0
 .subst hq;rw [show(0:Rat).num=0 from rfl,Int.mul_zero,Rat.divInt_zero,Rat.div_def,Rat.inv_zero,Rat.mul_zero]
 .exact kE hq
end Go.Num
namespace Go.Abs
open Go.Num
variable {P:Program} {Γ:Nat->Spec}
def rQ(q:Rat):AV:=.agg [cb (rcan q),cn (rcan q),cd (rcan q)]
theorem VQ(q:Rat):rQ q=.agg [cb (rcan q),cn (rcan q),cd (rcan q)]:=eq_of_heq (HEq.refl _)
attribute [go_sem,go_sem ↓] VQ
def Zq:q_T:=q_c2 λa b K=>onR (λx=>onR (λy=>rl x<=4294967296/\rl y<=4294967296/\K (rQ (rv x*rv y))) b) a
theorem Jam:Good Zq:=q_g2 λ_ _=>(Js λ_=>(Js λ_=>(.and λ_=>(.and λ_=>(.ret _)))))
def Vr(tE:Nat):q_T:=q_c2 λa b K=>onW (λv=>onW (λw=>zs (zv v)<=17179869184/\zs (zv w)<=17179869184/\K (.tup [rQ (Rat.divInt (zv v) (zv w)),errV tE (if zv w=0 then 8 else 0)])) b) a
theorem qU(tE:Nat):Good (Vr tE):=q_g2 λ_ _=>(yk λ_=>(yk λ_=>(.and λ_=>(.and λ_=>(.ret _)))))
def Zp(tE:Nat):q_T:=q_c2 λa b K=>onR (λx=>onR (λy=>rl x<=4294967296/\rl y<=4294967296/\K (.tup [rQ (rv x / rv y),errV tE (if rv y=0 then 8 else 0)])) b) a
theorem Qak(tE:Nat):Good (Zp tE):=q_g2 λ_ _=>(Js λ_=>(Js λ_=>(.and λ_=>(.and λ_=>(.ret _)))))
attribute [go_sem] Zq Vr Zp
def Zl(f0 f1 f2:Nat):AC:=(.o [.K 2 3 0,.K 3 3 1,.G 4 [.z,.emp,.emp]] [2,3,4] (.o [.L 10 3 2,.H 11 f0 10,.M 9 11,.X 12 0 9,.X 13 1 9,.G 5 [.z,.emp],.G 6 [.z,.emp],.S 2 5 12,.S 2 6 13] [3,4,5,6] (.o [.L 15 3 3,.H 16 f0 15,.M 14 16,.X 17 0 14,.X 18 1 14,.G 7 [.z,.emp],.G 8 [.z,.emp],.S 2 7 17,.S 2 8 18] [4,5,6,7,8] (.seq (.y [.L 19 2 5,.L 20 2 7,.D 21 f1 19 20,.L 22 2 6,.L 23 2 8,.D 24 f1 22 23,.D 25 f2 21 24,.S 3 4 25]) .ret))))
def zl(f0 f1 f2:Nat):AC:=(.o [.K 2 3 0,.K 3 3 1,.G 4 [.z,.emp,.emp],.m 5 (.c (.one (.lit .nilIface)))] [2,3,4] (.o [.L 11 3 2,.H 12 f0 11,.M 10 12,.X 13 0 10,.X 14 1 10,.G 6 [.z,.emp],.G 7 [.z,.emp],.S 2 6 13,.S 2 7 14] [3,4,6,7] (.o [.L 16 3 3,.H 17 f0 16,.M 15 17,.X 18 0 15,.X 19 1 15,.G 8 [.z,.emp],.G 9 [.z,.emp],.S 2 8 18,.S 2 9 19] [4,6,7,8,9] (.seq (.y [.L 20 2 6,.L 21 2 9,.D 22 f1 20 21,.L 23 2 7,.L 24 2 8,.D 25 f1 23 24,.D 26 f2 22 25,.X 27 0 26,.X 28 1 26,.S 3 4 27,.M 5 28]) .ret))))
theorem yag(hΓ:Holds P Γ){f fp fm ff:Nat}(hp:Γ fp=.dat false qe)(hm:Γ fm=.dat false Vv)(hf:Γ ff=.dat false Zn)(hc:check P f=some (26,(Zl fp fm ff).strip,[.cell 4 3 true])):Sound P f (.dat false Zq):=by
 refine qa hc Jam hΓ (λargs K hcl hfi hG=>?_);match args,hG with
 | [a,b],hG=>
  obtain⟨x,rfl,hx,y,rfl,hy,hl,hl',hK⟩:=hG;refine⟨by simp,?_⟩
  simp only [go_sem,Zl,hp,hm,hf,hx,hy];have n1:=Vu hx;have d1:=Qu hx;have n2:=Vu hy;have d2:=Qu hy;have m1:=Wk (rv x).num (rv y).num;have m3:=Wk ((rv x).den:Int) (rv y).den;rw [Int.natCast_mul,Uz];exact⟨hl,hl',by omega,by omega,by omega,by omega,by omega,by omega,Int.mul_ne_zero (Xq _) (Xq _),hK⟩
theorem uM(hΓ:Holds P Γ){f fs ff tE:Nat}(hs:Γ fs=.dat true Xh)(hf:Γ ff=.dat false Zn)(hc:check P f=some (14,(Qj fs ff tE).strip,[.cell 4 3 true,.tmp 5])):Sound P f (.dat false (Vr tE)):=by
 refine qa hc (qU tE) hΓ (λargs K hcl hfi hG=>?_);match args,hG with
 | [a,b],hG=>
  obtain⟨v,rfl,hv,w,rfl,hw,hz,hz',hK⟩:=hG;refine⟨by simp,?_⟩
  simp only [go_sem,Qj,hs,hf,hv,hw];refine⟨λe=>?_,λe=>?_⟩
  .have h0:=Int.sign_eq_zero_iff_zero.1 e;rw [if_pos h0,h0,Rat.divInt_zero,vh tE (by decide),VQ,Ya]at hK
   exact hK
  .have h0:zv w≠0:=λh=>e (by rw [h];rfl)
   rw [if_neg h0,Qc]at hK;exact⟨hz,hz',h0,hK⟩
theorem xX(hΓ:Holds P Γ){f fp fm ff tE:Nat}(hp:Γ fp=.dat false qe)(hm:Γ fm=.dat false Vv)(hf:Γ ff=.dat false (Vr tE))(hc:check P f=some (29,(zl fp fm ff).strip,[.cell 4 3 true,.tmp 5])):Sound P f (.dat false (Zp tE)):=by
 refine qa hc (Qak tE) hΓ (λargs K hcl hfi hG=>?_);match args,hG with
 | [a,b],hG=>
  obtain⟨x,rfl,hx,y,rfl,hy,hl,hl',hK⟩:=hG;refine⟨by simp,?_⟩
  simp only [go_sem,zl,hp,hm,hf,hx,hy];have n1:=Vu hx;have d1:=Qu hx;have n2:=Vu hy;have d2:=Qu hy;have m1:=Wk (rv x).num ((rv y).den:Int);have m3:=Wk ((rv x).den:Int) (rv y).num;have e:((((rv x).den:Int)*(rv y).num=0))=(rv y=0):=propext ⟨λh=>by
   rcases Int.mul_eq_zero.1 h with h | h
   .exact absurd h (Xq _)
   .exact Rat.num_eq_zero.1 h,λh=>by rw [h];exact Int.mul_zero _⟩
  simp only [e];rw [Wa2];exact⟨hl,hl',by omega,by omega,by omega,by omega,by omega,by omega,hK⟩
end Go.Abs
end
section
namespace Go.Num
open Go.Abs
abbrev V2:=Rat×Rat
abbrev TnQ:=Rat×Bool
abbrev PsQ:=TnQ×V2
def tv(t:Tn):TnQ:=(rv t.1,t.2)
def pv(p:Ps):PsQ:=(tv p.1,av p.2)
def subQ(a b:V2):V2:=(a.1-b.1,a.2-b.2)
def addQ(a b:V2):V2:=(a.1+b.1,a.2+b.2)
def negQ(a:V2):V2:=(-a.1,-a.2)
def crossQ(a b:V2):Rat:=a.1*b.2-a.2*b.1
def sqQ(a:V2):Rat:=a.1*a.1+a.2*a.2
def cosQ(t:TnQ):Rat:=if t.2=true then -1 else (1-t.1*t.1) / (1+t.1*t.1)
def sinQ(t:TnQ):Rat:=if t.2=true then 0 else (t.1+t.1) / (1+t.1*t.1)
def rotQ(t:TnQ)(q:V2):V2:=(cosQ t*q.1-sinQ t*q.2,sinQ t*q.1+cosQ t*q.2)
def appQ(p:PsQ)(q:V2):V2:=addQ (rotQ p.1 q) p.2
def backQ(t:TnQ):TnQ:=(-t.1,t.2)
def invQ(p:PsQ):PsQ:=(backQ p.1,rotQ (backQ p.1) (negQ p.2))
def tchk(t:Tn):Nat:=if vldR t.1=true/\¬(t.2=true/\rv t.1≠0) then 0 else 2
def avld(a:Arc):Bool:=vldR a.1 && vldR a.2
def pvld(p:Ps):Bool:=decide (tchk p.1=0) && avld p.2
def zq(a:V2):Nat:=max (rz a.1) (rz a.2)
theorem ua2(a b:V2):zq (addQ a b)<=zq a+zq b+2:=by
 have h1:=qm a.1 b.1;have h2:=qm a.2 b.2;unfold zq addQ;simp only;omega
theorem qaf(a:V2):zq (negQ a)=zq a:=by unfold zq negQ;simp only [Ws]
theorem wU:rz (-1)<=2:=by rw [show(-1:Rat) = -(1:Rat) from rfl,Ws];exact rz_1
theorem yaf(t:TnQ):rz (cosQ t)<=4*rz t.1+20:=by
 unfold cosQ;split
 .have:=wU;omega
 .have h0:=rz_1;have h1:=ze t.1 t.1;have h2:=Xu 1 (t.1*t.1);have h3:=qm 1 (t.1*t.1);have h4:=zC (1-t.1*t.1) (1+t.1*t.1);omega
theorem uab(t:TnQ):rz (sinQ t)<=4*rz t.1+20:=by
 unfold sinQ;split
 .rw [rz_0];omega
 .have h0:=rz_1;have h1:=ze t.1 t.1;have h2:=qm t.1 t.1;have h3:=qm 1 (t.1*t.1);have h4:=zC (t.1+t.1) (1+t.1*t.1);omega
theorem wQ(t:TnQ)(q:V2):zq (rotQ t q)<=8*rz t.1+2*zq q+46:=by
 have c:=yaf t;have s:=uab t;have h1:=ze (cosQ t) q.1;have h2:=ze (sinQ t) q.2;have h3:=ze (sinQ t) q.1;have h4:=ze (cosQ t) q.2;have h5:=Xu (cosQ t*q.1) (sinQ t*q.2);have h6:=qm (sinQ t*q.1) (cosQ t*q.2);unfold zq rotQ;simp only;omega
theorem Waz(p:PsQ)(q:V2):zq (appQ p q)<=8*rz p.1.1+2*zq q+zq p.2+48:=by
 have h1:=wQ p.1 q;have h2:=ua2 (rotQ p.1 q) p.2;unfold appQ;omega
theorem Xaz(t:Rat):0<=t*t:=by
 rcases(Rat.le_total:0<=t∨t<=0) with h | h
 .exact Rat.mul_nonneg h h
 .have h1:0<=-t:=by grind
  have h2:=Rat.mul_nonneg h1 h1;grind
theorem Wap(t:Rat):1+t*t≠0:=by
 have h:=Xaz t;intro e;grind
theorem kaj{a:Arc}(h:WLA a):zq (av a)<=al a:=by
 have h1:=Wn h.1;have h2:=Wn h.2;unfold zq av al;simp only;omega
end Go.Num
end
section
namespace Go.Abs
open Go.Num
variable {P:Program} {Γ:Nat->Spec}
def pQ(x:V2):AV:=.agg [cb (rcan x.1),cn (rcan x.1),cd (rcan x.1),cb (rcan x.2),cn (rcan x.2),cd (rcan x.2)]
theorem ZE(x:V2):pQ x=.agg [cb (rcan x.1),cn (rcan x.1),cd (rcan x.1),cb (rcan x.2),cn (rcan x.2),cd (rcan x.2)]:=eq_of_heq (HEq.refl _)
def tQ(t:TnQ):AV:=.agg [cb (rcan t.1),cn (rcan t.1),cd (rcan t.1),.lit (.bool t.2)]
theorem Xw(t:TnQ):tQ t=.agg [cb (rcan t.1),cn (rcan t.1),cd (rcan t.1),.lit (.bool t.2)]:=eq_of_heq (HEq.refl _)
theorem va4(x y:R):av (x,y)=(rv x,rv y):=rfl
theorem zaL(a b:Rat):WLA (rcan a,rcan b)=True:=eq_true ⟨jk _,jk _⟩
attribute [go_sem,go_sem ↓] ZE Xw zaL
def ki:q_T:=q_c1 λa K=>onA (λp=>al p<=100000000/\K (.one (.lit (.bool (avld p))))) a
theorem YU:Good ki:=q_g1 λ_=>(XL λ_=>(.and λ_=>(.ret _)))
def jx:q_T:=q_c2 λa b K=>onA (λp=>onA (λq=>al p<=100000000/\al q<=100000000/\K (pQ (subQ (av p) (av q)))) b) a
theorem Wai:Good jx:=q_g2 λ_ _=>(XL λ_=>(XL λ_=>(.and λ_=>(.and λ_=>(.ret _)))))
def ww:q_T:=q_c2 λa b K=>onA (λp=>onA (λq=>al p<=100000000/\al q<=100000000/\K (pQ (addQ (av p) (av q)))) b) a
theorem Wah:Good ww:=q_g2 λ_ _=>(XL λ_=>(XL λ_=>(.and λ_=>(.and λ_=>(.ret _)))))
def vI:q_T:=q_c1 λa K=>onA (λp=>al p<=100000000/\K (pQ (negQ (av p)))) a
theorem War:Good vI:=q_g1 λ_=>(XL λ_=>(.and λ_=>(.ret _)))
def jr:q_T:=q_c2 λa b K=>onR (λx=>onR (λy=>rl x<=1073741824/\rl y<=1073741824/\K (rQ (rv x / rv y))) b) a
theorem wak:Good jr:=q_g2 λ_ _=>(Js λ_=>(Js λ_=>(.and λ_=>(.and λ_=>(.ret _)))))
def Xf(tE:Nat):q_T:=q_c1 λa K=>onT (λt=>rl t.1<=100000000/\K (errV tE (tchk t))) a
theorem XV(tE:Nat):Good (Xf tE):=q_g1 λ_=>(Zu λ_=>(.and λ_=>(.ret _)))
def jq:q_T:=q_c1 λa K=>onPo (λp=>pl p<=100000000/\K (.one (.lit (.bool (pvld p))))) a
theorem Qap:Good jq:=q_g1 λ_=>(Xi λ_=>(.and λ_=>(.ret _)))
def ZI:q_T:=q_c1 λa K=>onT (λt=>rl t.1<=100000000/\K (tQ (backQ (tv t)))) a
theorem uao:Good ZI:=q_g1 λ_=>(Zu λ_=>(.and λ_=>(.ret _)))
def YD:q_T:=q_c1 λa K=>onT (λt=>rl t.1<=10000000/\K (.tup [rQ (cosQ (tv t)),rQ (sinQ (tv t))])) a
theorem zam:Good YD:=q_g1 λ_=>(Zu λ_=>(.and λ_=>(.ret _)))
attribute [go_sem] ki jx ww vI jr Xf jq ZI YD
def Vt(f0:Nat):AC:=(.o [.K 2 6 0,.K 3 6 1,.G 4 [.z,.emp,.emp,.z,.emp,.emp]] [2,3,4] (.seq (.y [.A 5 0 2,.L 6 3 5,.A 7 0 3,.L 8 3 7,.D 9 f0 6 8,.A 10 3 2,.L 11 3 10,.A 12 3 3,.L 13 3 12,.D 14 f0 11 13,.u 15 (.build [.x 3 (.t 9),.x 3 (.t 14)]),.S 6 4 15]) .ret))
def kt(f0:Nat):AC:=(.o [.K 1 6 0,.G 2 [.z,.emp,.emp,.z,.emp,.emp]] [1,2] (.seq (.y [.A 3 0 1,.L 4 3 3,.H 5 f0 4,.A 6 3 1,.L 7 3 6,.H 8 f0 7,.u 9 (.build [.x 3 (.t 5),.x 3 (.t 8)]),.S 6 2 9]) .ret))
def jm(f0:Nat):AC:=(.o [.K 2 3 0,.K 3 3 1,.G 4 [.z,.emp,.emp]] [2,3,4] (.o [.L 8 3 2,.L 9 3 3,.D 10 f0 8 9,.M 7 10,.X 11 0 7,.X 12 1 7,.G 5 [.z,.emp,.emp],.S 3 5 11,.M 6 12] [4,5,6] (.f (.o [.M 13 6,.R 14 13] [4,5,14] (.cond (.t 14) (.seq (.p [.u 15 (.build [.z [.z,.emp,.emp]]),.S 3 4 15]) .ret) .skip)) [4,5] (.seq (.p [.L 16 3 5,.S 3 4 16]) .ret))))
def Xe(f0 f1 tE:Nat):AC:=(.o [.K 1 4 0,.m 2 (.c (.one (.lit .nilIface)))] [1] (.f (.o [.A 3 0 1,.L 4 3 3,.H 5 f0 4,.u 6 (.un .not (.t 5)),.M 7 6,.T 8 7 false 3 1,.U 9 7 false 1 false 8,.V 10 7 false 9,.T 11 10 true 0 1,.U 12 10 true 3 true 11,.W 13 10 true f1 12,.w 14 10 true (.bin .neq (.t 13) (.i 0)),.w 15 7 false (.pick (.t 10) (.t 14) .fa),.Q 16 7 15] [16] (.cond (.t 16) (.seq (.p [.u 17 (.iface tE (.i 2)),.M 2 17]) .ret) .skip)) [] (.seq (.p [.m 2 (.c (.one (.lit .nilIface)))]) .ret)))
def xj(f0 f1:Nat):AC:=(.o [.K 1 10 0,.m 2 .fa] [1] (.seq (.p [.A 3 0 1,.L 4 4 3,.H 5 f0 4,.u 6 (.binn .eql (.t 5) (.c (.one (.lit .nilIface)))),.M 7 6,.T 8 7 true 4 1,.U 9 7 true 6 true 8,.W 10 7 true f1 9,.P 11 7 10,.M 2 11]) .ret))
def yt(f0:Nat):AC:=(.o [.K 1 4 0,.G 2 [.z,.emp,.emp,.z]] [1,2] (.seq (.y [.A 3 0 1,.L 4 3 3,.H 5 f0 4,.A 6 3 1,.F 7 1 6,.u 8 (.build [.x 3 (.t 5),.x 1 (.t 7)]),.S 4 2 8]) .ret))
def qf(f0 f1 f2 f3 f4:Nat):AC:=(.o [.K 1 4 0,.G 2 [.z,.emp,.emp],.G 3 [.z,.emp,.emp]] [1,2,3] (.f (.o [.A 7 3 1,.F 8 1 7] [1,2,3,8] (.cond (.t 8) (.seq (.p [.u 9 (.call f0 [(.i (-1))]),.u 10 (.build [.z [.z,.emp,.emp]]),.S 3 2 9,.S 3 3 10]) .ret) .skip)) [1,2,3] (.f (.y [.u 11 (.call f0 [(.i 1)]),.A 12 0 1,.L 13 3 12,.A 14 0 1,.L 15 3 14,.D 16 f1 13 15,.G 4 [.z,.emp,.emp],.G 5 [.z,.emp,.emp],.S 3 4 11,.S 3 5 16]) [1,2,3,4,5] (.o [.L 17 3 4,.L 18 3 5,.D 19 f2 17 18,.G 6 [.z,.emp,.emp],.S 3 6 19] [1,2,3,4,5,6] (.seq (.y [.L 20 3 4,.L 21 3 5,.D 22 f3 20 21,.L 23 3 6,.D 24 f4 22 23,.A 25 0 1,.L 26 3 25,.A 27 0 1,.L 28 3 27,.D 29 f2 26 28,.L 30 3 6,.D 31 f4 29 30,.S 3 2 24,.S 3 3 31]) .ret)))))
theorem zc{α β:Type}(p:α×β):(p.1,p.2)=p:=rfl
theorem al1{p:Arc}{b:Nat}(h:al p<=b):rl p.1<=b/\rl p.2<=b:=⟨Nat.le_trans (Nat.le_max_left _ _) h,Nat.le_trans (Nat.le_max_right _ _) h⟩
theorem WU(hΓ:Holds P Γ){f fs:Nat}(hs:Γ fs=.dat false Wl)(hc:check P f=some (16,(Vt fs).strip,[.cell 4 6 true])):Sound P f (.dat false ww):=by
 refine qa hc Wah hΓ (λargs K hcl hfi hG=>?_);match args,hG with
 | [a,b],hG=>
  obtain⟨p,rfl,hp,q,rfl,hq,hl,hl',hK⟩:=hG;refine⟨by simp,?_⟩
  obtain⟨l1,l2⟩:=al1 hl;obtain⟨l3,l4⟩:=al1 hl';simp only [go_sem,Vt,hs,uE,hp.1,hp.2,hq.1,hq.2];exact⟨by omega,by omega,by omega,by omega,hK⟩
theorem Yag(hΓ:Holds P Γ){f fn:Nat}(hn:Γ fn=.dat false Ys)(hc:check P f=some (10,(kt fn).strip,[.cell 2 6 true])):Sound P f (.dat false vI):=by
 refine qa hc War hΓ (λargs K hcl hfi hG=>?_);match args,hG with
 | [a],hG=>
  obtain⟨p,rfl,hp,hl,hK⟩:=hG;refine⟨by simp,?_⟩
  obtain⟨l1,l2⟩:=al1 hl;simp only [go_sem,kt,hn,uE,hp.1,hp.2];exact⟨by omega,by omega,hK⟩
theorem ZW(hΓ:Holds P Γ){f fd tE:Nat}(hd:Γ fd=.dat false (Zp tE))(hc:check P f=some (17,(jm fd).strip,[.cell 4 3 true])):Sound P f (.dat false jr):=by
 refine qa hc wak hΓ (λargs K hcl hfi hG=>?_);match args,hG with
 | [a,b],hG=>
  obtain⟨x,rfl,hx,y,rfl,hy,hl,hl',hK⟩:=hG;refine⟨by simp,?_⟩
  by_cases h0:rv y=0
  .rw [h0,Rat.div_def,Rat.inv_zero,Rat.mul_zero,VQ,Ya]at hK;have e:errV tE 8=.one (.lit (.iface tE (.int .i64 8))):=vh tE (by decide)
   simp only [go_sem,jm,hd,hx,hy,h0,e];exact⟨by omega,by omega,hK⟩
  .simp only [go_sem,jm,hd,hx,hy,h0,Qc];exact⟨by omega,by omega,hK⟩
theorem jaj(hΓ:Holds P Γ){f fn:Nat}(hn:Γ fn=.dat false Ys)(hc:check P f=some (9,(yt fn).strip,[.cell 2 4 true])):Sound P f (.dat false ZI):=by
 refine qa hc uao hΓ (λargs K hcl hfi hG=>?_);match args,hG with
 | [a],hG=>
  obtain⟨t,rfl,ht,hl,hK⟩:=hG;refine⟨by simp,?_⟩
  simp only [go_sem,yt,hn,tA,tC,ht];exact⟨by omega,hK⟩
theorem ZaK(t:Tn):tchk t=if vldR t.1=true/\¬(t.2=true/\rv t.1≠0) then 0 else 2:=rfl
theorem zP(hΓ:Holds P Γ){f fv fs tE:Nat}(hv:Γ fv=.dat true Xc)(hs:Γ fs=.dat true jh)(hc:check P f=some (18,(Xe fv fs tE).strip,[.tmp 2])):Sound P f (.dat false (Xf tE)):=by
 refine qa hc (XV tE) hΓ (λargs K hcl hfi hG=>?_);match args,hG with
 | [a],hG=>
  obtain⟨t,rfl,ht,hl,hK⟩:=hG;refine⟨by simp,?_⟩
  rw [ZaK]at hK;have e2:errV tE 2=.one (.lit (.iface tE (.int .i64 2))):=vh tE (by decide)
  cases h1:vldR t.1 with
  | false=>
   rw [if_neg (λh=>by rw [h1]at h;exact absurd h.1 (by decide)),e2]at hK
   simp only [go_sem,Xe,hv,hs,tA,tC,ht,h1];exact⟨by omega,hK⟩
  | true=>
   cases h2:t.2 with
   | false=>
    rw [if_pos ⟨h1,λh=>by rw [h2]at h;exact absurd h.1 (by decide)⟩,Qc]at hK
    simp only [go_sem,Xe,hv,hs,tA,tC,ht,h1,h2];exact⟨by omega,hK⟩
   | true=>
    by_cases h3:ordQ (rv t.1) 0=0
    .rw [if_pos ⟨h1,λh=>h.2 (Zm.1 h3)⟩,Qc]at hK;simp only [go_sem,Xe,hv,hs,tA,tC,ht,h1,h2,h3];exact⟨by omega,by omega,hK⟩
    .rw [if_neg (λh=>h.2 ⟨h2,λe=>h3 (Zm.2 e)⟩),e2]at hK;simp only [go_sem,Xe,hv,hs,tA,tC,ht,h1,h2,h3];exact⟨by omega,by omega,hK⟩
theorem pl1{p:Ps}{b:Nat}(h:pl p<=b):rl p.1.1<=b/\al p.2<=b:=⟨Nat.le_trans (Nat.le_max_left _ _) h,Nat.le_trans (Nat.le_max_right _ _) h⟩
theorem Xt(t:Tn):tchk t=0∨tchk t=2:=by unfold tchk;split <;> simp
theorem Vak(hΓ:Holds P Γ){f ft fp:Nat}{tE:Nat}(ht:Γ ft=.dat false (Xf tE))(hp' : Γ fp=.dat true ki)(hc:check P f=some (12,(xj ft fp).strip,[.tmp 2])):Sound P f (.dat true jq):=by
 refine qa hc Qap hΓ (λargs K hcl hfi hG=>?_);match args,hG with
 | [a],hG=>
  obtain⟨p,rfl,hp,hl,hK⟩:=hG;refine⟨by simp,?_⟩
  obtain⟨l1,l2⟩:=pl1 hl;unfold pvld at hK;rcases Xt p.1 with h | h
  .rw [h]at hK;simp only [go_sem,xj,ht,hp',poA,pC,zc,h,Qc,hp.1,hp.2];exact⟨l1,l2,hK⟩
  .have e2:errV tE 2=.one (.lit (.iface tE (.int .i64 2))):=vh tE (by decide)
   rw [h]at hK;simp only [go_sem,xj,ht,hp',poA,pC,zc,h,e2,hp.1,hp.2];exact⟨l1,hK⟩
theorem Vah(hΓ:Holds P Γ){f fo fm fa fs fv:Nat}(ho:Γ fo=.dat false QE)(hm:Γ fm=.dat false Zq)(ha:Γ fa=.dat false Wl)(hs:Γ fs=.dat false Un)(hov:Γ fv=.dat false jr)(hc:check P f=some (32,(qf fo fm fa fs fv).strip,[.cell 2 3 true,.cell 3 3 true])):Sound P f (.dat false YD):=by
 refine qa hc zam hΓ (λargs K hcl hfi hG=>?_);match args,hG with
 | [a],hG=>
  obtain⟨t,rfl,ht,hl,hK⟩:=hG;refine⟨by simp,?_⟩
  have r1:=Wn ht;have h0:=rz_1;have h1:=ze (rv t.1) (rv t.1);have h2:=Xu 1 (rv t.1*rv t.1);have h3:=qm 1 (rv t.1*rv t.1);have h4:=qm (rv t.1) (rv t.1);have c1:((1:Int):Rat)=1:=rfl;have c2:((-1:Int):Rat) = -1:=rfl;unfold cosQ sinQ at hK;cases hh:t.2 with
  | true=>
   have e:(tv t).2=true:=hh;rw [if_pos e,if_pos e]at hK;simp only [go_sem,qf,ho,hm,ha,hs,hov,tA,tC,ht,hh,c1,c2];refine⟨by decide,by decide,?_⟩
   simp only [VQ,Ya]at hK;exact hK
  | false=>
   have e:¬((tv t).2=true):=by show ¬(t.2=true);rw [hh];decide
   rw [if_neg e,if_neg e]at hK;simp only [go_sem,qf,ho,hm,ha,hs,hov,tA,tC,ht,hh,c1,c2];refine⟨by decide,by decide,by omega,by omega,by omega,by omega,by omega,by omega,by omega,by omega,by omega,by omega,by omega,by omega,hK⟩
end Go.Abs
end
section
namespace Go.Num
open Go.Abs
def aok(p:Ps)(q:Arc):Bool:=pvld p && avld q
theorem qaI{t:Tn}(h:tchk t=0):tchk (rcan (-rv t.1),t.2)=0:=by
 unfold tchk at *
 split at h
 .rename_i h1;rw [if_pos];refine⟨ug _,λh2=>h1.2 ⟨h2.1,λe=>h2.2 ?_⟩⟩;show rv (rcan (-rv t.1))=0;rw [Zc,e];rfl
 .contradiction
end Go.Num
namespace Go.Abs
open Go.Num
variable {P:Program} {Γ:Nat->Spec}
def psQ(p:PsQ):AV:=.agg [cb (rcan p.1.1),cn (rcan p.1.1),cd (rcan p.1.1),.lit (.bool p.1.2),cb (rcan p.2.1),cn (rcan p.2.1),cd (rcan p.2.1),cb (rcan p.2.2),cn (rcan p.2.2),cd (rcan p.2.2)]
theorem Zv(p:PsQ):psQ p=.agg [cb (rcan p.1.1),cn (rcan p.1.1),cd (rcan p.1.1),.lit (.bool p.1.2),cb (rcan p.2.1),cn (rcan p.2.1),cd (rcan p.2.1),cb (rcan p.2.2),cn (rcan p.2.2),cd (rcan p.2.2)]:=eq_of_heq (HEq.refl _)
attribute [go_sem,go_sem ↓] Zv
def qI(tE:Nat):q_T:=q_c1 λa K=>onT (λt=>rl t.1<=10000000/\K (.tup [rQ (if tchk t=0 then cosQ (tv t) else 0),errV tE (tchk t)])) a
theorem Xap(tE:Nat):Good (qI tE):=q_g1 λ_=>(Zu λ_=>(.and λ_=>(.ret _)))
def vJ(tE:Nat):q_T:=q_c1 λa K=>onT (λt=>rl t.1<=10000000/\K (.tup [rQ (if tchk t=0 then sinQ (tv t) else 0),errV tE (tchk t)])) a
theorem wap(tE:Nat):Good (vJ tE):=q_g1 λ_=>(Zu λ_=>(.and λ_=>(.ret _)))
def UC(tE:Nat):q_T:=q_c1 λa K=>onT (λt=>rl t.1<=10000000/\K (.tup [rQ (if tchk t=0 then cosQ (tv t) else 0),rQ (if tchk t=0 then sinQ (tv t) else 0),errV tE (tchk t)])) a
theorem Vau(tE:Nat):Good (UC tE):=q_g1 λ_=>(Zu λ_=>(.and λ_=>(.ret _)))
def qD(tE:Nat):q_T:=q_c2 λa b K=>onT (λt=>onA (λq=>rl t.1<=10000000/\al q<=10000000/\K (.tup [pQ (if tchk t=0 then rotQ (tv t) (av q) else (0,0)),errV tE (tchk t)])) b) a
theorem jaw(tE:Nat):Good (qD tE):=q_g2 λ_ _=>(Zu λ_=>(XL λ_=>(.and λ_=>(.and λ_=>(.ret _)))))
def qC(tE:Nat):q_T:=q_c2 λa b K=>onPo (λp=>onA (λq=>pl p<=1000000/\al q<=1000000/\K (.tup [pQ (if aok p q=true then appQ (pv p) (av q) else (0,0)),errV tE (if aok p q=true then 0 else 2)])) b) a
theorem Yaq(tE:Nat):Good (qC tE):=q_g2 λ_ _=>(Xi λ_=>(XL λ_=>(.and λ_=>(.and λ_=>(.ret _)))))
def Ww(tE:Nat):q_T:=q_c1 λa K=>onT (λt=>rl t.1<=10000000/\K (.tup [tQ (if tchk t=0 then backQ (tv t) else (0,false)),errV tE (tchk t)])) a
theorem Zai(tE:Nat):Good (Ww tE):=q_g1 λ_=>(Zu λ_=>(.and λ_=>(.ret _)))
def uG(tE:Nat):q_T:=q_c1 λa K=>onPo (λp=>pl p<=1000000/\K (.tup [psQ (if pvld p=true then invQ (pv p) else ((0,false),(0,0))),errV tE (if pvld p=true then 0 else 2)])) a
theorem Xas(tE:Nat):Good (uG tE):=q_g1 λ_=>(Xi λ_=>(.and λ_=>(.ret _)))
attribute [go_sem] qI vJ UC qD qC Ww uG
def Zi(f0 f1:Nat):AC:=(.o [.K 1 4 0,.G 2 [.z,.emp,.emp],.m 3 (.c (.one (.lit .nilIface)))] [1,2] (.f (.o [.L 7 4 1,.H 8 f0 7,.M 4 8] [1,2,4] (.o [.M 9 4,.R 10 9] [1,2,4,10] (.cond (.t 10) (.seq (.p [.u 11 (.build [.z [.z,.emp,.emp]]),.M 12 4,.S 3 2 11,.M 3 12]) .ret) .skip))) [1,2] (.o [.L 14 4 1,.H 15 f1 14,.M 13 15,.X 16 0 13,.X 17 1 13,.G 5 [.z,.emp,.emp],.G 6 [.z,.emp,.emp],.S 3 5 16,.S 3 6 17] [2,5] (.seq (.p [.L 18 3 5,.S 3 2 18,.m 3 (.c (.one (.lit .nilIface)))]) .ret))))
def yh(f0 f1:Nat):AC:=(.o [.K 1 4 0,.G 2 [.z,.emp,.emp],.m 3 (.c (.one (.lit .nilIface)))] [1,2] (.f (.o [.L 7 4 1,.H 8 f0 7,.M 4 8] [1,2,4] (.o [.M 9 4,.R 10 9] [1,2,4,10] (.cond (.t 10) (.seq (.p [.u 11 (.build [.z [.z,.emp,.emp]]),.M 12 4,.S 3 2 11,.M 3 12]) .ret) .skip))) [1,2] (.o [.L 14 4 1,.H 15 f1 14,.M 13 15,.X 16 0 13,.X 17 1 13,.G 5 [.z,.emp,.emp],.G 6 [.z,.emp,.emp],.S 3 5 16,.S 3 6 17] [2,6] (.seq (.p [.L 18 3 6,.S 3 2 18,.m 3 (.c (.one (.lit .nilIface)))]) .ret))))
def Vp(f0 f1:Nat):AC:=(.o [.K 1 4 0,.G 2 [.z,.emp,.emp,.z],.m 3 (.c (.one (.lit .nilIface)))] [1,2] (.f (.o [.L 5 4 1,.H 6 f0 5,.M 4 6] [1,2,4] (.o [.M 7 4,.R 8 7] [1,2,4,8] (.cond (.t 8) (.seq (.p [.u 9 (.build [.z [.z,.emp,.emp,.z]]),.M 10 4,.S 4 2 9,.M 3 10]) .ret) .skip))) [1,2] (.seq (.p [.L 11 4 1,.H 12 f1 11,.S 4 2 12,.m 3 (.c (.one (.lit .nilIface)))]) .ret)))
def Qf(f0 f1 f2 tE:Nat):AC:=(.o [.K 1 4 0,.G 2 [.z,.emp,.emp],.G 3 [.z,.emp,.emp],.m 4 (.c (.one (.lit .nilIface)))] [1,2,3] (.f (.o [.L 5 4 1,.H 6 f0 5,.R 7 6] [1,2,3,7] (.cond (.t 7) (.seq (.p [.u 8 (.build [.z [.z,.emp,.emp]]),.u 9 (.build [.z [.z,.emp,.emp]]),.u 10 (.iface tE (.i 2)),.S 3 2 8,.S 3 3 9,.M 4 10]) .ret) .skip)) [1,2,3] (.f (.o [.L 12 4 1,.H 13 f1 12,.M 11 13,.X 14 0 11,.X 15 1 11,.S 3 2 14,.M 4 15] [1,2,3,4] (.o [.M 16 4,.R 17 16] [1,2,3,4,17] (.cond (.t 17) (.seq (.p [.u 18 (.build [.z [.z,.emp,.emp]]),.u 19 (.build [.z [.z,.emp,.emp]]),.M 20 4,.S 3 2 18,.S 3 3 19,.M 4 20]) .ret) .skip))) [1,2,3] (.o [.L 22 4 1,.H 23 f2 22,.M 21 23,.X 24 0 21,.X 25 1 21,.S 3 3 24,.M 4 25] [2,3,4] (.seq (.y [.u 26 (.ld (some 2) 3 true (.t 2)),.u 27 (.ld (some 3) 3 true (.t 3)),.M 28 4,.n (.st (some 2) 3 (.t 2) (.t 26)),.n (.st (some 3) 3 (.t 3) (.t 27)),.M 4 28]) .ret)))))
def Qi(f0 f1 f2 f3:Nat):AC:=(.o [.K 2 4 0,.K 3 6 1,.G 4 [.z,.emp,.emp,.z,.emp,.emp],.m 5 (.c (.one (.lit .nilIface)))] [2,3,4] (.o [.L 10 4 2,.H 11 f0 10,.M 9 11,.X 12 0 9,.X 13 1 9,.X 14 2 9,.G 6 [.z,.emp,.emp],.G 7 [.z,.emp,.emp],.S 3 6 12,.S 3 7 13,.M 8 14] [3,4,6,7,8] (.f (.o [.M 15 8,.R 16 15] [3,4,6,7,8,16] (.cond (.t 16) (.seq (.p [.u 17 (.build [.z [.z,.emp,.emp,.z,.emp,.emp]]),.M 18 8,.S 6 4 17,.M 5 18]) .ret) .skip)) [3,4,6,7] (.seq (.y [.L 19 3 6,.A 20 0 3,.L 21 3 20,.D 22 f1 19 21,.L 23 3 7,.A 24 3 3,.L 25 3 24,.D 26 f1 23 25,.D 27 f2 22 26,.L 28 3 7,.A 29 0 3,.L 30 3 29,.D 31 f1 28 30,.L 32 3 6,.A 33 3 3,.L 34 3 33,.D 35 f1 32 34,.D 36 f3 31 35,.u 37 (.build [.x 3 (.t 27),.x 3 (.t 36)]),.S 6 4 37,.m 5 (.c (.one (.lit .nilIface)))]) .ret))))
def Xg(f0 f1 f2 f3 tE:Nat):AC:=(.o [.K 2 10 0,.K 3 6 1,.G 4 [.z,.emp,.emp,.z,.emp,.emp],.m 5 (.c (.one (.lit .nilIface)))] [2,3,4] (.f (.o [.L 8 10 2,.H 9 f0 8,.u 10 (.un .not (.t 9)),.M 11 10,.U 12 11 false 6 true 3,.W 13 11 false f1 12,.w 14 11 false (.un .not (.t 13)),.Q 15 11 14] [2,3,4,15] (.cond (.t 15) (.seq (.p [.u 16 (.build [.z [.z,.emp,.emp,.z,.emp,.emp]]),.u 17 (.iface tE (.i 2)),.S 6 4 16,.M 5 17]) .ret) .skip)) [2,3,4] (.o [.A 19 0 2,.L 20 4 19,.L 21 6 3,.D 22 f2 20 21,.M 18 22,.X 23 0 18,.X 24 1 18,.G 6 [.z,.emp,.emp,.z,.emp,.emp],.S 6 6 23,.M 7 24] [2,4,6,7] (.f (.o [.M 25 7,.R 26 25] [2,4,6,7,26] (.cond (.t 26) (.seq (.p [.u 27 (.build [.z [.z,.emp,.emp,.z,.emp,.emp]]),.M 28 7,.S 6 4 27,.M 5 28]) .ret) .skip)) [2,4,6] (.seq (.p [.L 29 6 6,.A 30 4 2,.L 31 6 30,.D 32 f3 29 31,.S 6 4 32,.m 5 (.c (.one (.lit .nilIface)))]) .ret)))))
def yg(f0 f1 f2 f3 tE:Nat):AC:=(.o [.K 1 10 0,.G 2 [.z,.emp,.emp,.z,.z,.emp,.emp,.z,.emp,.emp],.m 3 (.c (.one (.lit .nilIface)))] [1,2] (.f (.o [.L 7 10 1,.H 8 f0 7,.u 9 (.un .not (.t 8))] [1,2,9] (.cond (.t 9) (.seq (.p [.u 10 (.build [.z [.z,.emp,.emp,.z,.z,.emp,.emp,.z,.emp,.emp]]),.u 11 (.iface tE (.i 2)),.S 10 2 10,.M 3 11]) .ret) .skip)) [1,2] (.o [.A 13 0 1,.L 14 4 13,.H 15 f1 14,.M 12 15,.X 16 0 12,.X 17 1 12,.G 4 [.z,.emp,.emp,.z],.S 4 4 16,.M 5 17] [1,2,4,5] (.f (.o [.M 18 5,.R 19 18] [1,2,4,5,19] (.cond (.t 19) (.seq (.p [.u 20 (.build [.z [.z,.emp,.emp,.z,.z,.emp,.emp,.z,.emp,.emp]]),.M 21 5,.S 10 2 20,.M 3 21]) .ret) .skip)) [1,2,4] (.f (.y [.L 23 4 4,.A 24 4 1,.L 25 6 24,.H 26 f2 25,.D 27 f3 23 26,.M 22 27,.X 28 0 22,.X 29 1 22,.G 6 [.z,.emp,.emp,.z,.emp,.emp],.S 6 6 28,.M 5 29]) [2,4,5,6] (.f (.o [.M 30 5,.R 31 30] [2,4,5,6,31] (.cond (.t 31) (.seq (.p [.u 32 (.build [.z [.z,.emp,.emp,.z,.z,.emp,.emp,.z,.emp,.emp]]),.M 33 5,.S 10 2 32,.M 3 33]) .ret) .skip)) [2,4,6] (.seq (.p [.L 34 4 4,.L 35 6 6,.u 36 (.build [.x 4 (.t 34),.x 6 (.t 35)]),.S 10 2 36,.m 3 (.c (.one (.lit .nilIface)))]) .ret)))))))
theorem Xai(hΓ:Holds P Γ){f fk fd tE:Nat}(hk:Γ fk=.dat false (Xf tE))(hd:Γ fd=.dat false YD)(hc:check P f=some (19,(Zi fk fd).strip,[.cell 2 3 true,.tmp 3])):Sound P f (.dat false (qI tE)):=by
 refine qa hc (Xap tE) hΓ (λargs K hcl hfi hG=>?_);match args,hG with
 | [a],hG=>
  obtain⟨t,rfl,ht,hl,hK⟩:=hG;refine⟨by simp,?_⟩
  have e2:errV tE 2=.one (.lit (.iface tE (.int .i64 2))):=vh tE (by decide)
  rcases Xt t with h | h
  .rw [h,if_pos rfl,Qc]at hK;simp only [go_sem,Zi,yh,hk,hd,tA,tC,ht,zc,h,Qc];exact⟨by omega,by omega,hK⟩
  .rw [h,if_neg (by decide),e2,VQ,Ya]at hK
   simp only [go_sem,Zi,yh,hk,hd,tA,tC,ht,zc,h,e2];exact⟨by omega,hK⟩
theorem kai(hΓ:Holds P Γ){f fk fd tE:Nat}(hk:Γ fk=.dat false (Xf tE))(hd:Γ fd=.dat false YD)(hc:check P f=some (19,(yh fk fd).strip,[.cell 2 3 true,.tmp 3])):Sound P f (.dat false (vJ tE)):=by
 refine qa hc (wap tE) hΓ (λargs K hcl hfi hG=>?_);match args,hG with
 | [a],hG=>
  obtain⟨t,rfl,ht,hl,hK⟩:=hG;refine⟨by simp,?_⟩
  have e2:errV tE 2=.one (.lit (.iface tE (.int .i64 2))):=vh tE (by decide)
  rcases Xt t with h | h
  .rw [h,if_pos rfl,Qc]at hK;simp only [go_sem,Zi,yh,hk,hd,tA,tC,ht,zc,h,Qc];exact⟨by omega,by omega,hK⟩
  .rw [h,if_neg (by decide),e2,VQ,Ya]at hK
   simp only [go_sem,Zi,yh,hk,hd,tA,tC,ht,zc,h,e2];exact⟨by omega,hK⟩
theorem kU(hΓ:Holds P Γ){f fk fn tE:Nat}(hk:Γ fk=.dat false (Xf tE))(hn:Γ fn=.dat false ZI)(hc:check P f=some (13,(Vp fk fn).strip,[.cell 2 4 true,.tmp 3])):Sound P f (.dat false (Ww tE)):=by
 refine qa hc (Zai tE) hΓ (λargs K hcl hfi hG=>?_);match args,hG with
 | [a],hG=>
  obtain⟨t,rfl,ht,hl,hK⟩:=hG;refine⟨by simp,?_⟩
  have e2:errV tE 2=.one (.lit (.iface tE (.int .i64 2))):=vh tE (by decide)
  rcases Xt t with h | h
  .rw [h,if_pos rfl,Qc]at hK;simp only [go_sem,Vp,hk,hn,tA,tC,ht,zc,h,Qc];exact⟨by omega,by omega,hK⟩
  .rw [h,if_neg (by decide),e2,Xw,Ya]at hK
   simp only [go_sem,Vp,hk,hn,tA,tC,ht,zc,h,e2];exact⟨by omega,hK⟩
theorem yaj(hΓ:Holds P Γ){f fk fc fs tE:Nat}(hk:Γ fk=.dat false (Xf tE))(hc' : Γ fc=.dat false (qI tE))(hs:Γ fs=.dat false (vJ tE))(hc:check P f=some (29,(Qf fk fc fs tE).strip,[.cell 2 3 true,.cell 3 3 true,.tmp 4])):Sound P f (.dat false (UC tE)):=by
 refine qa hc (Vau tE) hΓ (λargs K hcl hfi hG=>?_);match args,hG with
 | [a],hG=>
  obtain⟨t,rfl,ht,hl,hK⟩:=hG;refine⟨by simp,?_⟩
  have e2:errV tE 2=.one (.lit (.iface tE (.int .i64 2))):=vh tE (by decide)
  rcases Xt t with h | h
  .rw [h,if_pos rfl,if_pos rfl,Qc]at hK;simp only [go_sem,Qf,hk,hc',hs,tA,tC,ht,zc,h,Qc];exact⟨by omega,by omega,by omega,hK⟩
  .rw [h,if_neg (by decide),if_neg (by decide),e2,VQ,Ya]at hK
   simp only [go_sem,Qf,hk,hc',hs,tA,tC,ht,zc,h,e2];exact⟨by omega,hK⟩
theorem uah(hΓ:Holds P Γ){f fd fm fs fa tE:Nat}(hd:Γ fd=.dat false (UC tE))(hm:Γ fm=.dat false Zq)(hs:Γ fs=.dat false Un)(ha:Γ fa=.dat false Wl)(hc:check P f=some (38,(Qi fd fm fs fa).strip,[.cell 4 6 true,.tmp 5])):Sound P f (.dat false (qD tE)):=by
 refine qa hc (jaw tE) hΓ (λargs K hcl hfi hG=>?_);match args,hG with
 | [a,b],hG=>
  obtain⟨t,rfl,ht,q,rfl,hq,hl,hl',hK⟩:=hG;refine⟨by simp,?_⟩
  have e2:errV tE 2=.one (.lit (.iface tE (.int .i64 2))):=vh tE (by decide)
  rcases Xt t with h | h
  .skip
   have r1:=Wn ht;have q1:=Wn hq.1;have q2:=Wn hq.2;obtain⟨l1,l2⟩:=al1 hl';have cc:=yaf (tv t);have ss:=uab (tv t);have hrt:rz (tv t).1=rz (rv t.1):=rfl;obtain⟨c,hcc⟩:∃c,cosQ (tv t)=c:=⟨_,rfl⟩;obtain⟨s,hss⟩:∃s,sinQ (tv t)=s:=⟨_,rfl⟩;rw [hcc]at cc;rw [hss]at ss;have m1:=ze c (rv q.1);have m2:=ze s (rv q.2);have m3:=ze s (rv q.1);have m4:=ze c (rv q.2);have er:rotQ (tv t) (av q)=(c*rv q.1-s*rv q.2,s*rv q.1+c*rv q.2):=by unfold rotQ;rw [hcc,hss];rfl
   rw [h,if_pos rfl,Qc,er]at hK;simp only [go_sem,Qi,hd,hm,hs,ha,tA,tC,uE,ht,hq.1,hq.2,zc,h,Qc,hcc,hss];exact⟨by omega,by omega,by omega,by omega,by omega,by omega,by omega,by omega,by omega,by omega,by omega,by omega,by omega,hK⟩
  .rw [h,if_neg (by decide),e2,ZE,Ya]at hK
   simp only [go_sem,Qi,hd,hm,hs,ha,tA,tC,uE,ht,zc,h,e2];exact⟨by omega,hK⟩
theorem Uai(hΓ:Holds P Γ){f fv fw fr fp tE:Nat}(hv:Γ fv=.dat true jq)(hw:Γ fw=.dat true ki)(hr:Γ fr=.dat false (qD tE))(hp' : Γ fp=.dat false ww)(hc:check P f=some (33,(Xg fv fw fr fp tE).strip,[.cell 4 6 true,.tmp 5])):Sound P f (.dat false (qC tE)):=by
 refine qa hc (Yaq tE) hΓ (λargs K hcl hfi hG=>?_);match args,hG with
 | [a,b],hG=>
  obtain⟨p,rfl,hp,q,rfl,hq,hl,hl',hK⟩:=hG;refine⟨by simp,?_⟩
  obtain⟨l1,l2⟩:=pl1 hl;have e8:errV tE 2=.one (.lit (.iface tE (.int .i64 2))):=vh tE (by decide)
  unfold aok at hK;cases h1:pvld p with
  | false=>
   rw [h1,Bool.false_and,if_neg (by decide),if_neg (by decide),e8,ZE,Ya]at hK
   simp only [go_sem,Xg,hv,hw,poA,pC,uE,hp,zc,h1];exact⟨by omega,hK⟩
  | true=>
   cases h2:avld q with
   | false=>
    rw [h1,h2,Bool.true_and,if_neg (by decide),if_neg (by decide),e8,ZE,Ya]at hK
    simp only [go_sem,Xg,hv,hw,poA,pC,uE,hp,hq,zc,h1,h2];exact⟨by omega,by omega,hK⟩
   | true=>
    rw [h1,h2,Bool.true_and,if_pos rfl,if_pos rfl,Qc]at hK;have ht:tchk p.1=0:=by
     unfold pvld at h1;rw [Bool.and_eq_true,decide_eq_true_eq]at h1;exact h1.1
    have r1:=Wn hp.1;have q1:=kaj hq;have z:=wQ (tv p.1) (av q);have e1:rz (tv p.1).1=rz (rv p.1.1):=rfl;have e2:al (rcan (rotQ (tv p.1) (av q)).1,rcan (rotQ (tv p.1) (av q)).2)=zq (rotQ (tv p.1) (av q)):=rfl;simp only [go_sem,Xg,hv,hw,hr,hp',poA,pC,uE,hp,hp.1,hp.2,hq,zc,h1,h2,ht,Qc,va4,Zc];exact⟨by omega,by omega,by omega,by omega,by rw [e2];omega,by omega,hK⟩
theorem kag(hΓ:Holds P Γ){f fv ft fn fr tE:Nat}(hv:Γ fv=.dat true jq)(ht' : Γ ft=.dat false (Ww tE))(hn:Γ fn=.dat false vI)(hr:Γ fr=.dat false (qD tE))(hc:check P f=some (37,(yg fv ft fn fr tE).strip,[.cell 2 10 true,.tmp 3])):Sound P f (.dat false (uG tE)):=by
 refine qa hc (Xas tE) hΓ (λargs K hcl hfi hG=>?_);match args,hG with
 | [a],hG=>
  obtain⟨p,rfl,hp,hl,hK⟩:=hG;refine⟨by simp,?_⟩
  obtain⟨l1,l2⟩:=pl1 hl;have e8:errV tE 2=.one (.lit (.iface tE (.int .i64 2))):=vh tE (by decide)
  cases h1:pvld p with
  | false=>
   rw [h1,if_neg (by decide),if_neg (by decide),e8,Zv,Ya]at hK
   simp only [go_sem,yg,hv,poA,pC,hp,zc,h1];exact⟨by omega,hK⟩
  | true=>
   rw [h1,if_pos rfl,if_pos rfl,Qc]at hK;have ht:tchk p.1=0:=by
    unfold pvld at h1;rw [Bool.and_eq_true,decide_eq_true_eq]at h1;exact h1.1
   have ht2:tchk (rcan (backQ (tv p.1)).1,(backQ (tv p.1)).2)=0:=qaI ht;have r1:=Wn hp.1;have q1:=kaj hp.2;have e4:al (rcan (negQ (av p.2)).1,rcan (negQ (av p.2)).2)=zq (negQ (av p.2)):=rfl;have e5:=qaf (av p.2);have e6:rz (backQ (tv p.1)).1=rz (rv p.1.1):=Ws _;have e7:tv (rcan (backQ (tv p.1)).1,(backQ (tv p.1)).2)=backQ (tv p.1):=by unfold tv;simp only [Zc]
   simp only [go_sem,yg,hv,ht',hn,hr,poA,pC,hp,hp.1,hp.2,zc,h1,ht,ht2,Qc,va4,Zc,e7];exact⟨by omega,by omega,by omega,by omega,by rw [e4];omega,hK⟩
end Go.Abs
end
section
namespace Go.Num
def inA(y:Rat)(x:Arc):Bool:=decide (rv x.1<=y) && decide (y<rv x.2)
def idxOf(y:Rat)(l:List Arc):Int:=match l.findIdx? (inA y) with | some i=>i | none=>-1
end Go.Num
namespace Go.Abs
open Go.Num
variable {P:Program} {Γ:Nat->Spec}
def pA(y:R):AV:=.one (.ref [cb y,cn y,cd y])
def kA(f:Nat)(y:R):AV:=.one (.clo f [.ref [cb y,cn y,cd y]])
theorem qa6(x y:R)(h:pA x=pA y):x=y:=Xl x y (by simpa [pA,rA] using h)
theorem ja7(f:Nat)(x y:R)(h:kA f x=kA f y):x=y:=Xl x y (by simpa [kA,rA] using h)
def onP(k:R->Prop)(a:AV):Prop:=onE pA (λx=>WLR x/\k x) a
@[congr] theorem Jbd{k:R->Prop}{a a'}(h:a=a'):onP k a=onP k a':=by subst h;rfl
theorem ya5(k:R->Prop)(x:R):onP k (.one (.ref [cb x,cn x,cd x]))=(WLR x/\k x):=jj qa6 (λx=>WLR x/\k x) x
def onKl(f:Nat)(k:R->Prop)(a:AV):Prop:=onE (kA f) (λx=>WLR x/\k x) a
@[congr] theorem Jbb{f}{k:R->Prop}{a a'}(h:a=a'):onKl f k a=onKl f k a':=by subst h;rfl
theorem VaN(f:Nat)(k:R->Prop)(x:R):onKl f k (.one (.clo f [.ref [cb x,cn x,cd x]]))=(WLR x/\k x):=jj (ja7 f) (λx=>WLR x/\k x) x
attribute [go_sem,go_sem ↓] ya5 VaN
theorem wah(y:R):CleanL [cb y,cn y,cd y]:=by
 intro c hc;simp only [List.mem_cons,List.not_mem_nil,or_false]at hc;rcases hc with rfl | rfl | rfl
 .exact of_eq_true (vk _)
 .exact of_eq_true (uj _)
 .exact of_eq_true (Xj _)
end Go.Abs
end
section
namespace Go.Num
end Go.Num
namespace Go.Abs
open Go.Num
variable {P:Program} {Γ:Nat->Spec}
end Go.Abs
end
