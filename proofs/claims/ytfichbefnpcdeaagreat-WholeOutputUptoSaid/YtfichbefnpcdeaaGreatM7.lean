/-
  Parts of the proof, merged: ArgI, RatC, RefA, RatD, RatE, PoseP, PoseB, PoseC, ChartE, ChartF.
-/
import Derived.Test.YtfichbefnpcdeaaGreatM6
import Derived.ChangeSame
import Derived.OpenShut
set_option linter.unusedVariables false
set_option linter.unusedSimpArgs false
set_option linter.unnecessarySimpa false
set_option maxRecDepth 100000
section
namespace Go.Abs
open Go.Num
section
variable {H:Type} {enc:TypeId×Value->H} {bulk:DataW H->Nat} {P:Program} {w:World}
structure MoT (P:Program) (t:TypeId):Prop where
 ex:∃f0 f1 f2:Field,P.underlying t=some (.struct #[f0,f1,f2])/\f0.offset=0/\f1.offset=1/\f2.offset=2/\P.cellsOf t=5/\P.cellsOf f0.type=1/\P.cellsOf f1.type=1/\P.cellsOf f2.type=3/\
  P.underlying f0.type=some (.int .i64)/\P.underlying f1.type=some (.int .i64)/\RatT P f2.type
structure BpT (P:Program) (t:TypeId):Prop where
 ex:∃u,P.underlying t=some (.slice u)/\P.cellsOf u=5/\MoT P u
structure X2T (P:Program) (t:TypeId):Prop where
 ex:∃u,P.underlying t=some (.array 2 u)/\P.cellsOf u=3/\P.cellsOf t=6/\RatT P u
variable {α:Type}
end
end Go.Abs
namespace Go.ChangeShapes
section
variable {H:Type} {enc:TypeId×Value->H} {P:Program}
theorem qO{f:Func}{s:ChangeSpec}{apart fresh handsOn again:Bool}{W W' : World}{args:Array Value}{v:Value}{ds gs:List (DataW H)}{before pa pv:List MemPlace}
  (hW:DataW.Whole enc P f.params.toList s.vars apart W args.toList ds gs before)
  (hres:∀(b:Nat) (sp:Nat->Bool) (hd:Bool),DataW.TrodAll enc P W' b sp hd f.resultTypes.toList (v.resultList f.resultTypes.size) (s.fn H (ds++gs)).results [])
  (hargs:∀sp:Nat->Bool,(∀p∈before,sp p.block=true)->DataW.TrodAll enc P W' 0 sp true f.params.toList args.toList (s.fn H (ds++gs)).args pa)
  (hvars:∀sp:Nat->Bool,(∀p∈before,sp p.block=true)->DataW.TrodVars enc P W' sp s.vars (s.fn H (ds++gs)).vars pv)
  (hps:before=pa++pv) (hk:W.keptBut W' (·∈before)) (hfz:∀a:Addr,a.block<W.heap.size->W'.frozen? a=W.frozen? a)
  (hok:∀(j:Nat) (t:TypeId) (r:Value),f.resultTypes[j]?=some t->(v.resultList f.resultTypes.size)[j]?=some r->Value.okWide P W' .any 0 t r) :
  s.post enc P f apart fresh handsOn again W args v W':=by
 have hlt:=hW.lt;have hold:∀p∈before,(λb=>decide (b<W.heap.size)) p.block=true:=λp hp=>by simpa using hlt p hp
 refine⟨ds,gs,before,[],pa,pv,hW,hres _ _ _,hargs _ hold,hvars _ hold,World.keptBut_mono (λp hp=>⟨hp,?_⟩) hk,λ_=>?_⟩
 .rw [hps,List.mem_append]at hp;exact Or.inr hp
 .obtain⟨_,_,_,_,_,hz,hn⟩:=hW;refine⟨hok,_,_,([]++pa)++pv,⟨[]++pa,pv,trodAll_append (hargs _ (λ_ _=>rfl)) (hres _ _ _),hvars _ (λ_ _=>rfl),rfl,?_,?_⟩,?_⟩
  .intro b off hp;have hp':=hp;rw [List.nil_append,<-hps]at hp';rw [hfz _ (hlt _ hp')];exact hz b off hp'
  .intro ha;have:=hn ha;rw [hps]at this;simpa using this
  .intro p hp _;rw [hps];simpa using hp
end
end Go.ChangeShapes
end
section
namespace Go.Abs
open Go.Num
variable {P:Program} {Γ:Nat->Spec}
def Zi(f0 f1 f2 f3:Nat):AC:=(.o [.K 1 3 0,.m 2 .fa] [1] (.f (.o [.A 5 1 1,.F 6 1 5,.Z 7 6,.I 8 .eql 7 0,.M 9 8,.T 10 9 true 2 1,.U 11 9 true 1 false 10,.w 12 9 true (.len (.t 11)),.w 13 9 true (.bin .eql (.t 12) (.i 0)),.P 14 9 13] [1,14] (.cond (.t 14) (.seq (.p [.A 15 0 1,.F 16 1 15,.u 17 (.un .not (.t 16)),.M 2 17]) .ret) .skip)) [1] (.f (.y [.A 18 1 1,.u 19 (.ld (some 1) 1 false (.t 18)),.u 20 (.build [.z [.z],.x 1 (.t 19)]),.A 21 2 1,.u 22 (.ld (some 1) 1 false (.t 21)),.u 23 (.build [.z [.z],.x 1 (.t 22)]),.G 3 [.z,.emp],.G 4 [.z,.emp],.n (.st (some 3) 2 (.t 3) (.t 20)),.n (.st (some 4) 2 (.t 4) (.t 23))]) [1,3,4] (.f (.o [.A 24 1 1,.F 25 1 24,.Z 26 25,.I 27 .eql 26 0,.M 28 27,.T 29 28 false 2 1,.U 30 28 false 1 false 29,.w 31 28 false (.len (.t 30)),.w 32 28 false (.bin .eql (.t 31) (.i 0)),.Q 33 28 32,.M 34 33,.U 35 34 false 2 true 3,.W 36 34 false f0 35,.w 37 34 false (.un .not (.t 36)),.Q 38 34 37,.M 39 38,.U 40 39 false 2 true 4,.W 41 39 false f0 40,.w 42 39 false (.un .not (.t 41)),.Q 43 39 42] [3,4,43] (.cond (.t 43) (.seq (.p [.m 2 .fa]) .ret) .skip)) [3,4] (.seq (.p [.L 44 2 3,.L 45 2 4,.D 46 f1 44 45,.u 47 (.call f2 []),.D 48 f3 46 47,.I 49 .eql 48 0,.M 2 49]) .ret)))))
def ki(f0 f1:Nat):AC:=(.o [.K 1 3 0,.G 2 [.z,.emp],.G 3 [.z,.emp]] [1,2,3] (.f (.o [.L 4 3 1,.H 5 f0 4,.u 6 (.un .not (.t 5)),.M 7 6,.T 8 7 false 1 1,.U 9 7 false 1 false 8,.w 10 7 false (.len (.t 9)),.w 11 7 false (.bin .eql (.t 10) (.i 0)),.Q 12 7 11] [1,2,3,12] (.cond (.t 12) (.seq (.p [.u 13 (.build [.z [.z,.emp]]),.u 14 (.call f1 []),.S 2 2 13,.S 2 3 14]) .ret) .skip)) [1,2,3] (.f (.y [.A 15 0 1,.F 16 1 15,.m 17 (.c (.one .emp)),.A 18 1 1,.F 19 1 18,.u 20 (.app0 1 (.t 17) (.t 19)),.u 21 (.build [.x 1 (.t 16),.x 1 (.t 20)]),.S 2 2 21]) [1,2,3] (.seq (.y [.L 22 2 2,.m 23 (.c (.one .emp)),.A 24 2 1,.F 25 1 24,.u 26 (.app0 1 (.t 23) (.t 25)),.u 27 (.build [.z [.z],.x 1 (.t 26)]),.S 2 2 22,.S 2 3 27]) .ret))))
def Xj(f0 f1 f2 f3:Nat):AC:=(.o [.K 2 2 0,.K 3 2 1,.G 4 [.z,.emp,.emp]] [2,3,4] (.f (.o [.L 7 2 2,.H 8 f0 7,.I 9 .eql 8 0] [2,3,4,9] (.cond (.t 9) (.seq (.p [.u 10 (.build [.z [.z,.emp,.emp]]),.S 3 4 10]) .ret) .skip)) [2,3,4] (.f (.o [.L 11 2 3,.H 12 f0 11,.I 13 .lss 12 0] [2,3,4,13] (.cond (.t 13) (.y [.L 14 2 2,.H 15 f1 14,.L 16 2 3,.H 17 f1 16,.S 2 2 15,.S 2 3 17]) .skip)) [2,3,4] (.o [.L 18 2 2,.L 19 2 3,.D 20 f2 18 19,.G 5 [.z,.emp],.S 2 5 20] [2,3,4,5] (.o [.L 21 2 2,.H 22 f0 21,.I 23 .lss 22 0,.M 6 23] [2,3,4,5,6] (.f (.o [.M 24 6] [2,3,4,5,6,24] (.cond (.t 24) (.p [.L 25 2 2,.H 26 f1 25,.S 2 2 26]) .skip)) [2,3,4,5,6] (.o [.L 28 2 2,.L 29 2 5,.D 30 f3 28 29,.M 27 30,.X 31 0 27,.X 32 1 27,.X 33 2 27,.S 2 2 31] [2,3,4,5,6] (.o [.L 35 2 3,.L 36 2 5,.D 37 f3 35 36,.M 34 37,.X 38 0 34,.X 39 1 34,.X 40 2 34,.S 2 3 38] [2,3,4,6] (.seq (.p [.M 41 6,.A 42 1 2,.F 43 1 42,.A 44 1 3,.F 45 1 44,.u 46 (.build [.x 1 (.t 41),.x 1 (.t 43),.x 1 (.t 45)]),.S 3 4 46]) .ret)))))))))
def qh(f0:Nat):AC:=(.o [.G 0 [.z,.emp]] [0] (.seq (.p [.u 1 (.call f0 [(.i 1)]),.S 2 0 1]) .ret))
def xm(f0 f1 f2:Nat):AC:=(.o [.G 2 [.z,.emp,.emp]] [0,2] (.seq (.p [.M 3 0,.H 4 f0 3,.u 5 (.call f1 []),.D 6 f2 4 5,.S 3 2 6]) .ret))
def Uk(f0 f1 f2:Nat):AC:=(.o [.K 1 3 0,.G 2 [.z,.emp,.emp]] [1,2] (.o [.L 6 3 1,.H 7 f0 6,.M 5 7,.X 8 0 5,.X 9 1 5,.G 3 [.z,.emp],.G 4 [.z,.emp],.S 2 3 8,.S 2 4 9] [2,3,4] (.seq (.y [.L 10 2 3,.H 11 f1 10,.L 12 2 4,.D 13 f2 11 12,.S 3 2 13]) .ret)))
def kg(f0 f1:Nat):AC:=(.o [.K 1 3 0,.N 2 0] [1] (.o [.L 6 3 1,.H 7 f0 6,.M 5 7,.X 8 0 5,.X 9 1 5,.G 3 [.z,.emp],.G 4 [.z,.emp],.S 2 3 8,.S 2 4 9] [3] (.seq (.p [.L 10 2 3,.H 11 f1 10,.M 2 11]) .ret)))
def vl(f0 f1 f2:Nat):AC:=(.o [.K 2 3 0,.K 3 3 1,.N 4 0] [2,3] (.o [.L 10 3 2,.H 11 f0 10,.M 9 11,.X 12 0 9,.X 13 1 9,.G 5 [.z,.emp],.G 6 [.z,.emp],.S 2 5 12,.S 2 6 13] [3,5,6] (.o [.L 15 3 3,.H 16 f0 15,.M 14 16,.X 17 0 14,.X 18 1 14,.G 7 [.z,.emp],.G 8 [.z,.emp],.S 2 7 17,.S 2 8 18] [5,6,7,8] (.seq (.y [.L 19 2 5,.L 20 2 8,.D 21 f1 19 20,.L 22 2 7,.L 23 2 6,.D 24 f1 22 23,.D 25 f2 21 24,.M 4 25]) .ret))))
def qm(f0 f1 f2 f3:Nat):AC:=(.o [.K 2 3 0,.K 3 3 1,.G 4 [.z,.emp,.emp]] [2,3,4] (.o [.L 10 3 2,.H 11 f0 10,.M 9 11,.X 12 0 9,.X 13 1 9,.G 5 [.z,.emp],.G 6 [.z,.emp],.S 2 5 12,.S 2 6 13] [3,4,5,6] (.o [.L 15 3 3,.H 16 f0 15,.M 14 16,.X 17 0 14,.X 18 1 14,.G 7 [.z,.emp],.G 8 [.z,.emp],.S 2 7 17,.S 2 8 18] [4,5,6,7,8] (.seq (.y [.L 19 2 5,.L 20 2 8,.D 21 f1 19 20,.L 22 2 7,.L 23 2 6,.D 24 f1 22 23,.D 25 f2 21 24,.L 26 2 6,.L 27 2 8,.D 28 f1 26 27,.D 29 f3 25 28,.S 3 4 29]) .ret))))
def Ul(f0 f1:Nat):AC:=(.o [.K 2 3 0,.K 3 3 1,.G 4 [.z,.emp,.emp]] [2,3,4] (.seq (.y [.L 5 3 2,.L 6 3 3,.H 7 f0 6,.D 8 f1 5 7,.S 3 4 8]) .ret))
def zk(f0 f1 tE:Nat):AC:=(.o [.K 2 2 0,.K 3 2 1,.G 4 [.z,.emp,.emp],.m 5 (.c (.one (.lit .nilIface)))] [2,3,4] (.f (.o [.L 6 2 3,.H 7 f0 6,.I 8 .eql 7 0] [2,3,4,8] (.cond (.t 8) (.seq (.p [.u 9 (.build [.z [.z,.emp,.emp]]),.u 10 (.iface tE (.i 8)),.S 3 4 9,.M 5 10]) .ret) .skip)) [2,3,4] (.seq (.p [.L 11 2 2,.L 12 2 3,.D 13 f1 11 12,.S 3 4 13,.m 5 (.c (.one (.lit .nilIface)))]) .ret)))
theorem Wa2{n:Int}:n.sign<0↔n<0:=by
 rcases Int.lt_trichotomy n 0 with h | h | h
 .rw [Int.sign_eq_neg_one_of_neg h];omega
 .subst h;simp
 .rw [Int.sign_eq_one_of_pos h];omega
theorem Qr{n d N D:Int}{g:Nat}{m:Bool}(hd:d≠0)(hn:n≠0)(hN:0<=N)(hD:0<=D)(e1:N.natAbs=n.natAbs)(e2:D.natAbs=d.natAbs)(eg:g=Int.gcd n d)(em:m=decide (d.sign*n<0)) :
  AV.agg [.lit (.bool m),zm (zcan (N / (g:Int))),zm (zcan (D / (g:Int)))]=.agg [cb (rcan (Rat.divInt n d)),cn (rcan (Rat.divInt n d)),cd (rcan (Rat.divInt n d))]:=by
 obtain⟨N',rfl⟩:=Int.eq_ofNat_of_zero_le hN;obtain⟨D',rfl⟩:=Int.eq_ofNat_of_zero_le hD;simp only [Int.natAbs_natCast]at e1 e2;subst e1 e2 eg em;rw [ve,VaE,UaC,UB hd hn,kaL,kaL];simp only [zcan];rw [<-Int.natCast_ediv,<-Int.natCast_ediv];simp only [Int.natAbs_natCast]
theorem yaN{v w:Int}{s:Nat}(h:w≠0)(hw:zs w<=s):zs ((Int.gcd v w:Nat):Int)<=s:=by
 refine Nat.le_trans (ZY ?_) hw;simp only [Int.natAbs_natCast];exact Nat.le_of_dvd (by omega) (Int.gcd_dvd_natAbs_right _ _)
theorem yS{a b:Int}:ordI a b=0↔a=b:=by unfold ordI;split <;> (try split) <;> omega
theorem VaA{l:List Nat}(h:l≠[]):vldW (false,l)=decide (NZ l):=by unfold vldW;rw [if_neg h]
theorem zv_f{l:List Nat}(h:NZ l):zv (false,l)=(val l:Int):=by
 unfold zv;by_cases e:l=[]
 .subst e;simp [vldW]
 .rw [VaA e];simp [h]
theorem uK(hΓ:Holds P Γ){f fo:Nat}(ho:Γ fo=.dat false wO)(hc:check P f=some (2,(qh fo).strip,[.cell 0 2 true])):Sound P f (.dat false Wn):=by
 refine Va hc YaA hΓ (λargs K hcl hfi hG=>?_);match args,hG with
 | [],hG=>
  have hK:=hG;simp only [Wn]at hK;refine⟨by simp,?_⟩
  simp only [go_sem,qh,ho];refine⟨by omega,by omega,hK⟩
theorem JU(hΓ:Holds P Γ){f fv fg fo fc:Nat}(hv:Γ fv=.dat true qj)(hg:Γ fg=.dat false xq)(ho:Γ fo=.dat false Wn)(hc' : Γ fc=.dat true zE)(hc:check P f=some (50,(Zi fv fg fo fc).strip,[.tmp 2])):Sound P f (.dat true yd):=by
 refine Va hc VE hΓ (λargs K hcl hfi hG=>?_);match args,hG with
 | [a],hG=>
  obtain⟨x,rfl,hx,hl,hK⟩:=hG;refine⟨by simp,?_⟩
  simp only [go_sem,Zi,hv,hg,ho,hc',ve,VaE,UaC];have hl1:x.2.1.length<=4294967296:=Nat.le_trans (Nat.le_max_left _ _) hl;have hl2:x.2.2.length<=4294967296:=Nat.le_trans (Nat.le_max_right _ _) hl;have key:x.2.1≠[]->x.2.2≠[]->WL x.2.1/\(vldW (false,x.2.1)=true->WL x.2.2/\(vldW (false,x.2.2)=true->WL x.2.1/\WL x.2.2/\zs (zv (false,x.2.1))<=17179869184/\zs (zv (false,x.2.2))<=17179869184/\
    K (AV.one (C.lit (Value.bool (decide (ordI (((zv (false,x.2.1)).gcd (zv (false,x.2.2)):Nat):Int) 1=0))))))/\(vldW (false,x.2.2)=false->K (AV.one (C.lit (Value.bool false)))))/\(vldW (false,x.2.1)=false->K (AV.one (C.lit (Value.bool false)))):=by
   intro hn hd;unfold vldR at hK;rw [if_neg (λe=>hn e.1)]at hK;rw [VaA hn,VaA hd];refine⟨hx.1,λh1=>⟨hx.2,λh2=>⟨hx.1,hx.2,?_,?_,?_⟩,λh2=>?_⟩,λh1=>?_⟩
   .rw [zv_f (of_decide_eq_true h1),wS,jd hx.1 (of_decide_eq_true h1)];omega
   .rw [zv_f (of_decide_eq_true h2),wS,jd hx.2 (of_decide_eq_true h2)];omega
   .rw [zv_f (of_decide_eq_true h1),zv_f (of_decide_eq_true h2)];have e:decide (ordI (((((val x.2.1:Nat):Int)).gcd ((val x.2.2:Nat):Int):Nat):Int) 1=0)=decide (x.2.1≠[]/\x.2.2≠[]/\NZ x.2.1/\NZ x.2.2/\Nat.gcd (val x.2.1) (val x.2.2)=1):=by
     rw [decide_eq_decide,yS,Int.gcd_natCast_natCast];have h1':=of_decide_eq_true h1;have h2':=of_decide_eq_true h2;constructor
     .intro h;exact⟨hn,hd,h1',h2',by omega⟩
     .rintro⟨_,_,_,_,h⟩;omega
    rw [e];exact hK
   .rw [decide_eq_false (λh=>of_decide_eq_false h2 h.2.2.2.1)]at hK;exact hK
   .rw [decide_eq_false (λh=>of_decide_eq_false h1 h.2.2.1)]at hK;exact hK
  have e0:∀{l:List Nat},¬l.length=0->l≠[]:=λh e=>h (by rw [e];rfl)
  have key0:¬(x.2.1=[]/\x.2.2=[])->(x.2.1=[]∨x.2.2=[])->K (AV.one (C.lit (Value.bool false))):=by
   intro h1 h2;unfold vldR at hK;rw [if_neg h1,decide_eq_false (λh=>h2.elim h.1 h.2.1)]at hK;exact hK
  refine λ_=>⟨λhn _=>⟨λhd=>?_,λhd _=>⟨λh=>?_,λh=>absurd hn h⟩⟩,λhn _=>⟨λh=>absurd h hn,λ_ _=>⟨λhd=>?_,λhd=>key (e0 hn) (e0 hd)⟩⟩⟩
  .unfold vldR at hK;rw [if_pos ⟨List.eq_nil_of_length_eq_zero hn,List.eq_nil_of_length_eq_zero hd⟩]at hK;exact hK
  .exact key0 (λh=>e0 hd h.2) (.inl (List.eq_nil_of_length_eq_zero hn))
  .exact key0 (λh=>e0 hn h.1) (.inr (List.eq_nil_of_length_eq_zero hd))
theorem xP(hΓ:Holds P Γ){f fv fo:Nat}(hv:Γ fv=.dat true yd)(ho:Γ fo=.dat false Wn)(hc:check P f=some (28,(ki fv fo).strip,[.cell 2 2 true,.cell 3 2 true])):Sound P f (.dat false ye):=by
 refine Va hc VD hΓ (λargs K hcl hfi hG=>?_);match args,hG with
 | [a],hG=>
  obtain⟨x,rfl,hx,hl,hK⟩:=hG;refine⟨by simp,?_⟩
  simp only [go_sem,ki,hv,ho,ve,VaE,UaC];have hl1:x.2.1.length<=4294967296:=Nat.le_trans (Nat.le_max_left _ _) hl;have hl2:x.2.2.length<=4294967296:=Nat.le_trans (Nat.le_max_right _ _) hl;have e0:(zcan 0)=(false,[]):=by simp [zcan,Zb]
  have h0:rv x=0->K (AV.tup [AV.agg [C.lit (Value.bool false),C.slice []],AV.agg [zb (zcan 1),zm (zcan 1)]]):=by
   intro h;rw [h]at hK;have e1:((0:Rat).num)=0:=rfl;have e2:((0:Rat).den:Int)=1:=rfl;rw [e1,e2,e0]at hK;exact hK
  refine⟨hx,hl,λhv _=>⟨λhn=>h0 ?_,λhn=>⟨by omega,by omega,?_⟩⟩,λhv=>h0 (X4 hv)⟩
  .unfold rv;rw [if_pos hv,List.eq_nil_of_length_eq_zero hn];simp [val,sg]
  .obtain⟨p1,p2,p3,p4,p5,p6⟩:=XA hx hv (λe=>hn (by rw [e];rfl))
   have hn0:=Jc p4 (λe=>hn (by rw [e];rfl))
   rw [p1,p2]at hK;have e1:zcan (sg x.1 (val x.2.1))=(x.1,x.2.1):=by
    rw [<-zK,jd hx.1 p4];have:decide (0<x.2.1.length)=true:=by simp only [decide_eq_true_eq];omega
    rw [this,Bool.and_true]
   have e2:zcan ((val x.2.2:Nat):Int)=(false,x.2.2):=by
    have:=zK false (val x.2.2);rw [jd hx.2 p5,Bool.false_and]at this;exact this.symm
   rw [e1,e2]at hK;exact hK
theorem UY(hΓ:Holds P Γ){f fs fn fg fd:Nat}(hs:Γ fs=.dat true Wi)(hn:Γ fn=.dat false Vs)(hg:Γ fg=.dat false xq)(hd:Γ fd=.dat false yJ)(hc:check P f=some (47,(Xj fs fn fg fd).strip,[.cell 4 3 true])):Sound P f (.dat false Zn):=by
 refine Va hc xal hΓ (λargs K hcl hfi hG=>?_);match args,hG with
 | [a,b],hG=>
  obtain⟨v,rfl,hv,w,rfl,hw,hz,hz',h0,hK⟩:=hG;refine⟨by simp,?_⟩
  simp only [go_sem,Xj,hs,hn,hg,hd,hv,hw];generalize zv v=n at *
  generalize zv w=d at *
  have hd0:=h0;refine⟨λh=>?_,λh=>?_⟩
  .rw [Int.sign_eq_zero_iff_zero.1 h,Rat.zero_divInt,uc]at hK;exact hK
  have hn0:n≠0:=λe=>h (by rw [e];rfl)
  have hg0:((Int.gcd n d:Nat):Int)≠0:=by
   have:=Int.gcd_pos_of_ne_zero_left d hn0;omega
  have hgz:zs ((Int.gcd n d:Nat):Int)<=17179869184:=yaN hd0 hz';simp only [Int.gcd_neg,Int.neg_gcd,vab,Wa2];refine⟨λhdn=>⟨by omega,by omega,hz,hz',λhnn=>⟨by omega,hz,hgz,hg0,hz',hgz,hg0,?_⟩,λhnn=>⟨hz,hgz,hg0,hz',hgz,hg0,?_⟩⟩,λhdn=>⟨hz,hz',λhnn=>⟨by omega,hz,hgz,hg0,hz',hgz,hg0,?_⟩,λhnn=>⟨hz,hgz,hg0,hz',hgz,hg0,?_⟩⟩⟩
  .rw [Qr hd0 hn0 (by omega) (by omega) (by omega) (by omega) rfl (by rw [decide_eq_decide,Int.sign_eq_neg_one_of_neg hdn];omega)];exact hK
  .rw [Qr hd0 hn0 (by omega) (by omega) (by omega) (by omega) rfl (by rw [decide_eq_decide,Int.sign_eq_neg_one_of_neg hdn];omega)];exact hK
  .rw [Qr hd0 hn0 (by omega) (by omega) (by omega) (by omega) rfl (by rw [decide_eq_decide,Int.sign_eq_one_of_pos (by omega)];omega)];exact hK
  .rw [Qr hd0 hn0 (by omega) (by omega) (by omega) (by omega) rfl (by rw [decide_eq_decide,Int.sign_eq_one_of_pos (by omega)];omega)];exact hK
theorem kap(hΓ:Holds P Γ){f fo fn ff:Nat}(ho:Γ fo=.dat false wO)(hn:Γ fn=.dat false Wn)(hf:Γ ff=.dat false Zn)(hc:check P f=some (7,(xm fo fn ff).strip,[.cell 2 3 true])):Sound P f (.dat false wR):=by
 refine Va hc qaJ hΓ (λargs K hcl hfi hG=>?_);match args,hG with
 | [a],hG=>
  obtain⟨k,n,rfl,rfl,hn1,hn2,hK⟩:=Qc hG;refine⟨by simp,?_⟩
  simp only [go_sem,xm,ho,hn,hf];have e:Rat.divInt n 1=(n:Rat):=Rat.num_divInt_den (n:Rat);rw [e];have h1:zs 1<=2:=waw (by decide)
  have h2:zs n<=2:=waw (by omega)
  exact⟨hn1,hn2,by omega,by omega,by decide,hK⟩
theorem wan(hΓ:Holds P Γ){f fp fn ff:Nat}(hp:Γ fp=.dat false ye)(hn:Γ fn=.dat false Vs)(hf:Γ ff=.dat false Zn)(hc:check P f=some (14,(Uk fp fn ff).strip,[.cell 2 3 true])):Sound P f (.dat false yu):=by
 refine Va hc xap hΓ (λargs K hcl hfi hG=>?_);match args,hG with
 | [a],hG=>
  obtain⟨x,rfl,hx,hl,hK⟩:=hG;refine⟨by simp,?_⟩
  simp only [go_sem,Uk,hp,hn,hf,hx];have n1:=Xv hx;have d1:=Zu hx;rw [Zaq,vab];exact⟨hl,by omega,by omega,by omega,jq _,hK⟩
theorem zF(hΓ:Holds P Γ){f fp fs:Nat}(hp:Γ fp=.dat false ye)(hs:Γ fs=.dat true Wi)(hc:check P f=some (12,(kg fp fs).strip,[.tmp 2])):Sound P f (.dat true Wj):=by
 refine Va hc Uak hΓ (λargs K hcl hfi hG=>?_);match args,hG with
 | [a],hG=>
  obtain⟨x,rfl,hx,hl,hK⟩:=hG;refine⟨by simp,?_⟩
  simp only [go_sem,kg,hp,hs,hx];rw [<-zax];exact⟨hl,hK⟩
theorem wal(hΓ:Holds P Γ){f fp fm fc:Nat}(hp:Γ fp=.dat false ye)(hm:Γ fm=.dat false jv)(hc' : Γ fc=.dat true zE)(hc:check P f=some (26,(vl fp fm fc).strip,[.tmp 4])):Sound P f (.dat true qy):=by
 refine Va hc War hΓ (λargs K hcl hfi hG=>?_);match args,hG with
 | [a,b],hG=>
  obtain⟨x,rfl,hx,y,rfl,hy,hl,hl',hK⟩:=hG;refine⟨by simp,?_⟩
  simp only [go_sem,vl,hp,hm,hc',hx,hy];have n1:=Xv hx;have d1:=Zu hx;have n2:=Xv hy;have d2:=Zu hy;rw [<-YaC];exact⟨hl,hl',by omega,by omega,by omega,by omega,hK⟩
theorem Yal(hΓ:Holds P Γ){f fp fm fa ff:Nat}(hp:Γ fp=.dat false ye)(hm:Γ fm=.dat false jv)(ha:Γ fa=.dat false Qs)(hf:Γ ff=.dat false Zn)(hc:check P f=some (30,(qm fp fm fa ff).strip,[.cell 4 3 true])):Sound P f (.dat false wu):=by
 refine Va hc zaD hΓ (λargs K hcl hfi hG=>?_);match args,hG with
 | [a,b],hG=>
  obtain⟨x,rfl,hx,y,rfl,hy,hl,hl',hK⟩:=hG;refine⟨by simp,?_⟩
  simp only [go_sem,qm,hp,hm,ha,hf,hx,hy];have n1:=Xv hx;have d1:=Zu hx;have n2:=Xv hy;have d2:=Zu hy;rw [Int.natCast_mul,qF];have m1:=Yk (rv x).num (rv y).den;have m2:=Yk (rv y).num (rv x).den;have m3:=Yk ((rv x).den:Int) (rv y).den;have a1:=qK ((rv x).num*(rv y).den) ((rv y).num*(rv x).den);exact⟨hl,hl',by omega,by omega,by omega,by omega,by omega,by omega,by omega,by omega,by omega,by omega,Int.mul_ne_zero (jq _) (jq _),hK⟩
theorem zam(hΓ:Holds P Γ){f fn fa:Nat}(hn:Γ fn=.dat false yu)(ha:Γ fa=.dat false wu)(hc:check P f=some (9,(Ul fn fa).strip,[.cell 4 3 true])):Sound P f (.dat false Jy):=by
 refine Va hc yat hΓ (λargs K hcl hfi hG=>?_);match args,hG with
 | [a,b],hG=>
  obtain⟨x,rfl,hx,y,rfl,hy,hl,hl',hK⟩:=hG;refine⟨by simp,?_⟩
  simp only [go_sem,Ul,hn,ha,hx,hy];rw [<-Rat.sub_eq_add_neg,Uy];exact⟨hl',hl,Nat.le_trans (VS hy) hl',hK⟩
end Go.Abs
end
section
namespace Go.Num
theorem Jaw(l:List Nat)(m:Nat):val l=val (l.take m)+4294967296 ^ m*val (l.drop m):=by
 by_cases h:m<=l.length
 .conv=>lhs;rw [<-List.take_append_drop m l,ub,List.length_take,Nat.min_eq_left h]
 .rw [List.take_of_length_le (by omega),List.drop_of_length_le (by omega)];simp [val]
theorem YA(l:List Nat)(m:Nat):val (l.drop m)=l.getD m 0+4294967296*val (l.drop (m+1)):=by
 by_cases h:m<l.length
 .have:=vF l (n:=m+1) (by omega) (by omega)
  exact this
 .rw [List.drop_of_length_le (by omega),List.drop_of_length_le (by omega),List.getD_eq_getElem?_getD,List.getElem?_eq_none (by omega)];simp [val]
theorem ja1{l:List Nat}(h:WL l)(m:Nat):val (l.take m)<4294967296 ^ m:=
 Nat.lt_of_lt_of_le (Xh (ko h m)) (Nat.pow_le_pow_right (by omega) (by rw [List.length_take];omega))
theorem xaO{x y:List Nat}{m:Nat}(hx:WL x)(hd:val (x.drop (m+1))=val (y.drop (m+1)))(h:x.getD m 0<y.getD m 0):val x<val y:=by
 have h1:=Jaw x m;have h2:=Jaw y m;have h3:=ja1 hx m;rw [YA,hd]at h1;rw [YA]at h2;generalize 4294967296 ^ m=p at *
 have:p*(x.getD m 0+4294967296*val (y.drop (m+1))+1)<=p*(y.getD m 0+4294967296*val (y.drop (m+1))):=Nat.mul_le_mul_left _ (by omega)
 rw [Nat.mul_add p _ 1]at this;omega
theorem WM{x y c:Nat}(hx:x<4294967296)(hy:y<4294967296)(hc:c<=1):∃s:Nat,((((4294967296+(x:Int)) % 18446744073709551616-(y:Int)) % 18446744073709551616-(c:Int)) % 18446744073709551616)=(s:Int)/\
  (1-(s:Int) / 4294967296) % 18446744073709551616=((1-s / 4294967296:Nat):Int)/\s % 4294967296+y+c=x+4294967296*(1-s / 4294967296)/\1-s / 4294967296<=1:=by
 exact⟨4294967296+x-y-c,by omega,by omega,by omega,by omega⟩
theorem JaN{V Q c xa ya a b u w B:Nat}(h:V+Q*c=xa+ya)(hs:u+B*w=a+b+c):V+Q*u+Q*B*w=xa+Q*a+(ya+Q*b):=by
 have:=congrArg (Q * ·) hs;simp only [Nat.mul_add]at this;rw [Nat.mul_assoc Q B w];omega
theorem waz{o l post:List Nat}(h:o.length<=l.length):(o++(l.drop o.length++post)).length=l.length+post.length:=by simp;omega
theorem X2{o l post:List Nat}(h:o.length<=l.length):(o++(l.drop o.length++post)).take l.length=o++l.drop o.length:=by
 rw [<-List.append_assoc,List.take_append_of_le_length (by simp;omega),List.take_of_length_le (by simp;omega)]
theorem Xaf(o l:List Nat)(k:Nat):(o++l.drop o.length).getD (o.length+k) 0=l.getD (o.length+k) 0:=by
 simp only [List.getD_eq_getElem?_getD];rw [List.getElem?_append_right (by omega),List.getElem?_drop,show o.length+(o.length+k-o.length)=o.length+k by omega]
theorem JZ(o l:List Nat):(o++l.drop o.length).getD o.length 0=l.getD o.length 0:=Xaf o l 0
theorem vaw{o l post:List Nat}(v:Nat)(h:o.length<l.length):(o++(l.drop o.length++post)).set o.length v=(o++[v])++(l.drop (o++[v]).length++post):=by
 have:=zY [] o l post v h;simpa using this
theorem xaX{o l:List Nat}(ho:WL o)(hl:WL l):WL (o++l.drop o.length):=Yd.2 ⟨ho,yaX hl _⟩
theorem jaN{a b:Nat}(ha:a<4294967296)(hb:b<4294967296):(a / 2 ||| b*2147483648 % 18446744073709551616) % 4294967296=(a+4294967296*b) / 2 ^ 1 % 4294967296:=by
 have:=Nat.two_pow_add_eq_or_of_lt (i:=31) (b:=a / 2) (by omega) b
 rw [Nat.mod_eq_of_lt (show b*2147483648<18446744073709551616 by omega),Nat.or_comm,show b*2147483648=2 ^ 31*b by omega,<-this]
 omega
theorem Xao{l post:List Nat}{i:Nat}(h:i<l.length):(l++post).getD i 0=l.getD i 0:=by
 simp only [List.getD_eq_getElem?_getD];rw [List.getElem?_append_left h]
theorem ug{a:Nat}(h:a≠0):0<(digs a).length:=by rw [kk h];simp
theorem Un{a:Nat}(h:a≠0)(p:List Nat):(digs a++p).getD 0 0=a % 4294967296:=by rw [kk h];rfl
theorem zo{a:Nat}:(digs a).length=0↔a=0:=by rw [List.length_eq_zero_iff,Ud]
theorem Za9{a b k g:Nat}(ha:a % 2=0)(hb:b % 2=0)(h:Nat.gcd a b*2 ^ k=g):Nat.gcd (a / 2) (b / 2)*2 ^ (k+1)=g:=by
 obtain⟨a',rfl⟩:∃a',a=2*a':=⟨a / 2,by omega⟩
 obtain⟨b',rfl⟩:∃b',b=2*b':=⟨b / 2,by omega⟩
 rw [Nat.gcd_mul_left]at h;rw [Nat.mul_div_cancel_left _ (by omega),Nat.mul_div_cancel_left _ (by omega),Nat.pow_succ,<-h]
 rw [Nat.mul_comm (2 ^ k) 2,<-Nat.mul_assoc,Nat.mul_comm _ 2]
theorem qaC{a b:Nat}(ha:a % 2=0)(hb:b % 2≠0):Nat.gcd (a / 2) b=Nat.gcd a b:=by
 obtain⟨a',rfl⟩:∃a',a=2*a':=⟨a / 2,by omega⟩
 rw [Nat.mul_div_cancel_left _ (by omega)]
 have:Nat.Coprime 2 b:=by
  rw [Nat.coprime_iff_gcd_eq_one,Nat.gcd_rec,show b % 2=1 by omega];rfl
 exact(Nat.Coprime.gcd_mul_left_cancel a' this).symm
theorem zaO{a b:Nat}(ha:a % 2≠0)(hb:b % 2=0):Nat.gcd a (b / 2)=Nat.gcd a b:=by
 rw [Nat.gcd_comm a,Nat.gcd_comm a];exact qaC hb ha
theorem QM{a b:Nat}(h:b<=a):Nat.gcd (a-b) b=Nat.gcd a b:=Nat.gcd_sub_self_left h
theorem uaW{k n:Nat}(h:2 ^ k<=n){s:Nat}(hn:n<4294967296 ^ s):k<32*s:=by
 have e:(4294967296:Nat) ^ s=2 ^ (32*s):=by rw [Nat.pow_mul]
 rw [e]at hn;exact(Nat.pow_lt_pow_iff_right (by omega)).1 (Nat.lt_of_le_of_lt h hn)
theorem VA{a b:Nat}:ordN a b<0↔a<b:=by unfold ordN;split <;> (try split) <;> omega
end Go.Num
namespace Go.Abs
open Go.Num
theorem share4{c1 c2 c3 p d1 d2 d3 q X L:Prop}(h1:c1)(h2:c2)(h3:c3)(k1:d1)(k2:d2)(k3:d3)(hx:p->q->X)(hl:¬p∨¬q->L):c1/\c2/\c3/\(p->d1/\d2/\d3/\(q->X)/\(¬q->L))/\(¬p->L):=
 ⟨h1,h2,h3,λhp=>⟨k1,k2,k3,hx hp,λhq=>hl (.inr hq)⟩,λhp=>hl (.inl hp)⟩
theorem Ji(K:AV->Prop)(a:Nat):arith K .and .u32 (a:Int) 1=(a<2 ^ IntKind.u32.bits/\intR K .u32 ((a % 2:Nat):Int)):=kal K .u32 a rfl (by decide)
theorem yX{h' : Nat->HB}{k v v' z:Nat}{b:Bool}{es:List (List C)}{l' : List Nat}{r:List (Nat×HB)}(e:es=l'.map wc):okH (mkH ((k,⟨v,some ⟨es,z,b⟩⟩)::r)) h' [(k,⟨v',some ⟨l'.map wc,z,b⟩⟩)]:=by
 subst e;exact Jf rfl
theorem Uau{h h' : Nat->HB}{z:Nat}{b:Bool}{es:List (List C)}{l' : List Nat}(e:es=l'.map wc):okB h h' (some ⟨es,z,b⟩) (some ⟨l'.map wc,z,b⟩):=by
 subst e;exact jb rfl
theorem kas(L:List Nat)(i s:Nat):(L.map wc).set i [C.lit (.int .u32 ((s:Int) % 4294967296))]=(L.set i (s % 4294967296)).map wc:=by
 rw [List.map_set];simp [wc]
def onWx(k:List Nat->Prop)(a:AV):Prop:=∃l,(a=.one (ws l)∨a=.one (.full (l.map wc))∨(a=.one .emp/\l=[]))/\WL l/\k l
@[congr] theorem Qbn{k:List Nat->Prop}{a a'}(h:a=a'):onWx k a=onWx k a':=by subst h;rfl
theorem uQ(k:List Nat->Prop)(l:List Nat):onWx k (.one (.slice (l.map wc)))=(WL l/\k l):=by
 refine propext ⟨λ⟨x,h,h1,h2⟩=>?_,λh=>⟨l,.inl rfl,h⟩⟩;rcases h with h | h | h
 .have:=jp l x h;subst this;exact⟨h1,h2⟩
 .simp at h
 .simp at h
theorem Uaz(k:List Nat->Prop)(l:List Nat):onWx k (.one (.full (l.map wc)))=(WL l/\k l):=by
 refine propext ⟨λ⟨x,h,h1,h2⟩=>?_,λh=>⟨l,.inr (.inl rfl),h⟩⟩;rcases h with h | h | h
 .simp [ws]at h
 .have:=UH (x:=l) (y:=x) (by simpa using h);subst this;exact⟨h1,h2⟩
 .simp at h
theorem Xaw(k:List Nat->Prop):onWx k (.one .emp)=k []:=by
 refine propext ⟨λ⟨x,h,h1,h2⟩=>?_,λh=>⟨[],.inr (.inr ⟨rfl,rfl⟩),Wc,h⟩⟩;rcases h with h | h | h
 .simp [ws]at h
 .simp at h
 .obtain⟨_,rfl⟩:=h;exact h2
attribute [go_sem,go_sem ↓] uQ Uaz Xaw
theorem jbb{β:Type}{T:List Nat->(β->Prop)->Prop}(h:∀l,GoodT (T l)){a:AV}:GoodT λK=>onWx (λl=>T l K) a:=
 .of λK hx=>by
  obtain⟨l,ha,hw,hk⟩:=hx;rcases ha with ha | ha | ⟨ha,rfl⟩
  .have:(λK=>onWx (λl=>T l K) a)=λK=>WL l/\T l K:=funext λK=>by rw [ha];exact uQ _ l
   rw [this];exact .and λ_=>h l
  .have:(λK=>onWx (λl=>T l K) a)=λK=>WL l/\T l K:=funext λK=>by rw [ha];exact Uaz _ l
   rw [this];exact .and λ_=>h l
  .have:(λK=>onWx (λl=>T l K) a)=T []:=funext λK=>by rw [ha];exact Xaw _
   rw [this];exact h []
def Yv:q_F:=q_c1 λa K=>onWx (λl=>l.length<=68719476736/\K ((digs (val l)).map wc)) a
theorem xay:Good Yv:=q_g1 λ_=>(jbb λ_=>(.and λ_=>(.ret _)))
def Zt:q_T:=q_c2 λa b K=>onWs (λx=>onWs (λy=>K (.one (.lit (.int .i64 (ordN (val x) (val y)))))) b) a
theorem Jan:Good Zt:=q_g2 λ_ _=>(jg λ_=>(jg λ_=>(.ret _)))
def zy:q_T:=q_c2 λa b K=>onWs (λx=>onWs (λy=>x.length<=17179869184/\y.length<=17179869184/\K (.one (.slice ((digs (Nat.gcd (val x) (val y))).map wc)))) b) a
theorem Wak:Good zy:=q_g2 λ_ _=>(jg λ_=>(jg λ_=>(.and λ_=>(.and λ_=>(.ret _)))))
def WJ:q_T:=q_c2 λa b K=>onW (λv=>onW (λw=>zs (zv v)<=17179869184/\zs (zv w)<=17179869184/\K (.agg [zb (zcan (zv v-zv w)),zm (zcan (zv v-zv w))])) b) a
theorem kaB:Good WJ:=q_g2 λ_ _=>(uk λ_=>(uk λ_=>(.and λ_=>(.and λ_=>(.ret _)))))
def Vr:q_T:=q_c2 λa b K=>onW (λv=>onW (λw=>zs (zv v)<=17179869184/\zs (zv w)<=17179869184/\zs (zv v-zv w)<=17179869184/\K (.one (.lit (.int .i64 (ordI (zv v) (zv w)))))) b) a
theorem wY:Good Vr:=q_g2 λ_ _=>(uk λ_=>(uk λ_=>(.and λ_=>(.and λ_=>(.and λ_=>(.ret _))))))
attribute [go_sem] Yv Zt zy WJ Vr
def YP(d:Option Nat)(args:List AV)(h:Nat->HB)(K:AV->(Nat->HB)->Prop):Prop:=
 match args with
 | [.one (.own r ver 1 0 len)]=>∃l post,len=l.length/\h r=⟨ver,some ⟨(l++post).map wc,1,true⟩⟩/\WL l/\len<=68719476736/\
   ∀post',K (.one (.own r ver 1 0 (digs (val l)).length)) (upd h r ⟨ver,some ⟨(digs (val l)++post').map wc,1,true⟩⟩)
 | _=>False
@[congr] theorem xbn {d:Option Nat} {l l' : List AV} {h h' : Nat->HB} {K:AV->(Nat->HB)->Prop} (e1:l=l') (e2:h=h'):YP d l h K=YP d l' h' K:=by subst e1;subst e2;rfl
def xj(d:Option Nat)(args:List AV)(h:Nat->HB)(K:AV->(Nat->HB)->Prop):Prop:=
 match args with
 | [.one (.own r ver 1 0 len)]=>∃l post,len=l.length/\h r=⟨ver,some ⟨(l++post).map wc,1,true⟩⟩/\WL l/\len<=68719476736/\
   ∀post',K (.one (.own r ver 1 0 (digs (val l / 2)).length)) (upd h r ⟨ver,some ⟨(digs (val l / 2)++post').map wc,1,true⟩⟩)
 | _=>False
@[congr] theorem wbi {d:Option Nat} {l l' : List AV} {h h' : Nat->HB} {K:AV->(Nat->HB)->Prop} (e1:l=l') (e2:h=h'):xj d l h K=xj d l' h' K:=by subst e1;subst e2;rfl
def yp(d:Option Nat)(args:List AV)(h:Nat->HB)(K:AV->(Nat->HB)->Prop):Prop:=
 match args with
 | [.one (.own r ver 1 0 len),.one (.own r2 ver2 1 0 len2)]=>∃l post y posty,r≠r2/\len=l.length/\h r=⟨ver,some ⟨(l++post).map wc,1,true⟩⟩/\WL l/\len<=68719476736/\
   len2=y.length/\h r2=⟨ver2,some ⟨(y++posty).map wc,1,true⟩⟩/\WL y/\val y<=val l/\
   K (.tup []) (upd (upd h r2 ⟨ver2,some ⟨(y++posty).map wc,1,true⟩⟩) r ⟨ver,some ⟨(dig l.length (val l-val y)++post).map wc,1,true⟩⟩)
 | [.one (.own r ver 1 0 len),b]=>onWs (λy=>∃l post,len=l.length/\h r=⟨ver,some ⟨(l++post).map wc,1,true⟩⟩/\WL l/\len<=68719476736/\val y<=val l/\
   K (.tup []) (upd h r ⟨ver,some ⟨(dig l.length (val l-val y)++post).map wc,1,true⟩⟩)) b
 | _=>False
@[congr] theorem Zbm {d:Option Nat} {l l' : List AV} {h h' : Nat->HB} {K:AV->(Nat->HB)->Prop} (e1:l=l') (e2:h=h'):yp d l h K=yp d l' h' K:=by subst e1;subst e2;rfl
end Go.Abs
end
section
namespace Go.Abs
open Go.Num
variable {P:Program} {Γ:Nat->Spec}
def qe(f0 f1 f2 f3:Nat):AC:=(.o [.K 1 3 0,.m 2 .fa] [1] (.f (.o [.A 3 1 1,.F 4 1 3,.Z 5 4,.I 6 .eql 5 0,.M 7 6,.T 8 7 true 2 1,.U 9 7 true 1 false 8,.w 10 7 true (.len (.t 9)),.w 11 7 true (.bin .eql (.t 10) (.i 0)),.P 12 7 11] [1,12] (.cond (.t 12) (.seq (.p [.A 13 0 1,.F 14 1 13,.u 15 (.un .not (.t 14)),.M 2 15]) .ret) .skip)) [1] (.seq (.p [.A 16 1 1,.F 17 1 16,.H 18 f0 17,.M 19 18,.T 20 19 true 2 1,.U 21 19 true 1 false 20,.W 22 19 true f0 21,.P 23 19 22,.M 24 23,.T 25 24 true 1 1,.U 26 24 true 1 false 25,.w 27 24 true (.build [.z [.z],.x 1 (.t 26)]),.T 28 24 true 2 1,.U 29 24 true 1 false 28,.w 30 24 true (.build [.z [.z],.x 1 (.t 29)]),.Y 31 24 true f1 27 30,.w 32 24 true (.call f2 []),.Y 33 24 true f3 31 32,.w 34 24 true (.bin .eql (.t 33) (.i 0)),.P 35 24 34,.M 2 35]) .ret)))
def Ve(f0 f1:Nat):AC:=(.o [.K 1 3 0,.G 2 [.z,.emp],.G 3 [.z,.emp]] [1,2,3] (.f (.o [.L 4 3 1,.H 5 f0 4,.u 6 (.un .not (.t 5)),.M 7 6,.T 8 7 false 1 1,.U 9 7 false 1 false 8,.w 10 7 false (.len (.t 9)),.w 11 7 false (.bin .eql (.t 10) (.i 0)),.Q 12 7 11] [1,2,3,12] (.cond (.t 12) (.seq (.p [.u 13 (.build [.z [.z,.emp]]),.u 14 (.call f1 []),.S 2 2 13,.S 2 3 14]) .ret) .skip)) [1,2,3] (.seq (.y [.A 15 0 1,.u 16 (.ld (some 1) 1 false (.t 15)),.A 17 1 1,.u 18 (.ld (some 1) 1 false (.t 17)),.u 19 (.build [.x 1 (.t 16),.x 1 (.t 18)]),.A 20 2 1,.u 21 (.ld (some 1) 1 false (.t 20)),.u 22 (.build [.z [.z],.x 1 (.t 21)]),.n (.st (some 2) 2 (.t 2) (.t 19)),.n (.st (some 3) 2 (.t 3) (.t 22))]) .ret)))
def Qe:AC:=(.o [.m 2 .fa] [0] (.seq (.p [.M 3 0,.Z 4 3,.I 5 .gtr 4 0,.M 6 5,.V 7 6 true 0,.V 8 6 true 0,.w 9 6 true (.len (.t 8)),.w 10 6 true (.bin .sub (.t 9) (.i 1)),.w 11 6 true (.idx 1 (.t 7) (.t 10)),.U 12 6 true 1 false 11,.w 13 6 true (.bin .neq (.t 12) (.c (.one (.lit (.int .u32 0))))),.P 14 6 13,.M 2 14]) .ret))
theorem UG(hΓ:Holds P Γ){f:Nat}(hc:check P f=some (15,Qe.strip,[.tmp 2])):Sound P f (.dat true vr):=by
 refine Va hc Q6 hΓ (λargs K hcl hfi hG=>?_);match args,hG with
 | [a],hG=>
  obtain⟨l,rfl,hl,hK⟩:=hG;refine⟨by simp,?_⟩
  simp only [go_sem,Qe];intro _;refine⟨λh _=>⟨by omega,by omega,by omega,?_⟩,λh=>?_⟩
  .have hne:l≠[]:=λe=>by rw [e]at h;simp at h
   rw [show((l.length:Int)-1).toNat=l.length-1 by omega]
   have e:(!decide (l.getD (l.length-1) 0=0))=decide (l≠[]/\NZ l):=by
    rw [<-decide_not,decide_eq_decide];unfold NZ;rw [List.getLast?_eq_getElem?,List.getElem?_eq_getElem (by omega),List.getD_eq_getElem?_getD,List.getElem?_eq_getElem (by omega)]
    simp [hne]
   rw [e];exact hK
  .have hne:l=[]:=List.eq_nil_of_length_eq_zero (by omega)
   rw [decide_eq_false (λe=>e.1 hne)]at hK;exact hK
theorem QH(hΓ:Holds P Γ){f fv fg fo fc:Nat}(hv:Γ fv=.dat true vr)(hg:Γ fg=.dat false xq)(ho:Γ fo=.dat false Wn)(hc' : Γ fc=.dat true Vr)(hc:check P f=some (36,(qe fv fg fo fc).strip,[.tmp 2])):Sound P f (.dat true yd):=by
 refine Va hc VE hΓ (λargs K hcl hfi hG=>?_);match args,hG with
 | [a],hG=>
  obtain⟨x,rfl,hx,hl,hK⟩:=hG;refine⟨by simp,?_⟩
  simp only [go_sem,qe,hv,hg,ho,hc',ve,VaE,UaC];have hl1:x.2.1.length<=4294967296:=Nat.le_trans (Nat.le_max_left _ _) hl;have hl2:x.2.2.length<=4294967296:=Nat.le_trans (Nat.le_max_right _ _) hl;have e0:∀{l:List Nat},¬l.length=0->l≠[]:=λh e=>h (by rw [e];rfl)
  have key:¬(x.2.1=[]/\x.2.2=[])->WL x.2.1/\(x.2.1≠[]/\NZ x.2.1->WL x.2.2/\(x.2.2≠[]/\NZ x.2.2->WL x.2.1/\WL x.2.2/\zs (zv (false,x.2.1))<=17179869184/\zs (zv (false,x.2.2))<=17179869184/\
    zs (((zv (false,x.2.1)).gcd (zv (false,x.2.2)):Nat):Int)<=17179869184/\zs 1<=17179869184/\zs ((((zv (false,x.2.1)).gcd (zv (false,x.2.2)):Nat):Int)-1)<=17179869184/\
    K (AV.one (C.lit (Value.bool (decide (ordI (((zv (false,x.2.1)).gcd (zv (false,x.2.2)):Nat):Int) 1=0))))))/\(¬(x.2.2≠[]/\NZ x.2.2)->K (AV.one (C.lit (Value.bool false)))))/\(¬(x.2.1≠[]/\NZ x.2.1)->K (AV.one (C.lit (Value.bool false)))):=by
   intro hnd;unfold vldR at hK;rw [if_neg hnd]at hK;refine⟨hx.1,λh1=>⟨hx.2,λh2=>?_,λh2=>?_⟩,λh1=>?_⟩
   .have s2:zs (zv (false,x.2.2))<=4294967296:=by rw [zv_f h2.2,wS,jd hx.2 h2.2];exact hl2
    have hne:zv (false,x.2.2)≠0:=by
     rw [zv_f h2.2];have:=Jc h2.2 h2.1;omega
    have s3:=yaN (v:=zv (false,x.2.1)) hne s2;have s4:zs 1<=2:=waw (by decide)
    have s5:=qK ((((zv (false,x.2.1)).gcd (zv (false,x.2.2)):Nat):Int)) (-1);rw [vab,<-Int.sub_eq_add_neg]at s5;refine⟨hx.1,hx.2,?_,by omega,by omega,by omega,by omega,?_⟩
    .rw [zv_f h1.2,wS,jd hx.1 h1.2];omega
    .rw [zv_f h1.2,zv_f h2.2];have e:decide (ordI (((((val x.2.1:Nat):Int)).gcd ((val x.2.2:Nat):Int):Nat):Int) 1=0)=decide (x.2.1≠[]/\x.2.2≠[]/\NZ x.2.1/\NZ x.2.2/\Nat.gcd (val x.2.1) (val x.2.2)=1):=by
      rw [decide_eq_decide,yS,Int.gcd_natCast_natCast];constructor
      .intro h;exact⟨h1.1,h2.1,h1.2,h2.2,by omega⟩
      .rintro⟨_,_,_,_,h⟩;omega
     rw [e];exact hK
   .rw [decide_eq_false (λh=>h2 ⟨h.2.1,h.2.2.2.1⟩)]at hK;exact hK
   .rw [decide_eq_false (λh=>h1 ⟨h.1,h.2.2.1⟩)]at hK;exact hK
  refine λ_=>⟨λhn _=>⟨λhd=>?_,λhd=>key (λh=>e0 hd h.2)⟩,λhn=>key (λh=>e0 hn h.1)⟩;unfold vldR at hK;rw [if_pos ⟨List.eq_nil_of_length_eq_zero hn,List.eq_nil_of_length_eq_zero hd⟩]at hK;exact hK
theorem ZH(hΓ:Holds P Γ){f fv fo:Nat}(hv:Γ fv=.dat true yd)(ho:Γ fo=.dat false Wn)(hc:check P f=some (23,(Ve fv fo).strip,[.cell 2 2 true,.cell 3 2 true])):Sound P f (.dat false ye):=by
 refine Va hc VD hΓ (λargs K hcl hfi hG=>?_);match args,hG with
 | [a],hG=>
  obtain⟨x,rfl,hx,hl,hK⟩:=hG;refine⟨by simp,?_⟩
  simp only [go_sem,Ve,hv,ho,ve,VaE,UaC];have hl1:x.2.1.length<=4294967296:=Nat.le_trans (Nat.le_max_left _ _) hl;have hl2:x.2.2.length<=4294967296:=Nat.le_trans (Nat.le_max_right _ _) hl;have e0:(zcan 0)=(false,[]):=by simp [zcan,Zb]
  have h0:rv x=0->K (AV.tup [AV.agg [C.lit (Value.bool false),C.slice []],AV.agg [zb (zcan 1),zm (zcan 1)]]):=by
   intro h;rw [h]at hK;have e1:((0:Rat).num)=0:=rfl;have e2:((0:Rat).den:Int)=1:=rfl;rw [e1,e2,e0]at hK;exact hK
  refine⟨hx,hl,λhv _=>⟨λhn=>h0 ?_,λhn=>?_⟩,λhv=>h0 (X4 hv)⟩
  .unfold rv;rw [if_pos hv,List.eq_nil_of_length_eq_zero hn];simp [val,sg]
  .obtain⟨p1,p2,p3,p4,p5,p6⟩:=XA hx hv (λe=>hn (by rw [e];rfl))
   have hn0:=Jc p4 (λe=>hn (by rw [e];rfl))
   rw [p1,p2]at hK;have e1:zcan (sg x.1 (val x.2.1))=(x.1,x.2.1):=by
    rw [<-zK,jd hx.1 p4];have:decide (0<x.2.1.length)=true:=by simp only [decide_eq_true_eq];omega
    rw [this,Bool.and_true]
   have e2:zcan ((val x.2.2:Nat):Int)=(false,x.2.2):=by
    have:=zK false (val x.2.2);rw [jd hx.2 p5,Bool.false_and]at this;exact this.symm
   rw [e1,e2]at hK;exact hK
end Go.Abs
end
section
namespace Go.Num
open Go.Abs
theorem rz_0:rz 0=0:=by unfold rz;rw [uc];rfl
theorem rz_1:rz 1<=2:=by
 have:=Zak 1;have h1:zs 1<=2:=waw (by decide)
 have e:((1:Int):Rat)=1:=rfl;rw [e]at this;omega
theorem XI(p q:Rat):rz (p*q)<=rz p+rz q+2:=by
 rw [<-JC];have n1:=YG p;have n2:=YG q;have d1:=VC p;have d2:=VC q;have m1:=Yk p.num q.num;have m2:=Yk (p.den:Int) (q.den:Int);refine ZD (by exact Int.mul_ne_zero (jq _) (jq _)) (by omega) (by omega)
theorem wE{p q:Rat}(hq:q≠0):Rat.divInt (p.num*q.den) (p.den*q.num)=p / q:=by
 have hn:q.num≠0:=yP hq;have e1:(p.num:Rat) / (p.den:Rat)=p:=by have:=Rat.num_divInt_den p;rw [Rat.divInt_eq_div]at this;exact this
 have e2:(q.num:Rat) / (q.den:Rat)=q:=by have:=Rat.num_divInt_den q;rw [Rat.divInt_eq_div]at this;exact this
 have d1:(p.den:Rat)≠0:=by exact_mod_cast p.den_nz
 have d2:(q.den:Rat)≠0:=by exact_mod_cast q.den_nz
 have d3:(q.num:Rat)≠0:=by exact_mod_cast hn
 rw [Rat.divInt_eq_div];simp only [Rat.intCast_mul,Rat.intCast_natCast];have f1:(p.num:Rat)=p*(p.den:Rat):=by grind
 have f2:(q.num:Rat)=q*(q.den:Rat):=by grind
 rw [f1,f2];grind
theorem Vaf(p q:Rat):rz (p / q)<=rz p+rz q+2:=by
 by_cases hq:q=0
 .subst hq;rw [Rat.div_def,Rat.inv_zero,Rat.mul_zero,rz_0];omega
 .rw [<-wE hq];have n1:=YG p;have n2:=YG q;have d1:=VC p;have d2:=VC q;have m1:=Yk p.num (q.den:Int);have m2:=Yk (p.den:Int) q.num;refine ZD (by exact Int.mul_ne_zero (jq _) (yP hq)) (by omega) (by omega)
theorem yba(p q:Rat):Rat.divInt (p.num*q.den) (p.den*q.num)=p / q:=by
 by_cases hq:q=0
 .subst hq;rw [show(0:Rat).num=0 from rfl,Int.mul_zero,Rat.divInt_zero,Rat.div_def,Rat.inv_zero,Rat.mul_zero]
 .exact wE hq
end Go.Num
namespace Go.Abs
open Go.Num
variable {P:Program} {Γ:Nat->Spec}
def rQ(q:Rat):AV:=.agg [cb (rcan q),cn (rcan q),cd (rcan q)]
theorem ua4(q:Rat):rQ q=.agg [cb (rcan q),cn (rcan q),cd (rcan q)]:=eq_of_heq (HEq.refl _)
attribute [go_sem,go_sem ↓] ua4
def Wy:q_T:=q_c2 λa b K=>onR (λx=>onR (λy=>rl x<=4294967296/\rl y<=4294967296/\K (rQ (rv x*rv y))) b) a
theorem Uan:Good Wy:=q_g2 λ_ _=>(wv λ_=>(wv λ_=>(.and λ_=>(.and λ_=>(.ret _)))))
def Yr(tE:Nat):q_T:=q_c2 λa b K=>onW (λv=>onW (λw=>zs (zv v)<=17179869184/\zs (zv w)<=17179869184/\K (.tup [rQ (Rat.divInt (zv v) (zv w)),errV tE (if zv w=0 then 8 else 0)])) b) a
theorem U1(tE:Nat):Good (Yr tE):=q_g2 λ_ _=>(uk λ_=>(uk λ_=>(.and λ_=>(.and λ_=>(.ret _)))))
def qq(tE:Nat):q_T:=q_c2 λa b K=>onR (λx=>onR (λy=>rl x<=4294967296/\rl y<=4294967296/\K (.tup [rQ (rv x / rv y),errV tE (if rv y=0 then 8 else 0)])) b) a
theorem xam(tE:Nat):Good (qq tE):=q_g2 λ_ _=>(wv λ_=>(wv λ_=>(.and λ_=>(.and λ_=>(.ret _)))))
attribute [go_sem] Wy Yr qq
def Xk(f0 f1 f2:Nat):AC:=(.o [.K 2 3 0,.K 3 3 1,.G 4 [.z,.emp,.emp]] [2,3,4] (.o [.L 10 3 2,.H 11 f0 10,.M 9 11,.X 12 0 9,.X 13 1 9,.G 5 [.z,.emp],.G 6 [.z,.emp],.S 2 5 12,.S 2 6 13] [3,4,5,6] (.o [.L 15 3 3,.H 16 f0 15,.M 14 16,.X 17 0 14,.X 18 1 14,.G 7 [.z,.emp],.G 8 [.z,.emp],.S 2 7 17,.S 2 8 18] [4,5,6,7,8] (.seq (.y [.L 19 2 5,.L 20 2 7,.D 21 f1 19 20,.L 22 2 6,.L 23 2 8,.D 24 f1 22 23,.D 25 f2 21 24,.S 3 4 25]) .ret))))
def Xl(f0 f1 f2:Nat):AC:=(.o [.K 2 3 0,.K 3 3 1,.G 4 [.z,.emp,.emp],.m 5 (.c (.one (.lit .nilIface)))] [2,3,4] (.o [.L 11 3 2,.H 12 f0 11,.M 10 12,.X 13 0 10,.X 14 1 10,.G 6 [.z,.emp],.G 7 [.z,.emp],.S 2 6 13,.S 2 7 14] [3,4,6,7] (.o [.L 16 3 3,.H 17 f0 16,.M 15 17,.X 18 0 15,.X 19 1 15,.G 8 [.z,.emp],.G 9 [.z,.emp],.S 2 8 18,.S 2 9 19] [4,6,7,8,9] (.seq (.y [.L 20 2 6,.L 21 2 9,.D 22 f1 20 21,.L 23 2 7,.L 24 2 8,.D 25 f1 23 24,.D 26 f2 22 25,.X 27 0 26,.X 28 1 26,.S 3 4 27,.M 5 28]) .ret))))
theorem wak(hΓ:Holds P Γ){f fp fm ff:Nat}(hp:Γ fp=.dat false ye)(hm:Γ fm=.dat false jv)(hf:Γ ff=.dat false Zn)(hc:check P f=some (26,(Xk fp fm ff).strip,[.cell 4 3 true])):Sound P f (.dat false Wy):=by
 refine Va hc Uan hΓ (λargs K hcl hfi hG=>?_);match args,hG with
 | [a,b],hG=>
  obtain⟨x,rfl,hx,y,rfl,hy,hl,hl',hK⟩:=hG;refine⟨by simp,?_⟩
  simp only [go_sem,Xk,hp,hm,hf,hx,hy];have n1:=Xv hx;have d1:=Zu hx;have n2:=Xv hy;have d2:=Zu hy;have m1:=Yk (rv x).num (rv y).num;have m3:=Yk ((rv x).den:Int) (rv y).den;rw [Int.natCast_mul,JC];exact⟨hl,hl',by omega,by omega,by omega,by omega,by omega,by omega,Int.mul_ne_zero (jq _) (jq _),hK⟩
theorem xR(hΓ:Holds P Γ){f fs ff tE:Nat}(hs:Γ fs=.dat true Wi)(hf:Γ ff=.dat false Zn)(hc:check P f=some (14,(zk fs ff tE).strip,[.cell 4 3 true,.tmp 5])):Sound P f (.dat false (Yr tE)):=by
 refine Va hc (U1 tE) hΓ (λargs K hcl hfi hG=>?_);match args,hG with
 | [a,b],hG=>
  obtain⟨v,rfl,hv,w,rfl,hw,hz,hz',hK⟩:=hG;refine⟨by simp,?_⟩
  simp only [go_sem,zk,hs,hf,hv,hw];refine⟨λe=>?_,λe=>?_⟩
  .have h0:=Int.sign_eq_zero_iff_zero.1 e;rw [if_pos h0,h0,Rat.divInt_zero,VQ tE (by decide),ua4,uc]at hK
   exact hK
  .have h0:zv w≠0:=λh=>e (by rw [h];rfl)
   rw [if_neg h0,QQ]at hK;exact⟨hz,hz',h0,hK⟩
theorem VY(hΓ:Holds P Γ){f fp fm ff tE:Nat}(hp:Γ fp=.dat false ye)(hm:Γ fm=.dat false jv)(hf:Γ ff=.dat false (Yr tE))(hc:check P f=some (29,(Xl fp fm ff).strip,[.cell 4 3 true,.tmp 5])):Sound P f (.dat false (qq tE)):=by
 refine Va hc (xam tE) hΓ (λargs K hcl hfi hG=>?_);match args,hG with
 | [a,b],hG=>
  obtain⟨x,rfl,hx,y,rfl,hy,hl,hl',hK⟩:=hG;refine⟨by simp,?_⟩
  simp only [go_sem,Xl,hp,hm,hf,hx,hy];have n1:=Xv hx;have d1:=Zu hx;have n2:=Xv hy;have d2:=Zu hy;have m1:=Yk (rv x).num ((rv y).den:Int);have m3:=Yk ((rv x).den:Int) (rv y).num;have e:((((rv x).den:Int)*(rv y).num=0))=(rv y=0):=propext ⟨λh=>by
   rcases Int.mul_eq_zero.1 h with h | h
   .exact absurd h (jq _)
   .exact Rat.num_eq_zero.1 h,λh=>by rw [h];exact Int.mul_zero _⟩
  simp only [e];rw [yba];exact⟨hl,hl',by omega,by omega,by omega,by omega,by omega,by omega,hK⟩
end Go.Abs
end
section
namespace Go.Num
open Go.Abs
abbrev V2:=Rat×Rat
abbrev TnQ:=Rat×Bool
abbrev PsQ:=TnQ×V2
def tv(t:Tn):TnQ:=(rv t.1,t.2)
def pv(p:Ps):PsQ:=(tv p.1,av p.2)
def subQ(a b:V2):V2:=(a.1-b.1,a.2-b.2)
def crossQ(a b:V2):Rat:=a.1*b.2-a.2*b.1
def sqQ(a:V2):Rat:=a.1*a.1+a.2*a.2
def cosQ(t:TnQ):Rat:=if t.2=true then -1 else (1-t.1*t.1) / (1+t.1*t.1)
def sinQ(t:TnQ):Rat:=if t.2=true then 0 else (t.1+t.1) / (1+t.1*t.1)
def tchk(t:Tn):Nat:=if vldR t.1=true/\¬(t.2=true/\rv t.1≠0) then 0 else 2
def zq(a:V2):Nat:=max (rz a.1) (rz a.2)
theorem kaY:rz (-1)<=2:=by rw [show(-1:Rat) = -(1:Rat) from rfl,Uy];exact rz_1
theorem Jbi(t:TnQ):rz (cosQ t)<=4*rz t.1+20:=by
 unfold cosQ;split
 .have:=kaY;omega
 .have h0:=rz_1;have h1:=XI t.1 t.1;have h2:=kaA 1 (t.1*t.1);have h3:=ZG 1 (t.1*t.1);have h4:=Vaf (1-t.1*t.1) (1+t.1*t.1);omega
theorem Ybf(t:TnQ):rz (sinQ t)<=4*rz t.1+20:=by
 unfold sinQ;split
 .rw [rz_0];omega
 .have h0:=rz_1;have h1:=XI t.1 t.1;have h2:=ZG t.1 t.1;have h3:=ZG 1 (t.1*t.1);have h4:=Vaf (t.1+t.1) (1+t.1*t.1);omega
end Go.Num
end
section
namespace Go.Abs
open Go.Num
variable {P:Program} {Γ:Nat->Spec}
def pQ(x:V2):AV:=.agg [cb (rcan x.1),cn (rcan x.1),cd (rcan x.1),cb (rcan x.2),cn (rcan x.2),cd (rcan x.2)]
theorem va8(x:V2):pQ x=.agg [cb (rcan x.1),cn (rcan x.1),cd (rcan x.1),cb (rcan x.2),cn (rcan x.2),cd (rcan x.2)]:=eq_of_heq (HEq.refl _)
def tQ(t:TnQ):AV:=.agg [cb (rcan t.1),cn (rcan t.1),cd (rcan t.1),.lit (.bool t.2)]
theorem wbf(t:TnQ):tQ t=.agg [cb (rcan t.1),cn (rcan t.1),cd (rcan t.1),.lit (.bool t.2)]:=eq_of_heq (HEq.refl _)
theorem XaO(a b:Rat):WLA (rcan a,rcan b)=True:=eq_true ⟨vv _,vv _⟩
attribute [go_sem,go_sem ↓] va8 wbf XaO
theorem kaO(t:Tn):tchk t=if vldR t.1=true/\¬(t.2=true/\rv t.1≠0) then 0 else 2:=rfl
theorem ja5(t:Tn):tchk t=0∨tchk t=2:=by unfold tchk;split <;> simp
end Go.Abs
end
section
namespace Go.Num
open Go.Abs
end Go.Num
namespace Go.Abs
open Go.Num
variable {P:Program} {Γ:Nat->Spec}
def psQ(p:PsQ):AV:=.agg [cb (rcan p.1.1),cn (rcan p.1.1),cd (rcan p.1.1),.lit (.bool p.1.2),cb (rcan p.2.1),cn (rcan p.2.1),cd (rcan p.2.1),cb (rcan p.2.2),cn (rcan p.2.2),cd (rcan p.2.2)]
theorem QaT(p:PsQ):psQ p=.agg [cb (rcan p.1.1),cn (rcan p.1.1),cd (rcan p.1.1),.lit (.bool p.1.2),cb (rcan p.2.1),cn (rcan p.2.1),cd (rcan p.2.1),cb (rcan p.2.2),cn (rcan p.2.2),cd (rcan p.2.2)]:=eq_of_heq (HEq.refl _)
attribute [go_sem,go_sem ↓] QaT
end Go.Abs
end
section
namespace Go.Num
def inA(y:Rat)(x:Arc):Bool:=decide (rv x.1<=y) && decide (y<rv x.2)
def idxOf(y:Rat)(l:List Arc):Int:=match l.findIdx? (inA y) with | some i=>i | none=>-1
end Go.Num
namespace Go.Abs
open Go.Num
variable {P:Program} {Γ:Nat->Spec}
def pA(y:R):AV:=.one (.ref [cb y,cn y,cd y])
def kA(f:Nat)(y:R):AV:=.one (.clo f [.ref [cb y,cn y,cd y]])
theorem kbd(x y:R)(h:pA x=pA y):x=y:=qk x y (by simpa [pA,rA] using h)
theorem Zbc(f:Nat)(x y:R)(h:kA f x=kA f y):x=y:=qk x y (by simpa [kA,rA] using h)
def onP(k:R->Prop)(a:AV):Prop:=onE pA (λx=>WLR x/\k x) a
@[congr] theorem wbn{k:R->Prop}{a a'}(h:a=a'):onP k a=onP k a':=by subst h;rfl
theorem jbd(k:R->Prop)(x:R):onP k (.one (.ref [cb x,cn x,cd x]))=(WLR x/\k x):=Vj kbd (λx=>WLR x/\k x) x
def onKl(f:Nat)(k:R->Prop)(a:AV):Prop:=onE (kA f) (λx=>WLR x/\k x) a
@[congr] theorem Jbm{f}{k:R->Prop}{a a'}(h:a=a'):onKl f k a=onKl f k a':=by subst h;rfl
theorem WaP(f:Nat)(k:R->Prop)(x:R):onKl f k (.one (.clo f [.ref [cb x,cn x,cd x]]))=(WLR x/\k x):=Vj (Zbc f) (λx=>WLR x/\k x) x
attribute [go_sem,go_sem ↓] jbd WaP
theorem yam(y:R):CleanL [cb y,cn y,cd y]:=by
 intro c hc;simp only [List.mem_cons,List.not_mem_nil,or_false]at hc;rcases hc with rfl | rfl | rfl
 .exact of_eq_true (xh _)
 .exact of_eq_true (wh _)
 .exact of_eq_true (Yh _)
end Go.Abs
end
section
namespace Go.Num
end Go.Num
namespace Go.Abs
open Go.Num
variable {P:Program} {Γ:Nat->Spec}
end Go.Abs
end
