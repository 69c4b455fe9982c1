/-
  Parts of the proof, merged: CoupH, CoupJ, CoupL, IntC, IntD, IntE, IntF, IntG, IntH, IntK, PolyS, PolyU.
-/
import Derived.Test.YtneiiodebbmcaaaGreatDoorM12
import Derived.Lib.BitFns
set_option linter.unusedVariables false
set_option linter.unusedSimpArgs false
set_option maxRecDepth 100000
section
namespace Go.Num
open Go.Abs
end Go.Num
namespace Go.Abs
open Go.Num
variable {P:Program} {Γ:Nat->Spec}
def vM(l:List AV)(K:AV->Prop):Prop:=
 match l with
 | [c,p]=>onCp (λc=>onA (λp=>cl c<=1048576/\al p<=1048576/\K (.one (.lit (.bool true)))) p) c
 | _=>False
theorem kV(c p:AV)(K:AV->Prop):vM [c,p] K=(onCp (λc=>onA (λp=>cl c<=1048576/\al p<=1048576/\K (.one (.lit (.bool true)))) p) c):=propext Iff.rfl
@[congr] theorem wbx {K:AV->Prop} {l l' : List AV} (h:l=l'):vM l K=vM l' K:=by subst h;rfl
attribute [go_sem,go_sem ↓] kV
end Go.Abs
end
section
namespace Go.Num
open Go.Abs
def clsC(c:Cp)(a b:Arc):Cp:=(c.1,c.2.1,rcan (sqQ (subQ (av a) (av c.1))),rcan (sqQ (subQ (av b) (av a))),rcan (sqQ (subQ (av b) (av c.2.1))),c.2.2.2.2.2.1,c.2.2.2.2.2.2)
end Go.Num
namespace Go.Abs
open Go.Num
variable {P:Program} {Γ:Nat->Spec}
def wa5(l:List AV)(K:AV->Prop):Prop:=
 match l with
 | [c]=>onCp (λc=>cl c<=100000000/\K (.one (.lit (.int .i64 (cchk c:Nat))))) c
 | _=>False
theorem xaY(c:AV)(K:AV->Prop):wa5 [c] K=(onCp (λc=>cl c<=100000000/\K (.one (.lit (.int .i64 (cchk c:Nat))))) c):=propext Iff.rfl
@[congr] theorem YbS {K:AV->Prop} {l l' : List AV} (h:l=l'):wa5 l K=wa5 l' K:=by subst h;rfl
attribute [go_sem,go_sem ↓] xaY
def QaM(l:List AV)(K:AV->Prop):Prop:=
 match l with
 | [c,a,b]=>onCp (λc=>onA (λa=>onA (λb=>cl c<=10000/\al a<=10000/\al b<=10000/\K (.tup [cpA (clsC c a b),.one (.lit (.bool (decide (cchk (clsC c a b)=0))))])) b) a) c
 | _=>False
theorem UaZ(c a b:AV)(K:AV->Prop):QaM [c,a,b] K=(onCp (λc=>onA (λa=>onA (λb=>cl c<=10000/\al a<=10000/\al b<=10000/\K (.tup [cpA (clsC c a b),.one (.lit (.bool (decide (cchk (clsC c a b)=0))))])) b) a) c):=propext Iff.rfl
@[congr] theorem YbR {K:AV->Prop} {l l' : List AV} (h:l=l'):QaM l K=QaM l' K:=by subst h;rfl
attribute [go_sem,go_sem ↓] UaZ
end Go.Abs
end
section
namespace Go.Num
open Go.Abs
def riC(c:Cp)(p:Arc):Nat:=if wV (cpv c) (av p)≠0 then 21 else if wM (cpv c) (av p)=0 then 15 else 0
def reQ(c:CpR):V2:=subQ (1,0) (cW c)
end Go.Num
namespace Go.Abs
open Go.Num
variable {P:Program} {Γ:Nat->Spec}
def kbr(l:List AV)(K:AV->Prop):Prop:=
 match l with
 | [c]=>onCp (λc=>K (aA (c.2.2.2.2.2.1,c.2.2.2.2.2.2))) c
 | _=>False
theorem Jbl(c:AV)(K:AV->Prop):kbr [c] K=(onCp (λc=>K (aA (c.2.2.2.2.2.1,c.2.2.2.2.2.2))) c):=propext Iff.rfl
@[congr] theorem Qb0 {K:AV->Prop} {l l' : List AV} (h:l=l'):kbr l K=kbr l' K:=by subst h;rfl
attribute [go_sem,go_sem ↓] Jbl
def JaO(l:List AV)(K:AV->Prop):Prop:=
 match l with
 | [c]=>onCp (λc=>cl c<=100000000/\K (pQ (reQ (cpv c)))) c
 | _=>False
theorem qa3(c:AV)(K:AV->Prop):JaO [c] K=(onCp (λc=>cl c<=100000000/\K (pQ (reQ (cpv c)))) c):=propext Iff.rfl
@[congr] theorem qbT {K:AV->Prop} {l l' : List AV} (h:l=l'):JaO l K=JaO l' K:=by subst h;rfl
attribute [go_sem,go_sem ↓] qa3
def QaQ(l:List AV)(K:AV->Prop):Prop:=
 match l with
 | [c,p]=>onCp (λc=>onA (λp=>cl c<=1000/\al p<=1000/\cchk c=0/\K (.tup [pQ (wN (cpv c) (av p)),rQ (wM (cpv c) (av p))])) p) c
 | _=>False
theorem jaR(c p:AV)(K:AV->Prop):QaQ [c,p] K=(onCp (λc=>onA (λp=>cl c<=1000/\al p<=1000/\cchk c=0/\K (.tup [pQ (wN (cpv c) (av p)),rQ (wM (cpv c) (av p))])) p) c):=propext Iff.rfl
@[congr] theorem wbY {K:AV->Prop} {l l' : List AV} (h:l=l'):QaQ l K=QaQ l' K:=by subst h;rfl
attribute [go_sem,go_sem ↓] jaR
def za3(l:List AV)(K:AV->Prop):Prop:=
 match l with
 | [c,p]=>onCp (λc=>onA (λp=>cl c<=1000/\al p<=1000/\cchk c=0/\K (rQ (wV (cpv c) (av p)))) p) c
 | _=>False
theorem qaS(c p:AV)(K:AV->Prop):za3 [c,p] K=(onCp (λc=>onA (λp=>cl c<=1000/\al p<=1000/\cchk c=0/\K (rQ (wV (cpv c) (av p)))) p) c):=propext Iff.rfl
@[congr] theorem xbW {K:AV->Prop} {l l' : List AV} (h:l=l'):za3 l K=za3 l' K:=by subst h;rfl
attribute [go_sem,go_sem ↓] qaS
def uaW(l:List AV)(K:AV->Prop):Prop:=
 match l with
 | [c,p]=>onCp (λc=>onA (λp=>cl c<=1000/\al p<=1000/\cchk c=0/\K (.tup [pQ (if riC c p=0 then endA (cpv c) (av p) (zL (cpv c) (av p)) else (0,0)),pQ (if riC c p=0 then endB (cpv c) (av p) (zL (cpv c) (av p)) else (0,0)),.one (.lit (.int .i64 (riC c p:Nat)))])) p) c
 | _=>False
theorem YaW(c p:AV)(K:AV->Prop):uaW [c,p] K=(onCp (λc=>onA (λp=>cl c<=1000/\al p<=1000/\cchk c=0/\K (.tup [pQ (if riC c p=0 then endA (cpv c) (av p) (zL (cpv c) (av p)) else (0,0)),pQ (if riC c p=0 then endB (cpv c) (av p) (zL (cpv c) (av p)) else (0,0)),.one (.lit (.int .i64 (riC c p:Nat)))])) p) c):=propext Iff.rfl
@[congr] theorem ZbP {K:AV->Prop} {l l' : List AV} (h:l=l'):uaW l K=uaW l' K:=by subst h;rfl
attribute [go_sem,go_sem ↓] YaW
def kaQ(l:List AV)(K:AV->Prop):Prop:=
 match l with
 | [c,a,b]=>onCp (λc=>onA (λa=>onA (λb=>cl c<=10000/\al a<=10000/\al b<=10000/\K (pQ (ptQ (cpv c) (av a) (av b)))) b) a) c
 | _=>False
theorem qa9(c a b:AV)(K:AV->Prop):kaQ [c,a,b] K=(onCp (λc=>onA (λa=>onA (λb=>cl c<=10000/\al a<=10000/\al b<=10000/\K (pQ (ptQ (cpv c) (av a) (av b)))) b) a) c):=propext Iff.rfl
@[congr] theorem VbX {K:AV->Prop} {l l' : List AV} (h:l=l'):kaQ l K=kaQ l' K:=by subst h;rfl
attribute [go_sem,go_sem ↓] qa9
def ZaR(l:List AV)(K:AV->Prop):Prop:=
 match l with
 | [c,a,b]=>onCp (λc=>onA (λa=>onA (λb=>cl c<=10000/\al a<=10000/\al b<=10000/\K (.one (.lit (.bool (decide (hldQ (cpv c) (av a) (av b))))))) b) a) c
 | _=>False
theorem waR(c a b:AV)(K:AV->Prop):ZaR [c,a,b] K=(onCp (λc=>onA (λa=>onA (λb=>cl c<=10000/\al a<=10000/\al b<=10000/\K (.one (.lit (.bool (decide (hldQ (cpv c) (av a) (av b))))))) b) a) c):=propext Iff.rfl
@[congr] theorem wbW {K:AV->Prop} {l l' : List AV} (h:l=l'):ZaR l K=ZaR l' K:=by subst h;rfl
attribute [go_sem,go_sem ↓] waR
def ve(f0 f1:Nat):AC:=(.seq (.ops false [.u 2 (.box 6 (.t 0)),.u 3 (.box 6 (.t 1)),.u 4 (.alloc [(.lit (.bool false)),.emp,.emp])])
 (.fg [2,3,4] (.seq (.ops true [.u 5 (.fa 0 (.t 2)),.u 6 (.ld none 3 true (.t 5)),.u 7 (.fa 3 (.t 3)),.u 8 (.ld none 3 true (.t 7)),.u 9 (.call f0 [(.t 6),(.t 8)]),.u 10 (.fa 3 (.t 2)),.u 11 (.ld none 3 true (.t 10)),.u 12 (.fa 0 (.t 3)),.u 13 (.ld none 3 true (.t 12)),.u 14 (.call f0 [(.t 11),(.t 13)]),.u 15 (.call f1 [(.t 9),(.t 14)]),.n (.st none 3 (.t 4) (.t 15))])
 .ret)))
theorem ZI(hΓ:Holds P Γ){f fm fs:Nat}(hm:Γ fm=.dat false jk)(hs:Γ fs=.dat false zo)(hc:check P f=some (16,(ve fm fs).strip,[.cell 4 3 true])):Sound P f (.dat false kj):=by
 refine ka hc Zai hΓ (λargs K hcl hfi hG=>?_);match args,hG with
 | [a,b],hG=>
  obtain⟨p,rfl,wp,q,rfl,wq,hl,hl2,hK⟩:=hG;refine⟨by simp,?_⟩
  have w1:=wp.1;have w2:=wp.2;have w3:=wq.1;have w4:=wq.2;have l1:=(Nat.max_le.1 hl).1;have l2:=(Nat.max_le.1 hl).2;have l3:=(Nat.max_le.1 hl2).1;have l4:=(Nat.max_le.1 hl2).2;have r1:=Wj w1;have r2:=Wj w2;have r3:=Wj w3;have r4:=Wj w4;have m1:=Nat.le_trans (ub (rv p.1) (rv q.2)) (by omega:_<=1000000000)
  have m2:=Nat.le_trans (ub (rv p.2) (rv q.1)) (by omega:_<=1000000000)
  simp only [go_sem,ve,hm,hs,Wb,Qb];repeat first | refine Ja (by with_reducible assumption) ?_ | refine Ja (Nat.le_trans (by with_reducible assumption) (by decide)) ?_ | refine Ja (by decide) ?_
  exact hK
end Go.Abs
end
section
namespace Go.Abs
open Go.Num
variable {P:Program} {Γ:Nat->Spec}
def yu:AC:=(.seq (.ops false [.m 2 (.c (.one .emp))])
 (.fg [0] (.seq (.ops false [.m 4 (.t 0),.u 5 (.len (.t 4)),.m 3 (.t 5)])
 (.fg [0,3] (.seq (.block 0 (.loop (.seq (.seq (.ops false [.m 6 (.t 3),.u 7 (.bin .gtr (.t 6) (.i 0)),.m 8 (.t 7),.w 9 8 true (.mv (.t 0)),.w 10 8 true (.mv (.t 3)),.w 11 8 true (.bin .sub (.t 10) (.i 1)),.w 12 8 true (.idx 1 (.t 9) (.t 11)),.w 13 8 true (.ld none 1 false (.t 12)),.w 14 8 true (.bin .eql (.t 13) (.c (.one (.lit (.int .u32 0))))),.u 15 (.pick (.t 8) (.t 14) .fa)])
 (.fg [0,3,15] (.cond (.t 15) .skip (.exit 0))))
 (.fg [0,3] (.block 1 (.ops false [.m 16 (.t 3),.u 17 (.bin .sub (.t 16) (.i 1)),.m 3 (.t 17)]))))))
 (.fg [0,3] (.seq (.seq (.ops false [.m 18 (.t 3),.u 19 (.bin .eql (.t 18) (.i 0))])
 (.fg [0,3,19] (.cond (.t 19) (.seq (.ops false [.m 2 (.c (.one .emp))])
 .ret) .skip)))
 (.fg [0,3] (.seq (.ops false [.m 20 (.c (.one .emp)),.m 21 (.t 0),.m 22 (.t 3),.u 23 (.sl 1 (.t 21) none (some (.t 22))),.u 24 (.app0 1 (.t 20) (.t 23)),.m 2 (.t 24)])
 .ret)))))))))
def Yn:AC:=(.seq (.ops false [.m 4 (.c (.one (.lit (.int .u64 0))))])
 (.fg [0,1] (.seq (.seq (.ops false [.m 5 (.t 1),.m 6 (.t 0),.u 7 (.len (.t 6)),.u 8 (.bin .lss (.t 5) (.t 7))])
 (.fg [0,1,8] (.cond (.t 8) (.seq (.ops false [.m 9 (.t 0),.m 10 (.t 1),.u 11 (.idx 1 (.t 9) (.t 10)),.u 12 (.ld none 1 false (.t 11)),.u 13 (.conv .u64 (.t 12)),.m 4 (.t 13)])
 .ret) .skip)))
 (.fg [] (.seq (.ops false [.m 4 (.c (.one (.lit (.int .u64 0))))])
 .ret)))))
def uu(f0 f1:Nat):AC:=(.seq (.ops false [.m 4 (.c (.one .emp))])
 (.fg [0,1] (.seq (.ops false [.m 8 (.t 0),.u 9 (.len (.t 8)),.m 10 (.t 1),.u 11 (.len (.t 10)),.u 12 (.max [(.t 9),(.t 11)]),.u 13 (.bin .add (.t 12) (.i 1)),.u 14 (.mk 1 [(.lit (.int .u32 0))] (.t 13) (.t 13)),.m 5 (.t 14)])
 (.fg [0,1,5] (.seq (.ops false [.m 6 (.c (.one (.lit (.int .u64 0))))])
 (.fg [0,1,5,6] (.seq (.seq (.ops false [.m 15 (.t 5),.u 16 (.len (.t 15)),.m 17 (.i 0)])
 (.fg [0,1,5,6,16,17] (.block 0 (.loop (.seq (.ops false [.u 18 (.bin .lss (.t 17) (.t 16))])
 (.fg [0,1,5,6,16,17,18] (.seq (.cond (.t 18) .skip (.exit 0))
 (.fg [0,1,5,6,16,17] (.seq (.block 1 (.seq (.ops false [.m 19 (.t 17),.m 7 (.t 19)])
 (.fg [0,1,5,6,7,16,17] (.seq (.ops false [.m 20 (.t 6),.m 21 (.t 0),.m 22 (.t 7),.u 23 (.call f0 [(.t 21),(.t 22)]),.m 24 (.t 1),.m 25 (.t 7),.u 26 (.call f0 [(.t 24),(.t 25)]),.u 27 (.bin .add (.t 23) (.t 26)),.u 28 (.bin .add (.t 20) (.t 27)),.m 6 (.t 28)])
 (.fg [0,1,5,6,7,16,17] (.seq (.ops false [.m 29 (.t 5),.m 30 (.t 7),.m 31 (.t 6),.u 32 (.conv .u32 (.t 31)),.u 33 (.idx 1 (.t 29) (.t 30)),.n (.st none 1 (.t 33) (.t 32))])
 (.fg [0,1,5,6,16,17] (.ops false [.m 34 (.t 6),.u 35 (.bin .shr (.t 34) (.c (.one (.lit (.int .u64 32))))),.m 6 (.t 35)]))))))))
 (.fg [0,1,5,6,16,17] (.ops false [.u 36 (.bin .add (.t 17) (.i 1)),.m 17 (.t 36)])))))))))))
 (.fg [5] (.seq (.ops false [.m 37 (.t 5),.u 38 (.call f1 [(.t 37)]),.m 4 (.t 38)])
 .ret)))))))))
theorem kaI(hΓ:Holds P Γ){f:Nat}(hc:check P f=some (25,yu.strip,[.tmp 2])):Sound P f (.dat false vu):=by
 refine ka hc ZaV hΓ (λargs K hcl hfi hG=>?_);match args,hG with
 | [a],hG=>
  obtain⟨l,rfl,hl,hlen,hK⟩:=hG;refine⟨by simp,?_⟩
  simp only [go_sem,yu];intro hmax;refine Ya (λn:Nat=>⟨mkV [(0,wsA l),(3,.one (.lit (.int .i64 n)))],mkH []⟩) (λn=>n<=l.length/\val (l.take n)=val l) id l.length ?_ ?_ ?_
  .exact Qa (by simp [okS,okV,okC,okL,okH,okB,okE,ja,va,Za,Va,wsA,ws]) trivial
  .simp
  .rintro n ⟨hn,ht⟩;simp only [go_sem];refine⟨λh=>⟨by omega,by omega,by omega,λh0=>⟨by omega,n-1,Qa (by simp [okS,okV,okC,okL,okH,okB,okE,ja,va,Za,Va,wsA,ws];omega) trivial,⟨by omega,?_⟩,?_⟩,λh0=>⟨λh1=>by omega,λ_=>⟨by omega,by simp;omega,?_⟩⟩⟩,λh=>⟨λh1=>?_,λh1=>by omega⟩⟩
   .rw [show((n:Int)-1).toNat=n-1 by omega]at h0
    have:=qc l (n-1);rw [show n-1+1=n by omega,h0,Nat.mul_zero,Nat.add_zero]at this
    rw [<-this];exact ht
   .simp only [id];omega
   .rw [show((n:Int)-1).toNat=n-1 by omega]at h0
    have:=We (Jz hl n) (YM h hn h0);rw [<-this,ht];exact hK
   .subst h1;have:val l=0:=by rw [<-ht];simp [val]
    rw [this,Yb]at hK;exact hK
theorem yP(hΓ:Holds P Γ){f:Nat}(hc:check P f=some (14,Yn.strip,[.tmp 4])):Sound P f (.dat true Wm):=by
 refine ka hc yaL hΓ (λargs K hcl hfi hG=>?_);match args,hG with
 | [a,b],hG=>
  obtain⟨l,rfl,hl,hG⟩:=hG;obtain⟨k,i,rfl,rfl,hi,hK⟩:=Vb hG;refine⟨by simp,?_⟩
  simp only [go_sem,Yn];intro hmax;refine⟨λh=>⟨hi,by omega,?_⟩,λh=>?_⟩
  .have:=Xb hl i.toNat;rw [Nat.mod_eq_of_lt (by omega)];exact hK
  .rw [List.getD_eq_getElem?_getD,List.getElem?_eq_none (by omega)]at hK;exact hK
theorem kaF(hΓ:Holds P Γ){f fw ft:Nat}(hw:Γ fw=.dat true Wm)(ht:Γ ft=.dat false vu)(hc:check P f=some (39,(uu fw ft).strip,[.tmp 4])):Sound P f (.dat false xr):=by
 refine ka hc V7 hΓ (λargs K hcl hfi hG=>?_);match args,hG with
 | [a,b],hG=>
  obtain⟨x,rfl,hx,y,rfl,hy,hxl,hyl,hK⟩:=hG;refine⟨by simp,?_⟩
  simp only [go_sem,uu,hw,ht];intro h1 h2;refine⟨by omega,by omega,λhN=>?_⟩
  generalize hNN:max x.length y.length+1=N at hN;refine Ya (λp:List Nat×Nat=>⟨mkV [(0,wsA x),(1,wsA y),(5,.one (.own 14 1 1 0 N)),(6,.one (.lit (.int .u64 p.2))),(16,.one (.lit (.int .i64 N))),(17,.one (.lit (.int .i64 p.1.length)))],mkH [(14,⟨1,some ⟨(p.1++List.replicate (N-p.1.length) 0).map wc,1,true⟩⟩)]⟩)
   (λp=>p.1.length<=N/\WL p.1/\p.2<=1/\val p.1+4294967296 ^ p.1.length*p.2=val (x.take p.1.length)+val (y.take p.1.length)) (λp=>N-p.1.length) ([],0) ?_ ?_ ?_
  .exact Qa (by simp [okS,okV,okC,okL,okH,okB,okE,ja,va,Za,Va,wsA,ws]) (Xg (by simp))
  .simp [Yc,val]
  .rintro⟨o,c⟩ ⟨hoN,ho,hc1,hval⟩;simp only at hoN ho hc1 hval;have hlen:(o++List.replicate (N-o.length) 0).length=N:=by simp;omega
   simp only [go_sem,hw,ht,hlen];refine⟨λhlt=>⟨hx,hy,hlt,hlt,by omega,by omega,?_⟩,λhge=>?_⟩
   .have g1:=Xb hx o.length;have g2:=Xb hy o.length;rw [Nat.mod_eq_of_lt (show x.getD o.length 0+y.getD o.length 0<18446744073709551616 by omega),Nat.mod_eq_of_lt (show c+(x.getD o.length 0+y.getD o.length 0)<18446744073709551616 by omega)]
    generalize hs:c+(x.getD o.length 0+y.getD o.length 0)=s;refine⟨(o++[s % 4294967296],s / 4294967296),Qa (by simp [okS,okV,okC,okL,okH,okB,okE,ja,va,Za,Va,wsA,ws]) (Xg ?_),⟨by simp;omega,Ue.2 ⟨ho,Wc.2 ⟨Nat.mod_lt _ (by omega),Yc⟩⟩,by simp only;omega,?_⟩,by simp;omega⟩
    .rw [show N-o.length=N-(o.length+1)+1 by omega,Xai];simp
    .simp only [List.length_append,List.length_cons,List.length_nil,Nat.zero_add,qc,vc,yj,xo,Nat.mul_zero,Nat.add_zero,Nat.pow_succ];rw [Nat.mul_assoc,Nat.add_assoc,<-Nat.mul_add,Nat.mod_add_div,<-hs,Nat.mul_add,<-Nat.add_assoc,hval,Nat.mul_add];omega
   .have e:o.length=N:=by omega
    simp only [e,Nat.sub_self,List.replicate_zero,List.append_nil,Nat.le_refl,if_true,jI];have hv:val o=val x+val y:=by
     rw [e,wj (by omega),wj (by omega)]at hval
     exact kaD hx hy (by omega) (by omega) (by omega) hval
    refine⟨ho,by omega,?_⟩
    rw [hv];exact hK
end Go.Abs
end
section
namespace Go.Abs
open Go.Num
variable {P:Program} {Γ:Nat->Spec}
def Jv(f0 f1:Nat):AC:=(.seq (.ops false [.m 4 (.c (.one .emp))])
 (.fg [0,1] (.seq (.ops false [.m 9 (.t 0),.u 10 (.len (.t 9)),.u 11 (.mk 1 [(.lit (.int .u32 0))] (.t 10) (.t 10)),.m 5 (.t 11)])
 (.fg [0,1,5] (.seq (.ops false [.m 6 (.c (.one (.lit (.int .u64 0))))])
 (.fg [0,1,5,6] (.seq (.seq (.ops false [.m 12 (.t 5),.u 13 (.len (.t 12)),.m 14 (.i 0)])
 (.fg [0,1,5,6,13,14] (.block 0 (.loop (.seq (.ops false [.u 15 (.bin .lss (.t 14) (.t 13))])
 (.fg [0,1,5,6,13,14,15] (.seq (.cond (.t 15) .skip (.exit 0))
 (.fg [0,1,5,6,13,14] (.seq (.block 1 (.seq (.ops false [.m 16 (.t 14),.m 7 (.t 16)])
 (.fg [0,1,5,6,7,13,14] (.seq (.ops true [.m 17 (.t 0),.m 18 (.t 7),.u 19 (.idx 1 (.t 17) (.t 18)),.u 20 (.ld none 1 false (.t 19)),.u 21 (.conv .u64 (.t 20)),.m 22 (.t 1),.m 23 (.t 7),.u 24 (.call f0 [(.t 22),(.t 23)]),.u 25 (.bin .sub (.t 21) (.t 24)),.m 26 (.t 6),.u 27 (.bin .sub (.t 25) (.t 26)),.m 8 (.t 27)])
 (.fg [0,1,5,7,8,13,14] (.seq (.ops false [.m 28 (.t 5),.m 29 (.t 7),.m 30 (.t 8),.u 31 (.conv .u32 (.t 30)),.u 32 (.idx 1 (.t 28) (.t 29)),.n (.st none 1 (.t 32) (.t 31))])
 (.fg [0,1,5,8,13,14] (.ops false [.m 33 (.t 8),.u 34 (.bin .shr (.t 33) (.c (.one (.lit (.int .u64 63))))),.m 6 (.t 34)]))))))))
 (.fg [0,1,5,6,13,14] (.ops false [.u 35 (.bin .add (.t 14) (.i 1)),.m 14 (.t 35)])))))))))))
 (.fg [5] (.seq (.ops false [.m 36 (.t 5),.u 37 (.call f1 [(.t 36)]),.m 4 (.t 37)])
 .ret)))))))))
def um:AC:=(.seq (.ops false [.m 4 (.i 0)])
 (.fg [0,1] (.seq (.seq (.ops false [.m 6 (.t 0),.u 7 (.len (.t 6)),.m 8 (.t 1),.u 9 (.len (.t 8)),.u 10 (.bin .neq (.t 7) (.t 9))])
 (.fg [0,1,10] (.cond (.t 10) (.seq (.seq (.ops false [.m 11 (.t 0),.u 12 (.len (.t 11)),.m 13 (.t 1),.u 14 (.len (.t 13)),.u 15 (.bin .lss (.t 12) (.t 14))])
 (.fg [15] (.cond (.t 15) (.seq (.ops false [.m 4 (.i (-1))])
 .ret) .skip)))
 (.fg [] (.seq (.ops false [.m 4 (.i 1)])
 .ret))) .skip)))
 (.fg [0,1] (.seq (.seq (.ops false [.m 16 (.t 0),.u 17 (.len (.t 16)),.u 18 (.bin .sub (.t 17) (.i 1)),.m 5 (.t 18)])
 (.fg [0,1,5] (.block 0 (.loop (.seq (.seq (.ops false [.m 19 (.t 5),.u 20 (.bin .geq (.t 19) (.i 0))])
 (.fg [0,1,5,20] (.cond (.t 20) .skip (.exit 0))))
 (.fg [0,1,5] (.seq (.block 1 (.seq (.ops true [.m 23 (.t 0),.m 24 (.t 5),.u 25 (.idx 1 (.t 23) (.t 24)),.u 26 (.ld none 1 false (.t 25)),.m 27 (.t 1),.m 28 (.t 5),.u 29 (.idx 1 (.t 27) (.t 28)),.u 30 (.ld none 1 false (.t 29)),.u 31 (.bin .neq (.t 26) (.t 30))])
 (.fg [0,1,5,31] (.cond (.t 31) (.seq (.seq (.ops true [.m 32 (.t 0),.m 33 (.t 5),.u 34 (.idx 1 (.t 32) (.t 33)),.u 35 (.ld none 1 false (.t 34)),.m 36 (.t 1),.m 37 (.t 5),.u 38 (.idx 1 (.t 36) (.t 37)),.u 39 (.ld none 1 false (.t 38)),.u 40 (.bin .lss (.t 35) (.t 39))])
 (.fg [40] (.cond (.t 40) (.seq (.ops false [.m 4 (.i (-1))])
 .ret) .skip)))
 (.fg [] (.seq (.ops false [.m 4 (.i 1)])
 .ret))) .skip))))
 (.fg [0,1,5] (.ops false [.m 21 (.t 5),.u 22 (.bin .sub (.t 21) (.i 1)),.m 5 (.t 22)])))))))))
 (.fg [] (.seq (.ops false [.m 4 (.i 0)])
 .ret)))))))
def xq(f0:Nat):AC:=(.seq (.ops false [.m 4 (.c (.one .emp)),.m 5 (.c (.one (.lit (.int .u32 0))))])
 (.fg [0,1] (.seq (.ops false [.m 9 (.t 0),.u 10 (.len (.t 9)),.u 11 (.mk 1 [(.lit (.int .u32 0))] (.t 10) (.t 10)),.m 6 (.t 11)])
 (.fg [0,1,6] (.seq (.ops false [.m 7 (.c (.one (.lit (.int .u64 0))))])
 (.fg [0,1,6,7] (.seq (.seq (.ops false [.m 12 (.t 0),.u 13 (.len (.t 12)),.u 14 (.bin .sub (.t 13) (.i 1)),.m 8 (.t 14)])
 (.fg [0,1,6,7,8] (.block 0 (.loop (.seq (.seq (.ops false [.m 15 (.t 8),.u 16 (.bin .geq (.t 15) (.i 0))])
 (.fg [0,1,6,7,8,16] (.cond (.t 16) .skip (.exit 0))))
 (.fg [0,1,6,7,8] (.seq (.block 1 (.seq (.ops false [.m 19 (.t 7),.u 20 (.bin .shl (.t 19) (.c (.one (.lit (.int .u64 32))))),.m 21 (.t 0),.m 22 (.t 8),.u 23 (.idx 1 (.t 21) (.t 22)),.u 24 (.ld none 1 false (.t 23)),.u 25 (.conv .u64 (.t 24)),.u 26 (.bin .or (.t 20) (.t 25)),.m 7 (.t 26)])
 (.fg [0,1,6,7,8] (.seq (.ops false [.m 27 (.t 6),.m 28 (.t 8),.m 29 (.t 7),.m 30 (.t 1),.u 31 (.conv .u64 (.t 30)),.u 32 (.bin .quo (.t 29) (.t 31)),.u 33 (.conv .u32 (.t 32)),.u 34 (.idx 1 (.t 27) (.t 28)),.n (.st none 1 (.t 34) (.t 33))])
 (.fg [0,1,6,7,8] (.ops false [.m 35 (.t 7),.m 36 (.t 1),.u 37 (.conv .u64 (.t 36)),.u 38 (.bin .rem (.t 35) (.t 37)),.m 7 (.t 38)]))))))
 (.fg [0,1,6,7,8] (.ops false [.m 17 (.t 8),.u 18 (.bin .sub (.t 17) (.i 1)),.m 8 (.t 18)])))))))))
 (.fg [6,7] (.seq (.ops false [.m 39 (.t 6),.u 40 (.call f0 [(.t 39)]),.m 41 (.t 7),.u 42 (.conv .u32 (.t 41)),.m 4 (.t 40),.m 5 (.t 42)])
 .ret)))))))))
theorem ZaF(hΓ:Holds P Γ){f fw ft:Nat}(hw:Γ fw=.dat true Wm)(ht:Γ ft=.dat false vu)(hc:check P f=some (38,(Jv fw ft).strip,[.tmp 4])):Sound P f (.dat false Qv):=by
 refine ka hc yad hΓ (λargs K hcl hfi hG=>?_);match args,hG with
 | [a,b],hG=>
  obtain⟨x,rfl,hx,y,rfl,hy,hxl,hle,hK⟩:=hG;refine⟨by simp,?_⟩
  simp only [go_sem,Jv,hw,ht];intro h1;refine⟨by omega,λ_=>?_⟩
  generalize hN:x.length=N at h1 hxl;refine Ya (λp:List Nat×Nat=>⟨mkV [(0,wsA x),(1,wsA y),(5,.one (.own 11 1 1 0 N)),(6,.one (.lit (.int .u64 p.2))),(13,.one (.lit (.int .i64 N))),(14,.one (.lit (.int .i64 p.1.length)))],mkH [(11,⟨1,some ⟨(p.1++List.replicate (N-p.1.length) 0).map wc,1,true⟩⟩)]⟩)
   (λp=>p.1.length<=N/\WL p.1/\p.2<=1/\val p.1+val (y.take p.1.length)=val (x.take p.1.length)+4294967296 ^ p.1.length*p.2) (λp=>N-p.1.length) ([],0) ?_ ?_ ?_
  .exact Qa (by simp [okS,okV,okC,okL,okH,okB,okE,ja,va,Za,Va,wsA,ws]) (Xg (by simp))
  .simp [Yc,val]
  .rintro⟨o,c⟩ ⟨hoN,ho,hc1,hval⟩;simp only at hoN ho hc1 hval;have hlen:(o++List.replicate (N-o.length) 0).length=N:=by simp;omega
   simp only [go_sem,hw,ht,hlen];refine⟨λhlt=>⟨by omega,hy,hlt,hlt,by omega,by omega,?_⟩,λhge=>?_⟩
   .have g1:=Xb hx o.length;have g2:=Xb hy o.length;rw [Nat.mod_eq_of_lt (show x.getD o.length 0<18446744073709551616 by omega)]
    obtain⟨s1,s2⟩:=Uat g1 g2 hc1;generalize sub64 (sub64 (x.getD o.length 0) (y.getD o.length 0)) c=s at s1 s2;refine⟨(o++[s % 4294967296],s / 9223372036854775808),Qa (by simp [okS,okV,okC,okL,okH,okB,okE,ja,va,Za,Va,wsA,ws]) (Xg ?_),⟨by simp;omega,Ue.2 ⟨ho,Wc.2 ⟨Nat.mod_lt _ (by omega),Yc⟩⟩,s2,?_⟩,by simp;omega⟩
    .rw [show N-o.length=N-(o.length+1)+1 by omega,Xai];simp
    .simp only [List.length_append,List.length_cons,List.length_nil,Nat.zero_add,qc,vc,yj,xo,Nat.mul_zero,Nat.add_zero,Nat.pow_succ];exact qJ hval s1
   .have e:o.length=N:=by omega
    have hv:=jJ ho hx (by omega) hle hval
    simp only [e,Nat.sub_self,List.replicate_zero,List.append_nil];refine⟨ho,by omega,?_⟩
    rw [hv];exact hK
theorem zY(hΓ:Holds P Γ){f:Nat}(hc:check P f=some (41,um.strip,[.tmp 4])):Sound P f (.dat false Wi):=by
 refine ka hc Jag hΓ (λargs K hcl hfi hG=>?_);match args,hG with
 | [a,b],hG=>
  obtain⟨x,rfl,hx,y,rfl,hy,hzx,hzy,hK⟩:=hG;refine⟨by simp,?_⟩
  simp only [go_sem,um];intro h1 h2;refine⟨λhl _=>⟨by omega,?_⟩,λhne _ _=>⟨λhlt=>?_,λhge=>?_⟩⟩
  rotate_left
  .rw [J0 (jM hx hzy hlt)]at hK;exact hK
  .rw [kaj (jM hy hzx (by omega))]at hK;exact hK
  refine Ya (λn:Nat=>⟨mkV [(0,wsA x),(1,wsA y),(5,.one (.lit (.int .i64 ((n:Int)-1))))],mkH []⟩) (λn=>n<=x.length/\x.drop n=y.drop n) id x.length ?_ ?_ ?_
  .exact Qa (by simp [okS,okV,okC,okL,okH,okB,okE,ja,va,Za,Va,wsA,ws]) trivial
  .simp [hl]
  .rintro n ⟨hn,hd⟩;simp only [go_sem];refine⟨λh=>⟨by omega,by omega,by omega,by omega,λhe=>⟨by omega,n-1,Qa (by simp [okS,okV,okC,okL,okH,okB,okE,ja,va,Za,Va,wsA,ws];omega) trivial,⟨by omega,?_⟩,by simp only [id];omega⟩,λhne=>?_⟩,λh=>?_⟩
   .rw [show((n:Int)-1).toNat=n-1 by omega]at he
    rw [List.getD_eq_getElem?_getD,List.getD_eq_getElem?_getD,List.getElem?_eq_getElem (by omega),List.getElem?_eq_getElem (by omega)]at he
    have e1:=List.getElem_cons_drop (as:=x) (i:=n-1) (by omega)
    have e2:=List.getElem_cons_drop (as:=y) (i:=n-1) (by omega)
    rw [show n-1+1=n by omega]at e1 e2
    rw [<-e1,<-e2,hd];simp only [Option.getD_some]at he;rw [he]
   .rw [show((n:Int)-1).toNat=n-1 by omega]at hne ⊢
    refine⟨by omega,by omega,by omega,by omega,λhlt=>?_,λhge=>?_⟩
    .rw [J0 (zbk (i:=n-1) hx hl (by omega) (by rw [show n-1+1=n by omega];exact hd) hlt)]at hK;exact hK
    .rw [kaj (zbk (i:=n-1) hy hl.symm (by omega) (by rw [show n-1+1=n by omega];exact hd.symm) (by omega))]at hK;exact hK
   .have:n=0:=by omega
    subst this;simp only [List.drop_zero]at hd;rw [hd,XaY]at hK;exact hK
theorem Uak(hΓ:Holds P Γ){f ft:Nat}(ht:Γ ft=.dat false vu)(hc:check P f=some (43,(xq ft).strip,[.tmp 4,.tmp 5])):Sound P f (.dat false uw):=by
 refine ka hc jaJ hΓ (λargs K hcl hfi hG=>?_);match args,hG with
 | [a,b],hG=>
  obtain⟨x,rfl,hx,hG⟩:=hG;obtain⟨k,m,rfl,rfl,hm,hmB,hxl,hK⟩:=Vb hG;obtain⟨m,rfl⟩:∃n:Nat,m=n:=⟨m.toNat,by omega⟩
  simp only [Int.toNat_natCast]at hK;refine⟨by simp,?_⟩
  simp only [go_sem,xq,ht];intro h1;refine⟨hxl,λ_=>⟨by omega,?_⟩⟩
  refine Ya (λp:List Nat×Nat=>⟨mkV [(0,wsA x),(1,.one (.lit (.int .u32 m))),(6,.one (.own 11 1 1 0 x.length)),(7,.one (.lit (.int .u64 p.2))),(8,.one (.lit (.int .i64 ((x.length:Int)-p.1.length-1))))],mkH [(11,⟨1,some ⟨(List.replicate (x.length-p.1.length) 0++p.1).map wc,1,true⟩⟩)]⟩)
   (λp=>p.1.length<=x.length/\WL p.1/\p.2<m/\val p.1*m+p.2=val (x.drop (x.length-p.1.length))) (λp=>x.length-p.1.length) ([],0) ?_ ?_ ?_
  .exact Qa (by simp [okS,okV,okC,okL,okH,okB,okE,ja,va,Za,Va,wsA,ws]) (Xg (by simp))
  .simp [Yc,val];omega
  .rintro⟨q,r⟩ ⟨hq,hqw,hr,hval⟩;simp only at hq hqw hr hval;have hlen:(List.replicate (x.length-q.length) 0++q).length=x.length:=by simp;omega
   simp only [go_sem,ht,hlen];refine⟨λh=>?_,λh=>?_⟩
   .obtain⟨n,hn⟩:∃n,n=x.length-q.length:=⟨_,rfl⟩;have hn0:0<n:=by omega
    have hi:((x.length:Int)-q.length-1).toNat=n-1:=by omega
    have g1:=Xb hx (n-1);have hd:=WJ x hn0 (by omega)
    obtain⟨s1,s2⟩:=vbd (by omega) hr g1
    have s3:=Va6 (B:=4294967296) (a:=x.getD (n-1) 0) (by omega) (hn▸hval)
    have e1:r*4294967296 % 18446744073709551616=r*4294967296:=by omega
    have e2:x.getD (n-1) 0 % 18446744073709551616=x.getD (n-1) 0:=by omega
    have e3:m % 18446744073709551616=m:=by omega
    rw [hi,<-hn,e1,e2,e3,or32 _ _ g1];generalize hs:r*4294967296+x.getD (n-1) 0=s at s1 s2 s3;rw [Nat.mod_eq_of_lt (show s / m<18446744073709551616 by omega),Nat.mod_eq_of_lt s1]
    have hm0:s % m<m:=Nat.mod_lt _ (by omega)
    refine⟨⟨rfl,by omega⟩,by omega,by omega,⟨rfl,by omega,by omega⟩,by omega,⟨by omega,by omega⟩,by omega,by omega,by omega,(s / m::q,s % m),Qa (by simp [okS,okV,okC,okL,okH,okB,okE,ja,va,Za,Va,wsA,ws];omega) (Xg ?_),⟨by simp;omega,Wc.2 ⟨s1,hqw⟩,hm0,?_⟩,by simp;omega⟩
    .simp only [List.length_cons];rw [Wv q _ hn0,show x.length-(q.length+1)=n-1 by omega]
    .rw [yj,List.length_cons,show x.length-(q.length+1)=n-1 by omega,hd];exact s3
   .have e:x.length-q.length=0:=by omega
    simp only [e,List.replicate_zero,List.nil_append,List.drop_zero]at hval ⊢;have h1:=Nat.div_mod_unique (show 0<m by omega) (a:=val x) (c:=r) (d:=val q)
    obtain⟨h2,h3⟩:=h1.2 ⟨by rw [<-hval,Nat.mul_comm m,Nat.add_comm],hr⟩
    rw [h2,h3]at hK;refine⟨hqw,by omega,?_⟩
    rw [Nat.mod_eq_of_lt (by omega)];exact hK
end Go.Abs
end
section
namespace Go.Abs
open Go.Num
variable {P:Program} {Γ:Nat->Spec}
def zB:AC:=(.seq (.ops false [.m 4 (.c (.one .emp))])
 (.fg [0,1] (.seq (.ops false [.m 9 (.t 0),.u 10 (.len (.t 9)),.u 11 (.bin .add (.t 10) (.i 1)),.u 12 (.mk 1 [(.lit (.int .u32 0))] (.t 11) (.t 11)),.m 5 (.t 12)])
 (.fg [0,1,5] (.seq (.seq (.ops false [.m 13 (.t 0),.u 14 (.len (.t 13)),.m 15 (.i 0)])
 (.fg [1,5,13,14,15] (.block 0 (.loop (.seq (.ops false [.u 16 (.bin .lss (.t 15) (.t 14))])
 (.fg [1,5,13,14,15,16] (.seq (.cond (.t 16) .skip (.exit 0))
 (.fg [1,5,13,14,15] (.seq (.block 1 (.seq (.ops false [.m 17 (.t 15),.u 18 (.idx 1 (.t 13) (.t 15)),.u 19 (.ld none 1 false (.t 18)),.m 6 (.t 17),.m 7 (.t 19)])
 (.fg [1,5,6,7,13,14,15] (.seq (.ops false [.m 20 (.t 7),.u 21 (.conv .u64 (.t 20)),.m 22 (.t 1),.u 23 (.bin .shl (.t 21) (.t 22)),.m 8 (.t 23)])
 (.fg [1,5,6,8,13,14,15] (.seq (.ops false [.m 24 (.t 5),.m 25 (.t 6),.u 26 (.idx 1 (.t 24) (.t 25)),.u 27 (.ld none 1 false (.t 26)),.m 28 (.t 8),.u 29 (.conv .u32 (.t 28)),.u 30 (.bin .or (.t 27) (.t 29)),.u 31 (.idx 1 (.t 24) (.t 25)),.n (.st none 1 (.t 31) (.t 30))])
 (.fg [1,5,6,8,13,14,15] (.ops false [.m 32 (.t 5),.m 33 (.t 6),.u 34 (.bin .add (.t 33) (.i 1)),.m 35 (.t 8),.u 36 (.bin .shr (.t 35) (.c (.one (.lit (.int .u64 32))))),.u 37 (.conv .u32 (.t 36)),.u 38 (.idx 1 (.t 32) (.t 34)),.n (.st none 1 (.t 38) (.t 37))]))))))))
 (.fg [1,5,13,14,15] (.ops false [.u 39 (.bin .add (.t 15) (.i 1)),.m 15 (.t 39)])))))))))))
 (.fg [5] (.seq (.ops false [.m 40 (.t 5),.m 4 (.t 40)])
 .ret)))))))
def jv(f0 f1:Nat):AC:=(.seq (.ops false [.m 4 (.c (.one .emp))])
 (.fg [0,1] (.seq (.ops false [.m 7 (.t 0),.u 8 (.len (.t 7)),.u 9 (.mk 1 [(.lit (.int .u32 0))] (.t 8) (.t 8)),.m 5 (.t 9)])
 (.fg [0,1,5] (.seq (.seq (.ops false [.m 10 (.t 0),.u 11 (.len (.t 10)),.m 12 (.i 0)])
 (.fg [0,1,5,11,12] (.block 0 (.loop (.seq (.ops false [.u 13 (.bin .lss (.t 12) (.t 11))])
 (.fg [0,1,5,11,12,13] (.seq (.cond (.t 13) .skip (.exit 0))
 (.fg [0,1,5,11,12] (.seq (.block 1 (.seq (.ops false [.m 14 (.t 12),.m 6 (.t 14)])
 (.fg [0,1,5,6,11,12] (.ops true [.m 15 (.t 5),.m 16 (.t 6),.m 17 (.t 0),.m 18 (.t 6),.u 19 (.idx 1 (.t 17) (.t 18)),.u 20 (.ld none 1 false (.t 19)),.u 21 (.conv .u64 (.t 20)),.m 22 (.t 0),.m 23 (.t 6),.u 24 (.bin .add (.t 23) (.i 1)),.u 25 (.call f0 [(.t 22),(.t 24)]),.u 26 (.bin .shl (.t 25) (.c (.one (.lit (.int .u64 32))))),.u 27 (.bin .or (.t 21) (.t 26)),.m 28 (.t 1),.u 29 (.bin .shr (.t 27) (.t 28)),.u 30 (.conv .u32 (.t 29)),.u 31 (.idx 1 (.t 15) (.t 16)),.n (.st none 1 (.t 31) (.t 30))]))))
 (.fg [0,1,5,11,12] (.ops false [.u 32 (.bin .add (.t 12) (.i 1)),.m 12 (.t 32)])))))))))))
 (.fg [5] (.seq (.ops false [.m 33 (.t 5),.u 34 (.call f1 [(.t 33)]),.m 4 (.t 34)])
 .ret)))))))
def Wr(f0:Nat):AC:=(.seq (.ops false [.m 4 (.c (.one .emp))])
 (.fg [0,1] (.seq (.ops false [.m 11 (.t 0),.u 12 (.len (.t 11)),.m 13 (.t 1),.u 14 (.len (.t 13)),.u 15 (.bin .add (.t 12) (.t 14)),.u 16 (.mk 1 [(.lit (.int .u32 0))] (.t 15) (.t 15)),.m 5 (.t 16)])
 (.fg [0,1,5] (.seq (.seq (.ops false [.m 17 (.t 0),.u 18 (.len (.t 17)),.m 19 (.i 0)])
 (.fg [1,5,17,18,19] (.block 0 (.loop (.seq (.ops false [.u 20 (.bin .lss (.t 19) (.t 18))])
 (.fg [1,5,17,18,19,20] (.seq (.cond (.t 20) .skip (.exit 0))
 (.fg [1,5,17,18,19] (.seq (.block 1 (.seq (.ops false [.m 21 (.t 19),.u 22 (.idx 1 (.t 17) (.t 19)),.u 23 (.ld none 1 false (.t 22)),.m 6 (.t 21),.m 7 (.t 23)])
 (.fg [1,5,6,7,17,18,19] (.seq (.ops false [.m 8 (.c (.one (.lit (.int .u64 0))))])
 (.fg [1,5,6,7,8,17,18,19] (.seq (.seq (.ops false [.m 24 (.t 1),.u 25 (.len (.t 24)),.m 26 (.i 0)])
 (.fg [1,5,6,7,8,17,18,19,24,25,26] (.block 2 (.loop (.seq (.ops false [.u 27 (.bin .lss (.t 26) (.t 25))])
 (.fg [1,5,6,7,8,17,18,19,24,25,26,27] (.seq (.cond (.t 27) .skip (.exit 2))
 (.fg [1,5,6,7,8,17,18,19,24,25,26] (.seq (.block 3 (.seq (.ops false [.m 28 (.t 26),.u 29 (.idx 1 (.t 24) (.t 26)),.u 30 (.ld none 1 false (.t 29)),.m 9 (.t 28),.m 10 (.t 30)])
 (.fg [1,5,6,7,8,9,10,17,18,19,24,25,26] (.seq (.ops false [.m 31 (.t 8),.m 32 (.t 7),.u 33 (.conv .u64 (.t 32)),.m 34 (.t 10),.u 35 (.conv .u64 (.t 34)),.u 36 (.bin .mul (.t 33) (.t 35)),.m 37 (.t 5),.m 38 (.t 6),.m 39 (.t 9),.u 40 (.bin .add (.t 38) (.t 39)),.u 41 (.idx 1 (.t 37) (.t 40)),.u 42 (.ld none 1 false (.t 41)),.u 43 (.conv .u64 (.t 42)),.u 44 (.bin .add (.t 36) (.t 43)),.u 45 (.bin .add (.t 31) (.t 44)),.m 8 (.t 45)])
 (.fg [1,5,6,7,8,9,17,18,19,24,25,26] (.seq (.ops false [.m 46 (.t 5),.m 47 (.t 6),.m 48 (.t 9),.u 49 (.bin .add (.t 47) (.t 48)),.m 50 (.t 8),.u 51 (.conv .u32 (.t 50)),.u 52 (.idx 1 (.t 46) (.t 49)),.n (.st none 1 (.t 52) (.t 51))])
 (.fg [1,5,6,7,8,17,18,19,24,25,26] (.ops false [.m 53 (.t 8),.u 54 (.bin .shr (.t 53) (.c (.one (.lit (.int .u64 32))))),.m 8 (.t 54)]))))))))
 (.fg [1,5,6,7,8,17,18,19,24,25,26] (.ops false [.u 55 (.bin .add (.t 26) (.i 1)),.m 26 (.t 55)])))))))))))
 (.fg [1,5,6,8,17,18,19] (.ops false [.m 56 (.t 5),.m 57 (.t 6),.m 58 (.t 1),.u 59 (.len (.t 58)),.u 60 (.bin .add (.t 57) (.t 59)),.m 61 (.t 8),.u 62 (.conv .u32 (.t 61)),.u 63 (.idx 1 (.t 56) (.t 60)),.n (.st none 1 (.t 63) (.t 62))]))))))))
 (.fg [1,5,17,18,19] (.ops false [.u 64 (.bin .add (.t 19) (.i 1)),.m 19 (.t 64)])))))))))))
 (.fg [5] (.seq (.ops false [.m 65 (.t 5),.u 66 (.call f0 [(.t 65)]),.m 4 (.t 66)])
 .ret)))))))
theorem ybb(hΓ:Holds P Γ){f:Nat}(hc:check P f=some (41,zB.strip,[.tmp 4])):Sound P f (.fresh 1 up_G):=by
 refine Zv hc Qbw hΓ (λargs K hcl hfi hG=>?_);match args,hG with
 | [a,b],hG=>
  obtain⟨x,rfl,hx,hG⟩:=hG;obtain⟨k,m,rfl,rfl,hm,hmB,hxl,hK⟩:=Vb hG;obtain⟨m,rfl⟩:∃n:Nat,m=n:=⟨m.toNat,by omega⟩
  simp only [Int.toNat_natCast]at hK;refine⟨by simp,?_⟩
  simp only [go_sem,zB];intro h1;refine⟨by omega,by omega,λ_=>?_⟩
  refine Ya (λp:List Nat×Nat=>⟨mkV [(1,.one (.lit (.int .i64 m))),(5,.one (.own 12 1 1 0 (x.length+1))),(13,wsA x),(14,.one (.lit (.int .i64 x.length))),(15,.one (.lit (.int .i64 p.1.length)))],mkH [(12,⟨1,some ⟨(p.1++p.2::List.replicate (x.length-p.1.length) 0).map wc,1,true⟩⟩)]⟩)
   (λp=>p.1.length<=x.length/\WL p.1/\p.2<2 ^ m/\val p.1+4294967296 ^ p.1.length*p.2=val (x.take p.1.length)*2 ^ m) (λp=>x.length-p.1.length) ([],0) ?_ ?_ ?_
  .exact Qa (by simp [okS,okV,okC,okL,okH,okB,okE,ja,va,Za,Va,wsA,ws]) (Xg (by simp [List.replicate_succ]))
  .simp [Yc,val];exact Nat.pow_pos (by omega)
  .rintro⟨o,c⟩ ⟨hoN,ho,hc1,hval⟩;simp only at hoN ho hc1 hval;have hlen:(o++c::List.replicate (x.length-o.length) 0).length=x.length+1:=by simp;omega
   simp only [go_sem,hlen,List.length_set];refine⟨λhlt=>?_,λhge=>?_⟩
   .have g1:=Xb hx o.length;obtain⟨s1,s2,s3,s4⟩:=wbq (by omega) hc1 g1
    have e1:x.getD o.length 0 % 18446744073709551616=x.getD o.length 0:=by omega
    have hp:=vX (show m<32 by omega)
    rw [UbD,e1,Nat.mod_eq_of_lt s1,s2,UbC];generalize hy:x.getD o.length 0*2 ^ m=y at s1 s2 s3 s4;rw [Nat.mod_eq_of_lt (show y / 4294967296<4294967296 by omega)]
    refine⟨hlt,⟨rfl,by omega⟩,by omega,by omega,⟨rfl,by omega,by omega⟩,by omega,by omega,by omega,by omega,by omega,by omega,by omega,(o++[y % 4294967296+c],y / 4294967296),Qa (by simp [okS,okV,okC,okL,okH,okB,okE,ja,va,Za,Va,wsA,ws]) (Xg ?_),⟨by simp;omega,Ue.2 ⟨ho,Wc.2 ⟨s3,Yc⟩⟩,s4,?_⟩,by simp;omega⟩
    .rw [show x.length-o.length=(x.length-(o.length+1))+1 by omega,List.replicate_succ,vbs];simp
    .simp only [List.length_append,List.length_cons,List.length_nil,Nat.zero_add,qc,vc,yj,xo,Nat.mul_zero,Nat.add_zero,Nat.pow_succ];rw [wbI (B:=4294967296) (x:=y) hval rfl,Nat.add_mul,<-hy,Nat.mul_assoc]
   .have e:o.length=x.length:=by omega
    have hcB:c<4294967296:=by have:=vX (show m<32 by omega);omega
    rw [e,wj (Nat.le_refl _)]at hval;simp only [e,Nat.sub_self,List.replicate_zero];have hw:WL (o++[c]):=Ue.2 ⟨ho,Wc.2 ⟨hcB,Yc⟩⟩;have hv:val (o++[c])=val x*2 ^ m:=by rw [vc,e];simpa [val] using hval
    have:=XD hw;rw [hv,List.length_append,List.length_singleton,e]at this;rw [<-this];exact hK
theorem jaH(hΓ:Holds P Γ){f fw ft:Nat}(hw:Γ fw=.dat true Wm)(ht:Γ ft=.dat false vu)(hc:check P f=some (35,(jv fw ft).strip,[.tmp 4])):Sound P f (.dat false yG):=by
 refine ka hc yaT hΓ (λargs K hcl hfi hG=>?_);match args,hG with
 | [a,b],hG=>
  obtain⟨x,rfl,hx,hG⟩:=hG;obtain⟨k,m,rfl,rfl,hm,hmB,hxl,hK⟩:=Vb hG;obtain⟨m,rfl⟩:∃n:Nat,m=n:=⟨m.toNat,by omega⟩
  simp only [Int.toNat_natCast]at hK;refine⟨by simp,?_⟩
  simp only [go_sem,jv,hw,ht];intro h1;refine⟨by omega,λ_=>?_⟩
  refine Ya (λo:List Nat=>⟨mkV [(0,wsA x),(1,.one (.lit (.int .i64 m))),(5,.one (.own 9 1 1 0 x.length)),(11,.one (.lit (.int .i64 x.length))),(12,.one (.lit (.int .i64 o.length)))],mkH [(9,⟨1,some ⟨(o++List.replicate (x.length-o.length) 0).map wc,1,true⟩⟩)]⟩)
   (λo=>o.length<=x.length/\WL o/\val o=val x / 2 ^ m % 4294967296 ^ o.length) (λo=>x.length-o.length) [] ?_ ?_ ?_
  .exact Qa (by simp [okS,okV,okC,okL,okH,okB,okE,ja,va,Za,Va,wsA,ws]) (Xg (by simp))
  .simp [Yc,val,Nat.mod_one]
  .rintro o ⟨hoN,ho,hval⟩;have hlen:(o++List.replicate (x.length-o.length) 0).length=x.length:=by simp;omega
   simp only [go_sem,hw,ht,hlen];refine⟨λhlt=>⟨hlt,by omega,hx,⟨rfl,by omega⟩,⟨rfl,by omega,by omega⟩,by omega,hlt,hlt,by omega,?_⟩,λhge=>?_⟩
   .have g1:=Xb hx o.length;have g2:=Xb hx (o.length+1);have e1:x.getD o.length 0 % 18446744073709551616=x.getD o.length 0:=by omega
    have e2:x.getD (o.length+1) 0*4294967296 % 18446744073709551616=x.getD (o.length+1) 0*4294967296:=by omega
    rw [e1,e2,or32' _ _ g1,show x.getD (o.length+1) 0*4294967296+x.getD o.length 0=x.getD o.length 0+4294967296*x.getD (o.length+1) 0 by omega,yac hx (by omega)]
    generalize hv:val x / 2 ^ m / 4294967296 ^ o.length % 4294967296=v;have hvB:v<4294967296:=by rw [<-hv];exact Nat.mod_lt _ (by omega)
    refine⟨o++[v],Qa (by simp [okS,okV,okC,okL,okH,okB,okE,ja,va,Za,Va,wsA,ws]) (Xg ?_),⟨by simp;omega,Ue.2 ⟨ho,Wc.2 ⟨hvB,Yc⟩⟩,?_⟩,by simp;omega⟩
    .rw [show x.length-o.length=x.length-(o.length+1)+1 by omega,Xai];simp
    .rw [vc,List.length_append,List.length_singleton,QI,hv,<-hval];simp [val]
   .have e:o.length=x.length:=by omega
    have hlt:val x / 2 ^ m<4294967296 ^ x.length:=Nat.lt_of_le_of_lt (Nat.div_le_self _ _) (wn hx);rw [e,Nat.mod_eq_of_lt hlt]at hval;simp only [e,Nat.sub_self,List.replicate_zero,List.append_nil];refine⟨ho,by omega,?_⟩
    rw [hval];exact hK
theorem Qak(hΓ:Holds P Γ){f ft:Nat}(ht:Γ ft=.dat false vu)(hc:check P f=some (67,(Wr ft).strip,[.tmp 4])):Sound P f (.dat false Uq):=by
 refine ka hc XQ hΓ (λargs K hcl hfi hG=>?_);match args,hG with
 | [a,b],hG=>
  obtain⟨x,rfl,hx,y,rfl,hy,hxl,hyl,hK⟩:=hG;refine⟨by simp,?_⟩
  simp only [go_sem,Wr,ht];intro h1 h2;refine⟨by omega,by omega,λ_=>?_⟩
  generalize hN:x.length+y.length=N;refine Ya (λp:Nat×List Nat=>⟨mkV [(1,wsA y),(5,.one (.own 16 1 1 0 N)),(17,wsA x),(18,.one (.lit (.int .i64 x.length))),(19,.one (.lit (.int .i64 p.1)))],mkH [(16,⟨1,some ⟨p.2.map wc,1,true⟩⟩)]⟩)
   (λp=>p.1<=x.length/\WL p.2/\p.2.length=N/\val p.2=val (x.take p.1)*val y/\∀j,p.1+y.length<=j->p.2.getD j 0=0) (λp=>x.length-p.1) (0,List.replicate N 0) ?_ ?_ ?_
  .exact Qa (by simp [okS,okV,okC,okL,okH,okB,okE,ja,va,Za,Va,wsA,ws]) (Xg (by simp))
  .simp [UaW,val,YX];intro j _;rw [List.getElem?_replicate];split <;> rfl
  .rintro⟨i,o⟩ ⟨hi,ho,hoN,hval,hz⟩;simp only at hi ho hoN hval hz;simp only [go_sem,ht,hoN];refine⟨λhlt=>⟨hlt,λ_=>?_⟩,λhge=>?_⟩
   .have g1:=Xb hx i;refine Ya (λp:Nat×Nat×List Nat=>⟨mkV [(1,wsA y),(5,.one (.own 16 1 1 0 N)),(6,.one (.lit (.int .i64 i))),(7,.one (.lit (.int .u32 (x.getD i 0:Nat)))),(8,.one (.lit (.int .u64 p.2.1))),(17,wsA x),(18,.one (.lit (.int .i64 x.length))),(19,.one (.lit (.int .i64 i))),(24,wsA y),(25,.one (.lit (.int .i64 y.length))),(26,.one (.lit (.int .i64 p.1)))],mkH [(16,⟨1,some ⟨p.2.2.map wc,1,true⟩⟩)]⟩)
     (λp=>p.1<=y.length/\p.2.1<4294967296/\WL p.2.2/\p.2.2.length=N/\val p.2.2+4294967296 ^ i*4294967296 ^ p.1*p.2.1=val (x.take i)*val y+4294967296 ^ i*x.getD i 0*val (y.take p.1)/\∀j,i+y.length<=j->p.2.2.getD j 0=0) (λp=>y.length-p.1) (0,0,o) ?_ ?_ ?_
    .exact Qa (by simp [okS,okV,okC,okL,okH,okB,okE,ja,va,Za,Va,wsA,ws]) (Xg rfl)
    .exact⟨Nat.zero_le _,by simp,ho,hoN,by simp [val,hval],hz⟩
    .rintro⟨k,c,o⟩ ⟨hk,hc,ho,hoN,hval,hz⟩;simp only at hk hc ho hoN hval hz;simp only [go_sem,ht,hoN];refine⟨λhlt2=>?_,λhge2=>?_⟩
     .have g2:=Xb hy k;have g3:=Xb ho (i+k);have s1:=XV g1 g2 hc g3;have e1:x.getD i 0 % 18446744073709551616=x.getD i 0:=by omega
      have e2:y.getD k 0 % 18446744073709551616=y.getD k 0:=by omega
      have e3:o.getD (i+k) 0 % 18446744073709551616=o.getD (i+k) 0:=by omega
      have hstep:=JP hval (by omega) rfl
      rw [e1,e2,e3,Nat.mod_eq_of_lt (show x.getD i 0*y.getD k 0<18446744073709551616 by omega),Nat.mod_eq_of_lt (show x.getD i 0*y.getD k 0+o.getD (i+k) 0<18446744073709551616 by omega),Nat.mod_eq_of_lt s1]
      generalize hs:c+(x.getD i 0*y.getD k 0+o.getD (i+k) 0)=s at s1 hstep;refine⟨hlt2,by omega,by omega,by omega,by omega,by omega,by omega,by omega,by omega,(k+1,s / 4294967296,o.set (i+k) (s % 4294967296)),Qa (by simp [okS,okV,okC,okL,okH,okB,okE,ja,va,Za,Va,wsA,ws]) (Xg rfl),⟨by simp only;omega,by simp only;omega,kac ho _ (Nat.mod_lt _ (by omega)),by simp [hoN],hstep,?_⟩,by simp only;omega⟩
      intro j hj;simp only;rw [Num.getD_set_ne (by omega)];exact hz j hj
     .have e:k=y.length:=by omega
      subst e;have hend:=kad hval (by omega) (hz _ (Nat.le_refl _))
      rw [Nat.mod_eq_of_lt hc];refine λ_=>⟨by omega,by omega,by omega,by omega,(i+1,o.set (i+y.length) c),Qa (by simp [okS,okV,okC,okL,okH,okB,okE,ja,va,Za,Va,wsA,ws]) (Xg rfl),⟨by simp only;omega,kac ho _ hc,by simp [hoN],hend,?_⟩,by simp only;omega⟩
      intro j hj;simp only at hj ⊢;rw [Num.getD_set_ne (by omega)];exact hz j (by omega)
   .have e:i=x.length:=by omega
    subst e;rw [wj (Nat.le_refl _)]at hval;refine⟨ho,by omega,?_⟩
    rw [hval];exact hK
end Go.Abs
end
section
namespace Go.Abs
open Go.Num
variable {P:Program} {Γ:Nat->Spec}
def Xo(f0:Nat):AC:=(.seq (.ops false [.m 6 .fa])
 (.fg [0,1,2] (.seq (.ops false [.m 7 (.c (.one (.lit (.int .u64 0)))),.m 8 (.c (.one (.lit (.int .u64 0))))])
 (.fg [0,1,2,7,8] (.seq (.seq (.ops false [.m 11 (.t 0),.u 12 (.len (.t 11)),.m 13 (.i 0)])
 (.fg [0,1,2,7,8,12,13] (.block 0 (.loop (.seq (.ops false [.u 14 (.bin .lss (.t 13) (.t 12))])
 (.fg [0,1,2,7,8,12,13,14] (.seq (.cond (.t 14) .skip (.exit 0))
 (.fg [0,1,2,7,8,12,13] (.seq (.block 1 (.seq (.ops false [.m 15 (.t 13),.m 9 (.t 15)])
 (.fg [0,1,2,7,8,9,12,13] (.seq (.ops false [.m 16 (.t 7),.m 17 (.t 2),.m 18 (.t 1),.m 19 (.t 9),.u 20 (.call f0 [(.t 18),(.t 19)]),.u 21 (.bin .mul (.t 17) (.t 20)),.u 22 (.bin .add (.t 16) (.t 21)),.m 7 (.t 22)])
 (.fg [0,1,2,7,8,9,12,13] (.seq (.ops false [.m 23 (.t 0),.m 24 (.t 9),.u 25 (.idx 1 (.t 23) (.t 24)),.u 26 (.ld none 1 false (.t 25)),.u 27 (.conv .u64 (.t 26)),.m 28 (.t 7),.u 29 (.conv .u32 (.t 28)),.u 30 (.conv .u64 (.t 29)),.u 31 (.bin .sub (.t 27) (.t 30)),.m 32 (.t 8),.u 33 (.bin .sub (.t 31) (.t 32)),.m 10 (.t 33)])
 (.fg [0,1,2,7,9,10,12,13] (.seq (.ops false [.m 34 (.t 0),.m 35 (.t 9),.m 36 (.t 10),.u 37 (.conv .u32 (.t 36)),.u 38 (.idx 1 (.t 34) (.t 35)),.n (.st none 1 (.t 38) (.t 37))])
 (.fg [0,1,2,7,10,12,13] (.seq (.ops false [.m 39 (.t 10),.u 40 (.bin .shr (.t 39) (.c (.one (.lit (.int .u64 63))))),.m 8 (.t 40)])
 (.fg [0,1,2,7,8,12,13] (.ops false [.m 41 (.t 7),.u 42 (.bin .shr (.t 41) (.c (.one (.lit (.int .u64 32))))),.m 7 (.t 42)]))))))))))))
 (.fg [0,1,2,7,8,12,13] (.ops false [.u 43 (.bin .add (.t 13) (.i 1)),.m 13 (.t 43)])))))))))))
 (.fg [8] (.seq (.ops false [.m 44 (.t 8),.u 45 (.bin .eql (.t 44) (.c (.one (.lit (.int .u64 1))))),.m 6 (.t 45)])
 .ret)))))))
def yv(f0:Nat):AC:=(.seq (.ops false [.m 4 (.c (.one (.lit (.int .u64 0))))])
 (.fg [0,1,4] (.seq (.ops false [.m 6 (.t 0),.u 7 (.len (.t 6)),.m 8 (.i 0)])
 (.fg [0,1,4,7,8] (.block 0 (.loop (.seq (.ops false [.u 9 (.bin .lss (.t 8) (.t 7))])
 (.fg [0,1,4,7,8,9] (.seq (.cond (.t 9) .skip (.exit 0))
 (.fg [0,1,4,7,8] (.seq (.block 1 (.seq (.ops false [.m 10 (.t 8),.m 5 (.t 10)])
 (.fg [0,1,4,5,7,8] (.seq (.ops true [.m 11 (.t 4),.m 12 (.t 0),.m 13 (.t 5),.u 14 (.idx 1 (.t 12) (.t 13)),.u 15 (.ld none 1 false (.t 14)),.u 16 (.conv .u64 (.t 15)),.m 17 (.t 1),.m 18 (.t 5),.u 19 (.call f0 [(.t 17),(.t 18)]),.u 20 (.bin .add (.t 16) (.t 19)),.u 21 (.bin .add (.t 11) (.t 20)),.m 4 (.t 21)])
 (.fg [0,1,4,5,7,8] (.seq (.ops false [.m 22 (.t 0),.m 23 (.t 5),.m 24 (.t 4),.u 25 (.conv .u32 (.t 24)),.u 26 (.idx 1 (.t 22) (.t 23)),.n (.st none 1 (.t 26) (.t 25))])
 (.fg [0,1,4,7,8] (.ops false [.m 27 (.t 4),.u 28 (.bin .shr (.t 27) (.c (.one (.lit (.int .u64 32))))),.m 4 (.t 28)]))))))))
 (.fg [0,1,4,7,8] (.ops false [.u 29 (.bin .add (.t 8) (.i 1)),.m 8 (.t 29)])))))))))))))
theorem xad(hΓ:Holds P Γ){f fw:Nat}(hw:Γ fw=.dat true Wm)(hc:check P f=some (46,(Xo fw).strip,[.tmp 6])):Sound P f (.own jt):=by
 refine ug hc hΓ (λd args h K hG=>?_);unfold jt at hG;split at hG
 case h_2=>exact hG.elim
 rename_i r ver off len b n;obtain⟨v,rfl,hv,pre,seg,post,m,rfl,rfl,rfl,hr,hseg,hm,hvl,hlt,hsl,hK⟩:=hG;refine⟨[r],[⟨(pre++seg++post).map wc,1,true⟩],[.one (.own 1048576 ver 1 pre.length seg.length),wsA v,.one (.lit (.int .u64 m))],by simp,rfl,?_,?_,?_,λhfi=>⟨by simp,?_⟩⟩
 .intro i r' b h1 h2;cases i with
  | zero=>simp only [List.getElem?_cons_zero,Option.some.injEq]at h1 h2;subst h1 h2;exact⟨by rw [hr],rfl,of_eq_true (we _)⟩
  | succ i=>simp at h1
 .simp [exA,exC,exB,nameOf,pinA,wsA,ws]
 .intro a ha;simp only [List.mem_cons,List.not_mem_nil,or_false]at ha;rcases ha with rfl | rfl | rfl
  .simp [pasA,pasC,pasB,nameOf,pinA]
  .exact .slice _ (of_eq_true (we _))
  .exact .lit _
 simp only [go_sem,Xo,hw,hr];intro h1;refine Ya (λp:List Nat×Nat×Nat×Nat=>⟨mkV [(0,.one (.own 1048576 ver 1 pre.length seg.length)),(1,wsA v),(2,.one (.lit (.int .u64 m))),(7,.one (.lit (.int .u64 p.2.1))),(8,.one (.lit (.int .u64 p.2.2.1))),(12,.one (.lit (.int .i64 seg.length))),(13,.one (.lit (.int .i64 p.1.length)))],
   mkH [(1048576,⟨ver,some ⟨(pre++(p.1++seg.drop p.1.length)++post).map wc,1,true⟩⟩)]⟩)
  (λp=>p.1.length<=seg.length/\WL p.1/\(p.2.1=0∨p.2.1<m)/\p.2.2.1<=1/\p.2.2.2+4294967296 ^ p.1.length*p.2.1=m*val (v.take p.1.length)/\val p.1+p.2.2.2=val (seg.take p.1.length)+4294967296 ^ p.1.length*p.2.2.1) (λp=>seg.length-p.1.length) ([],0,0,0) ?_ ?_ ?_
 .exact Qa (by simp [okS,okV,okC,okL,okH,okB,okE,ja,va,Za,Va,wsA,ws]) (Xg (by simp))
 .simp [Yc,val]
 .rintro⟨o,c,bw,p⟩ ⟨hoN,ho,hc1,hb1,hp1,hp2⟩;simp only at hoN ho hc1 hb1 hp1 hp2;have hlen:(pre++(o++seg.drop o.length)++post).length=pre.length+seg.length+post.length:=by simp;omega
  simp only [go_sem,hw,hr,hlen];refine⟨λhlt2=>?_,λhge=>?_⟩
  .have g1:=Xb hseg o.length;have g2:=Xb hv o.length;obtain⟨s1,s2⟩:=uaY hm g2 hc1;have a1:=Zbc (B:=4294967296) (v:=v.getD o.length 0) hp1;have e1:m*v.getD o.length 0 % 18446744073709551616=m*v.getD o.length 0:=Nat.mod_eq_of_lt (by omega)
   have e2:seg.getD o.length 0 % 18446744073709551616=seg.getD o.length 0:=by omega
   rw [qaY _ _ _ _ hlt2,e1,e2,Nat.mod_eq_of_lt s1,yai _ _ _ _ _ hlt2];generalize hs:c+m*v.getD o.length 0=s at s1 s2 a1;have e3:s % 4294967296 % 18446744073709551616=s % 4294967296:=by omega
   rw [e3];obtain⟨t1,t2⟩:=Uat (b:=s % 4294967296) g1 (by omega) hb1
   generalize sub64 (sub64 (seg.getD o.length 0) (s % 4294967296)) bw=d at t1 t2;have a2:=zbd hp2 t1;refine⟨hv,hlt2,by omega,hlt2,by omega,by omega,by omega,by omega,(o++[d % 4294967296],s / 4294967296,d / 9223372036854775808,p+4294967296 ^ o.length*(s % 4294967296)),Qa (by simp [okS,okV,okC,okL,okH,okB,okE,ja,va,Za,Va,wsA,ws]) (Xg rfl),⟨by simp;omega,Ue.2 ⟨ho,Wc.2 ⟨Nat.mod_lt _ (by omega),Yc⟩⟩,s2,t2,?_,?_⟩,by simp;omega⟩
   .simp only [List.length_append,List.length_cons,List.length_nil,Nat.zero_add,qc,Nat.pow_succ];exact a1
   .simp only [List.length_append,List.length_cons,List.length_nil,Nat.zero_add,qc,vc,yj,xo,Nat.mul_zero,Nat.add_zero,Nat.pow_succ];exact a2
  .have e:o.length=seg.length:=by omega
   rw [e]at hp1 hp2;rw [wj hvl]at hp1;rw [wj (Nat.le_refl _)]at hp2;obtain⟨t1,t2⟩:=ybu ho e hp1 hlt hp2 hb1;rw [List.drop_of_length_le (by omega),List.append_nil]
   rw [<-t1]at hK;have:(decide ((bw:Int)=1))=decide (val seg<m*val v):=by
    rw [decide_eq_decide,<-t2];omega
   rw [this];exact hK
theorem WaI(hΓ:Holds P Γ){f fw:Nat}(hw:Γ fw=.dat true Wm)(hc:check P f=some (30,(yv fw).strip,[])):Sound P f (.own uE):=by
 refine ug hc hΓ (λd args h K hG=>?_);unfold uE at hG;split at hG
 case h_2=>exact hG.elim
 rename_i r ver off len b;obtain⟨v,rfl,hv,pre,seg,post,rfl,rfl,hr,hseg,hvl,hsl,hK⟩:=hG;refine⟨[r],[⟨(pre++seg++post).map wc,1,true⟩],[.one (.own 1048576 ver 1 pre.length seg.length),wsA v],by simp,rfl,?_,?_,?_,λhfi=>⟨by simp,?_⟩⟩
 .intro i r' b h1 h2;cases i with
  | zero=>simp only [List.getElem?_cons_zero,Option.some.injEq]at h1 h2;subst h1 h2;exact⟨by rw [hr],rfl,of_eq_true (we _)⟩
  | succ i=>simp at h1
 .simp [exA,exC,exB,nameOf,pinA,wsA,ws]
 .intro a ha;simp only [List.mem_cons,List.not_mem_nil,or_false]at ha;rcases ha with rfl | rfl
  .simp [pasA,pasC,pasB,nameOf,pinA]
  .exact .slice _ (of_eq_true (we _))
 simp only [go_sem,yv,hw,hr];intro h1;refine Ya (λp:List Nat×Nat=>⟨mkV [(0,.one (.own 1048576 ver 1 pre.length seg.length)),(1,wsA v),(4,.one (.lit (.int .u64 p.2))),(7,.one (.lit (.int .i64 seg.length))),(8,.one (.lit (.int .i64 p.1.length)))],
   mkH [(1048576,⟨ver,some ⟨(pre++(p.1++seg.drop p.1.length)++post).map wc,1,true⟩⟩)]⟩)
  (λp=>p.1.length<=seg.length/\WL p.1/\p.2<=1/\val p.1+4294967296 ^ p.1.length*p.2=val (seg.take p.1.length)+val (v.take p.1.length)) (λp=>seg.length-p.1.length) ([],0) ?_ ?_ ?_
 .exact Qa (by simp [okS,okV,okC,okL,okH,okB,okE,ja,va,Za,Va,wsA,ws]) (Xg (by simp))
 .simp [Yc,val]
 .rintro⟨o,c⟩ ⟨hoN,ho,hc1,hp1⟩;simp only at hoN ho hc1 hp1;have hlen:(pre++(o++seg.drop o.length)++post).length=pre.length+seg.length+post.length:=by simp;omega
  simp only [go_sem,hw,hr,hlen];refine⟨λhlt2=>?_,λhge=>?_⟩
  .have g1:=Xb hseg o.length;have g2:=Xb hv o.length;have e2:seg.getD o.length 0 % 18446744073709551616=seg.getD o.length 0:=by omega
   rw [qaY _ _ _ _ hlt2,e2,Nat.mod_eq_of_lt (show seg.getD o.length 0+v.getD o.length 0<18446744073709551616 by omega),Nat.mod_eq_of_lt (show c+(seg.getD o.length 0+v.getD o.length 0)<18446744073709551616 by omega),yai _ _ _ _ _ hlt2]
   have a1:=Ybc (B:=4294967296) (a:=seg.getD o.length 0) (b:=v.getD o.length 0) hp1 rfl;generalize hs:c+(seg.getD o.length 0+v.getD o.length 0)=s at a1;refine⟨hlt2,by omega,hv,hlt2,by omega,by omega,by omega,(o++[s % 4294967296],s / 4294967296),Qa (by simp [okS,okV,okC,okL,okH,okB,okE,ja,va,Za,Va,wsA,ws]) (Xg rfl),⟨by simp;omega,Ue.2 ⟨ho,Wc.2 ⟨Nat.mod_lt _ (by omega),Yc⟩⟩,by simp only;omega,?_⟩,by simp;omega⟩
   simp only [List.length_append,List.length_cons,List.length_nil,Nat.zero_add,qc,vc,yj,xo,Nat.mul_zero,Nat.add_zero,Nat.pow_succ];exact a1
  .have e:o.length=seg.length:=by omega
   rw [e,wj hvl,wj (Nat.le_refl _)]at hp1;have t1:=Ubd ho e hp1;rw [List.drop_of_length_le (by omega),List.append_nil]
   rw [<-t1]at hK;exact hK
end Go.Abs
end
section
namespace Go.Num
theorem JC:∀(a b X:Nat),dig (a+b) X=dig a X++dig b (X / 4294967296 ^ a)
 | 0,b,X=>by simp [dig]
 | a+1,b,X=>by
  rw [show a+1+b=(a+b)+1 by omega,dig,dig,JC a b,Nat.div_div_eq_div_mul,Nat.pow_succ,Nat.mul_comm 4294967296];simp
theorem VaB:∀k,dig k 0=List.replicate k 0
 | 0=>rfl
 | k+1=>by rw [dig,Nat.zero_mod,Nat.zero_div,VaB k,List.replicate_succ]
theorem wY:∀(k i X:Nat),i<k->(dig k X).getD i 0=X / 4294967296 ^ i % 4294967296
 | k+1,0,X,_=>by simp [dig]
 | k+1,i+1,X,h=>by
  rw [dig,List.getD_cons_succ,wY k i _ (by omega),Nat.div_div_eq_div_mul,Nat.pow_succ,Nat.mul_comm 4294967296]
theorem VX:∀(k X:Nat),dig k (X % 4294967296 ^ k)=dig k X:=by
 intro k X;refine Yah (xm _ _) (xm _ _) (by rw [qb,qb]) ?_
 rw [Vm,Vm,Nat.mod_mod]
theorem Qbv{j X Y:Nat}:dig j (X % 4294967296 ^ j+4294967296 ^ j*Y)=dig j X:=by
 rw [<-VX,Nat.add_mul_mod_self_left,Nat.mod_mod,VX]
theorem XN{L j n X:Nat}(h:j+(n+1)<=L)(hX:X / 4294967296 ^ j<4294967296 ^ (n+1)) :
  dig L X=dig j X++dig (n+1) (X / 4294967296 ^ j)++List.replicate (L-(j+(n+1))) 0:=by
 conv=>lhs;rw [show L=j+(n+1)+(L-(j+(n+1))) by omega]
 rw [JC,JC,Nat.pow_add,<-Nat.div_div_eq_div_mul,Nat.div_eq_of_lt hX,VaB]
theorem Jar{L j n X R:Nat}(h:j+(n+1)<=L)(hR:R<4294967296 ^ (n+1)) :
  dig j X++dig (n+1) R++List.replicate (L-(j+(n+1))) 0=dig L (X % 4294967296 ^ j+4294967296 ^ j*R):=by
 have e:(X % 4294967296 ^ j+4294967296 ^ j*R) / 4294967296 ^ j=R:=by
  rw [Nat.add_mul_div_left _ _ (pow_pos j),Nat.div_eq_of_lt (Nat.mod_lt _ (pow_pos j)),Nat.zero_add]
 rw [XN h (by rw [e];exact hR),e,Qbv]
structure Step (B n V P top next head u2:Nat):Prop where
 hB:2<=B
 hn:2<=n
 vlow:∃l,V=(top*B+next)*B ^ (n-2)+l/\l<B ^ (n-2)
 plow:∃l,P=(head*B+u2)*B ^ (n-2)+l/\l<B ^ (n-2)
 nextB:next<B
 topB:top<B
 half:B<=2*top
 u2B:u2<B
 lt:P<V*B
namespace Step
variable {B n V P top next head u2:Nat}
theorem vpos(s:Step B n V P top next head u2):0<V:=by
 obtain⟨l,h,_⟩:=s.vlow;have:0<B ^ (n-2):=Nat.pow_pos (by have:=s.hB;omega)
 have h2:0<top*B+next:=by
  have:=Nat.mul_pos (show 0<top by have:=s.half;have:=s.hB;omega) (show 0<B by have:=s.hB;omega)
  omega
 have:=Nat.mul_pos h2 this;omega
theorem down(s:Step B n V P top next head u2){g r:Nat}(hg:g*top+r=head)(h:B<=g∨r*B+u2<g*next):P / V<g:=by
 rw [Nat.div_lt_iff_lt_mul s.vpos];rcases h with h | h
 .have h1:=Nat.mul_le_mul_right V h;have:=s.lt;rw [Nat.mul_comm V]at this;omega
 .obtain⟨lv,hv,hlv⟩:=s.vlow;obtain⟨lp,hp,hlp⟩:=s.plow;generalize B ^ (n-2)=p at hv hlv hp hlp;have h1:head*B+u2+1<=g*(top*B+next):=by
   rw [<-hg];have:(g*top+r)*B=g*(top*B)+r*B:=by rw [Nat.add_mul,Nat.mul_assoc]
   rw [this,Nat.mul_add];omega
  have h2:=Nat.mul_le_mul_right p h1;rw [Nat.add_mul,Nat.one_mul]at h2;have h3:g*(top*B+next)*p<=g*V:=by
   rw [Nat.mul_assoc];exact Nat.mul_le_mul_left _ (by omega)
  omega
theorem stop(s:Step B n V P top next head u2){g r:Nat}(hg:g*top+r=head)(hgB:g<=B)(h:B<=r∨(g<B/\g*next<=r*B+u2)):g*V<=P+V:=by
 obtain⟨lv,hv,hlv⟩:=s.vlow;obtain⟨lp,hp,hlp⟩:=s.plow;have hB:=s.hB;have hn:=s.hn;have hpp:0<B ^ (n-2):=Nat.pow_pos (by omega)
 have h1:g*(top*B+next)<=head*B+u2:=by
  rw [<-hg,Nat.add_mul,Nat.mul_add,Nat.mul_assoc];rcases h with h | h
  .have h3:g*next<=B*B:=Nat.mul_le_mul hgB (Nat.le_of_lt s.nextB)
   have h4:B*B<=r*B:=Nat.mul_le_mul_right _ h;omega
  .omega
 have hVtop:B*B ^ (n-2)<=V:=by
  have:B<=top*B:=Nat.le_mul_of_pos_left _ (by have:=s.half;omega)
  have:=Nat.mul_le_mul_right (B ^ (n-2)) (show B<=top*B+next by omega)
  omega
 generalize B ^ (n-2)=p at hv hlv hp hlp hpp hVtop;have h2:=Nat.mul_le_mul_right p h1;have h5:g*V<=g*((top*B+next)*p)+g*p:=by
  rw [hv,Nat.mul_add];exact Nat.add_le_add_left (Nat.mul_le_mul_left _ (Nat.le_of_lt hlv)) _
 have h6:g*p<=B*p:=Nat.mul_le_mul_right _ hgB;rw [<-Nat.mul_assoc]at h5;omega
theorem first(s:Step B n V P top next head u2):head / top<=B+1/\P / V<=head / top:=by
 have hB:=s.hB;have ht:0<top:=by have:=s.half;omega
 obtain⟨lv,hv,hlv⟩:=s.vlow;obtain⟨lp,hp,hlp⟩:=s.plow;have hlt:=s.lt;have hnext:=s.nextB;have hu2:=s.u2B;constructor
 .have h1:head<=top*B+next:=by
   rcases Nat.lt_or_ge (top*B+next) head with h | h
   .exfalso;have h2:=Nat.mul_le_mul_right (B ^ (n-2)) (Nat.mul_le_mul_right B h);have h3:(top*B+next+1)*B*B ^ (n-2)=((top*B+next)*B ^ (n-2)+B ^ (n-2))*B:=by
     generalize B ^ (n-2)=p;grind
    rw [Nat.succ_eq_add_one,h3]at h2;have h4:V*B<=((top*B+next)*B ^ (n-2)+B ^ (n-2))*B:=Nat.mul_le_mul_right _ (by omega)
    have h5:head*B*B ^ (n-2)<=P:=by
     rw [hp,Nat.add_mul];omega
    omega
   .exact h
  have h2:head<(B+2)*top:=by
   have:=s.half;have:(B+2)*top=top*B+2*top:=by rw [Nat.add_mul,Nat.mul_comm B]
   omega
  have:=(Nat.div_lt_iff_lt_mul ht).2 h2;omega
 .have:P / V<head / top+1:=by
   rw [Nat.div_lt_iff_lt_mul s.vpos];have h1:head<(head / top+1)*top:=by
    have:=Nat.div_add_mod head top;have:=Nat.mod_lt head ht;rw [Nat.add_mul,Nat.one_mul,Nat.mul_comm (head / top)];omega
   have h2:head+1<=(head / top+1)*top:=h1;have h3:=Nat.mul_le_mul_right (B ^ (n-2)) (Nat.mul_le_mul_right B h2);have h4:(head / top+1)*top*B*B ^ (n-2)<=(head / top+1)*V:=by
    rw [Nat.mul_assoc,Nat.mul_assoc];refine Nat.mul_le_mul_left _ ?_;rw [hv,Nat.add_mul,<-Nat.mul_assoc];omega
   have h5:P<(head+1)*B*B ^ (n-2):=by
    rw [hp];have:(head*B+u2+1)*B ^ (n-2)<=(head+1)*B*B ^ (n-2):=Nat.mul_le_mul_right _ (by rw [Nat.add_mul,Nat.one_mul];omega)
    rw [Nat.add_mul,Nat.one_mul]at this;omega
   omega
  omega
theorem left(s:Step B n V P top next head u2){g:Nat}(h1:P / V<=g)(h2:g*V<=P+V) :
  (P<g*V->g=P / V+1)/\(¬P<g*V->g=P / V):=by
 have hv:=s.vpos;have e:=Nat.div_add_mod P V;have m:=Nat.mod_lt P hv;constructor
 .intro h;have h3:g<=P / V+1:=by
   rcases Nat.lt_or_ge (P / V+1) g with h4 | h4
   .exfalso;have:=Nat.mul_le_mul_right V (show P / V+2<=g from h4);rw [Nat.add_mul,Nat.mul_comm (P / V)]at this;omega
   .exact h4
  have h5:P / V<g:=by rw [Nat.div_lt_iff_lt_mul hv];exact h
  omega
 .intro h;have:g<=P / V:=by rw [Nat.le_div_iff_mul_le hv];omega
  omega
theorem quot(s:Step B n V P top next head u2):P / V<B:=by
 rw [Nat.div_lt_iff_lt_mul s.vpos,Nat.mul_comm];exact s.lt
end Step
theorem Xbb(n k X:Nat):(dig (n+k) X).take n=dig n X:=by
 rw [JC,List.take_append_of_le_length (by rw [qb];exact Nat.le_refl _),List.take_of_length_le (by rw [qb];exact Nat.le_refl _)]
theorem waE{t:Nat}(h0:0<t)(h:t<4294967296):Lib.bitLen t=Nat.log2 t+1:=by
 have h1:2 ^ Nat.log2 t<=t:=Nat.log2_self_le (by omega)
 have h2:t<2 ^ (Nat.log2 t+1):=Nat.lt_log2_self;rw [Lib.bitLen_shift _ _ h1 (by omega)]
 have:t / 2 ^ Nat.log2 t=1:=by
  rw [Nat.pow_succ]at h2;have hp:0<2 ^ Nat.log2 t:=Nat.pow_pos (by omega)
  generalize 2 ^ Nat.log2 t=p at h1 h2 hp;have a:t / p<2:=(Nat.div_lt_iff_lt_mul hp).2 (by omega)
  have b:1<=t / p:=(Nat.le_div_iff_mul_le hp).2 (by omega)
  omega
 rw [this];rfl
theorem wbo{t:Nat}(h0:0<t)(h:t<4294967296):∃s:Nat,s<32/\(32-(Lib.bitLen t:Int))=s/\2147483648<=t*2 ^ s/\(t+1)*2 ^ s<=4294967296:=by
 have h1:2 ^ Nat.log2 t<=t:=Nat.log2_self_le (by omega)
 have h2:t<2 ^ (Nat.log2 t+1):=Nat.lt_log2_self;have hl:Nat.log2 t<32:=by rw [Nat.log2_lt (by omega)];exact h
 rw [waE h0 h];refine⟨31-Nat.log2 t,by omega,by omega,?_,?_⟩
 .have:=Nat.mul_le_mul_right (2 ^ (31-Nat.log2 t)) h1;rw [<-Nat.pow_add,show Nat.log2 t+(31-Nat.log2 t)=31 by omega]at this
  exact this
 .have:=Nat.mul_le_mul_right (2 ^ (31-Nat.log2 t)) (show t+1<=_ from h2);rw [<-Nat.pow_add,show Nat.log2 t+1+(31-Nat.log2 t)=32 by omega]at this
  exact this
theorem shifted{y:List Nat}{s:Nat}(hy:WL y)(hn:0<y.length)(h1:2147483648<=y.getD (y.length-1) 0*2 ^ s)(h2:(y.getD (y.length-1) 0+1)*2 ^ s<=4294967296) :
  val y*2 ^ s<4294967296 ^ y.length/\4294967296 ^ y.length<=2*(val y*2 ^ s):=by
 have e:=qM y (y.length-1) (by omega)
 rw [List.drop_of_length_le (by omega),xo,Nat.mul_zero,Nat.add_zero]at e
 have hl:=wn (Jz hy (y.length-1));rw [List.length_take,Nat.min_eq_left (by omega)]at hl
 rw [e,uI hn];generalize y.getD (y.length-1) 0=t at *
 generalize 4294967296 ^ (y.length-1)=p at *
 generalize val (y.take (y.length-1))=v at *
 have hs:0<2 ^ s:=Nat.pow_pos (by omega)
 generalize 2 ^ s=q at *
 have a1:=Nat.mul_le_mul_left p h1;have a2:=Nat.mul_le_mul_left p h2;have a3:=(Nat.mul_lt_mul_right hs).2 hl;rw [Nat.add_mul,Nat.one_mul,Nat.mul_add]at a2;rw [Nat.add_mul,Nat.mul_assoc p t q];constructor
 .omega
 .have:2*(p*2147483648)=p*(2*2147483648):=Nat.mul_left_comm _ _ _;rw [show 2*2147483648=4294967296 from rfl]at this;rw [<-this];exact Nat.mul_le_mul_left 2 (Nat.le_trans a1 (Nat.le_add_left _ _))
theorem qba{x y:List Nat}{s:Nat}(hx:WL x)(hs:s<32)(hV:4294967296 ^ y.length<=2*(val y*2 ^ s))(hl:y.length<=x.length+1) :
  val x*2 ^ s<val y*2 ^ s*4294967296 ^ (x.length+1-y.length):=by
 have h1:=wn hx;have h2:=vX hs;have h3:4294967296 ^ x.length*4294967296=4294967296 ^ y.length*4294967296 ^ (x.length+1-y.length):=by
  rw [<-Nat.pow_succ,<-Nat.pow_add];congr 1;omega
 have h4:=Nat.mul_le_mul_right (4294967296 ^ (x.length+1-y.length)) hV;rw [<-h3,Nat.mul_assoc]at h4;have h5:val x*2 ^ s<4294967296 ^ x.length*2147483648:=
  Nat.lt_of_lt_of_le ((Nat.mul_lt_mul_right (Nat.pow_pos (by omega))).2 h1) (Nat.mul_le_mul_left _ h2)
 omega
theorem vbn{n V P:Nat}(hn:2<=n)(hV1:V<4294967296 ^ n)(hV2:4294967296 ^ n<=2*V)(hP:P<V*4294967296) :
  Step 4294967296 n V P (V / 4294967296 ^ (n-1) % 4294967296) (V / 4294967296 ^ (n-2) % 4294967296) (P / 4294967296 ^ n % 4294967296*4294967296+P / 4294967296 ^ (n-1) % 4294967296) (P / 4294967296 ^ (n-2) % 4294967296):=by
 have e1:4294967296 ^ n=4294967296 ^ (n-1)*4294967296:=uI (by omega)
 have e2:4294967296 ^ (n-1)=4294967296 ^ (n-2)*4294967296:=by rw [uI (show 0<n-1 by omega),show n-1-1=n-2 by omega]
 have hp:=pow_pos (n-2);have ht:V / 4294967296 ^ (n-1)<4294967296:=by
  rw [Nat.div_lt_iff_lt_mul (pow_pos _),Nat.mul_comm,<-e1];exact hV1
 have hh:P / 4294967296 ^ n<4294967296:=by
  rw [Nat.div_lt_iff_lt_mul (pow_pos _)];have:=(Nat.mul_lt_mul_right (show 0<4294967296 by omega)).2 hV1
  rw [Nat.mul_comm (4294967296 ^ n)]at this;omega
 have q1:V / 4294967296 ^ (n-1)=V / 4294967296 ^ (n-2) / 4294967296:=by rw [e2,Nat.div_div_eq_div_mul]
 have q2:P / 4294967296 ^ (n-1)=P / 4294967296 ^ (n-2) / 4294967296:=by rw [e2,Nat.div_div_eq_div_mul]
 have q3:P / 4294967296 ^ n=P / 4294967296 ^ (n-1) / 4294967296:=by rw [e1,Nat.div_div_eq_div_mul]
 refine⟨by omega,hn,⟨V % 4294967296 ^ (n-2),?_,Nat.mod_lt _ hp⟩,⟨P % 4294967296 ^ (n-2),?_,Nat.mod_lt _ hp⟩,Nat.mod_lt _ (by omega),Nat.mod_lt _ (by omega),?_,Nat.mod_lt _ (by omega),hP⟩
 .rw [Nat.mod_eq_of_lt ht,q1];rw [Nat.div_add_mod' (V / 4294967296 ^ (n-2)),Nat.mul_comm];exact(Nat.div_add_mod _ _).symm
 .rw [Nat.mod_eq_of_lt hh,q3,q2];rw [Nat.div_add_mod' (P / 4294967296 ^ (n-2) / 4294967296),Nat.div_add_mod' (P / 4294967296 ^ (n-2)),Nat.mul_comm];exact(Nat.div_add_mod _ _).symm
 .rw [Nat.mod_eq_of_lt ht];have:2147483648<=V / 4294967296 ^ (n-1):=by
   rw [Nat.le_div_iff_mul_le (pow_pos _)];rw [e1]at hV2;generalize 4294967296 ^ (n-1)=p at hV2 ⊢;omega
  omega
theorem wbd{a b:Nat}(h:¬a<b):(ordN a b<0)=False:=by
 unfold ordN;rw [if_neg h];split <;> simp
theorem Qas{j X V A q Q:Nat}(hV:0<V)(hA:A=X+V*4294967296 ^ (j+1)*Q)(hq:q=X / 4294967296 ^ j / V) :
  A=(X % 4294967296 ^ j+4294967296 ^ j*(X / 4294967296 ^ j % V))+V*4294967296 ^ j*(q+4294967296*Q)/\X % 4294967296 ^ j+4294967296 ^ j*(X / 4294967296 ^ j % V)<V*4294967296 ^ j:=by
 have hp:=pow_pos j;rw [Nat.pow_succ]at hA;generalize 4294967296 ^ j=p at *
 have e1:=Nat.div_add_mod X p;have e2:=Nat.div_add_mod (X / p) V;have m1:=Nat.mod_lt X hp;have m2:=Nat.mod_lt (X / p) hV;rw [<-hq]at e2;generalize X % p=r at *
 generalize hS:X / p % V=S at *
 generalize X / p=Z at *
 generalize 4294967296=B at hA ⊢;subst hA e2 e1;constructor
 .grind
 .have:p*(S+1)<=p*V:=Nat.mul_le_mul_left _ m2;rw [Nat.mul_add,Nat.mul_one]at this;rw [Nat.mul_comm V];omega
theorem VS(k X:Nat):dig k (X+4294967296 ^ k)=dig k X:=by
 rw [<-VX,Nat.add_mod_right,VX]
theorem Vbh{k P V g:Nat}(hg:g=P / V):dig k (P+4294967296 ^ k-g*V)=dig k (P % V):=by
 have e:g*V+P % V=P:=by rw [hg,Nat.mul_comm];exact Nat.div_add_mod P V
 clear hg;generalize P % V=r at *
 generalize hp:4294967296 ^ k=p;rw [show P+p-g*V=r+p by omega,<-hp,VS]
theorem Qbh{k P V g:Nat}(hg:g=P / V+1)(hb:P<g*V)(hk:g*V<4294967296 ^ k):dig k (val (dig k (P+4294967296 ^ k-g*V))+V)=dig k (P % V):=by
 have e:P / V*V+P % V=P:=by rw [Nat.mul_comm];exact Nat.div_add_mod P V
 have:g*V=P / V*V+V:=by rw [hg,Nat.add_mul,Nat.one_mul]
 rw [Vm,Nat.mod_eq_of_lt (by omega)]
 clear hg;generalize P / V*V=q at *
 generalize P % V=r at *
 generalize g*V=gv at *
 generalize hp:4294967296 ^ k=p at *
 rw [show P+p-gv+V=r+p by omega,<-hp,VS]
theorem Qa3{a b:Nat}(ha:a<4294967296)(hb:b<4294967296):a*b<18446744073709551616:=by
 have h:=XV ha hb (c:=0) (d:=0) (by decide) (by decide)
 rwa [Nat.zero_add,Nat.add_zero]at h
theorem YU{q:Nat}(h:q<4294967296):sub64 (q+1) 1=q:=by rw [vC (by omega) (by omega)];omega
theorem Qbu{r:Nat}(h:r<4294967296):r*4294967296 % 18446744073709551616=r*4294967296:=by omega
end Go.Num
end
section
namespace Go.Abs
open Go.Num
variable {P:Program} {Γ:Nat->Spec}
def uj(f0 f1 f2 f3 f4 f5 f6 f7:Nat):AC:=(.seq (.ops false [.m 4 (.c (.one .emp)),.m 5 (.c (.one .emp))])
 (.fg [0,1] (.seq (.seq (.ops false [.m 19 (.t 0),.m 20 (.t 1),.u 21 (.call f0 [(.t 19),(.t 20)]),.u 22 (.bin .lss (.t 21) (.i 0))])
 (.fg [0,1,22] (.cond (.t 22) (.seq (.ops false [.m 23 (.t 0),.u 24 (.call f1 [(.t 23)]),.m 4 (.c (.one .emp)),.m 5 (.t 24)])
 .ret) .skip)))
 (.fg [0,1] (.seq (.seq (.ops false [.m 25 (.t 1),.u 26 (.len (.t 25)),.u 27 (.bin .eql (.t 26) (.i 1))])
 (.fg [0,1,27] (.cond (.t 27) (.seq (.ops false [.m 29 (.t 0),.m 30 (.t 1),.u 31 (.idx 1 (.t 30) (.i 0)),.u 32 (.ld none 1 false (.t 31)),.u 33 (.call f2 [(.t 29),(.t 32)]),.m 28 (.t 33),.u 34 (.ext 0 (.t 28)),.u 35 (.ext 1 (.t 28)),.m 6 (.t 34),.m 7 (.t 35)])
 (.fg [6,7] (.seq (.ops false [.m 36 (.t 6),.m 37 (.t 7),.u 38 (.row 1 [[.x 1 (.t 37)]]),.u 39 (.call f1 [(.t 38)]),.m 4 (.t 36),.m 5 (.t 39)])
 .ret))) .skip)))
 (.fg [0,1] (.seq (.ops false [.m 40 (.t 1),.m 41 (.t 1),.u 42 (.len (.t 41)),.u 43 (.bin .sub (.t 42) (.i 1)),.u 44 (.idx 1 (.t 40) (.t 43)),.u 45 (.ld none 1 false (.t 44)),.u 46 (.call f3 [(.t 45)]),.m 8 (.t 46)])
 (.fg [0,1,8] (.seq (.ops true [.m 47 (.t 1),.m 48 (.t 8),.u 49 (.callf f4 [(.t 47),(.t 48)]),.m 50 (.t 1),.u 51 (.len (.t 50)),.u 52 (.sl 1 (.t 49) none (some (.t 51))),.m 53 (.t 0),.m 54 (.t 8),.u 55 (.callf f4 [(.t 53),(.t 54)]),.m 9 (.t 52),.m 10 (.t 55)])
 (.fg [8,9,10] (.fz [9] (.seq (.ops false [.m 56 (.t 10),.u 57 (.len (.t 56)),.m 58 (.t 9),.u 59 (.len (.t 58)),.u 60 (.bin .sub (.t 57) (.t 59)),.u 61 (.mk 1 [(.lit (.int .u32 0))] (.t 60) (.t 60)),.m 11 (.t 61)])
 (.fg [8,9,10,11] (.seq (.ops true [.m 62 (.t 9),.m 63 (.t 9),.u 64 (.len (.t 63)),.u 65 (.bin .sub (.t 64) (.i 1)),.u 66 (.idx 1 (.t 62) (.t 65)),.u 67 (.ld none 1 false (.t 66)),.u 68 (.conv .u64 (.t 67)),.m 69 (.t 9),.m 70 (.t 9),.u 71 (.len (.t 70)),.u 72 (.bin .sub (.t 71) (.i 2)),.u 73 (.idx 1 (.t 69) (.t 72)),.u 74 (.ld none 1 false (.t 73)),.u 75 (.conv .u64 (.t 74)),.m 12 (.t 68),.m 13 (.t 75)])
 (.fg [8,9,10,11,12,13] (.seq (.seq (.ops false [.m 76 (.t 11),.u 77 (.len (.t 76)),.u 78 (.bin .sub (.t 77) (.i 1)),.m 14 (.t 78)])
 (.fg [8,9,10,11,12,13,14] (.block 0 (.loop (.seq (.seq (.ops false [.m 79 (.t 14),.u 80 (.bin .geq (.t 79) (.i 0))])
 (.fg [8,9,10,11,12,13,14,80] (.cond (.t 80) .skip (.exit 0))))
 (.fg [8,9,10,11,12,13,14] (.seq (.block 1 (.seq (.ops false [.m 83 (.t 10),.m 84 (.t 14),.m 85 (.t 14),.m 86 (.t 9),.u 87 (.len (.t 86)),.u 88 (.bin .add (.t 85) (.t 87)),.u 89 (.bin .add (.t 88) (.i 1)),.u 90 (.sl 1 (.t 83) (some (.t 84)) (some (.t 89))),.m 15 (.t 90)])
 (.fg [8,9,10,11,12,13,14,15] (.seq (.ops true [.m 91 (.t 15),.m 92 (.t 9),.u 93 (.len (.t 92)),.u 94 (.idx 1 (.t 91) (.t 93)),.u 95 (.ld none 1 false (.t 94)),.u 96 (.conv .u64 (.t 95)),.u 97 (.bin .shl (.t 96) (.c (.one (.lit (.int .u64 32))))),.m 98 (.t 15),.m 99 (.t 9),.u 100 (.len (.t 99)),.u 101 (.bin .sub (.t 100) (.i 1)),.u 102 (.idx 1 (.t 98) (.t 101)),.u 103 (.ld none 1 false (.t 102)),.u 104 (.conv .u64 (.t 103)),.u 105 (.bin .or (.t 97) (.t 104)),.m 16 (.t 105)])
 (.fg [8,9,10,11,12,13,14,15,16] (.seq (.ops true [.m 106 (.t 16),.m 107 (.t 12),.u 108 (.bin .quo (.t 106) (.t 107)),.m 109 (.t 16),.m 110 (.t 12),.u 111 (.bin .rem (.t 109) (.t 110)),.m 17 (.t 108),.m 18 (.t 111)])
 (.fg [8,9,10,11,12,13,14,15,17,18] (.seq (.block 2 (.loop (.seq (.seq (.ops false [.m 112 (.t 18),.u 113 (.bin .lss (.t 112) (.c (.one (.lit (.int .u64 4294967296))))),.m 114 (.t 113),.w 115 114 true (.mv (.t 17)),.w 116 114 true (.bin .geq (.t 115) (.c (.one (.lit (.int .u64 4294967296))))),.w 117 114 true (.mv (.t 116)),.w 118 117 false (.mv (.t 17)),.w 119 117 false (.mv (.t 13)),.w 120 117 false (.bin .mul (.t 118) (.t 119)),.w 121 117 false (.mv (.t 18)),.w 122 117 false (.bin .shl (.t 121) (.c (.one (.lit (.int .u64 32))))),.w 123 117 false (.mv (.t 15)),.w 124 117 false (.mv (.t 9)),.w 125 117 false (.len (.t 124)),.w 126 117 false (.bin .sub (.t 125) (.i 2)),.w 127 117 false (.idx 1 (.t 123) (.t 126)),.w 128 117 false (.ld none 1 false (.t 127)),.w 129 117 false (.conv .u64 (.t 128)),.w 130 117 false (.bin .or (.t 122) (.t 129)),.w 131 117 false (.bin .gtr (.t 120) (.t 130)),.w 132 114 true (.pick (.t 117) .tr (.t 131)),.u 133 (.pick (.t 114) (.t 132) .fa)])
 (.fg [8,9,10,11,12,13,14,15,17,18,133] (.cond (.t 133) .skip (.exit 2))))
 (.fg [8,9,10,11,12,13,14,15,17,18] (.block 3 (.seq (.ops false [.m 134 (.t 17),.u 135 (.bin .sub (.t 134) (.c (.one (.lit (.int .u64 1))))),.m 17 (.t 135)])
 (.fg [8,9,10,11,12,13,14,15,17,18] (.ops false [.m 136 (.t 18),.m 137 (.t 12),.u 138 (.bin .add (.t 136) (.t 137)),.m 18 (.t 138)]))))))))
 (.fg [8,9,10,11,12,13,14,15,17] (.seq (.seq (.ops false [.m 139 (.t 15),.m 140 (.t 9),.m 141 (.t 17),.u 142 (.call f5 [(.t 139),(.t 140),(.t 141)])])
 (.fg [8,9,10,11,12,13,14,15,17,142] (.cond (.t 142) (.seq (.ops false [.m 143 (.t 17),.u 144 (.bin .sub (.t 143) (.c (.one (.lit (.int .u64 1))))),.m 17 (.t 144)])
 (.fg [8,9,10,11,12,13,14,15,17] (.ops false [.m 145 (.t 15),.m 146 (.t 9),.u 147 (.call f6 [(.t 145),(.t 146)])]))) .skip)))
 (.fg [8,9,10,11,12,13,14,17] (.ops false [.m 148 (.t 11),.m 149 (.t 14),.m 150 (.t 17),.u 151 (.conv .u32 (.t 150)),.u 152 (.idx 1 (.t 148) (.t 149)),.n (.st none 1 (.t 152) (.t 151))]))))))))))))
 (.fg [8,9,10,11,12,13,14] (.ops false [.m 81 (.t 14),.u 82 (.bin .sub (.t 81) (.i 1)),.m 14 (.t 82)])))))))))
 (.fg [8,10,11] (.seq (.ops false [.m 153 (.t 11),.u 154 (.call f1 [(.t 153)]),.m 155 (.t 10),.m 156 (.t 8),.u 157 (.call f7 [(.t 155),(.t 156)]),.m 4 (.t 154),.m 5 (.t 157)])
 .ret))))))))))))))))))
set_option maxHeartbeats 4000000 in
theorem Qab(hΓ:Holds P Γ){f fcmp ftrim fshort flz fup frem fback fdown:Nat}(h1:Γ fcmp=.dat false Wi)(h2:Γ ftrim=.dat false vu)(h3:Γ fshort=.dat false uw)(h4:Γ flz=.dat true lz_G)
  (h5:Γ fup=.fresh 1 up_G) (h6:Γ frem=.own jt) (h7:Γ fback=.own uE) (h8:Γ fdown=.dat false yG)
  (hc:check P f=some (158,(uj fcmp ftrim fshort flz fup frem fback fdown).strip,[.tmp 4,.tmp 5])):Sound P f (.dat false qi):=by
 refine ka hc qN hΓ (λargs K hcl hfi hG=>?_);match args,hG with
 | [a,b],hG=>
  obtain⟨x,rfl,hx,y,rfl,hy,hzx,hzy,hy0,hxl,hyl,hK⟩:=hG;refine⟨by simp,?_⟩
  have hn:0<y.length:=by cases y with | nil=>exact(hy0 rfl).elim | cons=>simp
  have ht0:y.getD (y.length-1) 0≠0:=by
   intro e;refine hzy ?_;rw [List.getLast?_eq_getElem?];rw [List.getD_eq_getElem?_getD,List.getElem?_eq_getElem (by omega)]at e
   rw [List.getElem?_eq_getElem (by omega)]
   simpa using e
  have htB:=Xb hy (y.length-1);obtain⟨s,hs32,hs,hs1,hs2⟩:=wbo (Nat.pos_of_ne_zero ht0) htB;have hlast:((y.length:Int)-1).toNat=y.length-1:=by omega
  have hle:(y.length<=y.length+1)=True:=eq_true (by omega)
  obtain⟨hV1,hV2⟩:=shifted hy hn hs1 hs2;by_cases hlt:val x<val y
  .simp only [go_sem,uj,h1,h2,h3,h4,h5,h8,J0 hlt];refine⟨hx,hy,hzx,hzy,λ_=>⟨hx,by omega,?_⟩,λh=>absurd (show(-1:Int)<0 by omega) h⟩
   rw [Nat.div_eq_of_lt hlt,Nat.mod_eq_of_lt hlt,Yb]at hK;exact hK
  have hlen:y.length<=x.length:=by
   rcases Nat.lt_or_ge x.length y.length with h | h
   .exact absurd (jM hx hzy h) hlt
   .exact h
  obtain⟨M,hM⟩:∃M,M=x.length+1-y.length:=⟨_,rfl⟩;have hM2:((x.length+1:Nat):Int)-(y.length:Int)=(M:Int):=by omega
  simp only [go_sem,uj,h1,h2,h3,h4,h5,h8,hlast,hs,qb,Xbb,hle,wbd hlt,hM2];refine⟨hx,hy,hzx,hzy,λ_=>⟨λhone=>?_,λhone=>?_⟩⟩
  .have hone:y.length=1:=by omega
   match y,hone with
   | [t],_=>
    simp only [List.length_singleton,Nat.sub_self,List.getD_cons_zero]at ht0 htB ⊢;refine⟨by omega,by omega,hx,by omega,by omega,by omega,Wc.2 ⟨Nat.lt_trans (Nat.mod_lt _ (by omega)) htB,Yc⟩,?_⟩
    simpa [val] using hK
  have hone:2<=y.length:=by omega
  generalize hV:val y*2 ^ s=V at hV1 hV2;generalize hA:val x*2 ^ s=A;generalize hnn:y.length=n at *
  generalize hLL:x.length+1=L at *
  have hV0:0<V:=by have:=pow_pos n;omega
  have htop:(dig n V).getD (n-1) 0=V / 4294967296 ^ (n-1) % 4294967296:=wY _ _ _ (by omega)
  have hnext:(dig n V).getD ((n:Int)-2).toNat 0=V / 4294967296 ^ (n-2) % 4294967296:=by
   rw [show((n:Int)-2).toNat=n-2 by omega];exact wY _ _ _ (by omega)
  have hvv:val (dig n V)=V:=by rw [Vm,Nat.mod_eq_of_lt hV1]
  repeat first | refine Ja (by omega) ?_ | refine Ja (by assumption) ?_ | refine Ja rfl ?_ | refine Ja ⟨rfl,by omega⟩ ?_ | refine Ja ⟨rfl,by omega,by omega⟩ ?_ | intro _
  obtain⟨top,htd⟩:∃t,t=V / 4294967296 ^ (n-1) % 4294967296:=⟨_,rfl⟩;obtain⟨next,hnd⟩:∃t,t=V / 4294967296 ^ (n-2) % 4294967296:=⟨_,rfl⟩
  have htB:top<4294967296:=by rw [htd];exact Nat.mod_lt _ (by omega)
  have hnB:next<4294967296:=by rw [hnd];exact Nat.mod_lt _ (by omega)
  rw [htop,hnext,<-htd,<-hnd,Nat.mod_eq_of_lt (show top<18446744073709551616 by omega),Nat.mod_eq_of_lt (show next<18446744073709551616 by omega)]
  have hstart:=qba hx hs32 (y:=y) (by rw [hnn,hV];exact hV2) (by omega)
  rw [hV,hA,hLL,hnn,<-hM]at hstart;refine Ya (λp:Nat×Nat×List Nat=>⟨mkV [(8,.one (.lit (.int .i64 s))),(9,wsA (dig n V)),(10,.one (.own 55 1 1 0 L)),(11,.one (.own 61 1 1 0 M)),(12,.one (.lit (.int .u64 top))),(13,.one (.lit (.int .u64 next))),(14,.one (.lit (.int .i64 ((p.1:Int)-1))))],
    mkH [(55,⟨1,some ⟨(dig L p.2.1).map wc,1,true⟩⟩),(61,⟨1,some ⟨(List.replicate p.1 0++p.2.2).map wc,1,true⟩⟩)]⟩)
   (λp=>p.1<=M/\p.2.1<V*4294967296 ^ p.1/\A=p.2.1+V*4294967296 ^ p.1*val p.2.2/\WL p.2.2/\p.2.2.length=M-p.1) (λp=>p.1) (M,A,[]) ?_ ?_ ?_
  .exact Qa (by simp [okS,okV,okC,okL,okH,okB,okE,ja,va,Za,Va,wsA,ws]) ⟨kb rfl,kb (by simp),trivial⟩
  .exact⟨Nat.le_refl _,hstart,by simp [val],Yc,by simp⟩
  .rintro⟨j1,X,qd⟩ ⟨hj,hX,hAX,hqd,hqdl⟩;simp only at hj hX hAX hqd hqdl;have hql:(List.replicate j1 0++qd).length=M:=by simp;omega
   rcases Nat.eq_zero_or_pos j1 with hj0 | hj0
   .subst hj0;simp only [Nat.pow_zero,Nat.mul_one]at hX hAX;have h0f:((0:Int)<=((0:Nat):Int)-1)=False:=eq_false (by omega)
    simp only [go_sem,h1,h2,h3,h4,h5,h8,qb,hql,h0f];refine⟨hqd,by omega,xm _ _,by omega,by omega,?_⟩
    have hXL:X<4294967296 ^ L:=Nat.lt_trans hX (Nat.lt_of_lt_of_le hV1 (Nat.pow_le_pow_right (by omega) (by omega)))
    rw [Vm,Nat.mod_eq_of_lt hXL];have hs0:0<2 ^ s:=Nat.pow_pos (by omega)
    have hA2:=(Nat.div_mod_unique hV0 (a:=A) (c:=X) (d:=val qd)).2 ⟨hAX.symm,hX⟩;have e1:val x / val y=val qd:=by rw [<-hA2.1,<-hA,<-hV,Nat.mul_div_mul_right _ _ hs0]
    have e2:val x % val y=X / 2 ^ s:=by
     rw [<-hA2.2,<-hA,<-hV,Nat.mul_mod_mul_right,Nat.mul_div_cancel _ hs0]
    rw [e1,e2]at hK;exact hK
   .obtain⟨j,rfl⟩:∃j,j1=j+1:=⟨j1-1,by omega⟩
    have hj1:(((j+1:Nat):Int)-1)=(j:Int):=by omega
    simp only [hj1];generalize hPP:X / 4294967296 ^ j=P';have hPV:P' < V*4294967296:=by
     rw [<-hPP,Nat.div_lt_iff_lt_mul (pow_pos _),Nat.mul_assoc,Nat.mul_comm 4294967296,<-Nat.pow_succ];exact hX
    have hPL:P' < 4294967296 ^ (n+1):=by
     have:=(Nat.mul_lt_mul_right (show 0<4294967296 by omega)).2 hV1
     rw [Nat.pow_succ];exact Nat.lt_trans hPV this
    have st:=vbn hone hV1 hV2 hPV;rw [<-htd,<-hnd]at st;have hread:∀k,k<=n->(dig L X).getD (j+k) 0=P' / 4294967296 ^ k % 4294967296:=by
     intro k hk;rw [wY _ _ _ (by omega),Nat.pow_add,<-Nat.div_div_eq_div_mul,hPP]
    have hr0:=hread n (Nat.le_refl _);have hr1:=hread (n-1) (by omega)
    have hr2:=hread (n-2) (by omega)
    obtain⟨a,ha⟩:∃a,a=P' / 4294967296 ^ n % 4294967296:=⟨_,rfl⟩;obtain⟨b,hb⟩:∃b,b=P' / 4294967296 ^ (n-1) % 4294967296:=⟨_,rfl⟩;obtain⟨u2,hu⟩:∃u2,u2=P' / 4294967296 ^ (n-2) % 4294967296:=⟨_,rfl⟩;rw [<-ha]at hr0 st;rw [<-hb]at hr1 st;rw [<-hu]at hr2 st;have haB:a<4294967296:=by rw [ha];exact Nat.mod_lt _ (by omega)
    have hbB:b<4294967296:=by rw [hb];exact Nat.mod_lt _ (by omega)
    have huB:u2<4294967296:=by rw [hu];exact Nat.mod_lt _ (by omega)
    have htop0:0<top:=by have:=st.half;omega
    have hsub:j+n+1-j=n+1:=by omega
    have hsub1:((n:Int)-1).toNat=n-1:=by omega
    have hsub2:((n:Int)-2).toNat=n-2:=by omega
    have ea1:a % 18446744073709551616=a:=by omega
    have ea2:a*4294967296 % 18446744073709551616=a*4294967296:=by omega
    have eb1:b % 18446744073709551616=b:=by omega
    have eu1:u2 % 18446744073709551616=u2:=by omega
    have eor:=or32 a b hbB;simp only [go_sem,h1,h2,h3,h4,h5,h8,qb,hql,hsub,hsub1,hsub2,hr0,hr1,hr2,ea1,ea2,eb1,eor];repeat first | refine Ja (by omega) ?_ | refine Ja (by assumption) ?_ | refine Ja rfl ?_ | refine Ja ⟨rfl,by omega⟩ ?_ | refine Ja ⟨rfl,by omega,by omega⟩ ?_ | intro _
    obtain⟨q1,q2⟩:=st.first
    generalize hhead:a*4294967296+b=head at *
    have hqB:=st.quot;rw [Nat.mod_eq_of_lt (show head / top<18446744073709551616 by omega)]
    refine Ya (λp:Nat×Nat=>⟨mkV [(8,.one (.lit (.int .i64 s))),(9,wsA (dig n V)),(10,.one (.own 55 1 1 0 L)),(11,.one (.own 61 1 1 0 M)),(12,.one (.lit (.int .u64 top))),(13,.one (.lit (.int .u64 next))),(14,.one (.lit (.int .i64 j))),(15,.one (.own 55 1 1 j (n+1))),(17,.one (.lit (.int .u64 p.1))),(18,.one (.lit (.int .u64 p.2)))],
      mkH [(55,⟨1,some ⟨(dig L X).map wc,1,true⟩⟩),(61,⟨1,some ⟨(List.replicate (j+1) 0++qd).map wc,1,true⟩⟩)]⟩)
     (λp=>p.1*top+p.2=head/\P' / V<=p.1/\p.1<=4294967297/\p.2<8589934592/\(4294967296<p.1->p.2<4294967296)) (λp=>p.1) (head / top,head % top) ?_ ?_ ?_
    .exact Qa (by simp [okS,okV,okC,okL,okH,okB,okE,ja,va,Za,Va,wsA,ws]) ⟨kb rfl,kb rfl,trivial⟩
    .have m1:=Nat.mod_lt head htop0;exact⟨Nat.div_add_mod' head top,q2,q1,by simp only;omega,λ_=>by simp only;omega⟩
    .rintro⟨g,r⟩ ⟨hg,hqg,hgB,hrB,hgr⟩;simp only at hg hqg hgB hrB hgr;rcases Nat.lt_or_ge r 4294967296 with hr | hr
     .have hr' : ((r:Int)<4294967296)=True:=eq_true (by omega)
      rcases Nat.lt_or_ge g 4294967296 with hgl | hgl
      .have hg' : ((4294967296:Int)<=(g:Int))=False:=eq_false (by omega)
       have hm:g*next<18446744073709551616:=Qa3 hgl hnB
       have em:g*next % 18446744073709551616=g*next:=by rw [Nat.mod_eq_of_lt hm]
       have er:=Qbu hr;have eo:=or32 r u2 huB;by_cases hcmp:r*4294967296+u2<g*next
       .simp only [go_sem,h1,h2,h3,h4,h5,h6,h7,h8,qb,hql,hsub,hsub1,hsub2,hr0,hr1,hr2,eu1,hr',hg',em,er,eo,hcmp];repeat first | refine Ja (by omega) ?_ | refine Ja (by assumption) ?_ | refine Ja rfl ?_ | refine Ja ⟨rfl,by omega⟩ ?_ | refine Ja ⟨rfl,by omega,by omega⟩ ?_ | intro _
        have hdown:4294967296<=g∨r*4294967296+u2<g*next:=.inr hcmp
        have hdn:=st.down hg hdown;have hg0:1<=g:=Nat.lt_of_le_of_lt (Nat.zero_le _) hdn;have hqg1:P' / V<=g-1:=Nat.le_sub_one_of_lt hdn;have hg1:sub64 g 1=g-1:=vC hg0 (by omega)
        refine⟨(g-1,r+top),Qa (by simp [okS,okV,okC,okL,okH,okB,okE,ja,va,Za,Va,wsA,ws,hg1];omega) ⟨kb rfl,kb rfl,trivial⟩,⟨?_,hqg1,by simp only;omega,by simp only;omega,λ_=>by simp only at *;omega⟩,by simp only;omega⟩
        simp only;obtain⟨g',rfl⟩:∃g',g=g' + 1:=⟨g-1,by omega⟩
        rw [Nat.add_sub_cancel,<-hg,Nat.add_mul];omega
       .simp only [go_sem,h1,h2,h3,h4,h5,h6,h7,h8,qb,hql,hsub,hsub1,hsub2,hr0,hr1,hr2,eu1,hr',hg',em,er,eo,hcmp];repeat first | refine Ja (by omega) ?_ | refine Ja (by assumption) ?_ | refine Ja rfl ?_ | refine Ja ⟨rfl,by omega⟩ ?_ | refine Ja ⟨rfl,by omega,by omega⟩ ?_ | intro _
        have hstop:4294967296<=r∨(g<4294967296/\g*next<=r*4294967296+u2):=.inr ⟨hgl,by omega⟩
        have hgB2:g<=4294967296:=by omega
        have hle:=st.stop hg hgB2 hstop;obtain⟨l1,l2⟩:=st.left hqg hle;have hgV:g*V<4294967296 ^ (n+1):=by
         have a1:=Nat.mul_le_mul_right V hgB2;have a2:=(Nat.mul_lt_mul_left (show 0<4294967296 by omega)).2 hV1
         rw [Nat.pow_succ,Nat.mul_comm (4294967296 ^ n)];exact Nat.lt_of_le_of_lt a1 a2
        have hsplit:=XN (L:=L) (j:=j) (n:=n) (X:=X) (by omega) (by rw [hPP];exact hPL)
        rw [hPP]at hsplit;have hvp:val (dig (n+1) P')=P':=by rw [Vm,Nat.mod_eq_of_lt hPL]
        have hrl:P' % V<4294967296 ^ (n+1):=Nat.lt_of_le_of_lt (Nat.mod_le _ _) hPL;have hjoin:=Jar (L:=L) (j:=j) (n:=n) (X:=X) (by omega) hrl
        have hdiv:=Qas (j:=j) (q:=P' / V) hV0 hAX (by rw [hPP])
        rw [hPP]at hdiv;simp only [jt,jI];refine⟨xm _ _,dig j X,dig (n+1) P',List.replicate (L-(j+(n+1))) 0,g,(qb _ _).symm,(qb _ _).symm,rfl,by simp only [Za,↓reduceIte,Nat.reduceEqDiff];rw [hsplit],xm _ _,hgB2,by rw [qb,qb];omega,by rw [hvv,qb];exact hgV,by rw [qb];omega,?_⟩
        rw [hvp,hvv,qb];by_cases hb:P' < g*V
        .have hgq:=l1 hb;simp only [go_sem,h1,h2,h3,h4,h5,h7,h8,hb,hql];simp only [uE,jI];refine⟨xm _ _,dig j X,dig (n+1) (P' + 4294967296 ^ (n+1)-g*V),List.replicate (L-(j+(n+1))) 0,(qb _ _).symm,(qb _ _).symm,by simp only [Za,↓reduceIte,Nat.reduceEqDiff],xm _ _,by rw [qb,qb];omega,by rw [qb];omega,?_⟩
         rw [qb,hvv,Qbh hgq hb hgV,hjoin];have hg1:sub64 g 1=P' / V:=by rw [hgq];exact YU hqB
         simp only [go_sem,h1,h2,h3,h4,h5,h7,h8,hql,hg1];rw [Nat.mod_eq_of_lt hqB];have hset:=Wv (n:=j+1) qd (P' / V) (by omega)
         rw [Nat.add_sub_cancel]at hset;rw [hset];repeat first | refine Ja (by omega) ?_ | refine Ja (by assumption) ?_ | refine Ja rfl ?_ | refine Ja ⟨rfl,by omega⟩ ?_ | refine Ja ⟨rfl,by omega,by omega⟩ ?_ | intro _
         exact⟨(j,X % 4294967296 ^ j+4294967296 ^ j*(P' % V),P' / V::qd),Qa (by simp [okS,okV,okC,okL,okH,okB,okE,ja,va,Za,Va,wsA,ws]) ⟨kb rfl,kb rfl,trivial⟩,⟨by simp only;omega,hdiv.2,hdiv.1,Wc.2 ⟨hqB,hqd⟩,by simp only [List.length_cons];omega⟩,by simp only;omega⟩
        .have hgq:=l2 hb;rw [Vbh hgq,hjoin];simp only [go_sem,h1,h2,h3,h4,h5,h7,h8,hb,hql];rw [hgq,Nat.mod_eq_of_lt hqB];have hset:=Wv (n:=j+1) qd (P' / V) (by omega)
         rw [Nat.add_sub_cancel]at hset;rw [hset];repeat first | refine Ja (by omega) ?_ | refine Ja (by assumption) ?_ | refine Ja rfl ?_ | refine Ja ⟨rfl,by omega⟩ ?_ | refine Ja ⟨rfl,by omega,by omega⟩ ?_ | intro _
         exact⟨(j,X % 4294967296 ^ j+4294967296 ^ j*(P' % V),P' / V::qd),Qa (by simp [okS,okV,okC,okL,okH,okB,okE,ja,va,Za,Va,wsA,ws]) ⟨kb rfl,kb rfl,trivial⟩,⟨by simp only;omega,hdiv.2,hdiv.1,Wc.2 ⟨hqB,hqd⟩,by simp only [List.length_cons];omega⟩,by simp only;omega⟩
      .have hg' : ((4294967296:Int)<=(g:Int))=True:=eq_true (by omega)
       simp only [go_sem,h1,h2,h3,h4,h5,h6,h7,h8,qb,hql,hsub,hsub1,hsub2,hr0,hr1,hr2,eu1,hr',hg'];repeat first | refine Ja (by omega) ?_ | refine Ja (by assumption) ?_ | refine Ja rfl ?_ | refine Ja ⟨rfl,by omega⟩ ?_ | refine Ja ⟨rfl,by omega,by omega⟩ ?_ | intro _
       have hdown:4294967296<=g∨r*4294967296+u2<g*next:=.inl hgl
       have hdn:=st.down hg hdown;have hg0:1<=g:=Nat.lt_of_le_of_lt (Nat.zero_le _) hdn;have hqg1:P' / V<=g-1:=Nat.le_sub_one_of_lt hdn;have hg1:sub64 g 1=g-1:=vC hg0 (by omega)
       refine⟨(g-1,r+top),Qa (by simp [okS,okV,okC,okL,okH,okB,okE,ja,va,Za,Va,wsA,ws,hg1];omega) ⟨kb rfl,kb rfl,trivial⟩,⟨?_,hqg1,by simp only;omega,by simp only;omega,λ_=>by simp only at *;omega⟩,by simp only;omega⟩
       simp only;obtain⟨g',rfl⟩:∃g',g=g' + 1:=⟨g-1,by omega⟩
       rw [Nat.add_sub_cancel,<-hg,Nat.add_mul];omega
     .have hr' : ((r:Int)<4294967296)=False:=eq_false (by omega)
      simp only [go_sem,h1,h2,h3,h4,h5,h6,h7,h8,qb,hql,hsub,hsub1,hsub2,hr0,hr1,hr2,eu1,hr'];repeat first | refine Ja (by omega) ?_ | refine Ja (by assumption) ?_ | refine Ja rfl ?_ | refine Ja ⟨rfl,by omega⟩ ?_ | refine Ja ⟨rfl,by omega,by omega⟩ ?_ | intro _
      have hstop:4294967296<=r∨(g<4294967296/\g*next<=r*4294967296+u2):=.inl hr
      have hgB2:g<=4294967296:=by omega
      have hle:=st.stop hg hgB2 hstop;obtain⟨l1,l2⟩:=st.left hqg hle;have hgV:g*V<4294967296 ^ (n+1):=by
       have a1:=Nat.mul_le_mul_right V hgB2;have a2:=(Nat.mul_lt_mul_left (show 0<4294967296 by omega)).2 hV1
       rw [Nat.pow_succ,Nat.mul_comm (4294967296 ^ n)];exact Nat.lt_of_le_of_lt a1 a2
      have hsplit:=XN (L:=L) (j:=j) (n:=n) (X:=X) (by omega) (by rw [hPP];exact hPL)
      rw [hPP]at hsplit;have hvp:val (dig (n+1) P')=P':=by rw [Vm,Nat.mod_eq_of_lt hPL]
      have hrl:P' % V<4294967296 ^ (n+1):=Nat.lt_of_le_of_lt (Nat.mod_le _ _) hPL;have hjoin:=Jar (L:=L) (j:=j) (n:=n) (X:=X) (by omega) hrl
      have hdiv:=Qas (j:=j) (q:=P' / V) hV0 hAX (by rw [hPP])
      rw [hPP]at hdiv;simp only [jt,jI];refine⟨xm _ _,dig j X,dig (n+1) P',List.replicate (L-(j+(n+1))) 0,g,(qb _ _).symm,(qb _ _).symm,rfl,by simp only [Za,↓reduceIte,Nat.reduceEqDiff];rw [hsplit],xm _ _,hgB2,by rw [qb,qb];omega,by rw [hvv,qb];exact hgV,by rw [qb];omega,?_⟩
      rw [hvp,hvv,qb];by_cases hb:P' < g*V
      .have hgq:=l1 hb;simp only [go_sem,h1,h2,h3,h4,h5,h7,h8,hb,hql];simp only [uE,jI];refine⟨xm _ _,dig j X,dig (n+1) (P' + 4294967296 ^ (n+1)-g*V),List.replicate (L-(j+(n+1))) 0,(qb _ _).symm,(qb _ _).symm,by simp only [Za,↓reduceIte,Nat.reduceEqDiff],xm _ _,by rw [qb,qb];omega,by rw [qb];omega,?_⟩
       rw [qb,hvv,Qbh hgq hb hgV,hjoin];have hg1:sub64 g 1=P' / V:=by rw [hgq];exact YU hqB
       simp only [go_sem,h1,h2,h3,h4,h5,h7,h8,hql,hg1];rw [Nat.mod_eq_of_lt hqB];have hset:=Wv (n:=j+1) qd (P' / V) (by omega)
       rw [Nat.add_sub_cancel]at hset;rw [hset];repeat first | refine Ja (by omega) ?_ | refine Ja (by assumption) ?_ | refine Ja rfl ?_ | refine Ja ⟨rfl,by omega⟩ ?_ | refine Ja ⟨rfl,by omega,by omega⟩ ?_ | intro _
       exact⟨(j,X % 4294967296 ^ j+4294967296 ^ j*(P' % V),P' / V::qd),Qa (by simp [okS,okV,okC,okL,okH,okB,okE,ja,va,Za,Va,wsA,ws]) ⟨kb rfl,kb rfl,trivial⟩,⟨by simp only;omega,hdiv.2,hdiv.1,Wc.2 ⟨hqB,hqd⟩,by simp only [List.length_cons];omega⟩,by simp only;omega⟩
      .have hgq:=l2 hb;rw [Vbh hgq,hjoin];simp only [go_sem,h1,h2,h3,h4,h5,h7,h8,hb,hql];rw [hgq,Nat.mod_eq_of_lt hqB];have hset:=Wv (n:=j+1) qd (P' / V) (by omega)
       rw [Nat.add_sub_cancel]at hset;rw [hset];repeat first | refine Ja (by omega) ?_ | refine Ja (by assumption) ?_ | refine Ja rfl ?_ | refine Ja ⟨rfl,by omega⟩ ?_ | refine Ja ⟨rfl,by omega,by omega⟩ ?_ | intro _
       exact⟨(j,X % 4294967296 ^ j+4294967296 ^ j*(P' % V),P' / V::qd),Qa (by simp [okS,okV,okC,okL,okH,okB,okE,ja,va,Za,Va,wsA,ws]) ⟨kb rfl,kb rfl,trivial⟩,⟨by simp only;omega,hdiv.2,hdiv.1,Wc.2 ⟨hqB,hqd⟩,by simp only [List.length_cons];omega⟩,by simp only;omega⟩
end Go.Abs
end
section
namespace Go.Abs
open Go.Num
variable {P:Program} {Γ:Nat->Spec}
def qm:AC:=(.seq (.ops false [.u 1 (.box 2 (.t 0)),.m 2 .fa])
 (.fg [1] (.seq (.seq (.ops false [.u 3 (.fa 1 (.t 1)),.u 4 (.ld none 1 false (.t 3)),.u 5 (.len (.t 4)),.u 6 (.bin .eql (.t 5) (.i 0))])
 (.fg [1,6] (.cond (.t 6) (.seq (.ops false [.u 7 (.fa 0 (.t 1)),.u 8 (.ld none 1 false (.t 7)),.u 9 (.un .not (.t 8)),.m 2 (.t 9)])
 .ret) .skip)))
 (.fg [1] (.seq (.ops false [.u 10 (.fa 1 (.t 1)),.u 11 (.ld none 1 false (.t 10)),.u 12 (.fa 1 (.t 1)),.u 13 (.ld none 1 false (.t 12)),.u 14 (.len (.t 13)),.u 15 (.bin .sub (.t 14) (.i 1)),.u 16 (.idx 1 (.t 11) (.t 15)),.u 17 (.ld none 1 false (.t 16)),.u 18 (.bin .neq (.t 17) (.c (.one (.lit (.int .u32 0))))),.m 2 (.t 18)])
 .ret)))))
def Jp(f0:Nat):AC:=(.seq (.ops false [.u 1 (.box 2 (.t 0)),.m 2 (.c (.one .emp))])
 (.fg [1] (.seq (.seq (.ops false [.u 3 (.ld none 2 true (.t 1)),.u 4 (.call f0 [(.t 3)]),.u 5 (.un .not (.t 4))])
 (.fg [1,5] (.cond (.t 5) (.seq (.ops false [.m 2 (.c (.one .emp))])
 .ret) .skip)))
 (.fg [1] (.seq (.ops false [.u 6 (.fa 1 (.t 1)),.u 7 (.ld none 1 false (.t 6)),.m 2 (.t 7)])
 .ret)))))
def Xp(f0:Nat):AC:=(.seq (.ops false [.u 1 (.box 2 (.t 0)),.m 2 .fa])
 (.fg [1] (.seq (.ops false [.u 3 (.ld none 2 true (.t 1)),.u 4 (.call f0 [(.t 3)]),.m 5 (.t 4),.w 6 5 true (.fa 0 (.t 1)),.w 7 5 true (.ld none 1 false (.t 6)),.u 8 (.pick (.t 5) (.t 7) .fa),.m 2 (.t 8)])
 .ret)))
def Yq(f0:Nat):AC:=(.seq (.ops false [.u 4 (.alloc [(.lit (.bool false)),.emp])])
 (.fg [0,1,4] (.seq (.ops false [.m 5 (.t 1),.u 6 (.call f0 [(.t 5)]),.m 1 (.t 6)])
 (.fg [0,1,4] (.seq (.ops false [.m 7 (.t 0),.m 8 (.t 7),.w 9 8 true (.mv (.t 1)),.w 10 8 true (.len (.t 9)),.w 11 8 true (.bin .gtr (.t 10) (.i 0)),.u 12 (.pick (.t 8) (.t 11) .fa),.m 13 (.t 1),.u 14 (.build [.x 1 (.t 12),.x 1 (.t 13)]),.n (.st none 2 (.t 4) (.t 14))])
 .ret)))))
def Jt(f0:Nat):AC:=(.seq (.ops false [.u 2 (.alloc [(.lit (.bool false)),.emp])])
 (.fg [0,2] (.seq (.ops false [.m 4 (.t 0),.u 5 (.conv .u64 (.t 4)),.m 3 (.t 5)])
 (.fg [0,2,3] (.seq (.seq (.ops false [.m 6 (.t 0),.u 7 (.bin .lss (.t 6) (.i 0))])
 (.fg [0,2,3,7] (.cond (.t 7) (.ops false [.m 8 (.t 3),.u 9 (.un .neg (.t 8)),.m 3 (.t 9)]) .skip)))
 (.fg [0,2,3] (.seq (.ops false [.m 10 (.t 0),.u 11 (.bin .lss (.t 10) (.i 0)),.m 12 (.t 3),.u 13 (.conv .u32 (.t 12)),.m 14 (.t 3),.u 15 (.bin .shr (.t 14) (.c (.one (.lit (.int .u64 32))))),.u 16 (.conv .u32 (.t 15)),.u 17 (.row 1 [[.x 1 (.t 13)],[.x 1 (.t 16)]]),.u 18 (.call f0 [(.t 11),(.t 17)]),.n (.st none 2 (.t 2) (.t 18))])
 .ret)))))))
def Wu(f0:Nat):AC:=(.seq (.ops false [.u 1 (.box 2 (.t 0)),.m 2 (.i 0)])
 (.fg [1] (.seq (.block 0 (.seq (.ops false [.u 4 (.ld none 2 true (.t 1)),.u 5 (.call f0 [(.t 4)]),.u 6 (.len (.t 5)),.u 7 (.bin .eql (.t 6) (.i 0)),.m 3 (.t 7)])
 (.fg [1,3] (.cond (.t 3) (.seq (.ops false [.m 2 (.i 0)])
 .ret) (.seq (.ops false [.u 9 (.fa 0 (.t 1)),.u 10 (.ld none 1 false (.t 9)),.m 8 (.t 10)])
 (.fg [8] (.cond (.t 8) (.seq (.ops false [.m 2 (.i (-1))])
 .ret) .skip)))))))
 (.fg [] (.seq (.ops false [.m 2 (.i 1)])
 .ret)))))
def Zx(f0 f1 f2 f3:Nat):AC:=(.seq (.ops false [.u 2 (.box 2 (.t 0)),.u 3 (.box 2 (.t 1)),.m 4 (.i 0)])
 (.fg [2,3] (.seq (.seq (.ops true [.u 8 (.ld none 2 true (.t 2)),.u 9 (.call f0 [(.t 8)]),.u 10 (.ld none 2 true (.t 3)),.u 11 (.call f0 [(.t 10)]),.m 5 (.t 9),.m 6 (.t 11)])
 (.fg [2,3,5,6] (.seq (.ops false [.m 12 (.t 5),.m 13 (.t 6),.u 14 (.bin .neq (.t 12) (.t 13))])
 (.fg [2,3,5,6,14] (.cond (.t 14) (.seq (.seq (.ops false [.m 15 (.t 5),.m 16 (.t 6),.u 17 (.bin .lss (.t 15) (.t 16))])
 (.fg [17] (.cond (.t 17) (.seq (.ops false [.m 4 (.i (-1))])
 .ret) .skip)))
 (.fg [] (.seq (.ops false [.m 4 (.i 1)])
 .ret))) .skip)))))
 (.fg [2,3] (.seq (.ops true [.u 18 (.ld none 2 true (.t 2)),.u 19 (.call f1 [(.t 18)]),.u 20 (.ld none 2 true (.t 3)),.u 21 (.call f1 [(.t 20)]),.u 22 (.call f2 [(.t 19),(.t 21)]),.m 7 (.t 22)])
 (.fg [2,7] (.seq (.seq (.ops false [.u 23 (.ld none 2 true (.t 2)),.u 24 (.call f3 [(.t 23)])])
 (.fg [7,24] (.cond (.t 24) (.seq (.ops false [.m 25 (.t 7),.u 26 (.un .neg (.t 25)),.m 4 (.t 26)])
 .ret) .skip)))
 (.fg [7] (.seq (.ops false [.m 27 (.t 7),.m 4 (.t 27)])
 .ret)))))))))
def Yp(f0 f1 f2:Nat):AC:=(.seq (.ops false [.u 1 (.box 2 (.t 0)),.u 2 (.alloc [(.lit (.bool false)),.emp])])
 (.fg [1,2] (.seq (.ops true [.u 3 (.ld none 2 true (.t 1)),.u 4 (.call f0 [(.t 3)]),.u 5 (.un .not (.t 4)),.u 6 (.ld none 2 true (.t 1)),.u 7 (.call f1 [(.t 6)]),.u 8 (.call f2 [(.t 5),(.t 7)]),.n (.st none 2 (.t 2) (.t 8))])
 .ret)))
def xx(f0 f1 f2 f3 f4 f5:Nat):AC:=(.seq (.ops false [.u 2 (.box 2 (.t 0)),.u 3 (.box 2 (.t 1)),.u 4 (.alloc [(.lit (.bool false)),.emp])])
 (.fg [2,3,4] (.seq (.ops true [.u 7 (.ld none 2 true (.t 2)),.u 8 (.call f0 [(.t 7)]),.u 9 (.ld none 2 true (.t 3)),.u 10 (.call f0 [(.t 9)]),.m 5 (.t 8),.m 6 (.t 10)])
 (.fg [2,3,4,5,6] (.seq (.block 0 (.seq (.ops true [.u 12 (.ld none 2 true (.t 2)),.u 13 (.call f1 [(.t 12)]),.u 14 (.ld none 2 true (.t 3)),.u 15 (.call f1 [(.t 14)]),.u 16 (.binb .eql (.t 13) (.t 15)),.m 11 (.t 16)])
 (.fg [2,3,4,5,6,11] (.cond (.t 11) (.seq (.ops false [.u 17 (.ld none 2 true (.t 2)),.u 18 (.call f1 [(.t 17)]),.m 19 (.t 5),.m 20 (.t 6),.u 21 (.call f2 [(.t 19),(.t 20)]),.u 22 (.call f3 [(.t 18),(.t 21)]),.n (.st none 2 (.t 4) (.t 22))])
 .ret) (.seq (.ops false [.m 24 (.t 5),.m 25 (.t 6),.u 26 (.call f4 [(.t 24),(.t 25)]),.u 27 (.bin .geq (.t 26) (.i 0)),.m 23 (.t 27)])
 (.fg [2,3,4,5,6,23] (.cond (.t 23) (.seq (.ops false [.u 28 (.ld none 2 true (.t 2)),.u 29 (.call f1 [(.t 28)]),.m 30 (.t 5),.m 31 (.t 6),.u 32 (.call f5 [(.t 30),(.t 31)]),.u 33 (.call f3 [(.t 29),(.t 32)]),.n (.st none 2 (.t 4) (.t 33))])
 .ret) .skip)))))))
 (.fg [3,4,5,6] (.seq (.ops false [.u 34 (.ld none 2 true (.t 3)),.u 35 (.call f1 [(.t 34)]),.m 36 (.t 6),.m 37 (.t 5),.u 38 (.call f5 [(.t 36),(.t 37)]),.u 39 (.call f3 [(.t 35),(.t 38)]),.n (.st none 2 (.t 4) (.t 39))])
 .ret)))))))
def Zp(f0 f1 f2 f3:Nat):AC:=(.seq (.ops false [.u 2 (.box 2 (.t 0)),.u 3 (.box 2 (.t 1)),.u 4 (.alloc [(.lit (.bool false)),.emp])])
 (.fg [2,3,4] (.seq (.ops true [.u 5 (.ld none 2 true (.t 2)),.u 6 (.call f0 [(.t 5)]),.u 7 (.ld none 2 true (.t 3)),.u 8 (.call f0 [(.t 7)]),.u 9 (.binb .neq (.t 6) (.t 8)),.u 10 (.ld none 2 true (.t 2)),.u 11 (.call f1 [(.t 10)]),.u 12 (.ld none 2 true (.t 3)),.u 13 (.call f1 [(.t 12)]),.u 14 (.call f2 [(.t 11),(.t 13)]),.u 15 (.call f3 [(.t 9),(.t 14)]),.n (.st none 2 (.t 4) (.t 15))])
 .ret)))
def jx(f0 f1 f2:Nat):AC:=(.seq (.ops false [.u 2 (.box 2 (.t 0)),.u 3 (.box 2 (.t 1)),.u 4 (.alloc [(.lit (.bool false)),.emp])])
 (.fg [2,3,4] (.seq (.ops true [.u 9 (.ld none 2 true (.t 2)),.u 10 (.call f0 [(.t 9)]),.u 11 (.ld none 2 true (.t 3)),.u 12 (.call f0 [(.t 11)]),.m 5 (.t 10),.m 6 (.t 12)])
 (.fg [4,5,6] (.seq (.block 0 (.loop (.seq (.seq (.ops false [.m 13 (.t 6),.u 14 (.len (.t 13)),.u 15 (.bin .gtr (.t 14) (.i 0))])
 (.fg [4,5,6,15] (.cond (.t 15) .skip (.exit 0))))
 (.fg [4,5,6] (.block 1 (.seq (.ops false [.m 17 (.t 5),.m 18 (.t 6),.u 19 (.call f1 [(.t 17),(.t 18)]),.m 16 (.t 19),.u 20 (.ext 0 (.t 16)),.u 21 (.ext 1 (.t 16)),.m 7 (.t 20),.m 8 (.t 21)])
 (.fg [4,6,8] (.ops false [.m 22 (.t 6),.m 23 (.t 8),.m 5 (.t 22),.m 6 (.t 23)]))))))))
 (.fg [4,5] (.seq (.ops false [.m 24 (.t 5),.u 25 (.call f2 [.fa,(.t 24)]),.n (.st none 2 (.t 4) (.t 25))])
 .ret)))))))
def kx(f0 f1 f2 f3 f4 f5 tE:Nat):AC:=(.seq (.ops false [.u 2 (.box 2 (.t 0)),.u 3 (.box 2 (.t 1)),.u 4 (.alloc [(.lit (.bool false)),.emp]),.u 5 (.alloc [(.lit (.bool false)),.emp]),.m 6 (.c (.one (.lit .nilIface)))])
 (.fg [2,3,4,5] (.seq (.ops false [.u 10 (.ld none 2 true (.t 3)),.u 11 (.call f0 [(.t 10)]),.m 7 (.t 11)])
 (.fg [2,3,4,5,7] (.seq (.seq (.ops false [.m 12 (.t 7),.u 13 (.len (.t 12)),.u 14 (.bin .eql (.t 13) (.i 0))])
 (.fg [2,3,4,5,7,14] (.cond (.t 14) (.seq (.ops false [.u 15 (.build [.z [(.lit (.bool false)),.emp]]),.u 16 (.build [.z [(.lit (.bool false)),.emp]]),.u 17 (.iface tE (.i 8)),.n (.st none 2 (.t 4) (.t 15)),.n (.st none 2 (.t 5) (.t 16)),.m 6 (.t 17)])
 .ret) .skip)))
 (.fg [2,3,4,5,7] (.seq (.ops false [.u 19 (.ld none 2 true (.t 2)),.u 20 (.call f0 [(.t 19)]),.m 21 (.t 7),.u 22 (.call f1 [(.t 20),(.t 21)]),.m 18 (.t 22),.u 23 (.ext 0 (.t 18)),.u 24 (.ext 1 (.t 18)),.m 8 (.t 23),.m 9 (.t 24)])
 (.fg [2,3,4,5,7,8,9] (.seq (.seq (.ops false [.u 25 (.ld none 2 true (.t 2)),.u 26 (.call f2 [(.t 25)]),.m 27 (.t 26),.w 28 27 true (.mv (.t 9)),.w 29 27 true (.len (.t 28)),.w 30 27 true (.bin .gtr (.t 29) (.i 0)),.u 31 (.pick (.t 27) (.t 30) .fa)])
 (.fg [2,3,4,5,7,8,9,31] (.cond (.t 31) (.ops false [.m 32 (.t 8),.u 33 (.row 1 [[.x 1 (.c (.one (.lit (.int .u32 1))))]]),.u 34 (.call f3 [(.t 32),(.t 33)]),.m 35 (.t 7),.m 36 (.t 9),.u 37 (.call f4 [(.t 35),(.t 36)]),.m 8 (.t 34),.m 9 (.t 37)]) .skip)))
 (.fg [2,3,4,5,8,9] (.seq (.ops true [.u 38 (.ld none 2 true (.t 2)),.u 39 (.call f2 [(.t 38)]),.u 40 (.ld none 2 true (.t 3)),.u 41 (.call f2 [(.t 40)]),.u 42 (.binb .neq (.t 39) (.t 41)),.m 43 (.t 8),.u 44 (.call f5 [(.t 42),(.t 43)]),.m 45 (.t 9),.u 46 (.call f5 [.fa,(.t 45)]),.n (.st none 2 (.t 4) (.t 44)),.n (.st none 2 (.t 5) (.t 46)),.m 6 (.c (.one (.lit .nilIface)))])
 .ret)))))))))))
theorem VI(hΓ:Holds P Γ){f:Nat}(hc:check P f=some (19,qm.strip,[.tmp 2])):Sound P f (.dat true xj):=by
 refine ka hc wak hΓ (λargs K hcl hfi hG=>?_);match args,hG with
 | [a],hG=>
  obtain⟨w,rfl,hw,hK⟩:=hG;refine⟨by simp,?_⟩
  simp only [go_sem,qm,wbv,YaI];unfold vldW at hK;intro hlen;refine⟨λh=>?_,λh _=>?_⟩
  .rw [if_pos (List.length_eq_zero_iff.1 h)]at hK;exact hK
  .have hn:w.2≠[]:=λe=>h (by rw [e];rfl)
   rw [if_neg hn]at hK;refine⟨⟨by omega,by omega⟩,by omega,by omega,?_⟩
   have e1:((w.2.length:Int)-1).toNat=w.2.length-1:=by omega
   rw [e1];have e2:(!decide (w.2.getD (w.2.length-1) 0=0))=decide (NZ w.2):=by
    rw [<-decide_not,decide_eq_decide];unfold NZ;rw [List.getLast?_eq_getElem?,List.getElem?_eq_getElem (by omega),List.getD_eq_getElem?_getD,List.getElem?_eq_getElem (by omega)]
    simp
   rw [e2];exact hK
theorem uU(hΓ:Holds P Γ){f fv:Nat}(hv:Γ fv=.dat true xj)(hc:check P f=some (8,(Jp fv).strip,[.tmp 2])):Sound P f (.dat false Zk):=by
 refine ka hc WaX hΓ (λargs K hcl hfi hG=>?_);match args,hG with
 | [a],hG=>
  obtain⟨w,rfl,hw,hK⟩:=hG;refine⟨by simp,?_⟩
  simp only [go_sem,Jp,hv,hw];rw [<-ubz hw]at hK;refine⟨λh=>?_,λh=>?_⟩
  .rw [if_pos h]at hK;exact hK
  .rw [if_neg (by rw [h];simp)]at hK;exact hK
theorem jK(hΓ:Holds P Γ){f fv:Nat}(hv:Γ fv=.dat true xj)(hc:check P f=some (9,(Xp fv).strip,[.tmp 2])):Sound P f (.dat true vg):=by
 refine ka hc JaI hΓ (λargs K hcl hfi hG=>?_);match args,hG with
 | [a],hG=>
  obtain⟨w,rfl,hw,hK⟩:=hG;refine⟨by simp,?_⟩
  simp only [go_sem,Xp,hv,hw];rw [<-WaL hw]at hK;refine⟨λh=>?_,λh=>?_⟩
  .rw [h,Bool.true_and]at hK;exact hK
  .rw [h,Bool.false_and]at hK;exact hK
theorem wai(hΓ:Holds P Γ){f ft:Nat}(ht:Γ ft=.dat false vu)(hc:check P f=some (15,(Yq ft).strip,[.cell 4 2 true])):Sound P f (.dat false Xf):=by
 refine ka hc VQ hΓ (λargs K hcl hfi hG=>?_);match args,hG with
 | [a,m],hG=>
  obtain⟨b,rfl,hG⟩:=VC hG;obtain⟨l,rfl,hl,hlen,hK⟩:=hG;refine⟨by simp,?_⟩
  simp only [go_sem,Yq,ht];rw [<-jR]at hK;refine⟨hl,hlen,λh _=>?_,λh=>?_⟩
  .rw [h,Bool.true_and]at hK;exact hK
  .rw [h,Bool.false_and]at hK;exact hK
theorem W1(hΓ:Holds P Γ){f fw:Nat}(hw:Γ fw=.dat false Xf)(hc:check P f=some (19,(Jt fw).strip,[.cell 2 2 true])):Sound P f (.dat false xI):=by
 refine ka hc kbc hΓ (λargs K hcl hfi hG=>?_);match args,hG with
 | [a],hG=>
  obtain⟨k,n,rfl,rfl,hn1,hn2,hK⟩:=Vb hG;refine⟨by simp,?_⟩
  simp only [go_sem,Jt,hw];have e0:(18446744073709551616:Int)=((18446744073709551616:Nat):Int):=rfl;have key:∀(x:Nat) (b:Bool),x<18446744073709551616->sg b x=n->
    onWs (λl=>l.length<=68719476736/\K (AV.agg [zb (zcan (sg b (val l))),zm (zcan (sg b (val l)))]))
     (AV.one (C.slice [[C.lit (Value.int IntKind.u32 ((x:Int) % 4294967296))],[C.lit (Value.int IntKind.u32 ((x:Int) / 2 ^ 32 % 4294967296))]])):=by
   intro x b hx hs;have e1:((x:Int) % 4294967296)=((x % 4294967296:Nat):Int):=by omega
   have e2:((x:Int) / 2 ^ 32 % 4294967296)=((x / 4294967296:Nat):Int):=by omega
   rw [e1,e2,va0];refine⟨?_,by simp,?_⟩
   .rw [Wc,Wc];exact⟨by omega,by omega,Yc⟩
   .have:val [x % 4294967296,x / 4294967296]=x:=by
     simp only [yj,xo];omega
    rw [this,hs];exact hK
  refine⟨λh=>⟨⟨by omega,by omega,by decide⟩,?_⟩,λh=>⟨⟨by omega,by omega,by decide⟩,?_⟩⟩
  .have e:(-(n % 18446744073709551616) % 18446744073709551616:Int)=((-n).toNat:Int):=by omega
   rw [e];refine key _ _ (by omega) ?_
   rw [decide_eq_true h];unfold sg;rw [if_pos rfl];omega
  .have e:(n % 18446744073709551616:Int)=(n.toNat:Int):=by omega
   rw [e];refine key _ _ (by omega) ?_
   rw [decide_eq_false h];unfold sg;rw [if_neg (by simp)];omega
theorem zai(hΓ:Holds P Γ){f fm:Nat}(hm:Γ fm=.dat false Zk)(hc:check P f=some (11,(Wu fm).strip,[.tmp 2])):Sound P f (.dat true Jg):=by
 refine ka hc JQ hΓ (λargs K hcl hfi hG=>?_);match args,hG with
 | [a],hG=>
  obtain⟨w,rfl,hw,hK⟩:=hG;refine⟨by simp,?_⟩
  simp only [go_sem,Wu,hm,hw,wbv,YaI];intro _;show((digs (zv w).natAbs).length=0->_)/\(¬(digs (zv w).natAbs).length=0->_);have h0:(digs (zv w).natAbs).length=0↔zv w=0:=Qy;rw [h0];refine⟨λh=>?_,λh=>⟨λhb=>?_,λhb=>?_⟩⟩
  .rw [h]at hK;exact hK
  .have:zv w<0:=by
    have:=WaL hw;rw [hb,Bool.and_true]at this;have hv:vldW w=true:=by
     cases hv:vldW w with
     | true=>rfl
     | false=>exact absurd (Jam hv) h
    rw [hv]at this;simpa using this.symm
   rw [Int.sign_eq_neg_one_of_neg this]at hK;exact hK
  .have:¬zv w<0:=by
    have:=WaL hw;rw [hb,Bool.and_false]at this;simpa using this.symm
   rw [Int.sign_eq_one_of_pos (by omega)]at hK;exact hK
theorem zaI(hΓ:Holds P Γ){f fs fm fc fn:Nat}(hs:Γ fs=.dat true Jg)(hm:Γ fm=.dat false Zk)(hc' : Γ fc=.dat false Wi)(hn:Γ fn=.dat true vg)
  (hc:check P f=some (28,(Zx fs fm fc fn).strip,[.tmp 4])):Sound P f (.dat true qD):=by
 refine ka hc JaM hΓ (λargs K hcl hfi hG=>?_);match args,hG with
 | [a,b],hG=>
  obtain⟨v,rfl,hv,w,rfl,hw,hK⟩:=hG;refine⟨by simp,?_⟩
  simp only [go_sem,Zx,hs,hm,hc',hn,hv,hw];simp only [Jb];have hs:∀n:Int,Int.sign n=if n<0 then -1 else if n=0 then 0 else 1:=by
   intro n;split
   .exact Int.sign_eq_neg_one_of_neg ‹_›
   .split
    .rename_i h;rw [h];rfl
    .exact Int.sign_eq_one_of_pos (by omega)
  rw [hs,hs];generalize zv v=x at hK ⊢;generalize zv w=y at hK ⊢;refine⟨λh=>⟨Ua _,Ua _,jr _,jr _,λhx=>⟨?_,?_⟩,λhx=>?_⟩,λh=>⟨λh'=>?_,λh'=>?_⟩⟩
  .unfold ordN;split <;> (try split) <;> omega
  .have e:-ordN x.natAbs y.natAbs=ordI x y:=by
    unfold ordN ordI;rw [if_pos hx]at h;have hy:y<0:=by
     split at h
     .assumption
     .split at h <;> omega
    split <;> (try split) <;> (try split) <;> (try split) <;> omega
   rw [e];exact hK
  .have e:ordN x.natAbs y.natAbs=ordI x y:=by
    unfold ordN ordI;rw [if_neg hx]at h;have hy:¬y<0:=by
     intro hy;rw [if_pos hy]at h;split at h <;> omega
    split <;> (try split) <;> (try split) <;> (try split) <;> omega
   rw [e];exact hK
  .have e:ordI x y = -1:=Ubn (by
    split at h' <;> split at h' <;> (try split at h') <;> (try split at h') <;> omega)
   rw [e]at hK;exact hK
  .have e:ordI x y=1:=Ubq (by
    split at h' <;> split at h' <;> (try split at h') <;> (try split at h') <;> (try split at h) <;> (try split at h) <;> (try split at h) <;> (try split at h) <;> omega)
   rw [e]at hK;exact hK
theorem WS(hΓ:Holds P Γ){f fn fm fw:Nat}(hn:Γ fn=.dat true vg)(hm:Γ fm=.dat false Zk)(hw' : Γ fw=.dat false Xf)(hc:check P f=some (9,(Yp fn fm fw).strip,[.cell 2 2 true])):Sound P f (.dat false vw):=by
 refine ka hc Ua5 hΓ (λargs K hcl hfi hG=>?_);match args,hG with
 | [a],hG=>
  obtain⟨w,rfl,hw,hz,hK⟩:=hG;refine⟨by simp,?_⟩
  simp only [go_sem,Yp,hn,hm,hw',hw];rw [Jb];refine⟨Ua _,hz,?_⟩;have e:sg (!decide (zv w<0)) (zv w).natAbs = -zv w:=by
   unfold sg;by_cases h:zv w<0 <;> simp [h] <;> omega
  rw [e];exact hK
theorem zS(hΓ:Holds P Γ){f fn fm ft fw:Nat}(hn:Γ fn=.dat true vg)(hm:Γ fm=.dat false Zk)(ht:Γ ft=.dat false Uq)(hw' : Γ fw=.dat false Xf)(hc:check P f=some (16,(Zp fn fm ft fw).strip,[.cell 4 2 true])):Sound P f (.dat false qw):=by
 refine ka hc zaQ hΓ (λargs K hcl hfi hG=>?_);match args,hG with
 | [a,b],hG=>
  obtain⟨v,rfl,hv,w,rfl,hw,hz,hz',hK⟩:=hG;refine⟨by simp,?_⟩
  simp only [go_sem,Zp,hn,hm,ht,hw',hw,hv];simp only [Jb];have e:sg (!(decide (zv v<0) == decide (zv w<0))) ((zv v).natAbs*(zv w).natAbs)=zv v*zv w:=vbB _ _;rw [e];refine⟨Ua _,Ua _,hz,hz',Ua _,?_,hK⟩;have:=Jq (zv v) (zv w);unfold zs at *
  rw [<-Int.natAbs_mul];omega
theorem QaG(hΓ:Holds P Γ){f fn fm fp fw fc fl:Nat}(hn:Γ fn=.dat true vg)(hm:Γ fm=.dat false Zk)(hp:Γ fp=.dat false xr)(hw' : Γ fw=.dat false Xf)(hc' : Γ fc=.dat false Wi)(hl:Γ fl=.dat false Qv)(hc:check P f=some (40,(xx fm fn fp fw fc fl).strip,[.cell 4 2 true])):Sound P f (.dat false xy):=by
 refine ka hc zac hΓ (λargs K hcl hfi hG=>?_);match args,hG with
 | [a,b],hG=>
  obtain⟨v,rfl,hv,w,rfl,hw,hz,hz',hK⟩:=hG;refine⟨by simp,?_⟩
  simp only [go_sem,xx,hn,hm,hp,hw',hc',hl,hw,hv];simp only [Jb];have hsz:=ZN (zv v) (zv w);refine⟨λh=>⟨Ua _,Ua _,hz,hz',Ua _,?_,?_⟩,λh=>⟨Ua _,Ua _,jr _,jr _,λho=>⟨Ua _,Ua _,by unfold zs at hz;omega,?_,Ua _,?_,?_⟩,λho=>⟨Ua _,Ua _,by unfold zs at hz';omega,?_,Ua _,?_,?_⟩⟩⟩
  .have e:=YA (zk h);rw [show(zv v).natAbs+(zv w).natAbs=(zv v+zv w).natAbs by have:=zk h;omega]
   unfold zs at *;omega
  .rw [YA (zk h)];exact hK
  .exact(qx.1 ho)
  .have:=ua (Nat.sub_le (zv v).natAbs (zv w).natAbs);unfold zs at *;omega
  .have h1:=qx.1 ho;rw [kax (kt h) h1];exact hK
  .have:=mt qx.2 ho;omega
  .have:=ua (Nat.sub_le (zv w).natAbs (zv v).natAbs);unfold zs at *;omega
  .have h1:=mt qx.2 ho;rw [kax (λe=>kt h e.symm) (by omega),Int.add_comm];exact hK
theorem vaF(hΓ:Holds P Γ){f fn fm fp fw fd fl tE:Nat}(hn:Γ fn=.dat true vg)(hm:Γ fm=.dat false Zk)(hp:Γ fp=.dat false xr)(hw' : Γ fw=.dat false Xf)(hd:Γ fd=.dat false qi)(hl:Γ fl=.dat false Qv)(hc:check P f=some (47,(kx fm fd fn fp fl fw tE).strip,[.cell 4 2 true,.cell 5 2 true,.tmp 6])):Sound P f (.dat false ZH):=by
 refine ka hc ka1 hΓ (λargs K hcl hfi hG=>?_);match args,hG with
 | [a,b],hG=>
  obtain⟨v,rfl,hv,w,rfl,hw,hz,hz',h0,hK⟩:=hG;refine⟨by simp,?_⟩
  simp only [go_sem,kx,hn,hm,hp,hw',hd,hl,hw,hv];simp only [Jb];have hne:¬(digs (zv w).natAbs).length=0:=λe=>h0 (Qy.1 e);intro _;refine⟨λe=>absurd e hne,λ_=>⟨Ua _,Ua _,jr _,jr _,λe=>hne (by rw [e];rfl),hz,hz',?_⟩⟩
  have hq:(digs ((zv v).natAbs / (zv w).natAbs)).length<=17179869184:=Nat.le_trans (ua (Nat.div_le_self _ _)) hz;have hr:(digs ((zv v).natAbs % (zv w).natAbs)).length<=17179869184:=Nat.le_trans (ua (Nat.mod_le _ _)) hz;have hz'' : (digs (zv w).natAbs).length<=17179869184:=hz';have hlt:=Nat.mod_lt (zv v).natAbs (show 0<(zv w).natAbs by omega)
  have hfin:(0<=zv v∨(zv v).natAbs % (zv w).natAbs=0)->K (AV.tup
    [AV.agg [zb (zcan (sg (!(decide (zv v<0) == decide (zv w<0))) ((zv v).natAbs / (zv w).natAbs))),zm (zcan (sg (!(decide (zv v<0) == decide (zv w<0))) ((zv v).natAbs / (zv w).natAbs)))],
     AV.agg [zb (zcan (sg false ((zv v).natAbs % (zv w).natAbs))),zm (zcan (sg false ((zv v).natAbs % (zv w).natAbs)))],AV.one (C.lit Value.nilIface)]):=by
   intro h;obtain⟨e1,e2⟩:=jap h0 h;have e1' : sg (!(decide (zv v<0) == decide (zv w<0))) ((zv v).natAbs / (zv w).natAbs)=zv v / zv w:=e1;have e2' : sg false ((zv v).natAbs % (zv w).natAbs)=zv v % zv w:=e2;rw [e1',e2'];exact hK
  refine⟨λhneg _=>⟨λhp=>⟨Ua _,(Uax _ 1).mpr ⟨Wc.2 ⟨by decide,Yc⟩,hq,by decide,Ua _,Ua _,by omega,by omega,Ua _,?_,Ua _,?_,?_⟩⟩,λhp=>⟨Ua _,by omega,Ua _,by omega,hfin (.inr ?_)⟩⟩,λhneg=>⟨Ua _,by omega,Ua _,by omega,hfin (.inl (by omega))⟩⟩
  .have hv1:val [1]=1:=rfl;rw [hv1];have h1:zs 1<=2:=Y2 (by decide)
   have:=ZN (((zv v).natAbs / (zv w).natAbs:Nat):Int) 1;have e:(((zv v).natAbs / (zv w).natAbs:Nat):Int)+1=(((zv v).natAbs / (zv w).natAbs+1:Nat):Int):=by omega
   rw [e]at this;have h3:zs (((zv v).natAbs / (zv w).natAbs:Nat):Int)=(digs ((zv v).natAbs / (zv w).natAbs)).length:=rfl;have h4:zs (((zv v).natAbs / (zv w).natAbs+1:Nat):Int)=(digs ((zv v).natAbs / (zv w).natAbs+1)).length:=rfl;rw [h3,h4]at this;omega
  .have:=ua (Nat.sub_le (zv w).natAbs ((zv v).natAbs % (zv w).natAbs));omega
  .have hv1:val [1]=1:=rfl;rw [hv1];have hne' : (zv v).natAbs % (zv w).natAbs≠0:=by
    intro e;rw [e,Yb]at hp;simp at hp
   obtain⟨e1,e2⟩:=ZaB h0 hneg hne';have e1' : sg (!(decide (zv v<0) == decide (zv w<0))) ((zv v).natAbs / (zv w).natAbs+1)=zv v / zv w:=e1;have e2' : sg false ((zv w).natAbs-(zv v).natAbs % (zv w).natAbs)=zv v % zv w:=e2;rw [e1',e2'];exact hK
  .have:digs ((zv v).natAbs % (zv w).natAbs)=[]:=List.eq_nil_of_length_eq_zero (by omega)
   exact jg.1 this
theorem XaG(hΓ:Holds P Γ){f fm fd fw:Nat}(hm:Γ fm=.dat false Zk)(hw' : Γ fw=.dat false Xf)(hd:Γ fd=.dat false qi)(hc:check P f=some (26,(jx fm fd fw).strip,[.cell 4 2 true])):Sound P f (.dat false Xv):=by
 refine ka hc V4 hΓ (λargs K hcl hfi hG=>?_);match args,hG with
 | [a,b],hG=>
  obtain⟨v,rfl,hv,w,rfl,hw,hz,hz',hK⟩:=hG;refine⟨by simp,?_⟩
  simp only [go_sem,jx,hm,hw',hd,hw,hv];refine Ya (λp:Nat×Nat=>⟨mkV [(4,.one (.ptr 4 1 0 0)),(5,.one (ws (digs p.1))),(6,.one (ws (digs p.2)))],mkH [(4,⟨1,some ⟨[[.lit (.bool false),.emp]],2,true⟩⟩)]⟩)
   (λp=>(digs p.1).length<=17179869184/\(digs p.2).length<=17179869184/\Nat.gcd p.1 p.2=Int.gcd (zv v) (zv w)) (λp=>p.2) ((zv v).natAbs,(zv w).natAbs) ?_ ?_ ?_
  .exact Qa (by simp [okS,okV,okC,okL,okH,okB,okE,ja,va,Za,Va,wsA,ws]) ⟨⟨⟨rfl,rfl⟩,.inr ⟨⟨rfl,trivial,trivial⟩,trivial⟩⟩,trivial⟩
  .exact⟨hz,hz',rfl⟩
  .rintro⟨a,b⟩ ⟨ha,hb,hg⟩;simp only at ha hb hg;simp only [go_sem,hm,hw',hd,ws];simp only [Jb];refine λ_=>⟨λh=>⟨Ua _,Ua _,jr _,jr _,λe=>by rw [e]at h;simp at h,ha,hb,?_⟩,λh=>⟨Ua _,by omega,?_⟩⟩
   .have hb0:0<b:=by
     rcases Nat.eq_zero_or_pos b with e | e
     .rw [e,Yb]at h;simp at h
     .exact e
    refine⟨(b,a % b),Qa (by simp [okS,okV,okC,okL,okH,okB,okE,ja,va,Za,Va,wsA,ws]) ⟨⟨⟨rfl,rfl⟩,.inr ⟨⟨rfl,trivial,trivial⟩,trivial⟩⟩,trivial⟩,⟨hb,Nat.le_trans (ua (Nat.mod_le _ _)) ha,?_⟩,Nat.mod_lt _ hb0⟩
    rw [<-hg];show Nat.gcd b (a % b)=_;rw [Nat.gcd_comm b,<-Nat.gcd_rec,Nat.gcd_comm]
   .have:digs b=[]:=List.eq_nil_of_length_eq_zero (by omega)
    rw [jg.1 this,Nat.gcd_zero_right]at hg;rw [hg];exact hK
end Go.Abs
end
section
namespace Go.Num
theorem getMM{α:Type}(U V:List α)(x d:α){n:Nat}(h:U.length=n):(U++x::V).getD n d=x:=by
 subst h;simp [List.getD_eq_getElem?_getD]
theorem setMM{α:Type}(U V:List α)(x y:α){n:Nat}(h:U.length=n):(U++x::V).set n y=U++y::V:=by
 subst h;rw [List.set_append_right _ _ (Nat.le_refl _),Nat.sub_self,List.set_cons_zero]
end Go.Num
namespace Go.Abs
open Go.Num
variable {P:Program} {Γ:Nat->Spec}
def jD(fc:Nat)(d:Option Nat)(args:List AV)(h:Nat->HB)(K:AV->(Nat->HB)->Prop):Prop:=
 match args with
 | [.one (.own r ver 5 0 len),.one (.lit (.int .i64 a)),.one (.lit (.int .i64 b)),.one (.lit (.int .i64 n)),c]=>∃(U A M B V:List Mo),c=fnV fc/\a=U.length/\b=(U.length+A.length+M.length:Nat)/\n=A.length/\A.length=B.length/\
   U.length+A.length+M.length+B.length<=len/\len<=U.length+A.length+M.length+B.length+V.length/\len<=68719476736/\
   h r=⟨ver,some ⟨(U++A++M++B++V).map mC,5,true⟩⟩/\K (.tup []) (upd h r ⟨ver,some ⟨(U++B++M++A++V).map mC,5,true⟩⟩)
 | _=>False
@[congr] theorem WbS {fc:Nat} {d:Option Nat} {l l' : List AV} {h h' : Nat->HB} {K:AV->(Nat->HB)->Prop} (e1:l=l') (e2:h=h'):jD fc d l h K=jD fc d l' h' K:=by subst e1;subst e2;rfl
def XF(fc:Nat)(d:Option Nat)(args:List AV)(h:Nat->HB)(K:AV->(Nat->HB)->Prop):Prop:=
 match args with
 | [.one (.own r ver 5 0 len),.one (.lit (.int .i64 a)),.one (.lit (.int .i64 m)),.one (.lit (.int .i64 b)),c]=>∃(U A B V:List Mo),c=fnV fc/\a=U.length/\m=(U.length+A.length:Nat)/\b=(U.length+A.length+B.length:Nat)/\A≠[]/\B≠[]/\
   U.length+A.length+B.length<=len/\len<=U.length+A.length+B.length+V.length/\len<=68719476736/\
   h r=⟨ver,some ⟨(U++A++B++V).map mC,5,true⟩⟩/\K (.tup []) (upd h r ⟨ver,some ⟨(U++B++A++V).map mC,5,true⟩⟩)
 | _=>False
@[congr] theorem XbO {fc:Nat} {d:Option Nat} {l l' : List AV} {h h' : Nat->HB} {K:AV->(Nat->HB)->Prop} (e1:l=l') (e2:h=h'):XF fc d l h K=XF fc d l' h' K:=by subst e1;subst e2;rfl
def zj(fc N:Nat)(d:Option Nat)(args:List AV)(h:Nat->HB)(K:AV->(Nat->HB)->Prop):Prop:=
 match args with
 | [.one (.own r ver 5 0 len),.one (.lit (.int .i64 a)),.one (.lit (.int .i64 m)),.one (.lit (.int .i64 b)),c]=>∃(U A B V:List Mo),c=fnV fc/\a=U.length/\m=(U.length+A.length:Nat)/\b=(U.length+A.length+B.length:Nat)/\A≠[]/\B≠[]/\A.length+B.length<=N/\
   U.length+A.length+B.length<=len/\len<=U.length+A.length+B.length+V.length/\len<=1073741824/\okMs A/\okMs B/\SortM A/\SortM B/\
   h r=⟨ver,some ⟨(U++A++B++V).map mC,5,true⟩⟩/\∀C:List Mo,(A++B).Perm C->SortM C->K (.tup []) (upd h r ⟨ver,some ⟨(U++C++V).map mC,5,true⟩⟩)
 | _=>False
@[congr] theorem jbT {fc N:Nat} {d:Option Nat} {l l' : List AV} {h h' : Nat->HB} {K:AV->(Nat->HB)->Prop} (e1:l=l') (e2:h=h'):zj fc N d l h K=zj fc N d l' h' K:=by subst e1;subst e2;rfl
def yd:AC:=(.seq (.ops false [.m 10 (.i 0)])
 (.fg [0,1,2,3,10] (.block 0 (.loop (.seq (.seq (.ops false [.m 11 (.t 10),.m 12 (.t 3),.u 13 (.bin .lss (.t 11) (.t 12))])
 (.fg [0,1,2,3,10,13] (.cond (.t 13) .skip (.exit 0))))
 (.fg [0,1,2,3,10] (.seq (.block 1 (.ops true [.m 16 (.t 0),.m 17 (.t 1),.m 18 (.t 10),.u 19 (.bin .add (.t 17) (.t 18)),.m 20 (.t 0),.m 21 (.t 2),.m 22 (.t 10),.u 23 (.bin .add (.t 21) (.t 22)),.m 24 (.t 0),.m 25 (.t 2),.m 26 (.t 10),.u 27 (.bin .add (.t 25) (.t 26)),.u 28 (.idx 5 (.t 24) (.t 27)),.u 29 (.ld none 5 true (.t 28)),.m 30 (.t 0),.m 31 (.t 1),.m 32 (.t 10),.u 33 (.bin .add (.t 31) (.t 32)),.u 34 (.idx 5 (.t 30) (.t 33)),.u 35 (.ld none 5 true (.t 34)),.u 36 (.idx 5 (.t 16) (.t 19)),.n (.st none 5 (.t 36) (.t 29)),.u 37 (.idx 5 (.t 20) (.t 23)),.n (.st none 5 (.t 37) (.t 35))]))
 (.fg [0,1,2,3,10] (.ops false [.m 14 (.t 10),.u 15 (.bin .add (.t 14) (.i 1)),.m 10 (.t 15)])))))))))
def Xe(f0:Nat):AC:=(.seq (.ops false [.m 12 (.t 2),.m 13 (.t 1),.u 14 (.bin .sub (.t 12) (.t 13)),.m 10 (.t 14)])
 (.fg [0,2,3,4,10] (.seq (.ops false [.m 15 (.t 3),.m 16 (.t 2),.u 17 (.bin .sub (.t 15) (.t 16)),.m 11 (.t 17)])
 (.fg [0,2,4,10,11] (.seq (.block 0 (.loop (.seq (.seq (.ops false [.m 18 (.t 10),.m 19 (.t 11),.u 20 (.bin .neq (.t 18) (.t 19))])
 (.fg [0,2,4,10,11,20] (.cond (.t 20) .skip (.exit 0))))
 (.fg [0,2,4,10,11] (.block 1 (.seq (.ops false [.m 21 (.t 10),.m 22 (.t 11),.u 23 (.bin .gtr (.t 21) (.t 22))])
 (.fg [0,2,4,10,11,23] (.cond (.t 23) (.seq (.ops false [.m 24 (.t 0),.m 25 (.t 2),.m 26 (.t 10),.u 27 (.bin .sub (.t 25) (.t 26)),.m 28 (.t 2),.m 29 (.t 11),.m 30 (.t 4),.u 31 (.call f0 [(.t 24),(.t 27),(.t 28),(.t 29),(.t 30)])])
 (.fg [0,2,4,10,11] (.ops false [.m 32 (.t 10),.m 33 (.t 11),.u 34 (.bin .sub (.t 32) (.t 33)),.m 10 (.t 34)]))) (.seq (.ops false [.m 35 (.t 0),.m 36 (.t 2),.m 37 (.t 10),.u 38 (.bin .sub (.t 36) (.t 37)),.m 39 (.t 2),.m 40 (.t 11),.u 41 (.bin .add (.t 39) (.t 40)),.m 42 (.t 10),.u 43 (.bin .sub (.t 41) (.t 42)),.m 44 (.t 10),.m 45 (.t 4),.u 46 (.call f0 [(.t 35),(.t 38),(.t 43),(.t 44),(.t 45)])])
 (.fg [0,2,4,10,11] (.ops false [.m 47 (.t 11),.m 48 (.t 10),.u 49 (.bin .sub (.t 47) (.t 48)),.m 11 (.t 49)])))))))))))
 (.fg [0,2,4,10] (.ops false [.m 50 (.t 0),.m 51 (.t 2),.m 52 (.t 10),.u 53 (.bin .sub (.t 51) (.t 52)),.m 54 (.t 2),.m 55 (.t 10),.m 56 (.t 4),.u 57 (.call f0 [(.t 50),(.t 53),(.t 54),(.t 55),(.t 56)])])))))))
def vb(f0 f1:Nat):AC:=(.seq (.seq (.ops false [.m 25 (.t 2),.m 26 (.t 1),.u 27 (.bin .sub (.t 25) (.t 26)),.u 28 (.bin .eql (.t 27) (.i 1))])
 (.fg [0,1,2,3,4,28] (.cond (.t 28) (.seq (.ops false [.m 29 (.t 2),.m 10 (.t 29)])
 (.fg [0,1,3,4,10] (.seq (.ops false [.m 30 (.t 3),.m 11 (.t 30)])
 (.fg [0,1,4,10,11] (.seq (.block 0 (.loop (.seq (.seq (.ops false [.m 31 (.t 10),.m 32 (.t 11),.u 33 (.bin .lss (.t 31) (.t 32))])
 (.fg [0,1,4,10,11,33] (.cond (.t 33) .skip (.exit 0))))
 (.fg [0,1,4,10,11] (.block 1 (.seq (.ops false [.m 34 (.t 10),.m 35 (.t 11),.u 36 (.bin .add (.t 34) (.t 35)),.u 37 (.conv .u64 (.t 36)),.u 38 (.bin .shr (.t 37) (.c (.one (.lit (.int .u64 1))))),.u 39 (.conv .i64 (.t 38)),.m 12 (.t 39)])
 (.fg [0,1,4,10,11,12] (.seq (.ops true [.m 40 (.t 4),.m 41 (.t 0),.m 42 (.t 12),.u 43 (.idx 5 (.t 41) (.t 42)),.u 44 (.ld none 5 true (.t 43)),.m 45 (.t 0),.m 46 (.t 1),.u 47 (.idx 5 (.t 45) (.t 46)),.u 48 (.ld none 5 true (.t 47)),.u 49 (.callv (.t 40) [(.t 44),(.t 48)]),.u 50 (.bin .lss (.t 49) (.i 0))])
 (.fg [0,1,4,10,11,12,50] (.cond (.t 50) (.ops false [.m 51 (.t 12),.u 52 (.bin .add (.t 51) (.i 1)),.m 10 (.t 52)]) (.ops false [.m 53 (.t 12),.m 11 (.t 53)])))))))))))
 (.fg [0,1,10] (.seq (.seq (.ops false [.m 54 (.t 1),.m 13 (.t 54)])
 (.fg [0,10,13] (.block 2 (.loop (.seq (.seq (.ops false [.m 55 (.t 13),.m 56 (.t 10),.u 57 (.bin .sub (.t 56) (.i 1)),.u 58 (.bin .lss (.t 55) (.t 57))])
 (.fg [0,10,13,58] (.cond (.t 58) .skip (.exit 2))))
 (.fg [0,10,13] (.seq (.block 3 (.ops true [.m 61 (.t 0),.m 62 (.t 13),.m 63 (.t 0),.m 64 (.t 13),.u 65 (.bin .add (.t 64) (.i 1)),.m 66 (.t 0),.m 67 (.t 13),.u 68 (.bin .add (.t 67) (.i 1)),.u 69 (.idx 5 (.t 66) (.t 68)),.u 70 (.ld none 5 true (.t 69)),.m 71 (.t 0),.m 72 (.t 13),.u 73 (.idx 5 (.t 71) (.t 72)),.u 74 (.ld none 5 true (.t 73)),.u 75 (.idx 5 (.t 61) (.t 62)),.n (.st none 5 (.t 75) (.t 70)),.u 76 (.idx 5 (.t 63) (.t 65)),.n (.st none 5 (.t 76) (.t 74))]))
 (.fg [0,10,13] (.ops false [.m 59 (.t 13),.u 60 (.bin .add (.t 59) (.i 1)),.m 13 (.t 60)])))))))))
 .ret))))))) .skip)))
 (.fg [0,1,2,3,4] (.seq (.seq (.ops false [.m 77 (.t 3),.m 78 (.t 2),.u 79 (.bin .sub (.t 77) (.t 78)),.u 80 (.bin .eql (.t 79) (.i 1))])
 (.fg [0,1,2,3,4,80] (.cond (.t 80) (.seq (.ops false [.m 81 (.t 1),.m 14 (.t 81)])
 (.fg [0,2,4,14] (.seq (.ops false [.m 82 (.t 2),.m 15 (.t 82)])
 (.fg [0,2,4,14,15] (.seq (.block 4 (.loop (.seq (.seq (.ops false [.m 83 (.t 14),.m 84 (.t 15),.u 85 (.bin .lss (.t 83) (.t 84))])
 (.fg [0,2,4,14,15,85] (.cond (.t 85) .skip (.exit 4))))
 (.fg [0,2,4,14,15] (.block 5 (.seq (.ops false [.m 86 (.t 14),.m 87 (.t 15),.u 88 (.bin .add (.t 86) (.t 87)),.u 89 (.conv .u64 (.t 88)),.u 90 (.bin .shr (.t 89) (.c (.one (.lit (.int .u64 1))))),.u 91 (.conv .i64 (.t 90)),.m 16 (.t 91)])
 (.fg [0,2,4,14,15,16] (.seq (.ops true [.m 92 (.t 4),.m 93 (.t 0),.m 94 (.t 2),.u 95 (.idx 5 (.t 93) (.t 94)),.u 96 (.ld none 5 true (.t 95)),.m 97 (.t 0),.m 98 (.t 16),.u 99 (.idx 5 (.t 97) (.t 98)),.u 100 (.ld none 5 true (.t 99)),.u 101 (.callv (.t 92) [(.t 96),(.t 100)]),.u 102 (.bin .lss (.t 101) (.i 0)),.u 103 (.un .not (.t 102))])
 (.fg [0,2,4,14,15,16,103] (.cond (.t 103) (.ops false [.m 104 (.t 16),.u 105 (.bin .add (.t 104) (.i 1)),.m 14 (.t 105)]) (.ops false [.m 106 (.t 16),.m 15 (.t 106)])))))))))))
 (.fg [0,2,14] (.seq (.seq (.ops false [.m 107 (.t 2),.m 17 (.t 107)])
 (.fg [0,14,17] (.block 6 (.loop (.seq (.seq (.ops false [.m 108 (.t 17),.m 109 (.t 14),.u 110 (.bin .gtr (.t 108) (.t 109))])
 (.fg [0,14,17,110] (.cond (.t 110) .skip (.exit 6))))
 (.fg [0,14,17] (.seq (.block 7 (.ops true [.m 113 (.t 0),.m 114 (.t 17),.m 115 (.t 0),.m 116 (.t 17),.u 117 (.bin .sub (.t 116) (.i 1)),.m 118 (.t 0),.m 119 (.t 17),.u 120 (.bin .sub (.t 119) (.i 1)),.u 121 (.idx 5 (.t 118) (.t 120)),.u 122 (.ld none 5 true (.t 121)),.m 123 (.t 0),.m 124 (.t 17),.u 125 (.idx 5 (.t 123) (.t 124)),.u 126 (.ld none 5 true (.t 125)),.u 127 (.idx 5 (.t 113) (.t 114)),.n (.st none 5 (.t 127) (.t 122)),.u 128 (.idx 5 (.t 115) (.t 117)),.n (.st none 5 (.t 128) (.t 126))]))
 (.fg [0,14,17] (.ops false [.m 111 (.t 17),.u 112 (.bin .sub (.t 111) (.i 1)),.m 17 (.t 112)])))))))))
 .ret))))))) .skip)))
 (.fg [0,1,2,3,4] (.seq (.ops false [.m 129 (.t 1),.m 130 (.t 3),.u 131 (.bin .add (.t 129) (.t 130)),.u 132 (.conv .u64 (.t 131)),.u 133 (.bin .shr (.t 132) (.c (.one (.lit (.int .u64 1))))),.u 134 (.conv .i64 (.t 133)),.m 18 (.t 134)])
 (.fg [0,1,2,3,4,18] (.seq (.ops false [.m 135 (.t 18),.m 136 (.t 2),.u 137 (.bin .add (.t 135) (.t 136)),.m 19 (.t 137)])
 (.fg [0,1,2,3,4,18,19] (.seq (.ops false [.m 20 (.i 0),.m 21 (.i 0)])
 (.fg [0,1,2,3,4,18,19] (.seq (.seq (.ops false [.m 138 (.t 2),.m 139 (.t 18),.u 140 (.bin .gtr (.t 138) (.t 139))])
 (.fg [0,1,2,3,4,18,19,140] (.cond (.t 140) (.seq (.ops false [.m 141 (.t 19),.m 142 (.t 3),.u 143 (.bin .sub (.t 141) (.t 142)),.m 20 (.t 143)])
 (.fg [0,1,2,3,4,18,19,20] (.ops false [.m 144 (.t 18),.m 21 (.t 144)]))) (.seq (.ops false [.m 145 (.t 1),.m 20 (.t 145)])
 (.fg [0,1,2,3,4,18,19,20] (.ops false [.m 146 (.t 2),.m 21 (.t 146)]))))))
 (.fg [0,1,2,3,4,18,19,20,21] (.seq (.ops false [.m 147 (.t 19),.u 148 (.bin .sub (.t 147) (.i 1)),.m 22 (.t 148)])
 (.fg [0,1,2,3,4,18,19,20,21,22] (.seq (.block 8 (.loop (.seq (.seq (.ops false [.m 149 (.t 20),.m 150 (.t 21),.u 151 (.bin .lss (.t 149) (.t 150))])
 (.fg [0,1,2,3,4,18,19,20,21,22,151] (.cond (.t 151) .skip (.exit 8))))
 (.fg [0,1,2,3,4,18,19,20,21,22] (.block 9 (.seq (.ops false [.m 152 (.t 20),.m 153 (.t 21),.u 154 (.bin .add (.t 152) (.t 153)),.u 155 (.conv .u64 (.t 154)),.u 156 (.bin .shr (.t 155) (.c (.one (.lit (.int .u64 1))))),.u 157 (.conv .i64 (.t 156)),.m 23 (.t 157)])
 (.fg [0,1,2,3,4,18,19,20,21,22,23] (.seq (.ops true [.m 158 (.t 4),.m 159 (.t 0),.m 160 (.t 22),.m 161 (.t 23),.u 162 (.bin .sub (.t 160) (.t 161)),.u 163 (.idx 5 (.t 159) (.t 162)),.u 164 (.ld none 5 true (.t 163)),.m 165 (.t 0),.m 166 (.t 23),.u 167 (.idx 5 (.t 165) (.t 166)),.u 168 (.ld none 5 true (.t 167)),.u 169 (.callv (.t 158) [(.t 164),(.t 168)]),.u 170 (.bin .lss (.t 169) (.i 0)),.u 171 (.un .not (.t 170))])
 (.fg [0,1,2,3,4,18,19,20,21,22,23,171] (.cond (.t 171) (.ops false [.m 172 (.t 23),.u 173 (.bin .add (.t 172) (.i 1)),.m 20 (.t 173)]) (.ops false [.m 174 (.t 23),.m 21 (.t 174)])))))))))))
 (.fg [0,1,2,3,4,18,19,20] (.seq (.ops false [.m 175 (.t 19),.m 176 (.t 20),.u 177 (.bin .sub (.t 175) (.t 176)),.m 24 (.t 177)])
 (.fg [0,1,2,3,4,18,20,24] (.seq (.seq (.ops false [.m 178 (.t 20),.m 179 (.t 2),.u 180 (.bin .lss (.t 178) (.t 179)),.m 181 (.t 180),.w 182 181 true (.mv (.t 2)),.w 183 181 true (.mv (.t 24)),.w 184 181 true (.bin .lss (.t 182) (.t 183)),.u 185 (.pick (.t 181) (.t 184) .fa)])
 (.fg [0,1,2,3,4,18,20,24,185] (.cond (.t 185) (.ops false [.m 186 (.t 0),.m 187 (.t 20),.m 188 (.t 2),.m 189 (.t 24),.m 190 (.t 4),.u 191 (.call f0 [(.t 186),(.t 187),(.t 188),(.t 189),(.t 190)])]) .skip)))
 (.fg [0,1,3,4,18,20,24] (.seq (.seq (.ops false [.m 192 (.t 1),.m 193 (.t 20),.u 194 (.bin .lss (.t 192) (.t 193)),.m 195 (.t 194),.w 196 195 true (.mv (.t 20)),.w 197 195 true (.mv (.t 18)),.w 198 195 true (.bin .lss (.t 196) (.t 197)),.u 199 (.pick (.t 195) (.t 198) .fa)])
 (.fg [0,1,3,4,18,20,24,199] (.cond (.t 199) (.ops false [.m 200 (.t 0),.m 201 (.t 1),.m 202 (.t 20),.m 203 (.t 18),.m 204 (.t 4),.u 205 (.call f1 [(.t 200),(.t 201),(.t 202),(.t 203),(.t 204)])]) .skip)))
 (.fg [0,3,4,18,24] (.seq (.ops false [.m 206 (.t 18),.m 207 (.t 24),.u 208 (.bin .lss (.t 206) (.t 207)),.m 209 (.t 208),.w 210 209 true (.mv (.t 24)),.w 211 209 true (.mv (.t 3)),.w 212 209 true (.bin .lss (.t 210) (.t 211)),.u 213 (.pick (.t 209) (.t 212) .fa)])
 (.fg [0,3,4,18,24,213] (.cond (.t 213) (.ops false [.m 214 (.t 0),.m 215 (.t 18),.m 216 (.t 24),.m 217 (.t 3),.m 218 (.t 4),.u 219 (.call f1 [(.t 214),(.t 215),(.t 216),(.t 217),(.t 218)])]) .skip)))))))))))))))))))))))))
theorem jaI(hΓ:Holds P Γ){f fc:Nat}(hc:check P f=some (38,yd.strip,[])):Sound P f (.own (jD fc)):=by
 refine ug hc hΓ (λd args h K hG=>?_);unfold jD at hG;split at hG
 case h_2=>exact hG.elim
 rename_i r ver len x1 x2 x3 c;obtain⟨U,A,M,B,V,rfl,hx1,hx2,hx3,hAB,hlen,hlen2,hroom,hr,hK⟩:=hG;obtain⟨D,hD⟩:∃D,D=U++A++M++B++V:=⟨_,rfl⟩;rw [<-hD]at hr;have hDl:D.length=U.length+A.length+M.length+B.length+V.length:=by rw [hD];simp [Nat.add_assoc]
 refine⟨[r],[⟨D.map mC,5,true⟩],[.one (.own 1048576 ver 5 0 len),.one (.lit (.int .i64 x1)),.one (.lit (.int .i64 x2)),.one (.lit (.int .i64 x3)),fnV fc],by simp,rfl,?_,?_,?_,λhfi=>⟨by simp,?_⟩⟩
 .intro i r' b h1 h2;cases i with
  | zero=>simp only [List.getElem?_cons_zero,Option.some.injEq]at h1 h2;subst h1 h2;exact⟨by rw [hr],rfl,of_eq_true (yg _)⟩
  | succ i=>simp at h1
 .simp [exA,exC,exB,nameOf,pinA,fnV]
 .intro a ha;simp only [List.mem_cons,List.not_mem_nil,or_false]at ha;rcases ha with rfl | rfl | rfl | rfl | rfl
  .simp [pasA,pasC,pasB,nameOf,pinA]
  .exact .lit _
  .exact .lit _
  .exact .lit _
  .exact .lit _
 simp only [go_sem,yd,hr,fnV];refine Ya (λp:List Mo×List Mo×List Mo×List Mo=>⟨mkV [(0,.one (.own 1048576 ver 5 0 len)),(1,.one (.lit (.int .i64 x1))),(2,.one (.lit (.int .i64 x2))),(3,.one (.lit (.int .i64 x3))),(10,.one (.lit (.int .i64 p.1.length)))],mkH [(1048576,⟨ver,some ⟨(U++(p.2.2.1++p.2.1)++M++(p.1++p.2.2.2)++V).map mC,5,true⟩⟩)]⟩)
  (λp=>A=p.1++p.2.1/\B=p.2.2.1++p.2.2.2/\p.1.length=p.2.2.1.length) (λp=>p.2.1.length) ([],A,[],B) ?_ ?_ ?_
 .exact Qa (by simp [okS,okV,okC,okL,okH,okB,okE,ja,va,Za,Va,wsA,ws]) (kk (by simp [hD]))
 .exact⟨rfl,rfl,rfl⟩
 .rintro⟨A1,A2,B1,B2⟩ ⟨hA,hB,h1⟩;simp only at hA hB h1;have lA:=congrArg List.length hA;have lB:=congrArg List.length hB;simp only [List.length_append]at lA lB;rcases A2 with _ | ⟨x,A2⟩
  .have hlt:¬((A1.length:Int)<x3):=by simp only [List.length_nil]at lA;omega
   simp only [go_sem,hr,hlt];rcases B2 with _ | ⟨y,B2⟩
   .simp only [List.append_nil]at hA hB ⊢;subst hA hB;exact hK
   .simp only [List.length_nil,List.length_cons]at *;omega
  .rcases B2 with _ | ⟨y,B2⟩
   .simp only [List.length_nil,List.length_cons]at *;omega
   .simp only [List.length_cons]at lA lB;have hlt:(A1.length:Int)<x3:=by omega
    obtain⟨E,hE⟩:∃E,E=U++(B1++x::A2)++M++(A1++y::B2)++V:=⟨_,rfl⟩;have hEl:E.length=D.length:=by rw [hE,hDl];simp only [List.length_append,List.length_cons];omega
    have e1:E=(U++B1)++x::(A2++M++(A1++y::B2)++V):=by rw [hE];simp
    have e2:E=(U++(B1++x::A2)++M++A1)++y::(B2++V):=by rw [hE];simp
    obtain⟨i1,hi1⟩:∃i1:Nat,i1=U.length+A1.length:=⟨_,rfl⟩;obtain⟨i2,hi2⟩:∃i2:Nat,i2=U.length+A.length+M.length+A1.length:=⟨_,rfl⟩;have n1:x1+(A1.length:Int)=(i1:Int):=by omega
    have n2:x2+(A1.length:Int)=(i2:Int):=by omega
    have g1:E.getD i1 mo0=x:=by rw [e1];exact getMM _ _ _ _ (by simp;omega)
    have g2:E.getD i2 mo0=y:=by rw [e2];exact getMM _ _ _ _ (by simp;omega)
    have b1:i1<len:=by omega
    have b2:i2<len:=by omega
    have c1:i1<E.length:=by omega
    have c2:i2<E.length:=by omega
    have s1:(E.set i1 y).set i2 x=U++((B1++[y])++A2)++M++((A1++[x])++B2)++V:=by
     have:E.set i1 y=(U++B1)++y::(A2++M++(A1++y::B2)++V):=by rw [e1];exact setMM _ _ _ _ (by simp;omega)
     rw [this];have:(U++B1)++y::(A2++M++(A1++y::B2)++V)=(U++(B1++y::A2)++M++A1)++y::(B2++V):=by simp
     rw [this,setMM _ _ _ _ (by simp;omega)]
     simp
    simp only [<-hE];simp only [go_sem,hr,hlt,n1,n2,g1,g2,b1,b2,c1,c2,s1,List.length_set];refine⟨by omega,by omega,by omega,by omega,by omega,(A1++[x],A2,B1++[y],B2),Qa (by simp [okS,okV,okC,okL,okH,okB,okE,ja,va,Za,Va,wsA,ws]) (kk rfl),⟨by rw [hA];simp,by rw [hB];simp,by simp [h1]⟩,by simp⟩
theorem xaE(hΓ:Holds P Γ){f fs fc:Nat}(hs:Γ fs=.own (jD fc))(hc:check P f=some (58,(Xe fs).strip,[])):Sound P f (.own (XF fc)):=by
 refine ug hc hΓ (λd args h K hG=>?_);unfold XF at hG;split at hG
 case h_2=>exact hG.elim
 rename_i r ver len x1 x2 x3 c;obtain⟨U,A,B,V,rfl,hx1,hx2,hx3,hA0,hB0,hlen,hlen2,hroom,hr,hK⟩:=hG;obtain⟨D,hD⟩:∃D,D=U++A++B++V:=⟨_,rfl⟩;rw [<-hD]at hr;have hDl:D.length=U.length+A.length+B.length+V.length:=by rw [hD];simp [Nat.add_assoc]
 have hAp:=List.length_pos_iff.2 hA0;have hBp:=List.length_pos_iff.2 hB0;refine⟨[r],[⟨D.map mC,5,true⟩],[.one (.own 1048576 ver 5 0 len),.one (.lit (.int .i64 x1)),.one (.lit (.int .i64 x2)),.one (.lit (.int .i64 x3)),fnV fc],by simp,rfl,?_,?_,?_,λhfi=>⟨by simp,?_⟩⟩
 .intro i r' b h1 h2;cases i with
  | zero=>simp only [List.getElem?_cons_zero,Option.some.injEq]at h1 h2;subst h1 h2;exact⟨by rw [hr],rfl,of_eq_true (yg _)⟩
  | succ i=>simp at h1
 .simp [exA,exC,exB,nameOf,pinA,fnV]
 .intro a ha;simp only [List.mem_cons,List.not_mem_nil,or_false]at ha;rcases ha with rfl | rfl | rfl | rfl | rfl
  .simp [pasA,pasC,pasB,nameOf,pinA]
  .exact .lit _
  .exact .lit _
  .exact .lit _
  .exact .lit _
 have n1:x2-x1=(A.length:Int):=by omega
 have n2:x3-x2=(B.length:Int):=by omega
 simp only [go_sem,Xe,hr,fnV,hs,n1,n2];refine⟨by omega,by omega,?_⟩
 refine Ya (λp:List Mo×List Mo×List Mo×List Mo=>⟨mkV [(0,.one (.own 1048576 ver 5 0 len)),(2,.one (.lit (.int .i64 x2))),(4,.one (.lit (.func (.func fc) ⟨[]⟩ ⟨[]⟩))),(10,.one (.lit (.int .i64 p.2.1.length))),(11,.one (.lit (.int .i64 p.2.2.1.length)))],mkH [(1048576,⟨ver,some ⟨(p.1++p.2.1++p.2.2.1++p.2.2.2).map mC,5,true⟩⟩)]⟩)
  (λp=>p.1++p.2.2.1++p.2.1++p.2.2.2=U++B++A++V/\x2=(p.1.length+p.2.1.length:Nat)/\p.2.1≠[]/\p.2.2.1≠[]/\(p.2.1.length+p.2.2.1.length<=A.length+B.length)/\x2+p.2.2.1.length<=x3) (λp=>p.2.1.length+p.2.2.1.length) (U,A,B,V) ?_ ?_ ?_
 .exact Qa (by simp [okS,okV,okC,okL,okH,okB,okE,ja,va,Za,Va,wsA,ws]) (kk (by simp [hD]))
 .exact⟨rfl,by simp only;omega,hA0,hB0,Nat.le_refl _,by simp only;omega⟩
 .rintro⟨U',A',B',V'⟩ ⟨hT,hx2',hA1,hB1,hsz,hx3'⟩;simp only at hT hx2' hA1 hB1 hsz hx3';have hTl:=congrArg List.length hT;simp only [List.length_append]at hTl;have hAp':=List.length_pos_iff.2 hA1;have hBp':=List.length_pos_iff.2 hB1;have n1:x2-(A'.length:Int)=(U'.length:Int):=by omega
  by_cases heq:A'.length=B'.length
  .have heq' : (A'.length:Int)=(B'.length:Int):=by omega
   simp only [go_sem,hr,hs,fnV,n1,<-heq',ne_eq,not_true_eq_false];refine⟨by omega,?_⟩
   simp only [jD];refine⟨U',A',[],B',V',rfl,rfl,by simp;omega,rfl,heq,by simp;omega,by simp;omega,by omega,by simp [Za],?_⟩
   simp only [go_sem,hr];have:U'++B'++[]++A'++V' = U++B++A++V:=by rw [<-hT];simp
   rw [List.append_nil]at this;rw [this];exact hK
  .have heq' : ¬(A'.length:Int)=(B'.length:Int):=by omega
   by_cases hgt:B'.length<A'.length
   .have hgt' : (B'.length:Int)<(A'.length:Int):=by omega
    simp only [go_sem,hr,hs,fnV,n1,heq',hgt',ne_eq];obtain⟨A1,A2,rfl,hA1l⟩:∃A1 A2,A' = A1++A2/\A1.length=B'.length:=⟨A'.take B'.length,A'.drop B'.length,(List.take_append_drop _ _).symm,by rw [List.length_take];omega⟩
    have hA12:(A1++A2).length=A1.length+A2.length:=List.length_append;have n3:((A1++A2).length:Int)-(B'.length:Int)=(A2.length:Int):=by omega
    refine⟨by omega,?_⟩
    simp only [jD];refine⟨U',A1,A2,B',V',rfl,rfl,by omega,by omega,hA1l,by omega,by omega,by omega,by simp [Za],?_⟩
    rw [n3];simp only [go_sem,hr];have z1:A2.length≠0:=by omega
    have z2:A1.length≠0:=by omega
    refine⟨by omega,(U'++B',A2,A1,V'),Qa (by simp [okS,okV,okC,okL,okH,okB,okE,ja,va,Za,Va,wsA,ws];omega) (kk rfl),⟨by simp only;rw [<-hT];simp,by simp only [List.length_append];omega,?_,?_,by simp only;omega,by simp only;omega⟩,by simp only;omega⟩
    .exact λh=>z1 (List.length_eq_zero_iff.2 h)
    .exact λh=>z2 (List.length_eq_zero_iff.2 h)
   .have hgt' : ¬(B'.length:Int)<(A'.length:Int):=by omega
    simp only [go_sem,hr,hs,fnV,n1,heq',hgt',ne_eq];obtain⟨B1,B2,rfl,hB2l⟩:∃B1 B2,B' = B1++B2/\B2.length=A'.length:=⟨B'.take (B'.length-A'.length),B'.drop (B'.length-A'.length),(List.take_append_drop _ _).symm,by rw [List.length_drop];omega⟩
    have hB12:(B1++B2).length=B1.length+B2.length:=List.length_append;have n3:((B1++B2).length:Int)-(A'.length:Int)=(B1.length:Int):=by omega
    refine⟨by omega,by omega,by omega,?_⟩
    simp only [jD];refine⟨U',A',B1,B2,V',rfl,rfl,by omega,by omega,by omega,by omega,by omega,by omega,by simp [Za],?_⟩
    rw [n3];simp only [go_sem,hr];have z1:B1.length≠0:=by omega
    have z2:B2.length≠0:=by omega
    refine⟨by omega,(U',B2,B1,A'++V'),Qa (by simp [okS,okV,okC,okL,okH,okB,okE,ja,va,Za,Va,wsA,ws];omega) (kk (by simp)),⟨by simp only;rw [<-hT];simp,by simp only;omega,?_,?_,by simp only;omega,by simp only;omega⟩,by simp only;omega⟩
    .exact λh=>z2 (List.length_eq_zero_iff.2 h)
    .exact λh=>z1 (List.length_eq_zero_iff.2 h)
theorem qz{A B:List Mo}(hA:SortM A)(hB:SortM B)(h:∀x∈A,∀y∈B,kM x<=kM y):SortM (A++B):=
 List.pairwise_append.2 ⟨hA,hB,h⟩
theorem xA{A B:List Mo}(h:SortM (A++B)):SortM A:=(List.pairwise_append.1 h).1
theorem Zw{A B:List Mo}(h:SortM (A++B)):SortM B:=(List.pairwise_append.1 h).2.1
theorem Qw{A B:List Mo}(h:SortM (A++B)):∀x∈A,∀y∈B,kM x<=kM y:=(List.pairwise_append.1 h).2.2
theorem XT{A:List Mo}(h:SortM A){i j:Nat}(hi:i<A.length)(hj:j<A.length)(hij:i<=j):kM (A[i])<=kM (A[j]):=by
 by_cases e:i=j
 .subst e;exact Nat.le_refl _
 .exact List.pairwise_iff_getElem.1 h i j hi hj (by omega)
theorem QJ{A:List Mo}(hA:SortM A){s:Nat}(hs:0<s)(hsl:s<=A.length){q:Nat}(h:kM (A.getD (s-1) mo0)<=q):∀x∈A.take s,kM x<=q:=by
 intro x hx;obtain⟨i,hi,rfl⟩:=List.mem_iff_getElem.1 hx;rw [List.length_take]at hi;rw [List.getElem_take];refine Nat.le_trans (XT hA (by omega) (show s-1<A.length by omega) (by omega)) ?_
 rw [List.getD_eq_getElem?_getD,List.getElem?_eq_getElem (by omega)]at h
 exact h
theorem XI{A:List Mo}(hA:SortM A){s:Nat}(hsl:s<A.length){q:Nat}(h:q<=kM (A.getD s mo0)):∀x∈A.drop s,q<=kM x:=by
 intro x hx;obtain⟨i,hi,rfl⟩:=List.mem_iff_getElem.1 hx;rw [List.length_drop]at hi;rw [List.getElem_drop];refine Nat.le_trans ?_ (XT hA hsl (show s+i<A.length by omega) (by omega))
 rw [List.getD_eq_getElem?_getD,List.getElem?_eq_getElem (by omega)]at h
 exact h
theorem getLM(U A V:List Mo){k i:Nat}(h1:k=U.length+i)(h2:i<A.length):(U++A++V).getD k mo0=A.getD i mo0:=by
 subst h1;simp only [List.getD_eq_getElem?_getD];rw [List.getElem?_append_left (by simp;omega),List.getElem?_append_right (by omega)]
 congr 2;omega
end Go.Abs
end
section
namespace Go.Num
def PcsM(k:Nat)(Ls:List (List Mo)):Prop:=∀c∈Ls,c.length=k/\SortM c
theorem uF{k:Nat}:∀{Ls:List (List Mo)},PcsM k Ls->Ls.flatten.length=k*Ls.length
 | [],_=>by simp
 | c::Ls,h=>by
  have:=uF (Ls:=Ls) λd hd=>h d (by simp [hd])
  have hc:=(h c (by simp)).1
  rw [List.flatten_cons,List.length_append,this,hc,List.length_cons,Nat.mul_succ,Nat.add_comm]
theorem W3{k:Nat}{Ls:List (List Mo)}{c:List Mo}(h:PcsM k Ls)(h1:c.length=k)(h2:SortM c):PcsM k (Ls++[c]):=by
 intro d hd;rcases List.mem_append.1 hd with hd | hd
 .exact h d hd
 .rw [List.mem_singleton]at hd;subst hd;exact⟨h1,h2⟩
end Go.Num
namespace Go.Abs
open Go.Num
variable {P:Program} {Γ:Nat->Spec}
set_option maxHeartbeats 4000000 in
theorem xag(hΓ:Holds P Γ){f fi fm fc m N:Nat}(hmN:m<=N)(hm30:m<=1073741824)(hi:Γ fi=.own (wG fc))(hg:Γ fm=.own (zj fc N))(hc:check P f=some (63,(Ye fi fm).strip,[])):Sound P f (.own (uB fc m)):=by
 refine ug hc hΓ (λd args h K hG=>?_);unfold uB at hG;split at hG
 case h_2=>exact hG.elim
 rename_i r ver len n c;obtain⟨rfl,l,post,rfl,rfl,hlen,hr,hok,hK⟩:=hG;refine⟨[r],[⟨(l++post).map mC,5,true⟩],[.one (.own 1048576 ver 5 0 l.length),.one (.lit (.int .i64 l.length)),fnV fc],by simp,rfl,?_,?_,?_,λhfi=>⟨by simp,?_⟩⟩
 .intro i r' b h1 h2;cases i with
  | zero=>simp only [List.getElem?_cons_zero,Option.some.injEq]at h1 h2;subst h1 h2;exact⟨by rw [hr],rfl,of_eq_true (yg _)⟩
  | succ i=>simp at h1
 .simp [exA,exC,exB,nameOf,pinA,fnV]
 .intro a ha;simp only [List.mem_cons,List.not_mem_nil,or_false]at ha;rcases ha with rfl | rfl | rfl
  .simp [pasA,pasC,pasB,nameOf,pinA]
  .exact .lit _
  .exact .lit _
 simp only [go_sem,Ye,hr,fnV,hi,hg];refine Ya (λp:List (List Mo)×List Mo=>⟨mkV [(0,.one (.own 1048576 ver 5 0 l.length)),(1,.one (.lit (.int .i64 l.length))),(2,.one (.lit (.func (.func fc) ⟨[]⟩ ⟨[]⟩))),(6,.one (.lit (.int .i64 20))),(7,.one (.lit (.int .i64 (20*p.1.length:Nat)))),(8,.one (.lit (.int .i64 (20*p.1.length+20:Nat))))],mkH [(1048576,⟨ver,some ⟨(p.1.flatten++p.2++post).map mC,5,true⟩⟩)]⟩)
  (λp=>PcsM 20 p.1/\l.Perm (p.1.flatten++p.2)) (λp=>p.2.length) ([],l) ?_ ?_ ?_
 .exact Qa (by simp [okS,okV,okC,okL,okH,okB,okE,ja,va,Za,Va,wsA,ws]) (kk (by simp))
 .exact⟨λc hc=>by simp at hc,by simp⟩
 .rintro⟨Ls,R⟩ ⟨hL,hp⟩;simp only at hL hp;have lL:=uF hL;have hpl:=hp.length_eq;rw [List.length_append,lL]at hpl;have hokp:=wL hp hok;obtain⟨hokL,hokR⟩:=Yi.1 hokp;by_cases hR:20<=R.length
  .have hle:((20*Ls.length+20:Nat):Int)<=(l.length:Int):=by omega
   obtain⟨S,R',rfl,hS⟩:∃S R',R=S++R'/\S.length=20:=⟨R.take 20,R.drop 20,(List.take_append_drop _ _).symm,by rw [List.length_take];omega⟩
   rw [List.length_append]at hpl;simp only [go_sem,hr,hi,hg,hle];simp only [wG];refine⟨Ls.flatten,S,R'++post,rfl,by rw [lL],by rw [lL,hS],by rw [lL,hS,List.length_append];omega,by omega,by omega,by simp [Za],(Yi.1 hokR).1,λS' hpS hS'=>?_⟩
   have lS':=hpS.length_eq;simp only [go_sem,hr,hi,hg];refine⟨by omega,(Ls++[S'],R'),Qa (by simp [okS,okV,okC,okL,okH,okB,okE,ja,va,Za,Va,wsA,ws];omega) (kk (by simp)),⟨W3 hL (by omega) hS',?_⟩,by simp only;rw [List.length_append];omega⟩
   simp only;refine hp.trans ?_;simp only [List.flatten_append,List.flatten_cons,List.flatten_nil,List.append_nil,List.append_assoc];exact List.Perm.append_left _ (List.Perm.append_right _ hpS)
  .have hle:¬((20*Ls.length+20:Nat):Int)<=(l.length:Int):=by omega
   simp only [go_sem,hr,hi,hg,hle];simp only [wG];refine⟨Ls.flatten,R,post,rfl,by rw [lL],by rw [lL];omega,by rw [lL];omega,by omega,by omega,by simp [Za],hokR,λR' hpR hR'=>?_⟩
   have lR':=hpR.length_eq;simp only [go_sem,hr,hi,hg];refine Ya (λp:Nat×List (List Mo)×List Mo=>⟨mkV [(0,.one (.own 1048576 ver 5 0 l.length)),(1,.one (.lit (.int .i64 l.length))),(2,.one (.lit (.func (.func fc) ⟨[]⟩ ⟨[]⟩))),(6,.one (.lit (.int .i64 p.1)))],mkH [(1048576,⟨ver,some ⟨(p.2.1.flatten++p.2.2++post).map mC,5,true⟩⟩)]⟩)
    (λp=>PcsM p.1 p.2.1/\SortM p.2.2/\p.2.2.length<p.1/\p.1<=2147483648/\l.Perm (p.2.1.flatten++p.2.2)) (λp=>4294967296-p.1) (20,Ls,R') ?_ ?_ ?_
   .exact Qa (by simp [okS,okV,okC,okL,okH,okB,okE,ja,va,Za,Va,wsA,ws]) (kk (by simp))
   .exact⟨hL,hR',by simp only;omega,by simp only;omega,hp.trans (List.Perm.append_left _ hpR)⟩
   .rintro⟨bs,Ks,Q⟩ ⟨hKs,hQ,hQl,hbs,hpK⟩;simp only at hKs hQ hQl hbs hpK;have lK:=uF hKs;have hpl2:=hpK.length_eq;rw [List.length_append,lK]at hpl2;by_cases hdone:bs<l.length
    .have hd' : (bs:Int)<(l.length:Int):=by omega
     have n2:(2:Int)*(bs:Int)=((2*bs:Nat):Int):=by omega
     simp only [go_sem,hr,hi,hg,hd',n2];refine⟨by omega,?_⟩
     refine Ya (λp:Nat×List (List Mo)×List (List Mo)=>⟨mkV [(0,.one (.own 1048576 ver 5 0 l.length)),(1,.one (.lit (.int .i64 l.length))),(2,.one (.lit (.func (.func fc) ⟨[]⟩ ⟨[]⟩))),(6,.one (.lit (.int .i64 bs))),(7,.one (.lit (.int .i64 p.1))),(8,.one (.lit (.int .i64 (p.1+2*bs:Nat))))],mkH [(1048576,⟨ver,some ⟨(p.2.1.flatten++p.2.2.flatten++Q++post).map mC,5,true⟩⟩)]⟩)
      (λp=>(p.1=p.2.1.flatten.length/\PcsM (2*bs) p.2.1)/\PcsM bs p.2.2/\l.Perm (p.2.1.flatten++p.2.2.flatten++Q)) (λp=>p.2.2.length) (0,[],Ks) ?_ ?_ ?_
     .exact Qa (by simp [okS,okV,okC,okL,okH,okB,okE,ja,va,Za,Va,wsA,ws]) (kk (by simp))
     .exact⟨⟨rfl,λc hc=>by simp at hc⟩,hKs,by simpa using hpK⟩
     .rintro⟨g,Ms,Js⟩ ⟨⟨hg0,hMs⟩,hJs,hpJ⟩;simp only at hg0 hMs hJs hpJ;have lM:=uF hMs;have lJ:=uF hJs;have hpl3:=hpJ.length_eq;rw [List.length_append,List.length_append,<-hg0]at hpl3;have hokJ:=wL hpJ hok;have n3:(g:Int)+(bs:Int)=((g+bs:Nat):Int):=by omega
      match Js,hJs,lJ,hpl3,hpJ,hokJ with
      | X::Y::Js,hJs,lJ,hpl3,hpJ,hokJ=>
       have hX:=hJs X (by simp)
       have hY:=hJs Y (by simp)
       have hJ' : PcsM bs Js:=λc hc=>hJs c (by simp [hc])
       simp only [List.flatten_cons,List.length_append,hX.1,hY.1]at hpl3;have hle:((g+2*bs:Nat):Int)<=(l.length:Int):=by omega
       simp only [List.flatten_cons,List.append_assoc,Yi]at hokJ;simp only [go_sem,hr,hi,hg,hle,n2,n3];refine⟨by omega,?_⟩
       simp only [zj];refine⟨Ms.flatten,X,Y,Js.flatten++Q++post,rfl,by rw [<-hg0],by rw [<-hg0,hX.1],by rw [<-hg0,hX.1,hY.1];omega,λh=>?_,λh=>?_,by omega,by omega,by simp only [List.length_append];omega,by omega,hokJ.2.1,hokJ.2.2.1,hX.2,hY.2,by simp [Za],λC hpC hsC=>?_⟩
       .rw [h]at hX;simp only [List.length_nil]at hX;omega
       .rw [h]at hY;simp only [List.length_nil]at hY;omega
       have lC:=hpC.length_eq;rw [List.length_append,hX.1,hY.1]at lC;simp only [go_sem,hr,hi,hg,n2,n3];have lMC:(Ms++[C]).flatten.length=g+2*bs:=by simp only [List.flatten_append,List.flatten_cons,List.flatten_nil,List.append_nil,List.length_append];omega
       refine⟨by omega,by omega,(g+2*bs,Ms++[C],Js),Qa (by simp [okS,okV,okC,okL,okH,okB,okE,ja,va,Za,Va,wsA,ws]) (kk (by simp)),⟨⟨lMC.symm,W3 hMs (by omega) hsC⟩,hJ',?_⟩,by simp only;omega⟩
       refine hpJ.trans ?_;simp only [List.flatten_append,List.flatten_cons,List.flatten_nil,List.append_nil,List.append_assoc];refine List.Perm.append_left _ ?_;rw [<-List.append_assoc];exact List.Perm.append_right _ hpC
      | [X],hJs,lJ,hpl3,hpJ,hokJ=>
       have hX:=hJs X (by simp)
       simp only [List.flatten_cons,List.flatten_nil,List.append_nil,hX.1]at hpl3;have hle:¬((g+2*bs:Nat):Int)<=(l.length:Int):=by omega
       simp only [List.flatten_cons,List.flatten_nil,List.append_nil,List.append_assoc,Yi]at hokJ hpJ;by_cases hQ0:Q=[]
       .have hlt:¬((g+bs:Nat):Int)<(l.length:Int):=by rw [hQ0,List.length_nil]at hpl3;omega
        simp only [go_sem,hr,hi,hg,hle,n2,n3,hlt];have n4:(bs:Int)*2=((2*bs:Nat):Int):=by omega
        simp only [n4];refine⟨by omega,by omega,(2*bs,Ms,X),Qa (by simp [okS,okV,okC,okL,okH,okB,okE,ja,va,Za,Va,wsA,ws]) (kk (by simp [hQ0])),⟨hMs,hX.2,by simp only [hX.1];omega,by simp only;omega,by simp only;rw [hQ0,List.append_nil]at hpJ;exact hpJ⟩,by simp only;omega⟩
       .have hQp:=List.length_pos_iff.2 hQ0;have hlt:((g+bs:Nat):Int)<(l.length:Int):=by omega
        simp only [go_sem,hr,hi,hg,hle,n2,n3,hlt];refine⟨by omega,?_⟩
        simp only [zj];refine⟨Ms.flatten,X,Q,post,rfl,by rw [<-hg0],by rw [<-hg0,hX.1],by rw [<-hg0,hX.1];omega,λh=>?_,hQ0,by omega,by omega,by omega,by omega,hokJ.2.1,hokJ.2.2,hX.2,hQ,by simp [Za],λC hpC hsC=>?_⟩
        .rw [h]at hX;simp only [List.length_nil]at hX;omega
        have lC:=hpC.length_eq;rw [List.length_append,hX.1]at lC;simp only [go_sem,hr,hi,hg,n2,n3];have n4:(bs:Int)*2=((2*bs:Nat):Int):=by omega
        simp only [n4];refine⟨by omega,(2*bs,Ms,C),Qa (by simp [okS,okV,okC,okL,okH,okB,okE,ja,va,Za,Va,wsA,ws]) (kk (by simp)),⟨hMs,hsC,by simp only;omega,by simp only;omega,hpJ.trans (List.Perm.append_left _ hpC)⟩,by simp only;omega⟩
      | [],hJs,lJ,hpl3,hpJ,hokJ=>
       simp only [List.flatten_nil,List.length_nil]at hpl3;have hle:¬((g+2*bs:Nat):Int)<=(l.length:Int):=by omega
       have hlt:¬((g+bs:Nat):Int)<(l.length:Int):=by omega
       simp only [go_sem,hr,hi,hg,hle,n2,n3,hlt];have n4:(bs:Int)*2=((2*bs:Nat):Int):=by omega
       simp only [n4];refine⟨by omega,by omega,(2*bs,Ms,Q),Qa (by simp [okS,okV,okC,okL,okH,okB,okE,ja,va,Za,Va,wsA,ws]) (kk (by simp)),⟨hMs,hQ,by simp only;omega,by simp only;omega,by simpa using hpJ⟩,by simp only;omega⟩
    .have hd' : ¬(bs:Int)<(l.length:Int):=by omega
     simp only [go_sem,hr,hi,hg,hd'];refine hK _ hpK ?_;match Ks,hKs,lK,hpl2 with
     | [],_,_,_=>exact hQ
     | [X],hKs,lK,hpl2=>
      have:Q=[]:=List.length_eq_zero_iff.1 (by simp only [List.length_singleton,Nat.mul_one]at hpl2;omega)
      rw [this];simp only [List.flatten_cons,List.flatten_nil,List.append_nil];exact(hKs X (by simp)).2
     | X::Y::Ks,hKs,lK,hpl2=>
      exfalso;simp only [List.length_cons]at hpl2;have h2:bs*2<=bs*(Ks.length+1+1):=Nat.mul_le_mul_left _ (by omega)
      omega
end Go.Abs
end
