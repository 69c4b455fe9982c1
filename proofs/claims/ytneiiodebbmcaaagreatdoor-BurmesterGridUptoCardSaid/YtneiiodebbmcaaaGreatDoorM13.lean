/-
  Parts of the proof, merged: BurO.
-/
import Derived.Test.YtneiiodebbmcaaaGreatDoorM12
set_option linter.unusedVariables false
set_option linter.unusedSimpArgs false
set_option maxRecDepth 100000
section
namespace Go.Num
open Go.Abs
abbrev Gd:=Arc×R×Int×Int
def i64ok(n:Int):Prop:=-9223372036854775808<=n/\n<=9223372036854775807
def WLG(g:Gd):Prop:=WLA g.1/\WLR g.2.1/\i64ok g.2.2.1/\i64ok g.2.2.2
def gl(g:Gd):Nat:=max (al g.1) (rl g.2.1)
def atQ(g:Gd)(i j:Nat):V2:=(rv g.1.1+(i:Int)*rv g.2.1,rv g.1.2+(j:Int)*rv g.2.1)
def rngB(g:Gd):Bool:=decide (rv g.2.1<=0) || (decide (g.2.2.1<1) || (decide (16<g.2.2.1) || (decide (g.2.2.2<1) || decide (16<g.2.2.2))))
def gridC(g:Gd):Nat:=if avld g.1=false∨vldR g.2.1=false then 2 else if rngB g=true then 3 else 0
def hit(l:List Ps)(g:Gd)(j:Nat):Nat->List V2
 | 0=>[]
 | i+1=>if dtL l (atQ g i j)=0 then hit l g j i++[atQ g i j] else hit l g j i
def hits(l:List Ps)(g:Gd):Nat->List V2
 | 0=>[]
 | j+1=>hits l g j++hit l g j g.2.2.1.toNat
def srC(l:List Ps)(g:Gd):Nat:=if fourC l≠0 then fourC l else gridC g
def srL(l:List Ps)(g:Gd):List V2:=if srC l g=0 then hits l g g.2.2.2.toNat else []
theorem Qai{g:Gd}(h:gridC g=0):avld g.1=true/\vldR g.2.1=true/\¬rv g.2.1<=0/\1<=g.2.2.1/\g.2.2.1<=16/\1<=g.2.2.2/\g.2.2.2<=16:=by
 unfold gridC at h;split at h
 .contradiction
 .rename_i h1;split at h
  .contradiction
  .rename_i h2;simp only [not_or,Bool.not_eq_false]at h1;unfold rngB at h2;simp only [Bool.or_eq_true,decide_eq_true_eq,not_or]at h2;exact⟨h1.1,h1.2,h2.1,by omega,by omega,by omega,by omega⟩
theorem rng6(g:Gd):∃p1 p2 p3 p4 p5:Prop,(ordQ (rv g.2.1) 0<=0)=p1/\(g.2.2.1<1)=p2/\(16<g.2.2.1)=p3/\(g.2.2.2<1)=p4/\(16<g.2.2.2)=p5/\
  ((rngB g=true/\(p1=True∨(p1=False/\(p2=True∨(p2=False/\(p3=True∨(p3=False/\(p4=True∨(p4=False/\p5=True)))))))))∨(rngB g=false/\p1=False/\p2=False/\p3=False/\p4=False/\p5=False)):=by
 refine⟨_,_,_,_,_,rfl,rfl,rfl,rfl,rfl,?_⟩;have e:rngB g=decide (rv g.2.1<=0∨g.2.2.1<1∨16<g.2.2.1∨g.2.2.2<1∨16<g.2.2.2):=by unfold rngB;simp only [Bool.decide_or]
 rw [e];simp only [Jaj,eq_iff_iff,iff_true,iff_false,decide_eq_true_eq,decide_eq_false_iff_not];by_cases c1:rv g.2.1<=0 <;> by_cases c2:g.2.2.1<1 <;> by_cases c3:16<g.2.2.1 <;> by_cases c4:g.2.2.2<1 <;> by_cases c5:16<g.2.2.2 <;> simp [c1,c2,c3,c4,c5]
theorem yz{i:Nat}(h:i<=16):rz ((i:Int):Rat)<=2:=by
 have h1:=Uat (i:Int);have h2:zs (i:Int)<=2:=by
  match i,h with
  | 0,_=>exact Xo (by decide)
  | 1,_=>exact Xo (by decide)
  | 2,_=>exact Xo (by decide)
  | 3,_=>exact Xo (by decide)
  | 4,_=>exact Xo (by decide)
  | 5,_=>exact Xo (by decide)
  | 6,_=>exact Xo (by decide)
  | 7,_=>exact Xo (by decide)
  | 8,_=>exact Xo (by decide)
  | 9,_=>exact Xo (by decide)
  | 10,_=>exact Xo (by decide)
  | 11,_=>exact Xo (by decide)
  | 12,_=>exact Xo (by decide)
  | 13,_=>exact Xo (by decide)
  | 14,_=>exact Xo (by decide)
  | 15,_=>exact Xo (by decide)
  | 16,_=>exact Xo (by decide)
  | n+17,h=>exact absurd h (by omega)
 omega
theorem xbX(l:List Ps)(g:Gd)(j:Nat):hits l g j++hit l g j 0=hits l g j:=List.append_nil _
theorem Qbx{l:List Ps}{g:Gd}{i j:Nat}(h:dtL l (atQ g i j)=0):hits l g j++hit l g j (i+1)=hits l g j++hit l g j i++[atQ g i j]:=by
 simp only [hit];rw [if_pos h,List.append_assoc]
theorem Yba{l:List Ps}{g:Gd}{i j:Nat}(h:¬dtL l (atQ g i j)=0):hits l g j++hit l g j (i+1)=hits l g j++hit l g j i:=by
 simp only [hit];rw [if_neg h]
theorem vbb{l:List Ps}{g:Gd}{i j:Nat}{Q:V2}(h:atQ g i j=Q):hits l g j++hit l g j (i+1)=if dtL l Q=0 then hits l g j++hit l g j i++[Q] else hits l g j++hit l g j i:=by
 subst h;by_cases hz:dtL l (atQ g i j)=0
 .rw [if_pos hz];exact Qbx hz
 .rw [if_neg hz];exact Yba hz
theorem qaK{l:List Ps}{g:Gd}(h:srC l g≠0):srL l g=[]:=if_neg h
theorem wbG{x s:R}{i:Nat}(wx:WLR x)(ws:WLR s)(lx:rl x<=1000)(ls:rl s<=1000)(hi:i<=16):rz (rv x+((i:Int):Rat)*rv s)<=10000:=by
 have h1:=yz hi;have h2:=Jg wx;have h3:=Jg ws;have h4:=qc ((i:Int):Rat) (rv s);have h5:=Ql (rv x) (((i:Int):Rat)*rv s);omega
theorem Xbs{g:Gd}(hw:WLG g)(hl:gl g<=1000){i j:Nat}(hi:i<=16)(hj:j<=16):zq (atQ g i j)<=10000:=by
 obtain⟨l1,l2⟩:=Nat.max_le.1 hl;exact Nat.max_le.2 ⟨wbG hw.1.1 hw.2.1 (Nat.max_le.1 l1).1 l2 hi,wbG hw.1.2 hw.2.1 (Nat.max_le.1 l1).2 l2 hj⟩
theorem XbJ{l:List Ps}{Q:V2}(hl:okPs 1000 l)(h:fourC l=0)(hq:zq Q<=10000):rz (dtL l Q)<=4294967296:=by
 obtain⟨q1,q2⟩:=Nat.max_le.1 hq;have e:=wbn hl h (Qj Q.1) (Qj Q.2) q1 q2;rw [Wb,Wb]at e;exact e
theorem Qal(l:List Ps)(g:Gd)(j:Nat):∀n,(hit l g j n).length<=n
 | 0=>Nat.le_refl _
 | n+1=>by
  have:=Qal l g j n;simp only [hit];split
  .rw [List.length_append];simp only [List.length_cons,List.length_nil];omega
  .omega
theorem yY{l:List Ps}{g:Gd}(h:g.2.2.1<=16):∀n,(hits l g n).length<=16*n
 | 0=>Nat.le_refl _
 | n+1=>by
  have h1:=yY (l:=l) h n;have h2:=Qal l g n g.2.2.1.toNat;simp only [hits,List.length_append];omega
end Go.Num
namespace Go.Abs
open Go.Num
variable {P:Program} {Γ:Nat->Spec}
def gdC(g:Gd):List C:=[cb g.1.1,cn g.1.1,cd g.1.1,cb g.1.2,cn g.1.2,cd g.1.2,cb g.2.1,cn g.2.1,cd g.2.1,.lit (.int .i64 g.2.2.1),.lit (.int .i64 g.2.2.2)]
def gdA(g:Gd):AV:=.agg (gdC g)
theorem WaV(x y:Gd)(h:gdA x=gdA y):x=y:=by
 simp only [gdA,gdC,AV.agg.injEq,List.cons.injEq,and_true]at h;obtain⟨h1,h2,h3,h4,h5,h6,h7,h8,h9,h10,h11⟩:=h;have e1:aC x.1=aC y.1:=by simp only [aC,h1,h2,h3,h4,h5,h6]
 simp only [C.lit.injEq,Value.int.injEq,true_and]at h10 h11;exact Prod.ext (WaM e1) (Prod.ext (qbB h7 h8 h9) (Prod.ext h10 h11))
def onGd(k:Gd->Prop)(a:AV):Prop:=onE gdA (λg=>WLG g/\k g) a
@[congr] theorem Ub0{k:Gd->Prop}{a a'}(h:a=a'):onGd k a=onGd k a':=by subst h;rfl
theorem zbj{β:Type}{T:Gd->(β->Prop)->Prop}(h:∀x,GoodT (T x)){a:AV}:GoodT λK=>onGd (λx=>T x K) a:=
 JD (e:=gdA) (T:=λp K=>WLG p/\T p K) WaV λp=>GoodT.and (c:=WLG p) (T:=T p) λ_=>h p
theorem kbl(k:Gd->Prop)(g:Gd):onGd k (.agg [cb g.1.1,cn g.1.1,cd g.1.1,cb g.1.2,cn g.1.2,cd g.1.2,cb g.2.1,cn g.2.1,cd g.2.1,.lit (.int .i64 g.2.2.1),.lit (.int .i64 g.2.2.2)])=(WLG g/\k g):=
 propext ⟨λ⟨x,h,hk⟩=>by have:=WaV x g h.symm;subst this;exact hk,λh=>⟨g,rfl,h⟩⟩
theorem Jp(g:Gd):gdA g=.agg [cb g.1.1,cn g.1.1,cd g.1.1,cb g.1.2,cn g.1.2,cd g.1.2,cb g.2.1,cn g.2.1,cd g.2.1,.lit (.int .i64 g.2.2.1),.lit (.int .i64 g.2.2.2)]:=eq_of_heq (HEq.refl _)
theorem jaA(g:Gd):CleanL (gdC g):=by
 unfold gdC;repeat (first | exact ybI | refine vam (of_eq_true (jj _)) ?_ | refine vam (of_eq_true (Zj _)) ?_ | refine vam (of_eq_true (Jj _)) ?_ | refine vam (.lit _) ?_ | refine vam .emp ?_)
attribute [go_sem,go_sem ↓] kbl Jp
def kah(l:List AV)(K:AV->Prop):Prop:=
 match l with
 | [a]=>onGd (λg=>gl g<=1000/\K (.one (.lit (.int .i64 (gridC g:Nat))))) a
 | _=>False
theorem Xaq a K:kah [a] K=(onGd (λg=>gl g<=1000/\K (.one (.lit (.int .i64 (gridC g:Nat))))) a):=propext Iff.rfl
@[congr] theorem qbP{K}{l l'}(h:l=l'):kah l K=kah l' K:=by subst h;rfl
attribute [go_sem,go_sem ↓] Xaq
def Waj(l:List AV)(K:AV->Prop):Prop:=
 match l with
 | [a,i,j]=>onGd (λg=>asInt (λk i=>asInt (λk' j=>k=.i64/\k' = .i64/\(0<=i/\i<=16)/\(0<=j/\j<=16)/\gl g<=1000/\K (pQ (atQ g i.toNat j.toNat))) j) i) a
 | _=>False
theorem WaC a i j K:Waj [a,i,j] K=(onGd (λg=>asInt (λk i=>asInt (λk' j=>k=.i64/\k' = .i64/\(0<=i/\i<=16)/\(0<=j/\j<=16)/\gl g<=1000/\K (pQ (atQ g i.toNat j.toNat))) j) i) a):=propext Iff.rfl
@[congr] theorem ybO{K}{l l'}(h:l=l'):Waj l K=Waj l' K:=by subst h;rfl
attribute [go_sem,go_sem ↓] WaC
def XJ(l:List AV)(K:AV->Prop):Prop:=
 match l with
 | [a,b]=>onPs (λl=>onGd (λg=>okPs 1000 l/\gl g<=1000/\srC l g=0/\K (qsA (srL l g))) b) a
 | _=>False
theorem zT a b K:XJ [a,b] K=(onPs (λl=>onGd (λg=>okPs 1000 l/\gl g<=1000/\srC l g=0/\K (qsA (srL l g))) b) a):=propext Iff.rfl
@[congr] theorem zbA{K}{l l'}(h:l=l'):XJ l K=XJ l' K:=by subst h;rfl
attribute [go_sem,go_sem ↓] zT
def yl(tE:Nat)(l:List AV)(K:AV->Prop):Prop:=
 match l with
 | [a,b]=>onPs (λl=>onGd (λg=>okPs 1000 l/\gl g<=1000/\K (.tup [qsA (srL l g),errV tE (srC l g)])) b) a
 | _=>False
theorem xO tE a b K:yl tE [a,b] K=(onPs (λl=>onGd (λg=>okPs 1000 l/\gl g<=1000/\K (.tup [qsA (srL l g),errV tE (srC l g)])) b) a):=propext Iff.rfl
@[congr] theorem qbA tE{K}{l l'}(h:l=l'):yl tE l K=yl tE l' K:=by subst h;rfl
attribute [go_sem,go_sem ↓] xO
theorem vaa(tE:Nat):Good (yl tE):=Ya λas=>by
 unfold yl;split
 .exact(VB λ_=>(zbj λ_=>(.and λ_=>(.and λ_=>(.ret _)))))
 .exact .of λK hk=>hk.elim
def Xc(f0 f1 f2 f3 f4 f5 f6 f7 f8 tE:Nat):AC:=(.seq (.ops false [.u 3 (.box 11 (.t 1)),.m 4 (.c (.one .emp)),.m 5 (.c (.one (.lit .nilIface)))])
 (.fg [0,3] (.seq (.seq (.ops false [.m 15 (.t 0),.u 16 (.call f0 [(.t 15)]),.m 6 (.t 16)])
 (.fg [0,3,6] (.seq (.ops false [.m 17 (.t 6),.u 18 (.binn .neq (.t 17) (.c (.one (.lit .nilIface))))])
 (.fg [0,3,6,18] (.cond (.t 18) (.seq (.ops false [.m 19 (.t 6),.m 4 (.c (.one .emp)),.m 5 (.t 19)])
 .ret) .skip)))))
 (.fg [0,3] (.seq (.seq (.ops false [.u 20 (.fa 0 (.t 3)),.u 21 (.ld none 6 true (.t 20)),.u 22 (.call f1 [(.t 21)]),.u 23 (.un .not (.t 22)),.m 24 (.t 23),.w 25 24 false (.fa 6 (.t 3)),.w 26 24 false (.ld none 3 true (.t 25)),.w 27 24 false (.call f2 [(.t 26)]),.w 28 24 false (.un .not (.t 27)),.u 29 (.pick (.t 24) .tr (.t 28))])
 (.fg [0,3,29] (.cond (.t 29) (.seq (.ops false [.u 30 (.iface tE (.i 2)),.m 4 (.c (.one .emp)),.m 5 (.t 30)])
 .ret) .skip)))
 (.fg [0,3] (.seq (.seq (.ops false [.u 31 (.fa 6 (.t 3)),.u 32 (.ld none 3 true (.t 31)),.u 33 (.call f3 [(.t 32)]),.u 34 (.bin .leq (.t 33) (.i 0)),.m 35 (.t 34),.w 36 35 false (.fa 9 (.t 3)),.w 37 35 false (.ld none 1 false (.t 36)),.w 38 35 false (.bin .lss (.t 37) (.i 1)),.u 39 (.pick (.t 35) .tr (.t 38)),.m 40 (.t 39),.w 41 40 false (.fa 9 (.t 3)),.w 42 40 false (.ld none 1 false (.t 41)),.w 43 40 false (.bin .gtr (.t 42) (.i 16)),.u 44 (.pick (.t 40) .tr (.t 43)),.m 45 (.t 44),.w 46 45 false (.fa 10 (.t 3)),.w 47 45 false (.ld none 1 false (.t 46)),.w 48 45 false (.bin .lss (.t 47) (.i 1)),.u 49 (.pick (.t 45) .tr (.t 48)),.m 50 (.t 49),.w 51 50 false (.fa 10 (.t 3)),.w 52 50 false (.ld none 1 false (.t 51)),.w 53 50 false (.bin .gtr (.t 52) (.i 16)),.u 54 (.pick (.t 50) .tr (.t 53))])
 (.fg [0,3,54] (.cond (.t 54) (.seq (.ops false [.u 55 (.iface tE (.i 3)),.m 4 (.c (.one .emp)),.m 5 (.t 55)])
 .ret) .skip)))
 (.fg [0,3] (.seq (.ops false [.m 57 (.t 0),.u 58 (.call f4 [(.t 57)]),.m 56 (.t 58),.u 59 (.ext 0 (.t 56)),.u 60 (.ext 1 (.t 56)),.m 7 (.t 59),.m 8 (.t 60)])
 (.fg [3,7,8] (.seq (.seq (.ops false [.m 61 (.t 8),.u 62 (.binn .neq (.t 61) (.c (.one (.lit .nilIface))))])
 (.fg [3,7,8,62] (.cond (.t 62) (.seq (.ops false [.m 63 (.t 8),.m 4 (.c (.one .emp)),.m 5 (.t 63)])
 .ret) .skip)))
 (.fg [3,7] (.seq (.ops false [.m 9 (.c (.one .emp))])
 (.fg [3,7,9] (.seq (.seq (.ops false [.u 64 (.fa 10 (.t 3)),.u 65 (.ld none 1 false (.t 64)),.m 66 (.i 0)])
 (.fg [3,7,9,65,66] (.block 0 (.loop (.seq (.ops false [.u 67 (.bin .lss (.t 66) (.t 65))])
 (.fg [3,7,9,65,66,67] (.seq (.cond (.t 67) .skip (.exit 0))
 (.fg [3,7,9,65,66] (.seq (.block 1 (.seq (.ops false [.m 68 (.t 66),.m 10 (.t 68)])
 (.fg [3,7,9,10,65,66] (.seq (.ops false [.u 69 (.fa 9 (.t 3)),.u 70 (.ld none 1 false (.t 69)),.m 71 (.i 0)])
 (.fg [3,7,9,10,65,66,70,71] (.block 2 (.loop (.seq (.ops false [.u 72 (.bin .lss (.t 71) (.t 70))])
 (.fg [3,7,9,10,65,66,70,71,72] (.seq (.cond (.t 72) .skip (.exit 2))
 (.fg [3,7,9,10,65,66,70,71] (.seq (.block 3 (.seq (.ops false [.m 73 (.t 71),.m 11 (.t 73)])
 (.fg [3,7,9,10,11,65,66,70,71] (.seq (.ops true [.u 74 (.fa 0 (.t 3)),.u 75 (.fa 0 (.t 74)),.u 76 (.ld none 3 true (.t 75)),.m 77 (.t 11),.u 78 (.call f5 [(.t 77)]),.u 79 (.fa 6 (.t 3)),.u 80 (.ld none 3 true (.t 79)),.u 81 (.call f6 [(.t 78),(.t 80)]),.u 82 (.call f7 [(.t 76),(.t 81)]),.u 83 (.fa 0 (.t 3)),.u 84 (.fa 3 (.t 83)),.u 85 (.ld none 3 true (.t 84)),.m 86 (.t 10),.u 87 (.call f5 [(.t 86)]),.u 88 (.fa 6 (.t 3)),.u 89 (.ld none 3 true (.t 88)),.u 90 (.call f6 [(.t 87),(.t 89)]),.u 91 (.call f7 [(.t 85),(.t 90)]),.u 92 (.build [.x 3 (.t 82),.x 3 (.t 91)]),.u 12 (.alloc [(.lit (.bool false)),.emp,.emp,(.lit (.bool false)),.emp,.emp]),.n (.st none 6 (.t 12) (.t 92))])
 (.fg [3,7,9,10,12,65,66,70,71] (.seq (.ops false [.m 94 (.t 7),.u 95 (.fa 0 (.t 12)),.u 96 (.ld none 3 true (.t 95)),.u 97 (.fa 3 (.t 12)),.u 98 (.ld none 3 true (.t 97)),.u 99 (.call f8 [(.t 94),(.t 96),(.t 98)]),.m 93 (.t 99),.u 100 (.ext 0 (.t 93)),.u 101 (.ext 1 (.t 93)),.u 13 (.alloc [(.lit (.bool false)),.emp,.emp]),.n (.st none 3 (.t 13) (.t 100)),.m 14 (.t 101)])
 (.fg [3,7,9,10,12,13,14,65,66,70,71] (.seq (.seq (.ops false [.m 102 (.t 14),.u 103 (.binn .neq (.t 102) (.c (.one (.lit .nilIface))))])
 (.fg [3,7,9,10,12,13,14,65,66,70,71,103] (.cond (.t 103) (.seq (.ops false [.m 104 (.t 14),.m 4 (.c (.one .emp)),.m 5 (.t 104)])
 .ret) .skip)))
 (.fg [3,7,9,10,12,13,65,66,70,71] (.seq (.ops false [.u 105 (.ld none 3 true (.t 13)),.u 106 (.call f3 [(.t 105)]),.u 107 (.bin .eql (.t 106) (.i 0))])
 (.fg [3,7,9,10,12,65,66,70,71,107] (.cond (.t 107) (.ops false [.m 108 (.t 9),.u 109 (.ld none 6 true (.t 12)),.u 110 (.row 6 [[.x 6 (.t 109)]]),.u 111 (.app 6 (.t 108) (.t 110)),.m 9 (.t 111)]) .skip))))))))))))
 (.fg [3,7,9,10,65,66,70,71] (.ops false [.u 112 (.bin .add (.t 71) (.i 1)),.m 71 (.t 112)]))))))))))))))
 (.fg [3,7,9,65,66] (.ops false [.u 113 (.bin .add (.t 66) (.i 1)),.m 66 (.t 113)])))))))))))
 (.fg [9] (.seq (.ops false [.m 114 (.t 9),.m 4 (.t 114),.m 5 (.c (.one (.lit .nilIface)))])
 .ret)))))))))))))))))
set_option maxHeartbeats 8000000 in
theorem zX(hΓ:Holds P Γ){f fk fv fva fs fb fo fm fa fe tE:Nat}(hk:Γ fk=.dat false (uz tE))(hv:Γ fv=.dat true Qe)(hva:Γ fva=.dat true kd)(hs:Γ fs=.dat true qg)(hb:Γ fb=.dat false qA)(ho:Γ fo=.dat false wB)(hm:Γ fm=.dat false vl)(ha:Γ fa=.dat false jl)(he:Γ fe=.dat false (vv tE))(hc:check P f=some (115,(Xc fk fv fva fs fb fo fm fa fe tE).strip,[.tmp 4,.tmp 5])):Sound P f (.dat false (yl tE)):=by
 refine Wa hc (vaa tE) hΓ (λargs K hcl hfi hG=>?_);match args,hG with
 | [a,b],hG=>
  obtain⟨l,rfl,hwl,g,rfl,hw,hok,hl,hK⟩:=hG;refine⟨by simp,?_⟩
  have hl2:=Vi hok (by decide:1000<=100000000)
  have e0:=ub tE;obtain⟨wA,wR,wi,wj⟩:=hw;have l1:al g.1<=100000000:=Nat.le_trans (Nat.le_trans (Nat.le_max_left _ _) hl) (by decide)
  have l2:rl g.2.1<=4294967296:=Nat.le_trans (Nat.le_trans (Nat.le_max_right _ _) hl) (by decide)
  by_cases f0:fourC l=0
  case neg=>
   have e1:=vc tE f0;have es:srC l g=fourC l:=if_pos f0;rw [qaK (by rw [es];exact f0),es,e1]at hK
   simp only [go_sem,Xc,hk,Jp,Qb,e1];repeat first | refine Ja (by with_reducible assumption) ?_ | refine Ja (Nat.le_trans (by with_reducible assumption) (by decide)) ?_ | refine Ja (by decide) ?_
   exact hK
  cases h1:avld g.1 with
  | false=>
   have es:srC l g=2:=by unfold srC;rw [if_neg (by omega)];unfold gridC;rw [if_pos (.inl h1)]
   rw [qaK (by rw [es];decide),es,vc tE (by decide)]at hK
   simp only [go_sem,Xc,hk,hv,Jp,Qb,f0,e0,h1];repeat first | refine Ja (by with_reducible assumption) ?_ | refine Ja (Nat.le_trans (by with_reducible assumption) (by decide)) ?_ | refine Ja (by decide) ?_
   exact hK
  | true=>
  cases h2:vldR g.2.1 with
  | false=>
   have es:srC l g=2:=by unfold srC;rw [if_neg (by omega)];unfold gridC;rw [if_pos (.inr h2)]
   rw [qaK (by rw [es];decide),es,vc tE (by decide)]at hK
   simp only [go_sem,Xc,hk,hv,hva,Jp,Qb,f0,e0,h1,h2];repeat first | refine Ja (by with_reducible assumption) ?_ | refine Ja (Nat.le_trans (by with_reducible assumption) (by decide)) ?_ | refine Ja (by decide) ?_
   exact hK
  | true=>
   have ec:gridC g=if rngB g=true then 3 else 0:=by unfold gridC;rw [if_neg (by simp [h1,h2])]
   obtain⟨p1,p2,p3,p4,p5,q1,q2,q3,q4,q5,h⟩:=rng6 g;rcases h with⟨er,h⟩ | ⟨er,rfl,rfl,rfl,rfl,rfl⟩
   .have es:srC l g=3:=by unfold srC;rw [if_neg (by omega),ec,er,if_pos rfl]
    rw [qaK (by rw [es];decide),es,vc tE (by decide)]at hK
    rcases h with rfl | ⟨rfl,rfl | ⟨rfl,rfl | ⟨rfl,rfl | ⟨rfl,rfl⟩⟩⟩⟩
    all_goals
     simp only [go_sem,Xc,hk,hv,hva,hs,Jp,Qb,f0,e0,h1,h2,q1,q2,q3,q4,q5,decide_true,decide_false];repeat first | refine Ja (by with_reducible assumption) ?_ | refine Ja (Nat.le_trans (by with_reducible assumption) (by decide)) ?_ | refine Ja (by decide) ?_
     exact hK
   have es:srC l g=0:=by unfold srC;rw [if_neg (by omega),ec,er,if_neg (by decide)]
   have esl:srL l g=hits l g g.2.2.2.toNat:=if_pos es;rw [esl,es,uaV,e0]at hK;have n1:1<=g.2.2.1:=Int.not_lt.1 (of_eq_false q2);have n16:g.2.2.1<=16:=Int.not_lt.1 (of_eq_false q3);have r1:1<=g.2.2.2:=Int.not_lt.1 (of_eq_false q4);have r16:g.2.2.2<=16:=Int.not_lt.1 (of_eq_false q5);have hw:WLG g:=⟨wA,wR,wi,wj⟩;have wx:=wA.1;have wy:=wA.2;obtain⟨k1,k2⟩:=Nat.max_le.1 hl;have lx:=Nat.le_trans (Nat.max_le.1 k1).1 (by decide:1000<=1073741824)
   have ly:=Nat.le_trans (Nat.max_le.1 k1).2 (by decide:1000<=1073741824)
   have lz:=Nat.le_trans k2 (by decide:1000<=1073741824)
   have nb:∀{i:Nat},i<=16->rz ((i:Int):Rat)<=2:=λh=>yz h;have mb:∀{i:Nat},i<=16->rz (((i:Int):Rat)*rv g.2.1)<=10000:=λ{i} h=>by have:=qc ((i:Int):Rat) (rv g.2.1);have:=Jg wR;have:=yz h;omega
   obtain⟨pc,hev⟩:=JL hok f0;have cc:=qB pc.canon;have i0:=Uy pc.canon.ins;have i1:=uD (p:=bcL l) (N:=1000000000) (Nat.le_trans pc.size (by decide))
   have i2:=Nat.le_trans pc.size (by decide:_<=100000000)
   have cG:CleanR [[cb g.1.1,cn g.1.1,cd g.1.1,cb g.1.2,cn g.1.2,cd g.1.2,cb g.2.1,cn g.2.1,cd g.2.1,.lit (.int .i64 g.2.2.1),.lit (.int .i64 g.2.2.2)]]:=clR1 (jaA g);simp only [go_sem,Xc,hk,hv,hva,hs,hb,Jp,Qb,f0,e0,h1,h2,q1,q2,q3,q4,q5,decide_false];repeat first | refine Ja (by with_reducible assumption) ?_ | refine Ja (Nat.le_trans (by with_reducible assumption) (by decide)) ?_ | refine Ja (by decide) ?_
   refine Xa (λj:Nat=>if hits l g j=[] then ⟨mkV [(3,.one (.ptr 3 1 0 0)),(7,.one (.slice ((mcs (bcL l)).map mC))),(9,.one .emp),(65,.one (.lit (.int .i64 g.2.2.2))),(66,.one (.lit (.int .i64 ((j:Nat):Int))))],mkH [(3,⟨1,some ⟨[[cb g.1.1,cn g.1.1,cd g.1.1,cb g.1.2,cn g.1.2,cd g.1.2,cb g.2.1,cn g.2.1,cd g.2.1,.lit (.int .i64 g.2.2.1),.lit (.int .i64 g.2.2.2)]],11,true⟩⟩)]⟩ else ⟨mkV [(3,.one (.ptr 3 1 0 0)),(7,.one (.slice ((mcs (bcL l)).map mC))),(9,.one (.own 111 1 6 0 (hits l g j).length)),(65,.one (.lit (.int .i64 g.2.2.2))),(66,.one (.lit (.int .i64 ((j:Nat):Int))))],mkH [(3,⟨1,some ⟨[[cb g.1.1,cn g.1.1,cd g.1.1,cb g.1.2,cn g.1.2,cd g.1.2,cb g.2.1,cn g.2.1,cd g.2.1,.lit (.int .i64 g.2.2.1),.lit (.int .i64 g.2.2.2)]],11,true⟩⟩),(111,⟨1,some ⟨((hits l g j).map acan).map aC,6,true⟩⟩)]⟩) (λj=>(j:Int)<=g.2.2.2) (λj=>g.2.2.2.toNat-j) 0 ?_ ?_ ?_
   .rw [if_pos (show hits l g 0=[] from rfl)];exact Qa (by simp [okS,okV,okC,okL,okH,okB,okE,ja,Va,qa,ka,wsA,ws,Wc]) ⟨uu cG,trivial⟩
   .show((0:Nat):Int)<=g.2.2.2;omega
   .intro j hj;by_cases hlt:(j:Int)<g.2.2.2
    case neg=>
     have qlt:((j:Int)<g.2.2.2)=False:=eq_false hlt;have ej:g.2.2.2.toNat=j:=by omega
     rw [ej]at hK;have ht:(((hits l g j).map acan).map aC).take (hits l g j).length=((hits l g j).map acan).map aC:=List.take_of_length_le (by rw [List.length_map,List.length_map];exact Nat.le_refl _)
     by_cases hL:hits l g j=[]
     .rw [if_pos hL];simp only [go_sem,Jp,Qb,qlt,decide_false];rw [hL]at hK;exact hK
     .rw [if_neg hL];simp only [go_sem,Jp,Qb,qlt,decide_false,List.length_map,ht];exact hK
    have qlt:((j:Int)<g.2.2.2)=True:=eq_true hlt;have j16:j<=16:=by omega
    have hj64:(j:Int)<=9223372036854775807:=by omega
    have hLl:=yY (l:=l) n16 j;by_cases hL0:hits l g j=[];all_goals
     simp only [hL0,go_sem,Jp,Qb,qlt,decide_true];refine Xa (λi:Nat=>if hits l g j++hit l g j i=[] then ⟨mkV [(3,.one (.ptr 3 1 0 0)),(7,.one (.slice ((mcs (bcL l)).map mC))),(9,.one .emp),(10,.one (.lit (.int .i64 ((j:Nat):Int)))),(65,.one (.lit (.int .i64 g.2.2.2))),(66,.one (.lit (.int .i64 ((j:Nat):Int)))),(70,.one (.lit (.int .i64 g.2.2.1))),(71,.one (.lit (.int .i64 ((i:Nat):Int))))],mkH [(3,⟨1,some ⟨[[cb g.1.1,cn g.1.1,cd g.1.1,cb g.1.2,cn g.1.2,cd g.1.2,cb g.2.1,cn g.2.1,cd g.2.1,.lit (.int .i64 g.2.2.1),.lit (.int .i64 g.2.2.2)]],11,true⟩⟩)]⟩ else ⟨mkV [(3,.one (.ptr 3 1 0 0)),(7,.one (.slice ((mcs (bcL l)).map mC))),(9,.one (.own 111 1 6 0 (hits l g j++hit l g j i).length)),(10,.one (.lit (.int .i64 ((j:Nat):Int)))),(65,.one (.lit (.int .i64 g.2.2.2))),(66,.one (.lit (.int .i64 ((j:Nat):Int)))),(70,.one (.lit (.int .i64 g.2.2.1))),(71,.one (.lit (.int .i64 ((i:Nat):Int))))],mkH [(3,⟨1,some ⟨[[cb g.1.1,cn g.1.1,cd g.1.1,cb g.1.2,cn g.1.2,cd g.1.2,cb g.2.1,cn g.2.1,cd g.2.1,.lit (.int .i64 g.2.2.1),.lit (.int .i64 g.2.2.2)]],11,true⟩⟩),(111,⟨1,some ⟨((hits l g j++hit l g j i).map acan).map aC,6,true⟩⟩)]⟩) (λi=>(i:Int)<=g.2.2.1) (λi=>g.2.2.1.toNat-i) 0 ?_ ?_ ?_
     .simp only [xbX,hL0,↓reduceIte]
      first | exact Qa (by simp [okS,okV,okC,okL,okH,okB,okE,ja,Va,qa,ka,wsA,ws,Wc]) ⟨uu cG,trivial⟩ | exact Qa (by simp [okS,okV,okC,okL,okH,okB,okE,ja,Va,qa,ka,wsA,ws,Wc]) ⟨uu cG,wbf rfl,trivial⟩
     .show((0:Nat):Int)<=g.2.2.1;omega
     .intro i hi;clear hL0;by_cases hit1:(i:Int)<g.2.2.1
      case neg=>
       have qit:((i:Int)<g.2.2.1)=False:=eq_false hit1;have ei:g.2.2.1.toNat=i:=by omega
       have eL:hits l g j++hit l g j i=hits l g (j+1):=by rw [<-ei];rfl
       rw [eL];by_cases hL1:hits l g (j+1)=[];all_goals
        simp only [hL1,go_sem,Jp,Qb,qit,decide_false];refine⟨by omega,j+1,?_,by omega,by omega⟩
        simp only [hL1,↓reduceIte]
        first | exact Qa (by simp [okS,okV,okC,okL,okH,okB,okE,ja,Va,qa,ka,wsA,ws,Wc]) ⟨uu cG,trivial⟩ | exact Qa (by simp [okS,okV,okC,okL,okH,okB,okE,ja,Va,qa,ka,wsA,ws,Wc]) ⟨uu cG,wbf rfl,trivial⟩
      have qit:((i:Int)<g.2.2.1)=True:=eq_true hit1;have i16:i<=16:=by omega
      obtain⟨Q,hQ⟩:∃Q,atQ g i j=Q:=⟨_,rfl⟩;have eQ1:rv g.1.1+((i:Int):Rat)*rv g.2.1=Q.1:=by rw [<-hQ];rfl
      have eQ2:rv g.1.2+((j:Int):Rat)*rv g.2.1=Q.2:=by rw [<-hQ];rfl
      have bQ:=Xbs hw hl i16 j16;rw [hQ]at bQ;have wQ:=qy Q;have lQ:al (rcan Q.1,rcan Q.2)<=10000:=bQ;have rd:rz (dtL l Q)<=4294967296:=XbJ hok f0 bQ;have hi64:(i:Int)<=9223372036854775807:=by omega
      have hi65:((i+1:Nat):Int)<=9223372036854775807:=by omega
      have fQ:=f6 Q;have lL2:∀L:List V2,L.length<=1000->L.length+1<=68719476736:=λL h=>by omega
      have i3:ev (bcL l) Q.1 Q.2=dtL l Q:=hev Q;have rq1:=(Nat.max_le.1 bQ).1;have rq2:=(Nat.max_le.1 bQ).2;have nb1:=nb i16;have nb2:=nb j16;have mb1:=mb i16;have mb2:=mb j16;have eN:hits l g j++hit l g j (i+1)=if dtL l Q=0 then hits l g j++hit l g j i++[Q] else hits l g j++hit l g j i:=vbb hQ
      obtain⟨L,hL⟩:∃L,hits l g j++hit l g j i=L:=⟨_,rfl⟩;have lL:L.length<=1000:=by rw [<-hL,List.length_append];have:=Qal l g j i;omega
      have lL3:=lL2 L lL;rw [hL]at eN ⊢;have nN:(L++[Q]=[])=False:=eq_false (by simp)
      have lN:(L++[Q]).length=L.length+1:=by simp
      have ht:((L.map acan).map aC).take L.length=(L.map acan).map aC:=List.take_of_length_le (by rw [List.length_map,List.length_map];exact Nat.le_refl _)
      by_cases hz:dtL l Q=0 <;> by_cases hL1:L=[];all_goals
       simp only [hL1,go_sem,Jp,Qb,qit,ho,hm,ha,he,hs,eQ1,eQ2,i3,Wb,QD,Wc,jB,cc,e0,Jn,xo,hz,decide_true,decide_false,List.length_map,ht];repeat first | refine Ja (by with_reducible assumption) ?_ | refine Ja (Nat.le_trans (by with_reducible assumption) (by decide)) ?_ | refine Ja (by decide) ?_
       refine⟨i+1,?_,by omega,by omega⟩
       simp only [eN,hz,↓reduceIte,nN,lN,hL1]
       first | exact Qa (by simp [okS,okV,okC,okL,okH,okB,okE,ja,Va,qa,ka,wsA,ws,Wc]) ⟨uu cG,trivial⟩ | exact Qa (by simp [okS,okV,okC,okL,okH,okB,okE,ja,Va,qa,ka,wsA,ws,Wc]) ⟨uu cG,wbf rfl,trivial⟩ | exact Qa (by simp [okS,okV,okC,okL,okH,okB,okE,ja,Va,qa,ka,wsA,ws,Wc]) ⟨uu cG,wbf (by rw [List.map_append,List.map_append];rfl),trivial⟩
end Go.Abs
end
