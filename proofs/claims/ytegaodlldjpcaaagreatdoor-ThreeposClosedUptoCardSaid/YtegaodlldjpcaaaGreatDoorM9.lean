/-
  Parts of the proof, merged: ArgE, PoseI, PoseK.
-/
import Derived.Test.YtegaodlldjpcaaaGreatDoorM8
import Derived.OpenShut
set_option linter.unusedVariables false
set_option linter.unusedSimpArgs false
set_option maxRecDepth 100000
section
namespace Go.Abs
open Go.Num
variable {H:Type} {enc:TypeId×Value->H} {bulk:DataW H->Nat} {P:Program} {w:World} {α:Type}
theorem xay{t u:TypeId}{s:Nat}{e:α->List C}{ok:Nat->α->Prop}(B:Bk bulk)(ht:P.underlying t=some (.array 3 u))(hs:P.cellsOf u=s)(hz:P.cellsOf t=3*s)
  (mono:∀n n' a,n<=n'->ok n a->ok n' a) (h:Opens enc bulk P w u e ok):Opens enc bulk P w t (λa:α×α×α=>e a.1++e a.2.1++e a.2.2) (λn a=>ok n a.1/\ok n a.2.1/\ok n a.2.2):=by
 intro fuel cs x hx;obtain⟨xs,m,rfl,rfl,hlen,hxl,hget⟩:=DataW.trod_array ht hx;rw [hs]at hget;match xs,hxl with
 | [x0,x1,x2],_=>
  obtain⟨a0,k0,r0⟩:=h m _ x0 (hget 0 (by omega))
  obtain⟨a1,k1,r1⟩:=h m _ x1 (hget 1 (by omega))
  obtain⟨a2,k2,r2⟩:=h m _ x2 (hget 2 (by omega))
  rw [Nat.zero_mul,List.drop_zero]at r0;rw [Nat.one_mul]at r1;have e0:cs=cs.take s++(cs.drop s).take s++(cs.drop (2*s)).take s:=by
   have h1:(cs.drop (2*s)).take s=cs.drop (2*s):=List.take_of_length_le (by rw [List.length_drop,hlen,hz];omega)
   have h2:cs.drop (2*s)=(cs.drop s).drop s:=by rw [List.drop_drop];congr 1;omega
   rw [h1,h2,List.append_assoc,List.take_append_drop,List.take_append_drop]
  have b:∀y∈[x0,x1,x2],bulk y.1<=bulk (.agg ([x0,x1,x2].map (·.1))):=λy hy=>B.ag _ _ (List.mem_map.2 ⟨y,hy,rfl⟩);refine⟨(a0,a1,a2),⟨mono _ _ _ (b x0 (by simp)) k0,mono _ _ _ (b x1 (by simp)) k1,mono _ _ _ (b x2 (by simp)) k2⟩,?_⟩
  rw [e0];exact(r0.append r1).append r2
structure P3T (P:Program) (t:TypeId):Prop where
 ex:∃u,P.underlying t=some (.array 3 u)/\P.cellsOf u=10/\P.cellsOf t=30/\PsT P u
def okP3(n:Nat)(t:P3):Prop:=WL3 t/\okPs n (l3 t)
theorem ka3{t:TypeId}(B:Bk bulk)(h:P3T P t):Opens enc bulk P w t p3C okP3:=by
 obtain⟨u,ht,hc,hz,hu⟩:=h.ex;have:=xay (enc:=enc) (w:=w) (s:=10) B ht hc (by omega) jac (Qa4 (enc:=enc) (w:=w) B hu)
 refine this.imp λn x h=>⟨⟨h.1.1,h.2.1.1,h.2.2.1⟩,λp hp=>?_⟩;rcases Jba.1 hp with rfl | rfl | rfl
 .exact h.1
 .exact h.2.1
 .exact h.2.2
theorem qbu{r:Reach}{b0 n:Nat}{t u:TypeId}{v:Value}{d:DataW H}{ps:List MemPlace}{e:α->List C}{ok:Nat->α->Prop}(ht:P.underlying t=some (.array n u))(hval:Value.okWide P w r b0 t v)
  (hd:DataW.Trod enc P w 0 (λ_=>true) true t v d ps) (ho:Opens enc bulk P w t e ok):∃a,ok (bulk d) a/\RA M0 (Old w) w.heap (.agg (e a)) v:=by
 simp only [Value.okWide,ht]at hval;obtain⟨cs,rfl,_⟩:=hval;obtain⟨fuel,hf⟩:=hd;obtain⟨x,hx,hr⟩:=ho _ _ _ hf;have e:(Value.agg cs).cells.toList=cs.toList:=by simp [Value.cells]
 rw [e]at hr;refine⟨x,hx,?_⟩;have:cs=⟨cs.toList⟩:=by simp
 rw [this];exact .agg _ _ hr
end Go.Abs
end
section
namespace Go.Num
open Go.Abs
abbrev CpQ:=V2×V2×Rat×Rat×Rat×Rat×Rat
def c0:CpQ:=((0,0),(0,0),0,0,0,0,0)
def timesQ(a b:V2):V2:=(a.1*b.1-a.2*b.2,a.1*b.2+a.2*b.1)
def barQ(a:V2):V2:=(a.1,-a.2)
theorem sq_0{a:V2}(h:sqQ a=0):a=(0,0):=by
 unfold sqQ at h;have h1:=Zz a.1;have h2:=Zz a.2;have e1:a.1*a.1=0:=by grind
 have e2:a.2*a.2=0:=by grind
 have z1:a.1=0:=by rcases Rat.mul_eq_zero.1 e1 with h | h <;> exact h
 have z2:a.2=0:=by rcases Rat.mul_eq_zero.1 e2 with h | h <;> exact h
 exact Prod.ext z1 z2
theorem Yay{a b:V2}(h:subQ a b=(0,0)):a=b:=by
 unfold subQ at h;simp only [Prod.mk.injEq]at h;exact Prod.ext (by grind) (by grind)
def lnkC(A B:List V2)(m n:V2):Nat:=if m=n then 8 else if crV A=0 then 8 else if crV B=0 then 8 else if ciV A=ciV B then 8 else 0
def lnkQ(A B:List V2)(m n:V2):CpQ:=(ciV A,ciV B,sqQ (subQ (pt 0 A) (ciV A)),sqQ (subQ n m),sqQ (subQ (pt 0 B) (ciV B)),-(m.1*(subQ n m).1+m.2*(subQ n m).2) / sqQ (subQ n m),(m.1*(subQ n m).2-m.2*(subQ n m).1) / sqQ (subQ n m))
def lkC(l:List Ps)(m n:Arc):Nat:=if chkC l [m,n]≠0 then chkC l [m,n] else lnkC (imgs l m) (imgs l n) (av m) (av n)
theorem Wbf{l:List Ps}{m n:Arc}(h:chkC l [m,n]=0):chkC l [m]=0/\chkC l [n]=0:=by
 unfold chkC at h;by_cases h1:threeC l=0
 .rw [if_neg (by omega)]at h
  rw [VY h1,VY h1];unfold placeC at h;split at h
  .rename_i h2;simp only [List.all_cons,List.all_nil,Bool.and_true,Bool.and_eq_true]at h2;rw [if_pos h2.1,if_pos h2.2];exact⟨rfl,rfl⟩
  .contradiction
 .rw [if_pos h1]at h;contradiction
end Go.Num
namespace Go.Abs
open Go.Num
variable {P:Program} {Γ:Nat->Spec}
def cqC(c:CpQ):List C:=[cb (rcan c.1.1),cn (rcan c.1.1),cd (rcan c.1.1),cb (rcan c.1.2),cn (rcan c.1.2),cd (rcan c.1.2),cb (rcan c.2.1.1),cn (rcan c.2.1.1),cd (rcan c.2.1.1),cb (rcan c.2.1.2),cn (rcan c.2.1.2),cd (rcan c.2.1.2),cb (rcan c.2.2.1),cn (rcan c.2.2.1),cd (rcan c.2.2.1),cb (rcan c.2.2.2.1),cn (rcan c.2.2.2.1),cd (rcan c.2.2.2.1),cb (rcan c.2.2.2.2.1),cn (rcan c.2.2.2.2.1),cd (rcan c.2.2.2.2.1),cb (rcan c.2.2.2.2.2.1),cn (rcan c.2.2.2.2.2.1),cd (rcan c.2.2.2.2.2.1),cb (rcan c.2.2.2.2.2.2),cn (rcan c.2.2.2.2.2.2),cd (rcan c.2.2.2.2.2.2)]
def cqA(c:CpQ):AV:=.agg (cqC c)
def cl(c:Cp):Nat:=max (al c.1) (max (al c.2.1) (max (rl c.2.2.1) (max (rl c.2.2.2.1) (max (rl c.2.2.2.2.1) (max (rl c.2.2.2.2.2.1) (rl c.2.2.2.2.2.2))))))
def ZV(l:List AV)(K:AV->Prop):Prop:=
 match l with
 | [a,b]=>onA (λp=>onA (λq=>al p<=100000000/\al q<=100000000/\K (pQ (timesQ (av p) (av q)))) b) a
 | _=>False
theorem YZ(a b:AV)(K:AV->Prop):ZV [a,b] K=(onA (λp=>onA (λq=>al p<=100000000/\al q<=100000000/\K (pQ (timesQ (av p) (av q)))) b) a):=propext Iff.rfl
@[congr] theorem Wbx {K:AV->Prop} {l l' : List AV} (h:l=l'):ZV l K=ZV l' K:=by subst h;rfl
attribute [go_sem,go_sem ↓] YZ
def ZaO(l:List AV)(K:AV->Prop):Prop:=
 match l with
 | [a]=>onA (λp=>al p<=100000000/\vldR p.1=true/\K (pQ (barQ (av p)))) a
 | _=>False
theorem XaH(a:AV)(K:AV->Prop):ZaO [a] K=(onA (λp=>al p<=100000000/\vldR p.1=true/\K (pQ (barQ (av p)))) a):=propext Iff.rfl
@[congr] theorem YbJ {K:AV->Prop} {l l' : List AV} (h:l=l'):ZaO l K=ZaO l' K:=by subst h;rfl
attribute [go_sem,go_sem ↓] XaH
def Uw(tE:Nat)(l:List AV)(K:AV->Prop):Prop:=
 match l with
 | [a,b,c]=>onPs (λl=>onA (λm=>onA (λn=>okPs 1000 l/\al m<=10000/\al n<=10000/\K (.tup [cqA (if lkC l m n=0 then lnkQ (imgs l m) (imgs l n) (av m) (av n) else c0),errV tE (lkC l m n)])) c) b) a
 | _=>False
theorem jas(tE:Nat)(a b c:AV)(K:AV->Prop):Uw tE [a,b,c] K=(onPs (λl=>onA (λm=>onA (λn=>okPs 1000 l/\al m<=10000/\al n<=10000/\K (.tup [cqA (if lkC l m n=0 then lnkQ (imgs l m) (imgs l n) (av m) (av n) else c0),errV tE (lkC l m n)])) c) b) a):=propext Iff.rfl
@[congr] theorem ZbB (tE:Nat) {K:AV->Prop} {l l' : List AV} (h:l=l'):Uw tE l K=Uw tE l' K:=by subst h;rfl
attribute [go_sem,go_sem ↓] jas
theorem WaB(tE:Nat):Good (Uw tE):=Va λas=>by
 unfold Uw;split
 .exact(zF λ_=>(Jl λ_=>(Jl λ_=>(.and λ_=>(.and λ_=>(.and λ_=>(.ret _)))))))
 .exact .of λK hk=>hk.elim
def Yaf(l:List AV)(K:AV->Prop):Prop:=
 match l with
 | [a,b,c]=>onPs (λl=>onA (λm=>onA (λn=>okPs 1000 l/\al m<=10000/\al n<=10000/\l.length=3/\K (.tup [cqA (if lnkC (imgs l m) (imgs l n) (av m) (av n)=0 then lnkQ (imgs l m) (imgs l n) (av m) (av n) else c0),.one (.lit (.int .i64 (lnkC (imgs l m) (imgs l n) (av m) (av n):Nat)))])) c) b) a
 | _=>False
theorem Yat(a b c:AV)(K:AV->Prop):Yaf [a,b,c] K=(onPs (λl=>onA (λm=>onA (λn=>okPs 1000 l/\al m<=10000/\al n<=10000/\l.length=3/\K (.tup [cqA (if lnkC (imgs l m) (imgs l n) (av m) (av n)=0 then lnkQ (imgs l m) (imgs l n) (av m) (av n) else c0),.one (.lit (.int .i64 (lnkC (imgs l m) (imgs l n) (av m) (av n):Nat)))])) c) b) a):=propext Iff.rfl
@[congr] theorem vbE {K:AV->Prop} {l l' : List AV} (h:l=l'):Yaf l K=Yaf l' K:=by subst h;rfl
attribute [go_sem,go_sem ↓] Yat
def Qc(f0 f1 f2 f3 f4 f5 f6 f7 f8 f9 tE:Nat):AC:=(.seq (.ops false [.u 4 (.box 6 (.t 1)),.u 5 (.box 6 (.t 2)),.u 6 (.alloc [(.lit (.bool false)),.emp,.emp,(.lit (.bool false)),.emp,.emp,(.lit (.bool false)),.emp,.emp,(.lit (.bool false)),.emp,.emp,(.lit (.bool false)),.emp,.emp,(.lit (.bool false)),.emp,.emp,(.lit (.bool false)),.emp,.emp,(.lit (.bool false)),.emp,.emp,(.lit (.bool false)),.emp,.emp]),.m 7 (.c (.one (.lit .nilIface)))])
 (.fg [0,4,5,6] (.seq (.seq (.ops false [.m 16 (.t 0),.u 17 (.ld none 6 true (.t 4)),.u 18 (.ld none 6 true (.t 5)),.u 19 (.row 6 [[.x 6 (.t 17)],[.x 6 (.t 18)]]),.u 20 (.call f0 [(.t 16),(.t 19)]),.m 8 (.t 20)])
 (.fg [0,4,5,6,8] (.seq (.ops false [.m 21 (.t 8),.u 22 (.binn .neq (.t 21) (.c (.one (.lit .nilIface))))])
 (.fg [0,4,5,6,8,22] (.cond (.t 22) (.seq (.ops false [.u 23 (.build [.z [(.lit (.bool false)),.emp,.emp,(.lit (.bool false)),.emp,.emp,(.lit (.bool false)),.emp,.emp,(.lit (.bool false)),.emp,.emp,(.lit (.bool false)),.emp,.emp,(.lit (.bool false)),.emp,.emp,(.lit (.bool false)),.emp,.emp,(.lit (.bool false)),.emp,.emp,(.lit (.bool false)),.emp,.emp]]),.m 24 (.t 8),.n (.st none 27 (.t 6) (.t 23)),.m 7 (.t 24)])
 .ret) .skip)))))
 (.fg [0,4,5,6] (.seq (.seq (.ops false [.u 25 (.ld none 6 true (.t 4)),.u 26 (.ld none 6 true (.t 5)),.u 27 (.call f1 [(.t 25),(.t 26)])])
 (.fg [0,4,5,6,27] (.cond (.t 27) (.seq (.ops false [.u 28 (.build [.z [(.lit (.bool false)),.emp,.emp,(.lit (.bool false)),.emp,.emp,(.lit (.bool false)),.emp,.emp,(.lit (.bool false)),.emp,.emp,(.lit (.bool false)),.emp,.emp,(.lit (.bool false)),.emp,.emp,(.lit (.bool false)),.emp,.emp,(.lit (.bool false)),.emp,.emp,(.lit (.bool false)),.emp,.emp]]),.u 29 (.iface tE (.i 8)),.n (.st none 27 (.t 6) (.t 28)),.m 7 (.t 29)])
 .ret) .skip)))
 (.fg [0,4,5,6] (.seq (.ops false [.m 31 (.t 0),.u 32 (.ld none 6 true (.t 4)),.u 33 (.call f2 [(.t 31),(.t 32)]),.m 30 (.t 33),.u 34 (.ext 0 (.t 30)),.u 35 (.ext 1 (.t 30)),.u 9 (.alloc [(.lit (.bool false)),.emp,.emp,(.lit (.bool false)),.emp,.emp,(.lit (.bool false)),.emp,.emp,(.lit (.bool false)),.emp,.emp,(.lit (.bool false)),.emp,.emp]),.n (.st none 15 (.t 9) (.t 34)),.m 10 (.t 35)])
 (.fg [0,4,5,6,9,10] (.seq (.seq (.ops false [.m 36 (.t 10),.u 37 (.binn .neq (.t 36) (.c (.one (.lit .nilIface))))])
 (.fg [0,4,5,6,9,10,37] (.cond (.t 37) (.seq (.ops false [.u 38 (.build [.z [(.lit (.bool false)),.emp,.emp,(.lit (.bool false)),.emp,.emp,(.lit (.bool false)),.emp,.emp,(.lit (.bool false)),.emp,.emp,(.lit (.bool false)),.emp,.emp,(.lit (.bool false)),.emp,.emp,(.lit (.bool false)),.emp,.emp,(.lit (.bool false)),.emp,.emp,(.lit (.bool false)),.emp,.emp]]),.m 39 (.t 10),.n (.st none 27 (.t 6) (.t 38)),.m 7 (.t 39)])
 .ret) .skip)))
 (.fg [0,4,5,6,9] (.seq (.ops false [.m 41 (.t 0),.u 42 (.ld none 6 true (.t 5)),.u 43 (.call f2 [(.t 41),(.t 42)]),.m 40 (.t 43),.u 44 (.ext 0 (.t 40)),.u 45 (.ext 1 (.t 40)),.u 11 (.alloc [(.lit (.bool false)),.emp,.emp,(.lit (.bool false)),.emp,.emp,(.lit (.bool false)),.emp,.emp,(.lit (.bool false)),.emp,.emp,(.lit (.bool false)),.emp,.emp]),.n (.st none 15 (.t 11) (.t 44)),.m 10 (.t 45)])
 (.fg [4,5,6,9,10,11] (.seq (.seq (.ops false [.m 46 (.t 10),.u 47 (.binn .neq (.t 46) (.c (.one (.lit .nilIface))))])
 (.fg [4,5,6,9,10,11,47] (.cond (.t 47) (.seq (.ops false [.u 48 (.build [.z [(.lit (.bool false)),.emp,.emp,(.lit (.bool false)),.emp,.emp,(.lit (.bool false)),.emp,.emp,(.lit (.bool false)),.emp,.emp,(.lit (.bool false)),.emp,.emp,(.lit (.bool false)),.emp,.emp,(.lit (.bool false)),.emp,.emp,(.lit (.bool false)),.emp,.emp,(.lit (.bool false)),.emp,.emp]]),.m 49 (.t 10),.n (.st none 27 (.t 6) (.t 48)),.m 7 (.t 49)])
 .ret) .skip)))
 (.fg [4,5,6,9,11] (.seq (.seq (.ops false [.u 50 (.fa 0 (.t 9)),.u 51 (.ld none 6 true (.t 50)),.u 52 (.fa 0 (.t 11)),.u 53 (.ld none 6 true (.t 52)),.u 54 (.call f1 [(.t 51),(.t 53)])])
 (.fg [4,5,6,9,11,54] (.cond (.t 54) (.seq (.ops false [.u 55 (.build [.z [(.lit (.bool false)),.emp,.emp,(.lit (.bool false)),.emp,.emp,(.lit (.bool false)),.emp,.emp,(.lit (.bool false)),.emp,.emp,(.lit (.bool false)),.emp,.emp,(.lit (.bool false)),.emp,.emp,(.lit (.bool false)),.emp,.emp,(.lit (.bool false)),.emp,.emp,(.lit (.bool false)),.emp,.emp]]),.u 56 (.iface tE (.i 8)),.n (.st none 27 (.t 6) (.t 55)),.m 7 (.t 56)])
 .ret) .skip)))
 (.fg [4,5,6,9,11] (.seq (.ops false [.u 57 (.ld none 6 true (.t 5)),.u 58 (.ld none 6 true (.t 4)),.u 59 (.call f3 [(.t 57),(.t 58)]),.u 12 (.alloc [(.lit (.bool false)),.emp,.emp,(.lit (.bool false)),.emp,.emp]),.n (.st none 6 (.t 12) (.t 59))])
 (.fg [4,6,9,11,12] (.seq (.ops false [.u 60 (.ld none 6 true (.t 12)),.u 61 (.call f4 [(.t 60)]),.u 13 (.alloc [(.lit (.bool false)),.emp,.emp]),.n (.st none 3 (.t 13) (.t 61))])
 (.fg [4,6,9,11,12,13] (.seq (.ops true [.u 63 (.fa 0 (.t 4)),.u 64 (.ld none 3 true (.t 63)),.u 65 (.fa 0 (.t 12)),.u 66 (.ld none 3 true (.t 65)),.u 67 (.call f5 [(.t 64),(.t 66)]),.u 68 (.fa 3 (.t 4)),.u 69 (.ld none 3 true (.t 68)),.u 70 (.fa 3 (.t 12)),.u 71 (.ld none 3 true (.t 70)),.u 72 (.call f5 [(.t 69),(.t 71)]),.u 73 (.call f6 [(.t 67),(.t 72)]),.u 74 (.call f7 [(.t 73)]),.u 75 (.ld none 3 true (.t 13)),.u 76 (.call f8 [(.t 74),(.t 75)]),.m 62 (.t 76),.u 77 (.ext 0 (.t 62)),.u 78 (.ext 1 (.t 62)),.u 14 (.alloc [(.lit (.bool false)),.emp,.emp]),.n (.st none 3 (.t 14) (.t 77)),.m 10 (.t 78)])
 (.fg [4,6,9,10,11,12,13,14] (.seq (.seq (.ops false [.m 79 (.t 10),.u 80 (.binn .neq (.t 79) (.c (.one (.lit .nilIface))))])
 (.fg [4,6,9,10,11,12,13,14,80] (.cond (.t 80) (.seq (.ops false [.u 81 (.build [.z [(.lit (.bool false)),.emp,.emp,(.lit (.bool false)),.emp,.emp,(.lit (.bool false)),.emp,.emp,(.lit (.bool false)),.emp,.emp,(.lit (.bool false)),.emp,.emp,(.lit (.bool false)),.emp,.emp,(.lit (.bool false)),.emp,.emp,(.lit (.bool false)),.emp,.emp,(.lit (.bool false)),.emp,.emp]]),.m 82 (.t 10),.n (.st none 27 (.t 6) (.t 81)),.m 7 (.t 82)])
 .ret) .skip)))
 (.fg [4,6,9,11,12,13,14] (.seq (.ops true [.u 84 (.fa 0 (.t 4)),.u 85 (.ld none 3 true (.t 84)),.u 86 (.fa 3 (.t 12)),.u 87 (.ld none 3 true (.t 86)),.u 88 (.call f5 [(.t 85),(.t 87)]),.u 89 (.fa 3 (.t 4)),.u 90 (.ld none 3 true (.t 89)),.u 91 (.fa 0 (.t 12)),.u 92 (.ld none 3 true (.t 91)),.u 93 (.call f5 [(.t 90),(.t 92)]),.u 94 (.call f9 [(.t 88),(.t 93)]),.u 95 (.ld none 3 true (.t 13)),.u 96 (.call f8 [(.t 94),(.t 95)]),.m 83 (.t 96),.u 97 (.ext 0 (.t 83)),.u 98 (.ext 1 (.t 83)),.u 15 (.alloc [(.lit (.bool false)),.emp,.emp]),.n (.st none 3 (.t 15) (.t 97)),.m 10 (.t 98)])
 (.fg [6,9,10,11,13,14,15] (.seq (.seq (.ops false [.m 99 (.t 10),.u 100 (.binn .neq (.t 99) (.c (.one (.lit .nilIface))))])
 (.fg [6,9,10,11,13,14,15,100] (.cond (.t 100) (.seq (.ops false [.u 101 (.build [.z [(.lit (.bool false)),.emp,.emp,(.lit (.bool false)),.emp,.emp,(.lit (.bool false)),.emp,.emp,(.lit (.bool false)),.emp,.emp,(.lit (.bool false)),.emp,.emp,(.lit (.bool false)),.emp,.emp,(.lit (.bool false)),.emp,.emp,(.lit (.bool false)),.emp,.emp,(.lit (.bool false)),.emp,.emp]]),.m 102 (.t 10),.n (.st none 27 (.t 6) (.t 101)),.m 7 (.t 102)])
 .ret) .skip)))
 (.fg [6,9,11,13,14,15] (.seq (.ops false [.u 103 (.fa 0 (.t 9)),.u 104 (.ld none 6 true (.t 103)),.u 105 (.fa 0 (.t 11)),.u 106 (.ld none 6 true (.t 105)),.u 107 (.fa 12 (.t 9)),.u 108 (.ld none 3 true (.t 107)),.u 109 (.ld none 3 true (.t 13)),.u 110 (.fa 12 (.t 11)),.u 111 (.ld none 3 true (.t 110)),.u 112 (.ld none 3 true (.t 14)),.u 113 (.ld none 3 true (.t 15)),.u 114 (.build [.x 6 (.t 104),.x 6 (.t 106),.x 3 (.t 108),.x 3 (.t 109),.x 3 (.t 111),.x 3 (.t 112),.x 3 (.t 113)]),.n (.st none 27 (.t 6) (.t 114)),.m 7 (.c (.one (.lit .nilIface)))])
 .ret)))))))))))))))))))))))))))))
theorem Qad(hΓ:Holds P Γ){f fk fe fc fs fq fm fa fn fd fb tE:Nat}(hk:Γ fk=.dat false (Wu tE))(he:Γ fe=.dat true Xx)(hx:Γ fc=.dat false (Vj tE))(hs:Γ fs=.dat false Wg)(hq' : Γ fq=.dat false ZH)(hm' : Γ fm=.dat false yi)(ha' : Γ fa=.dat false Wk)(hn' : Γ fn=.dat false vy)(hd:Γ fd=.dat false (Qr tE))(hb:Γ fb=.dat false qo)(hc:check P f=some (115,(Qc fk fe fc fs fq fm fa fn fd fb tE).strip,[.cell 6 27 true,.tmp 7])):Sound P f (.dat false (Uw tE)):=by
 refine va hc (WaB tE) hΓ (λargs K hcl hfi hG=>?_);match args,hG with
 | [a,b,c],hG=>
  obtain⟨l,rfl,hwl,m,rfl,hwm,n,rfl,hwn,hok,hm,hn,hK⟩:=hG;refine⟨by simp,?_⟩
  by_cases h0:chkC l [m,n]=0
  .obtain⟨hcm,hcn⟩:=Wbf h0;have ec:lkC l m n=lnkC (imgs l m) (imgs l n) (av m) (av n):=by unfold lkC;rw [if_neg (by omega)]
   have ecm:cenC l m=if crV (imgs l m)=0 then 8 else 0:=by unfold cenC;rw [if_neg (by omega)]
   have ecn:cenC l n=if crV (imgs l n)=0 then 8 else 0:=by unfold cenC;rw [if_neg (by omega)]
   have hm1:al m<=100000000:=by omega
   have hn1:al n<=100000000:=by omega
   have ok1:=Qm hok (by decide:1000<=100000000)
   have om:okAs 100000000 [m,n]:=λz hz=>by
    simp only [List.mem_cons,List.not_mem_nil,or_false]at hz;rcases hz with rfl | rfl
    .exact⟨hwm,by omega⟩
    .exact⟨hwn,by omega⟩
   have ha0:=VJ (yz hok hwm hm 0) (yz hok hwm hm 1) (yz hok hwm hm 2);have hb0:=VJ (yz hok hwn hn 0) (yz hok hwn hn 1) (yz hok hwn hn 2);have zm:=Vq hwm;have zn:=Vq hwn;have d1:=Qs (av n) (av m);obtain⟨A,hAA⟩:∃A,imgs l m=A:=⟨_,rfl⟩;obtain⟨B,hBB⟩:∃B,imgs l n=B:=⟨_,rfl⟩;rw [hAA]at ha0;rw [hBB]at hb0;have c1:al (rcan (ciV A).1,rcan (ciV A).2)=zq (ciV A):=rfl;have c2:al (rcan (ciV B).1,rcan (ciV B).2)=zq (ciV B):=rfl;obtain⟨z,hz⟩:∃z,subQ (av n) (av m)=z:=⟨_,rfl⟩;rw [hz]at d1;have c3:al (rcan z.1,rcan z.2)=zq z:=rfl;have z1:rz z.1<=zq z:=Nat.le_max_left _ _;have z2:rz z.2<=zq z:=Nat.le_max_right _ _;have sz:=vA z;have hm6:=al1 hm;have wm1:=hwm.1;have wm2:=hwm.2;have rm1:=Wd wm1;have rm2:=Wd wm2;rw [ec,hAA,hBB]at hK;rw [hAA]at ecm;rw [hBB]at ecn;have bad:lnkC A B (av m) (av n)=8->K (.tup [cqA c0,.one (.lit (.iface tE (.int .i64 8)))]):=by
    intro h;rw [h,if_neg (by decide),wb tE (by decide)]at hK
    exact hK
   simp only [cqA,cqC,c0,Yb]at bad;by_cases hmn:av m=av n
   .have hb':=bad (by unfold lnkC;rw [if_pos hmn])
    have dmn:decide (av m=av n)=true:=decide_eq_true hmn;simp only [go_sem,Qc,hk,he,Zd,vb,h0,Ua,dmn];repeat (first | (refine And.intro (by omega) ?_) | (refine And.intro (by assumption) ?_) | (refine And.intro rfl ?_) | (refine And.intro ⟨rfl,by omega⟩ ?_) | (refine And.intro ⟨rfl,by omega,by omega⟩ ?_) | (intro _))
    exact hb'
   .have dmn:decide (av m=av n)=false:=decide_eq_false hmn;by_cases hcr:crV A=0
    .have hb':=bad (by unfold lnkC;rw [if_neg hmn,if_pos hcr])
     rw [if_pos hcr]at ecm;simp only [go_sem,Qc,hk,he,hx,Zd,vb,h0,Ua,dmn,ecm,wb tE (by decide:8≠0)]
     repeat (first | (refine And.intro (by omega) ?_) | (refine And.intro (by assumption) ?_) | (refine And.intro rfl ?_) | (refine And.intro ⟨rfl,by omega⟩ ?_) | (refine And.intro ⟨rfl,by omega,by omega⟩ ?_) | (intro _))
     exact hb'
    .rw [if_neg hcr]at ecm;by_cases hcr2:crV B=0
     .have hb':=bad (by unfold lnkC;rw [if_neg hmn,if_neg hcr,if_pos hcr2])
      rw [if_pos hcr2]at ecn;simp only [go_sem,Qc,hk,he,hx,Zd,vb,h0,Ua,dmn,ecm,ecn,wb tE (by decide:8≠0),hAA]
      repeat (first | (refine And.intro (by omega) ?_) | (refine And.intro (by assumption) ?_) | (refine And.intro rfl ?_) | (refine And.intro ⟨rfl,by omega⟩ ?_) | (refine And.intro ⟨rfl,by omega,by omega⟩ ?_) | (intro _))
      exact hb'
     .rw [if_neg hcr2]at ecn;have qm:cenQ A (av m)=(ciV A,av m,sqQ (subQ (pt 0 A) (ciV A))):=rfl;have qn:cenQ B (av n)=(ciV B,av n,sqQ (subQ (pt 0 B) (ciV B))):=rfl;by_cases hcc:ciV A=ciV B
      .have hb':=bad (by unfold lnkC;rw [if_neg hmn,if_neg hcr,if_neg hcr2,if_pos hcc])
       have dcc:decide (ciV A=ciV B)=true:=decide_eq_true hcc;simp only [go_sem,Qc,hk,he,hx,Zd,vb,zU,Wb,h0,Ua,dmn,ecm,ecn,hAA,hBB,qm,qn,dcc,c1,c2];repeat (first | (refine And.intro (by omega) ?_) | (refine And.intro (by assumption) ?_) | (refine And.intro rfl ?_) | (refine And.intro ⟨rfl,by omega⟩ ?_) | (refine And.intro ⟨rfl,by omega,by omega⟩ ?_) | (intro _))
       exact hb'
      .have dcc:decide (ciV A=ciV B)=false:=decide_eq_false hcc;have hC:lnkC A B (av m) (av n)=0:=by unfold lnkC;rw [if_neg hmn,if_neg hcr,if_neg hcr2,if_neg hcc]
       rw [hC,if_pos rfl,Ua]at hK;unfold lnkQ at hK;rw [hz]at hK;have hs0:¬sqQ z=0:=λh=>hmn (Yay (by rw [hz];exact sq_0 h)).symm
       simp only [cqA,cqC]at hK;have m1:=Zb (rv m.1) z.1;have m2:=Zb (rv m.2) z.2;have m3:=Zb (rv m.1) z.2;have m4:=Zb (rv m.2) z.1;have s1:=Wi (rv m.1*z.1) (rv m.2*z.2);have s2:=Wl (rv m.1*z.2) (rv m.2*z.1);have s3:rz (-(rv m.1*z.1+rv m.2*z.2))=rz (rv m.1*z.1+rv m.2*z.2):=vB _;simp only [go_sem,Qc,hk,he,hx,hs,hq',hm',ha',hn',hd,hb,Zd,vb,zU,Wb,h0,Ua,dmn,ecm,ecn,hAA,hBB,qm,qn,dcc,c1,c2,c3,hz,hs0];repeat (first | (refine And.intro (by omega) ?_) | (refine And.intro (by assumption) ?_) | (refine And.intro rfl ?_) | (refine And.intro ⟨rfl,by omega⟩ ?_) | (refine And.intro ⟨rfl,by omega,by omega⟩ ?_) | (intro _))
       exact hK
  .have ec:lkC l m n=chkC l [m,n]:=by unfold lkC;rw [if_pos h0]
   rw [ec,if_neg h0,wb tE h0]at hK;simp only [cqA,cqC,c0,Yb]at hK;have hm1:al m<=100000000:=by omega
   have hn1:al n<=100000000:=by omega
   have ok1:=Qm hok (by decide:1000<=100000000)
   have om:okAs 100000000 [m,n]:=λz hz=>by
    simp only [List.mem_cons,List.not_mem_nil,or_false]at hz;rcases hz with rfl | rfl
    .exact⟨hwm,by omega⟩
    .exact⟨hwn,by omega⟩
   have ha0:=VJ (yz hok hwm hm 0) (yz hok hwm hm 1) (yz hok hwm hm 2);have hb0:=VJ (yz hok hwn hn 0) (yz hok hwn hn 1) (yz hok hwn hn 2);have zm:=Vq hwm;have zn:=Vq hwn;have d1:=Qs (av n) (av m);obtain⟨A,hAA⟩:∃A,imgs l m=A:=⟨_,rfl⟩;obtain⟨B,hBB⟩:∃B,imgs l n=B:=⟨_,rfl⟩;rw [hAA]at ha0;rw [hBB]at hb0;have c1:al (rcan (ciV A).1,rcan (ciV A).2)=zq (ciV A):=rfl;have c2:al (rcan (ciV B).1,rcan (ciV B).2)=zq (ciV B):=rfl;obtain⟨z,hz⟩:∃z,subQ (av n) (av m)=z:=⟨_,rfl⟩;rw [hz]at d1;have c3:al (rcan z.1,rcan z.2)=zq z:=rfl;have z1:rz z.1<=zq z:=Nat.le_max_left _ _;have z2:rz z.2<=zq z:=Nat.le_max_right _ _;have sz:=vA z;have hm6:=al1 hm;have wm1:=hwm.1;have wm2:=hwm.2;have rm1:=Wd wm1;have rm2:=Wd wm2;simp only [go_sem,Qc,hk,Zd,vb,wb tE h0];repeat (first | (refine And.intro (by omega) ?_) | (refine And.intro (by assumption) ?_) | (refine And.intro rfl ?_) | (refine And.intro ⟨rfl,by omega⟩ ?_) | (refine And.intro ⟨rfl,by omega,by omega⟩ ?_) | (intro _))
   exact hK
end Go.Abs
end
section
namespace Go.Num
open Go.Abs
abbrev Cp5:=R×R×R×R×R
instance decC5:DecidableEq Cp5:=λa b=>decidable_of_iff (a.1=b.1/\a.2.1=b.2.1/\a.2.2.1=b.2.2.1/\a.2.2.2.1=b.2.2.2.1/\a.2.2.2.2=b.2.2.2.2) ⟨λ⟨h1,h2,h3,h4,h5⟩=>Prod.ext h1 (Prod.ext h2 (Prod.ext h3 (Prod.ext h4 h5))),λh=>by subst h;exact⟨rfl,rfl,rfl,rfl,rfl⟩⟩
instance decCp:DecidableEq Cp:=λa b=>decidable_of_iff (a.1=b.1/\a.2.1=b.2.1/\(a.2.2:Cp5)=b.2.2) ⟨λ⟨h1,h2,h3⟩=>Prod.ext h1 (Prod.ext h2 h3),λh=>by subst h;exact⟨rfl,rfl,rfl⟩⟩
def canC(X:CpQ):Cp:=((rcan X.1.1,rcan X.1.2),(rcan X.2.1.1,rcan X.2.1.2),rcan X.2.2.1,rcan X.2.2.2.1,rcan X.2.2.2.2.1,rcan X.2.2.2.2.2.1,rcan X.2.2.2.2.2.2)
theorem xa9(X:CpQ):cl (canC X)=max (zq X.1) (max (zq X.2.1) (max (rz X.2.2.1) (max (rz X.2.2.2.1) (max (rz X.2.2.2.2.1) (max (rz X.2.2.2.2.2.1) (rz X.2.2.2.2.2.2)))))):=rfl
end Go.Num
namespace Go.Abs
open Go.Num
variable {P:Program} {Γ:Nat->Spec}
def cpC(c:Cp):List C:=[cb c.1.1,cn c.1.1,cd c.1.1,cb c.1.2,cn c.1.2,cd c.1.2,cb c.2.1.1,cn c.2.1.1,cd c.2.1.1,cb c.2.1.2,cn c.2.1.2,cd c.2.1.2,cb c.2.2.1,cn c.2.2.1,cd c.2.2.1,cb c.2.2.2.1,cn c.2.2.2.1,cd c.2.2.2.1,cb c.2.2.2.2.1,cn c.2.2.2.2.1,cd c.2.2.2.2.1,cb c.2.2.2.2.2.1,cn c.2.2.2.2.2.1,cd c.2.2.2.2.2.1,cb c.2.2.2.2.2.2,cn c.2.2.2.2.2.2,cd c.2.2.2.2.2.2]
def cpA(c:Cp):AV:=.agg (cpC c)
theorem ZM{x y:R}(h1:cb x=cb y)(h2:cn x=cn y)(h3:cd x=cd y):x=y:=Jj _ _ (by simp only [rA];rw [h1,h2,h3])
theorem xaN(x y:Cp)(h:cpA x=cpA y):x=y:=by
 simp only [cpA,cpC,AV.agg.injEq,List.cons.injEq,and_true]at h;obtain⟨a1,a2,a3,b1,b2,b3,c1,c2,c3,d1,d2,d3,e1,e2,e3,f1,f2,f3,g1,g2,g3,h1,h2,h3,i1,i2,i3⟩:=h;exact Prod.ext (Prod.ext (ZM a1 a2 a3) (ZM b1 b2 b3)) (Prod.ext (Prod.ext (ZM c1 c2 c3) (ZM d1 d2 d3)) (Prod.ext (ZM e1 e2 e3) (Prod.ext (ZM f1 f2 f3) (Prod.ext (ZM g1 g2 g3) (Prod.ext (ZM h1 h2 h3) (ZM i1 i2 i3))))))
def onCp(k:Cp->Prop)(a:AV):Prop:=onE cpA (λc=>WLC c/\k c) a
@[congr] theorem ZbH {k:Cp->Prop} {a a' : AV} (h:a=a'):onCp k a=onCp k a':=by subst h;rfl
theorem Za9(k:Cp->Prop)(a1 a2 a3 b1 b2 b3 c1 c2 c3 d1 d2 d3 e1 e2 e3 f1 f2 f3 g1 g2 g3 h1 h2 h3 i1 i2 i3:C):onCp k (.agg [a1,a2,a3,b1,b2,b3,c1,c2,c3,d1,d2,d3,e1,e2,e3,f1,f2,f3,g1,g2,g3,h1,h2,h3,i1,i2,i3]) =
  onO (λa=>onO (λb=>onO (λc=>onO (λd=>onO (λe=>onO (λf=>onO (λg=>onO (λh=>onO (λi=>WLC ((a,b),(c,d),e,f,g,h,i)/\k ((a,b),(c,d),e,f,g,h,i)) (dR i1 i2 i3)) (dR h1 h2 h3)) (dR g1 g2 g3)) (dR f1 f2 f3)) (dR e1 e2 e3)) (dR d1 d2 d3)) (dR c1 c2 c3)) (dR b1 b2 b3)) (dR a1 a2 a3):=by
 refine propext ⟨λ⟨t,h,hh⟩=>?_,λh=>?_⟩
 .simp only [cpA,cpC,AV.agg.injEq,List.cons.injEq,and_true]at h;obtain⟨rfl,rfl,rfl,rfl,rfl,rfl,rfl,rfl,rfl,rfl,rfl,rfl,rfl,rfl,rfl,rfl,rfl,rfl,rfl,rfl,rfl,rfl,rfl,rfl,rfl,rfl,rfl⟩:=h;simp only [dR_e,XJ];exact hh
 .obtain⟨a,ha,q1⟩:=qc.1 h;obtain⟨b,hb,q2⟩:=qc.1 q1;obtain⟨c,hc,q3⟩:=qc.1 q2;obtain⟨d,hd,q4⟩:=qc.1 q3;obtain⟨e,he,q5⟩:=qc.1 q4;obtain⟨f,hf,q6⟩:=qc.1 q5;obtain⟨g,hg,q7⟩:=qc.1 q6;obtain⟨hh,hhh,q8⟩:=qc.1 q7;obtain⟨i,hi,q9⟩:=qc.1 q8;obtain⟨rfl,rfl,rfl⟩:=Zc.1 ha;obtain⟨rfl,rfl,rfl⟩:=Zc.1 hb;obtain⟨rfl,rfl,rfl⟩:=Zc.1 hc;obtain⟨rfl,rfl,rfl⟩:=Zc.1 hd;obtain⟨rfl,rfl,rfl⟩:=Zc.1 he;obtain⟨rfl,rfl,rfl⟩:=Zc.1 hf;obtain⟨rfl,rfl,rfl⟩:=Zc.1 hg;obtain⟨rfl,rfl,rfl⟩:=Zc.1 hhh;obtain⟨rfl,rfl,rfl⟩:=Zc.1 hi;exact⟨((a,b),(c,d),e,f,g,hh,i),rfl,q9⟩
theorem QE{β:Type}{T:Cp->(β->Prop)->Prop}(h:∀x,GoodT (T x)){a:AV}:GoodT λK=>onCp (λx=>T x K) a:=
 zE (e:=cpA) (T:=λp K=>WLC p/\T p K) xaN λp=>GoodT.and (c:=WLC p) (T:=T p) λ_=>h p
attribute [go_sem,go_sem ↓] Za9
def yq(l:List AV)(K:AV->Prop):Prop:=
 match l with
 | [a,b]=>onCp (λc=>onCp (λd=>cl c<=4294967296/\K (.one (.lit (.bool (decide (c=d)))))) b) a
 | _=>False
theorem JW(a b:AV)(K:AV->Prop):yq [a,b] K=(onCp (λc=>onCp (λd=>cl c<=4294967296/\K (.one (.lit (.bool (decide (c=d)))))) b) a):=propext Iff.rfl
@[congr] theorem wbt {K:AV->Prop} {l l' : List AV} (h:l=l'):yq l K=yq l' K:=by subst h;rfl
attribute [go_sem,go_sem ↓] JW
theorem Zaf:Good yq:=Va λas=>by
 unfold yq;split
 .exact(QE λ_=>(QE λ_=>(.and λ_=>(.ret _))))
 .exact .of λK hk=>hk.elim
def uB(l:List AV)(K:AV->Prop):Prop:=
 match l with
 | [a,b,c]=>onPs (λl=>onDy (λd=>onA (λn=>okPs 1048576 l/\dl d<=1048576/\al n<=1048576/\K (.one (.lit (.bool true)))) c) b) a
 | _=>False
theorem yG(a b c:AV)(K:AV->Prop):uB [a,b,c] K=(onPs (λl=>onDy (λd=>onA (λn=>okPs 1048576 l/\dl d<=1048576/\al n<=1048576/\K (.one (.lit (.bool true)))) c) b) a):=propext Iff.rfl
@[congr] theorem Wa7 {K:AV->Prop} {l l' : List AV} (h:l=l'):uB l K=uB l' K:=by subst h;rfl
attribute [go_sem,go_sem ↓] yG
def Uc(f0 f1:Nat):AC:=(.seq (.ops false [.u 2 (.box 27 (.t 0)),.u 3 (.box 27 (.t 1)),.m 4 .fa])
 (.fg [2,3] (.seq (.ops false [.u 5 (.fa 0 (.t 2)),.u 6 (.ld none 6 true (.t 5)),.u 7 (.fa 0 (.t 3)),.u 8 (.ld none 6 true (.t 7)),.u 9 (.call f0 [(.t 6),(.t 8)]),.m 10 (.t 9),.w 11 10 true (.fa 6 (.t 2)),.w 12 10 true (.ld none 6 true (.t 11)),.w 13 10 true (.fa 6 (.t 3)),.w 14 10 true (.ld none 6 true (.t 13)),.w 15 10 true (.call f0 [(.t 12),(.t 14)]),.u 16 (.pick (.t 10) (.t 15) .fa),.m 17 (.t 16),.w 18 17 true (.fa 12 (.t 2)),.w 19 17 true (.ld none 3 true (.t 18)),.w 20 17 true (.fa 15 (.t 2)),.w 21 17 true (.ld none 3 true (.t 20)),.w 22 17 true (.fa 18 (.t 2)),.w 23 17 true (.ld none 3 true (.t 22)),.w 24 17 true (.fa 21 (.t 2)),.w 25 17 true (.ld none 3 true (.t 24)),.w 26 17 true (.fa 24 (.t 2)),.w 27 17 true (.ld none 3 true (.t 26)),.w 28 17 true (.row 3 [[.x 3 (.t 19)],[.x 3 (.t 21)],[.x 3 (.t 23)],[.x 3 (.t 25)],[.x 3 (.t 27)]]),.w 29 17 true (.fa 12 (.t 3)),.w 30 17 true (.ld none 3 true (.t 29)),.w 31 17 true (.fa 15 (.t 3)),.w 32 17 true (.ld none 3 true (.t 31)),.w 33 17 true (.fa 18 (.t 3)),.w 34 17 true (.ld none 3 true (.t 33)),.w 35 17 true (.fa 21 (.t 3)),.w 36 17 true (.ld none 3 true (.t 35)),.w 37 17 true (.fa 24 (.t 3)),.w 38 17 true (.ld none 3 true (.t 37)),.w 39 17 true (.row 3 [[.x 3 (.t 30)],[.x 3 (.t 32)],[.x 3 (.t 34)],[.x 3 (.t 36)],[.x 3 (.t 38)]]),.w 40 17 true (.call f1 [(.t 28),(.t 39)]),.u 41 (.pick (.t 17) (.t 40) .fa),.m 4 (.t 41)])
 .ret)))
theorem jX(hΓ:Holds P Γ){f fs fr:Nat}(hs:Γ fs=.dat true ut)(hr:Γ fr=.dat true Xw)(hc:check P f=some (42,(Uc fs fr).strip,[.tmp 4])):Sound P f (.dat true yq):=by
 refine va hc Zaf hΓ (λargs K hcl hfi hG=>?_);match args,hG with
 | [a,b],hG=>
  obtain⟨⟨o,q,x1,x2,x3,x4,x5⟩,rfl,⟨wo,wq,w1,w2,w3,w4,w5⟩,⟨o',q',y1,y2,y3,y4,y5⟩,rfl,⟨wo',wq',v1,v2,v3,v4,v5⟩,hl,hK⟩:=hG;refine⟨by simp,?_⟩
  unfold cl at hl;simp only [Nat.max_le]at hl;obtain⟨l1,l2,l3,l4,l5,l6,l7⟩:=hl;simp only at wo wq w1 w2 w3 w4 w5 wo' wq' v1 v2 v3 v4 v5;have hr5:okRs 4294967296 [x1,x2,x3,x4,x5]:=λx hx=>by
   simp only [List.mem_cons,List.not_mem_nil,or_false]at hx;rcases hx with rfl | rfl | rfl | rfl | rfl
   .exact⟨w1,l3⟩
   .exact⟨w2,l4⟩
   .exact⟨w3,l5⟩
   .exact⟨w4,l6⟩
   .exact⟨w5,l7⟩
  have e:decide ((o,q,x1,x2,x3,x4,x5)=(o',q',y1,y2,y3,y4,y5))=(decide (o=o') && (decide (q=q') && decide ([x1,x2,x3,x4,x5]=[y1,y2,y3,y4,y5]))):=by
   rw [<-Bool.decide_and,<-Bool.decide_and,decide_eq_decide];simp only [Prod.mk.injEq,List.cons.injEq,and_true]
  rw [e]at hK;cases h1:decide (o=o') with
  | false=>
   rw [h1]at hK;simp only [go_sem,Uc,hs,hr,cpA,cpC,vb,h1];repeat (first | (refine And.intro (by omega) ?_) | (refine And.intro (by assumption) ?_) | (refine And.intro rfl ?_) | (refine And.intro ⟨rfl,by omega⟩ ?_) | (refine And.intro ⟨rfl,by omega,by omega⟩ ?_) | (intro _))
   exact hK
  | true=>
   cases h2:decide (q=q') with
   | false=>
    rw [h1,h2]at hK;simp only [go_sem,Uc,hs,hr,cpA,cpC,vb,h1,h2];repeat (first | (refine And.intro (by omega) ?_) | (refine And.intro (by assumption) ?_) | (refine And.intro rfl ?_) | (refine And.intro ⟨rfl,by omega⟩ ?_) | (refine And.intro ⟨rfl,by omega,by omega⟩ ?_) | (intro _))
    exact hK
   | true=>
    rw [h1,h2,Bool.true_and,Bool.true_and]at hK;simp only [go_sem,Uc,hs,hr,cpA,cpC,vb,h1,h2];repeat (first | (refine And.intro (by omega) ?_) | (refine And.intro (by assumption) ?_) | (refine And.intro rfl ?_) | (refine And.intro ⟨rfl,by omega⟩ ?_) | (refine And.intro ⟨rfl,by omega,by omega⟩ ?_) | (intro _))
    exact⟨⟨w1,w2,w3,w4,w5⟩,⟨v1,v2,v3,v4,v5⟩,hr5,hK⟩
end Go.Abs
end
