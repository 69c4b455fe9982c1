/-
  Parts of the proof, merged: ArgG, PoseM, PoseN, BurH, CoupH, CoupJ, CoupL, IntC, IntD, IntE, IntF.
-/
import Derived.Test.YtegaodlldjpcaaaGreatDoorM11
set_option linter.unusedVariables false
set_option linter.unusedSimpArgs false
set_option maxRecDepth 100000
section
namespace Go.Abs
open Go.Num
variable {H:Type} {enc:TypeId×Value->H} {bulk:DataW H->Nat} {P:Program} {w:World} {α:Type}
theorem ZaH{t u:TypeId}{s:Nat}{e:α->List C}{ok:Nat->α->Prop}(B:Bk bulk)(ht:P.underlying t=some (.array 4 u))(hs:P.cellsOf u=s)(hz:P.cellsOf t=4*s)
  (mono:∀n n' a,n<=n'->ok n a->ok n' a) (h:Opens enc bulk P w u e ok):Opens enc bulk P w t (λa:α×α×α×α=>e a.1++(e a.2.1++(e a.2.2.1++e a.2.2.2))) (λn a=>ok n a.1/\ok n a.2.1/\ok n a.2.2.1/\ok n a.2.2.2):=by
 intro fuel cs x hx;obtain⟨xs,m,rfl,rfl,hlen,hxl,hget⟩:=DataW.trod_array ht hx;rw [hs]at hget;match xs,hxl with
 | [x0,x1,x2,x3],_=>
  obtain⟨a0,k0,r0⟩:=h m _ x0 (hget 0 (by omega))
  obtain⟨a1,k1,r1⟩:=h m _ x1 (hget 1 (by omega))
  obtain⟨a2,k2,r2⟩:=h m _ x2 (hget 2 (by omega))
  obtain⟨a3,k3,r3⟩:=h m _ x3 (hget 3 (by omega))
  rw [Nat.zero_mul,List.drop_zero]at r0;rw [Nat.one_mul]at r1;have e0:cs=cs.take s++((cs.drop s).take s++((cs.drop (2*s)).take s++(cs.drop (3*s)).take s)):=by
   have h1:(cs.drop (3*s)).take s=cs.drop (3*s):=List.take_of_length_le (by rw [List.length_drop,hlen,hz];omega)
   have h2:cs.drop (2*s)=(cs.drop s).drop s:=by rw [List.drop_drop];congr 1;omega
   have h3:cs.drop (3*s)=((cs.drop s).drop s).drop s:=by rw [List.drop_drop,List.drop_drop];congr 1;omega
   rw [h1,h2,h3,List.take_append_drop,List.take_append_drop,List.take_append_drop]
  have b:∀y∈[x0,x1,x2,x3],bulk y.1<=bulk (.agg ([x0,x1,x2,x3].map (·.1))):=λy hy=>B.ag _ _ (List.mem_map.2 ⟨y,hy,rfl⟩);refine⟨(a0,a1,a2,a3),⟨mono _ _ _ (b x0 (by simp)) k0,mono _ _ _ (b x1 (by simp)) k1,mono _ _ _ (b x2 (by simp)) k2,mono _ _ _ (b x3 (by simp)) k3⟩,?_⟩
  rw [e0];exact r0.append (r1.append (r2.append r3))
structure P4T (P:Program) (t:TypeId):Prop where
 ex:∃u,P.underlying t=some (.array 4 u)/\P.cellsOf u=10/\P.cellsOf t=40/\PsT P u
def okP4(n:Nat)(t:P4):Prop:=WL4 t/\okPs n (l4 t)
theorem ybb{t:TypeId}(B:Bk bulk)(h:P4T P t):Opens enc bulk P w t p4C okP4:=by
 obtain⟨u,ht,hc,hz,hu⟩:=h.ex;have:=ZaH (enc:=enc) (w:=w) (s:=10) B ht hc (by omega) yal (Xba (enc:=enc) (w:=w) B hu)
 refine this.imp λn x h=>⟨⟨h.1.1,h.2.1.1,h.2.2.1.1,h.2.2.2.1⟩,λp hp=>?_⟩;rcases wbg.1 hp with rfl|rfl|rfl|rfl
 .exact h.1
 .exact h.2.1
 .exact h.2.2.1
 .exact h.2.2.2
end Go.Abs
end
section
namespace Go.Num
open Go.Abs
end Go.Num
namespace Go.Abs
open Go.Num
variable {P:Program} {Γ:Nat->Spec}
def z6:List C:=[.lit (.bool false),.emp,.emp,.lit (.bool false),.emp,.emp]
def q6(x:V2):List C:=[cb (rcan x.1),cn (rcan x.1),cd (rcan x.1),cb (rcan x.2),cn (rcan x.2),cd (rcan x.2)]
def QL(l:List AV)(K:AV->Prop):Prop:=
 match l with
 | [a,b]=>onP3 (λt=>onA (λm=>okPs 1048576 (l3 t)/\al m<=1048576/\K (.one (.lit (.bool true)))) b) a
 | _=>False
theorem kP(a b:AV)(K:AV->Prop):QL [a,b] K=(onP3 (λt=>onA (λm=>okPs 1048576 (l3 t)/\al m<=1048576/\K (.one (.lit (.bool true)))) b) a):=propext Iff.rfl
@[congr] theorem qbv {K:AV->Prop} {l l' : List AV} (h:l=l'):QL l K=QL l' K:=by subst h;rfl
attribute [go_sem,go_sem ↓] kP
end Go.Abs
end
section
namespace Go.Num
open Go.Abs
theorem wbk(a:V2):av (rcan a.1,rcan a.2)=a:=Ja5 a
theorem dl_3{c m:Arc}{r:Rat}{b:Nat}(h1:al c<=b)(h2:al m<=b)(h3:rz r<=b):dl (c,m,rcan r)<=b:=Nat.max_le.2 ⟨h1,Nat.max_le.2 ⟨h2,h3⟩⟩
end Go.Num
namespace Go.Abs
open Go.Num
variable {P:Program} {Γ:Nat->Spec}
def XJ(l:List AV)(K:AV->Prop):Prop:=
 match l with
 | [a,b,c]=>onP3 (λt=>onA (λm=>onA (λo=>okPs 1048576 (l3 t)/\al m<=1048576/\al o<=1048576/\K (.one (.lit (.bool true)))) c) b) a
 | _=>False
theorem vS(a b c:AV)(K:AV->Prop):XJ [a,b,c] K=(onP3 (λt=>onA (λm=>onA (λo=>okPs 1048576 (l3 t)/\al m<=1048576/\al o<=1048576/\K (.one (.lit (.bool true)))) c) b) a):=propext Iff.rfl
@[congr] theorem Vbu {K:AV->Prop} {l l' : List AV} (h:l=l'):XJ l K=XJ l' K:=by subst h;rfl
attribute [go_sem,go_sem ↓] vS
end Go.Abs
end
section
namespace Go.Num
open Go.Abs
theorem Ubs{t:P4}(h:(l4 t).all pvld=true):fourC (l4 t)=0/\plchk (l4 t)=0:=by
 have f:=Wai (l:=l4 t) rfl h;refine⟨f,?_⟩;unfold fourC at f;split at f
 .rename_i h1;exact absurd f h1
 .rename_i h1;omega
theorem Qbr{t:P4}{m c:V2}{r:Rat}(h1:sqQ (subQ (appQ (pv t.1) m) c)=r)(h2:sqQ (subQ (appQ (pv t.2.1) m) c)=r)(h3:sqQ (subQ (appQ (pv t.2.2.1) m) c)=r)(h4:sqQ (subQ (appQ (pv t.2.2.2) m) c)=r):dtL (invL (l4 t)) c=0:=by
 show detQ (appQ (pv (pcan (invQ (pv t.1)))) c) (appQ (pv (pcan (invQ (pv t.2.1)))) c) (appQ (pv (pcan (invQ (pv t.2.2.1)))) c) (appQ (pv (pcan (invQ (pv t.2.2.2)))) c)=0;rw [U0,U0,U0,U0];exact xbo (o:=m) (r:=r) (by rw [zJ,h1]) (by rw [zJ,h2]) (by rw [zJ,h3]) (by rw [zJ,h4])
theorem kbt{t:P4}{m x y z:V2}(h:dyN (l4 t) m=some (x,y,z))(hd:dtL (l4 t) m=0) :
  sqQ (subQ (appQ (pv t.1) m) (ctr3 x y z))=sqQ (subQ x (ctr3 x y z))/\sqQ (subQ (appQ (pv t.2.1) m) (ctr3 x y z))=sqQ (subQ x (ctr3 x y z))/\sqQ (subQ (appQ (pv t.2.2.1) m) (ctr3 x y z))=sqQ (subQ x (ctr3 x y z))/\sqQ (subQ (appQ (pv t.2.2.2) m) (ctr3 x y z))=sqQ (subQ x (ctr3 x y z)):=wbG h hd
theorem Qby(t:P4)(c m:Arc)(r:Rat):psnB (l4 t) (c,m,rcan r)=true↔sqQ (subQ (appQ (pv t.1) (av m)) (av c))=r/\sqQ (subQ (appQ (pv t.2.1) (av m)) (av c))=r/\sqQ (subQ (appQ (pv t.2.2.1) (av m)) (av c))=r/\sqQ (subQ (appQ (pv t.2.2.2) (av m)) (av c))=r:=by
 have e:imgs (l4 t) m=[appQ (pv t.1) (av m),appQ (pv t.2.1) (av m),appQ (pv t.2.2.1) (av m),appQ (pv t.2.2.2) (av m)]:=rfl;unfold psnB;simp only [e,List.all_cons,List.all_nil,Bool.and_true,Bool.and_eq_true,decide_eq_true_eq,Yb]
theorem QbE{l:List Ps}{m:Arc}(hl:okPs 2 l)(hw:WLA m)(hm:al m<=2):∀p∈l,zq (appQ (pv p) (av m))<=70:=λp hp=>by
 have h1:=(hl p hp).1;have h2:=(hl p hp).2;have h3:=XaW (pv p) (av m);have h4:=Nat.le_trans (wH hw) hm;have e1:rz (pv p).1.1<=2:=Nat.le_trans (yj h1.1) (Nat.le_trans (Nat.le_max_left _ _) h2);have e2:zq (pv p).2<=2:=Nat.le_trans (wH h1.2) (Nat.le_trans (Nat.le_max_right _ _) h2);omega
theorem qbs{a b c d x y z:V2}(h:dy3 a b c d=some (x,y,z)):(x=a∨x=b)/\(y=b∨y=c)/\(z=c∨z=d):=by
 unfold dy3 at h;split at h
 .simp only [Option.some.injEq,Prod.mk.injEq]at h;obtain⟨rfl,rfl,rfl⟩:=h;exact⟨.inl rfl,.inl rfl,.inl rfl⟩
 split at h
 .simp only [Option.some.injEq,Prod.mk.injEq]at h;obtain⟨rfl,rfl,rfl⟩:=h;exact⟨.inl rfl,.inl rfl,.inr rfl⟩
 split at h
 .simp only [Option.some.injEq,Prod.mk.injEq]at h;obtain⟨rfl,rfl,rfl⟩:=h;exact⟨.inl rfl,.inr rfl,.inr rfl⟩
 split at h
 .simp only [Option.some.injEq,Prod.mk.injEq]at h;obtain⟨rfl,rfl,rfl⟩:=h;exact⟨.inr rfl,.inr rfl,.inr rfl⟩
 .contradiction
theorem QbF{t:P4}{m:Arc}(hl:okPs 2 (l4 t))(hw:WLA m)(hm:al m<=2){x y z:V2}(h:dyN (l4 t) (av m)=some (x,y,z)):zq (ctr3 x y z)<=2900/\rz (sqQ (subQ x (ctr3 x y z)))<=30000:=by
 have hi:=QbE hl hw hm;obtain⟨h1,h2,h3⟩:=qbs (show dy3 _ _ _ _=_ from h);have a:=hi t.1 (by simp [l4])
 have b:=hi t.2.1 (by simp [l4])
 have c:=hi t.2.2.1 (by simp [l4])
 have d:=hi t.2.2.2 (by simp [l4])
 have zx:zq x<=70:=by rcases h1 with rfl|rfl <;> assumption
 have zy:zq y<=70:=by rcases h2 with rfl|rfl <;> assumption
 have zz:zq z<=70:=by rcases h3 with rfl|rfl <;> assumption
 have zc:=kL zx zy zz;have zs:=qx x (ctr3 x y z);have zr:=yaE (subQ x (ctr3 x y z));exact⟨by omega,by omega⟩
end Go.Num
namespace Go.Abs
open Go.Num
variable {P:Program} {Γ:Nat->Spec}
def ui(l:List AV)(K:AV->Prop):Prop:=
 match l with
 | [a,b]=>onP4 (λt=>onA (λm=>okPs 1048576 (l4 t)/\al m<=1048576/\K (.one (.lit (.bool true)))) b) a
 | _=>False
theorem QN(a b:AV)(K:AV->Prop):ui [a,b] K=(onP4 (λt=>onA (λm=>okPs 1048576 (l4 t)/\al m<=1048576/\K (.one (.lit (.bool true)))) b) a):=propext Iff.rfl
@[congr] theorem kbl {K:AV->Prop} {l l' : List AV} (h:l=l'):ui l K=ui l' K:=by subst h;rfl
attribute [go_sem,go_sem ↓] QN
theorem YW:Good ui:=Wa λas=>by
 unfold ui;split
 .exact(zbe λ_=>(Xw λ_=>(.and λ_=>(.and λ_=>(.ret _)))))
 .exact .of λK hk=>hk.elim
def Qb(f0 f1 f2 f3 f4 f5 f6 f7 f8 f9 f10 f11 f12:Nat):AC:=(.seq (.ops false [.u 2 (.box 40 (.t 0)),.u 3 (.box 6 (.t 1)),.m 4 .fa])
 (.fg [2,3] (.fz [2] (.seq (.seq (.ops false [.u 19 (.call f0 []),.u 20 (.un .not (.t 19)),.m 21 (.t 20),.w 22 21 false (.ld none 40 true (.t 2)),.w 23 21 false (.call f1 [(.t 22)]),.w 24 21 false (.un .not (.t 23)),.u 25 (.pick (.t 21) .tr (.t 24)),.m 26 (.t 25),.w 27 26 false (.ld none 6 true (.t 3)),.w 28 26 false (.row 6 [[.x 6 (.t 27)]]),.w 29 26 false (.call f2 [(.t 28)]),.w 30 26 false (.un .not (.t 29)),.u 31 (.pick (.t 26) .tr (.t 30)),.m 32 (.t 31),.w 33 32 false (.ld none 6 true (.t 3)),.w 34 32 false (.call f3 [(.t 33)]),.w 35 32 false (.un .not (.t 34)),.u 36 (.pick (.t 32) .tr (.t 35))])
 (.fg [2,3,36] (.cond (.t 36) (.seq (.ops false [.u 37 (.call f0 []),.m 4 (.t 37)])
 .ret) .skip)))
 (.fg [2,3] (.seq (.ops true [.u 39 (.rsl 10 4 (.t 2)),.u 40 (.ld none 6 true (.t 3)),.u 41 (.call f4 [(.t 39),(.t 40)]),.m 38 (.t 41),.u 42 (.ext 0 (.t 38)),.u 43 (.ext 1 (.t 38)),.m 5 (.t 42),.m 6 (.t 43)])
 (.fg [2,3,5,6] (.seq (.ops false [.u 45 (.rsl 10 4 (.t 2)),.u 46 (.call f5 [(.t 45)]),.m 44 (.t 46),.u 47 (.ext 0 (.t 44)),.u 48 (.ext 1 (.t 44)),.m 7 (.t 47),.m 8 (.t 48)])
 (.fg [2,3,5,6,7,8] (.seq (.ops false [.u 50 (.rsl 10 4 (.t 2)),.u 51 (.call f6 [(.t 50)]),.m 49 (.t 51),.u 52 (.ext 0 (.t 49)),.u 53 (.ext 1 (.t 49)),.m 9 (.t 52),.m 10 (.t 53)])
 (.fg [2,3,5,6,7,8,9,10] (.seq (.ops false [.m 55 (.t 7),.u 56 (.fa 0 (.t 3)),.u 57 (.ld none 3 true (.t 56)),.u 58 (.fa 3 (.t 3)),.u 59 (.ld none 3 true (.t 58)),.u 60 (.call f7 [(.t 55),(.t 57),(.t 59)]),.m 54 (.t 60),.u 61 (.ext 0 (.t 54)),.u 62 (.ext 1 (.t 54)),.u 11 (.alloc [(.lit (.bool false)),.emp,.emp]),.n (.st none 3 (.t 11) (.t 61)),.m 12 (.t 62)])
 (.fg [2,3,5,6,8,9,10,11,12] (.seq (.seq (.ops false [.m 63 (.t 6),.u 64 (.binn .neq (.t 63) (.c (.one (.lit .nilIface)))),.m 65 (.t 64),.w 66 65 false (.mv (.t 8)),.w 67 65 false (.binn .neq (.t 66) (.c (.one (.lit .nilIface)))),.u 68 (.pick (.t 65) .tr (.t 67)),.m 69 (.t 68),.w 70 69 false (.mv (.t 10)),.w 71 69 false (.binn .neq (.t 70) (.c (.one (.lit .nilIface)))),.u 72 (.pick (.t 69) .tr (.t 71)),.m 73 (.t 72),.w 74 73 false (.mv (.t 12)),.w 75 73 false (.binn .neq (.t 74) (.c (.one (.lit .nilIface)))),.u 76 (.pick (.t 73) .tr (.t 75)),.m 77 (.t 76),.w 78 77 false (.mv (.t 5)),.w 79 77 false (.ld none 3 true (.t 11)),.w 80 77 false (.call f8 [(.t 79)]),.w 81 77 false (.bin .eql (.t 80) (.i 0)),.w 82 77 false (.binb .neq (.t 78) (.t 81)),.u 83 (.pick (.t 77) .tr (.t 82))])
 (.fg [2,3,5,9,83] (.cond (.t 83) (.seq (.ops false [.m 4 .fa])
 .ret) .skip)))
 (.fg [2,3,5,9] (.seq (.ops true [.u 85 (.rsl 10 4 (.t 2)),.u 86 (.ld none 6 true (.t 3)),.u 87 (.call f9 [(.t 85),(.t 86)]),.m 84 (.t 87),.u 88 (.ext 0 (.t 84)),.u 89 (.ext 1 (.t 84)),.u 13 (.alloc [(.lit (.bool false)),.emp,.emp,(.lit (.bool false)),.emp,.emp,(.lit (.bool false)),.emp,.emp,(.lit (.bool false)),.emp,.emp,(.lit (.bool false)),.emp,.emp]),.n (.st none 15 (.t 13) (.t 88)),.m 14 (.t 89)])
 (.fg [2,3,5,9,13,14] (.seq (.seq (.ops false [.m 90 (.t 14),.u 91 (.binn .neq (.t 90) (.c (.one (.lit .nilIface))))])
 (.fg [2,3,5,9,13,14,91] (.cond (.t 91) (.seq (.ops false [.m 92 (.t 5),.m 93 (.t 14),.u 94 (.call f10 [(.t 93),(.i 8)]),.u 95 (.binb .eql (.t 92) (.t 94)),.m 96 (.t 95),.w 97 96 true (.mv (.t 5)),.w 98 96 true (.un .not (.t 97)),.w 99 96 true (.mv (.t 14)),.w 100 96 true (.call f10 [(.t 99),(.i 21)]),.w 101 96 true (.binb .eql (.t 98) (.t 100)),.u 102 (.pick (.t 96) (.t 101) .fa),.m 4 (.t 102)])
 .ret) .skip)))
 (.fg [2,3,5,9,13] (.seq (.ops true [.u 104 (.rsl 10 4 (.t 2)),.u 105 (.ld none 15 true (.t 13)),.u 106 (.call f11 [(.t 104),(.t 105)]),.m 103 (.t 106),.u 107 (.ext 0 (.t 103)),.u 108 (.ext 1 (.t 103)),.m 15 (.t 107),.m 16 (.t 108)])
 (.fg [3,5,9,13,15,16] (.seq (.ops false [.m 110 (.t 9),.u 111 (.fa 0 (.t 13)),.u 112 (.fa 0 (.t 111)),.u 113 (.ld none 3 true (.t 112)),.u 114 (.fa 0 (.t 13)),.u 115 (.fa 3 (.t 114)),.u 116 (.ld none 3 true (.t 115)),.u 117 (.call f7 [(.t 110),(.t 113),(.t 116)]),.m 109 (.t 117),.u 118 (.ext 0 (.t 109)),.u 119 (.ext 1 (.t 109)),.u 17 (.alloc [(.lit (.bool false)),.emp,.emp]),.n (.st none 3 (.t 17) (.t 118)),.m 18 (.t 119)])
 (.fg [3,5,13,15,16,17,18] (.seq (.ops false [.m 120 (.t 5),.m 121 (.t 120),.w 122 121 true (.mv (.t 16)),.w 123 121 true (.binn .eql (.t 122) (.c (.one (.lit .nilIface)))),.u 124 (.pick (.t 121) (.t 123) .fa),.m 125 (.t 124),.w 126 125 true (.mv (.t 18)),.w 127 125 true (.binn .eql (.t 126) (.c (.one (.lit .nilIface)))),.u 128 (.pick (.t 125) (.t 127) .fa),.m 129 (.t 128),.w 130 129 true (.mv (.t 15)),.u 131 (.pick (.t 129) (.t 130) .fa),.m 132 (.t 131),.w 133 132 true (.fa 6 (.t 13)),.w 134 132 true (.ld none 6 true (.t 133)),.w 135 132 true (.ld none 6 true (.t 3)),.w 136 132 true (.call f12 [(.t 134),(.t 135)]),.u 137 (.pick (.t 132) (.t 136) .fa),.m 138 (.t 137),.w 139 138 true (.ld none 3 true (.t 17)),.w 140 138 true (.call f8 [(.t 139)]),.w 141 138 true (.bin .eql (.t 140) (.i 0)),.u 142 (.pick (.t 138) (.t 141) .fa),.m 4 (.t 142)])
 .ret))))))))))))))))))))))))
set_option maxHeartbeats 0 in
theorem QO(hΓ:Holds P Γ){f fw f4 fa fp fo fc fn fe fg fd fi ft fs tE:Nat}(hw:Γ fw=.dat true uz)(h4:Γ f4=.dat true Zz)(ha:Γ fa=.dat true Yq)(hp:Γ fp=.dat true vd)(ho:Γ fo=.dat false (YJ tE))(hc1:Γ fc=.dat false (XC tE))(hc2:Γ fn=.dat false (kG tE))(he:Γ fe=.dat false (Ww tE))(hg:Γ fg=.dat true Wh)(hd:Γ fd=.dat false (jO tE))(hi:Γ fi=.dat true (qY tE))(ht:Γ ft=.dat false (Yl tE))(hs:Γ fs=.dat true jy)(hc:check P f=some (143,(Qb fw f4 fa fp fo fc fn fe fg fd fi ft fs).strip,[.tmp 4])):Sound P f (.dat true ui):=by
 refine ka hc YW hΓ (λargs K hcl hfi hG=>?_);match args,hG with
 | [a,b],hG=>
  obtain⟨t,rfl,hwt,m,rfl,hwm,hok,hm,hK⟩:=hG;refine⟨by simp,?_⟩
  have hwl:=qbz hwt;have om1:okAs 4294967296 [m]:=λz hz=>by rw [List.mem_singleton.1 hz];exact⟨hwm,by omega⟩
  have hmv:al m<=100000000:=by omega
  cases hsl:((l4 t).all pvld && (decide ((l4 t).length<=20) && (l4 t).all sP)) with
  | false=>
   simp only [go_sem,Qb,hw,h4,hsl,yb,Jb];repeat first|refine Va (by omega) ?_|refine Va (by assumption) ?_|refine Va rfl ?_|refine Va ⟨rfl,by omega⟩ ?_|refine Va ⟨rfl,by omega,by omega⟩ ?_|intro _
   exact hK
  | true=>
  cases hsm:List.all [m] sA with
  | false=>
   simp only [go_sem,Qb,hw,h4,ha,hsl,yb,Jb,hsm];repeat first|refine Va (by omega) ?_|refine Va (by assumption) ?_|refine Va rfl ?_|refine Va ⟨rfl,by omega⟩ ?_|refine Va ⟨rfl,by omega,by omega⟩ ?_|intro _
   exact hK
  | true=>
  cases hav:avld m with
  | false=>
   simp only [go_sem,Qb,hw,h4,ha,hp,hsl,yb,Jb,hsm,hav];repeat first|refine Va (by omega) ?_|refine Va (by assumption) ?_|refine Va rfl ?_|refine Va ⟨rfl,by omega⟩ ?_|refine Va ⟨rfl,by omega,by omega⟩ ?_|intro _
   exact hK
  | true=>
   have hsl2:=hsl;simp only [Bool.and_eq_true,decide_eq_true_eq]at hsl2;obtain⟨hvl,_,hsP⟩:=hsl2;have hsm2:=hsm;simp only [List.all_cons,List.all_nil,Bool.and_true]at hsm2;have o2l:=Ua9 hwl hsP;have o2m:=xbc hsm2;have ok2:=Vf o2l (by decide:2<=1000)
   have ok3:=Vf o2l (by decide:2<=90)
   have om2:al m<=10000:=by omega
   obtain⟨f0,p0⟩:=Ubs hvl;have c0:=qbq f0 hav;have e0:=kb tE;have d0' : decide ((0:Nat)=0)=true:=rfl;obtain⟨pc,hev⟩:=ZS ok2 f0;obtain⟨pn,hevn⟩:=ZS (UaT ok3) (vax f0);have i3:ev (bcL (l4 t)) (rv m.1) (rv m.2)=dtL (l4 t) (av m):=hev (av m);have cc:=qB pc.canon;have i0:=Uz pc.canon.ins;have i1:=WF (p:=bcL (l4 t)) (N:=1000000000) (Nat.le_trans pc.size (by decide))
   have i2:=Nat.le_trans pc.size (by decide:_<=100000000)
   have wx:=hwm.1;have wy:=hwm.2;have lx:=(Nat.max_le.1 om2).1;have ly:=(Nat.max_le.1 om2).2;have z4:rz (dtL (l4 t) (av m))<=4294967296:=ubg ok2 f0 wx wy lx ly;have cn:chkB (mcs (cnL (l4 t)))=0:=qB pn.canon;have j0:∀t'∈mcs (cnL (l4 t)),WLM t':=Uz pn.canon.ins;have j1:∀t'∈mcs (cnL (l4 t)),rl t'.2.2<=1000000000:=WF (N:=1000000000) (Nat.le_trans pn.size (by decide))
   have j2:sz (cnL (l4 t))<=100000000:=Nat.le_trans pn.size (by decide:_<=100000000)
   have b1:bres 0 (bcL (l4 t))=mcs (bcL (l4 t)):=QA _;have b2:bres 0 (cnL (l4 t))=mcs (cnL (l4 t)):=QA _;obtain⟨B,hB⟩:∃B,bcL (l4 t)=B:=⟨_,rfl⟩;obtain⟨N,hN⟩:∃N,cnL (l4 t)=N:=⟨_,rfl⟩;rw [hB]at i3 cc i0 i1 i2 b1;rw [hN]at cn j0 j1 j2 b2;obtain⟨D,hD⟩:∃D,dtL (l4 t) (av m)=D:=⟨_,rfl⟩;rw [hD]at i3 z4;obtain⟨e,hee⟩:∃e:Value,errV tE (dyC (l4 t) m)=.one (.lit e):=⟨_,rfl⟩;obtain⟨Q,hQ⟩:∃Q,dyR (l4 t) m=Q:=⟨_,rfl⟩;simp only [go_sem,Qb,hw,h4,ha,hp,ho,hc1,hc2,he,hg,hsl,yb,Jb,hsm,hav,c0,f0,e0,d0',Bool.true_and,b1,b2,hB,hN,wB,cc,i3,hD,Yb,js];repeat first|refine Va (by with_reducible assumption) ?_|refine Va (Nat.le_trans (by with_reducible assumption) (by decide)) ?_|refine Va (by decide) ?_
   refine⟨λ_=>?_,λh=>absurd h (by simp)⟩
   have o8:∀k,onErr tE k (.one (.lit (.iface tE (.int .i64 8))))=k 8:=λk=>by
    have e:=wL tE k 8;rw [ub tE (by decide)]at e
    exact e
   have o21:∀k,onErr tE k (.one (.lit (.iface tE (.int .i64 21))))=k 21:=λk=>by
    have e:=wL tE k 21;rw [ub tE (by decide)]at e
    exact e
   have q1:decide (((8:Nat):Int)=8)=true:=rfl;have q2:decide (((8:Nat):Int)=21)=false:=rfl;have q3:decide (((21:Nat):Int)=8)=false:=rfl;have q4:decide (((21:Nat):Int)=21)=true:=rfl;have s1:(true == true)=true:=rfl;have s2:(false == false)=true:=rfl;by_cases hDz:D=0
   case neg=>
    have e21:errV tE 21=.one (.lit (.iface tE (.int .i64 21))):=ub tE (by decide)
    have ec:dyC (l4 t) m=21:=by unfold dyC;rw [if_neg (by omega),if_pos (by rw [hD];exact hDz)]
    simp only [go_sem,hd,yb,Jb,ec,hQ,e21,hi,o8,o21,q1,q2,q3,q4,s1,s2,decide_eq_false hDz,Bool.not_false,Bool.not_true];repeat first|refine Va (by with_reducible assumption) ?_|refine Va (Nat.le_trans (by with_reducible assumption) (by decide)) ?_|refine Va (by decide) ?_
    exact hK
   have gd:=decide_eq_true hDz;cases hdy:dyN (l4 t) (av m) with
   | none=>
    have e8:errV tE 8=.one (.lit (.iface tE (.int .i64 8))):=ub tE (by decide)
    have ec:dyC (l4 t) m=8:=by unfold dyC;rw [if_neg (by omega),if_neg (by simp [hD,hDz]),hdy]
    simp only [go_sem,hd,yb,Jb,ec,hQ,e8,hi,o8,o21,q1,q2,q3,q4,s1,s2,gd,Bool.not_false,Bool.not_true];repeat first|refine Va (by with_reducible assumption) ?_|refine Va (Nat.le_trans (by with_reducible assumption) (by decide)) ?_|refine Va (by decide) ?_
    exact hK
   | some xyz=>
    obtain⟨x,y,z⟩:=xyz;have ec:dyC (l4 t) m=0:=by unfold dyC;rw [if_neg (by omega),if_neg (by simp [hD,hDz]),hdy]
    have er:dyR (l4 t) m=(ctr3 x y z,av m,sqQ (subQ x (ctr3 x y z))):=by unfold dyR;rw [ec,if_pos rfl,hdy]
    obtain⟨g1,g2⟩:=QbF o2l hwm o2m hdy;obtain⟨k1,k2,k3,k4⟩:=kbt hdy (by rw [hD];exact hDz)
    have hmm:=ybw hwm hav;obtain⟨C,hC⟩:∃C,ctr3 x y z=C:=⟨_,rfl⟩;rw [hC]at g1 g2 k1 k2 k3 k4 er;obtain⟨r,hr⟩:∃r,sqQ (subQ x C)=r:=⟨_,rfl⟩;rw [hr]at g2 k1 k2 k3 k4 er;have wC:WLA (rcan C.1,rcan C.2):=QB C;have lC:al (rcan C.1,rcan C.2)<=2900:=g1;have lC1:rz C.1<=10000:=Nat.le_trans (Nat.le_trans (Nat.le_max_left _ _) g1) (by decide)
    have lC2:rz C.2<=10000:=Nat.le_trans (Nat.le_trans (Nat.le_max_right _ _) g1) (by decide)
    have wD:WLD ((rcan C.1,rcan C.2),m,rcan r):=⟨wC,hwm,xn _⟩;have lD:dl ((rcan C.1,rcan C.2),m,rcan r)<=100000:=dl_3 (by omega) (by omega) (by omega)
    have vD:dvld ((rcan C.1,rcan C.2),m,rcan r)=true:=by
     have:=Ua8 C;unfold dvld;rw [hav,Ui];show(avld (acan C) && _)=true;rw [this];rfl
    have hp0:psnC (l4 t) ((rcan C.1,rcan C.2),m,rcan r)=0:=by unfold psnC;rw [if_neg (by omega),if_pos vD]
    have hps:psnB (l4 t) ((rcan C.1,rcan C.2),m,rcan r)=true:=(Qby t _ m r).2 (by rw [wbk];exact⟨k1,k2,k3,k4⟩)
    have i5:ev N C.1 C.2=0:=by rw [<-hN];have:=hevn C;rw [Qbr k1 k2 k3 k4]at this;exact this
    have z0:rz 0<=4294967296:=Nat.le_trans (Nat.le_of_eq rz_0) (by decide)
    have dq:decide ((0:Rat)=0)=true:=rfl;simp only [go_sem,hd,ht,he,hg,hs,yb,Jb,ec,er,e0,gd,hmm,hp0,hps,d0',Bool.true_and,wB,cn,Yb,i5,js,dq,decide_true];repeat first|refine Va (by with_reducible assumption) ?_|refine Va (Nat.le_trans (by with_reducible assumption) (by decide)) ?_|refine Va (by decide) ?_
    exact hK
end Go.Abs
end
section
namespace Go.Num
open Go.Abs
end Go.Num
namespace Go.Abs
open Go.Num
variable {P:Program} {Γ:Nat->Spec}
def vJ(l:List AV)(K:AV->Prop):Prop:=
 match l with
 | [c,p]=>onCp (λc=>onA (λp=>cl c<=1048576/\al p<=1048576/\K (.one (.lit (.bool true)))) p) c
 | _=>False
theorem yT(c p:AV)(K:AV->Prop):vJ [c,p] K=(onCp (λc=>onA (λp=>cl c<=1048576/\al p<=1048576/\K (.one (.lit (.bool true)))) p) c):=propext Iff.rfl
@[congr] theorem Ubu {K:AV->Prop} {l l' : List AV} (h:l=l'):vJ l K=vJ l' K:=by subst h;rfl
attribute [go_sem,go_sem ↓] yT
end Go.Abs
end
section
namespace Go.Num
open Go.Abs
def clsC(c:Cp)(a b:Arc):Cp:=(c.1,c.2.1,rcan (sqQ (subQ (av a) (av c.1))),rcan (sqQ (subQ (av b) (av a))),rcan (sqQ (subQ (av b) (av c.2.1))),c.2.2.2.2.2.1,c.2.2.2.2.2.2)
end Go.Num
namespace Go.Abs
open Go.Num
variable {P:Program} {Γ:Nat->Spec}
def WaY(l:List AV)(K:AV->Prop):Prop:=
 match l with
 | [c]=>onCp (λc=>cl c<=100000000/\K (.one (.lit (.int .i64 (cchk c:Nat))))) c
 | _=>False
theorem QaJ(c:AV)(K:AV->Prop):WaY [c] K=(onCp (λc=>cl c<=100000000/\K (.one (.lit (.int .i64 (cchk c:Nat))))) c):=propext Iff.rfl
@[congr] theorem qbS {K:AV->Prop} {l l' : List AV} (h:l=l'):WaY l K=WaY l' K:=by subst h;rfl
attribute [go_sem,go_sem ↓] QaJ
def UaK(l:List AV)(K:AV->Prop):Prop:=
 match l with
 | [c,a,b]=>onCp (λc=>onA (λa=>onA (λb=>cl c<=10000/\al a<=10000/\al b<=10000/\K (.tup [cpA (clsC c a b),.one (.lit (.bool (decide (cchk (clsC c a b)=0))))])) b) a) c
 | _=>False
theorem jaX(c a b:AV)(K:AV->Prop):UaK [c,a,b] K=(onCp (λc=>onA (λa=>onA (λb=>cl c<=10000/\al a<=10000/\al b<=10000/\K (.tup [cpA (clsC c a b),.one (.lit (.bool (decide (cchk (clsC c a b)=0))))])) b) a) c):=propext Iff.rfl
@[congr] theorem WbO {K:AV->Prop} {l l' : List AV} (h:l=l'):UaK l K=UaK l' K:=by subst h;rfl
attribute [go_sem,go_sem ↓] jaX
end Go.Abs
end
section
namespace Go.Num
open Go.Abs
def riC(c:Cp)(p:Arc):Nat:=if wV (cpv c) (av p)≠0 then 21 else if wM (cpv c) (av p)=0 then 15 else 0
def reQ(c:CpR):V2:=subQ (1,0) (cW c)
end Go.Num
namespace Go.Abs
open Go.Num
variable {P:Program} {Γ:Nat->Spec}
def Ybr(l:List AV)(K:AV->Prop):Prop:=
 match l with
 | [c]=>onCp (λc=>K (aA (c.2.2.2.2.2.1,c.2.2.2.2.2.2))) c
 | _=>False
theorem wbf(c:AV)(K:AV->Prop):Ybr [c] K=(onCp (λc=>K (aA (c.2.2.2.2.2.1,c.2.2.2.2.2.2))) c):=propext Iff.rfl
@[congr] theorem zbX {K:AV->Prop} {l l' : List AV} (h:l=l'):Ybr l K=Ybr l' K:=by subst h;rfl
attribute [go_sem,go_sem ↓] wbf
def Ua1(l:List AV)(K:AV->Prop):Prop:=
 match l with
 | [c]=>onCp (λc=>cl c<=100000000/\K (pQ (reQ (cpv c)))) c
 | _=>False
theorem JaQ(c:AV)(K:AV->Prop):Ua1 [c] K=(onCp (λc=>cl c<=100000000/\K (pQ (reQ (cpv c)))) c):=propext Iff.rfl
@[congr] theorem vbU {K:AV->Prop} {l l' : List AV} (h:l=l'):Ua1 l K=Ua1 l' K:=by subst h;rfl
attribute [go_sem,go_sem ↓] JaQ
def XaJ(l:List AV)(K:AV->Prop):Prop:=
 match l with
 | [c,p]=>onCp (λc=>onA (λp=>cl c<=1000/\al p<=1000/\cchk c=0/\K (.tup [pQ (wN (cpv c) (av p)),rQ (wM (cpv c) (av p))])) p) c
 | _=>False
theorem QaX(c p:AV)(K:AV->Prop):XaJ [c,p] K=(onCp (λc=>onA (λp=>cl c<=1000/\al p<=1000/\cchk c=0/\K (.tup [pQ (wN (cpv c) (av p)),rQ (wM (cpv c) (av p))])) p) c):=propext Iff.rfl
@[congr] theorem YbM {K:AV->Prop} {l l' : List AV} (h:l=l'):XaJ l K=XaJ l' K:=by subst h;rfl
attribute [go_sem,go_sem ↓] QaX
def Qa7(l:List AV)(K:AV->Prop):Prop:=
 match l with
 | [c,p]=>onCp (λc=>onA (λp=>cl c<=1000/\al p<=1000/\cchk c=0/\K (rQ (wV (cpv c) (av p)))) p) c
 | _=>False
theorem ZaJ(c p:AV)(K:AV->Prop):Qa7 [c,p] K=(onCp (λc=>onA (λp=>cl c<=1000/\al p<=1000/\cchk c=0/\K (rQ (wV (cpv c) (av p)))) p) c):=propext Iff.rfl
@[congr] theorem QbQ {K:AV->Prop} {l l' : List AV} (h:l=l'):Qa7 l K=Qa7 l' K:=by subst h;rfl
attribute [go_sem,go_sem ↓] ZaJ
def ja1(l:List AV)(K:AV->Prop):Prop:=
 match l with
 | [c,p]=>onCp (λc=>onA (λp=>cl c<=1000/\al p<=1000/\cchk c=0/\K (.tup [pQ (if riC c p=0 then endA (cpv c) (av p) (zL (cpv c) (av p)) else (0,0)),pQ (if riC c p=0 then endB (cpv c) (av p) (zL (cpv c) (av p)) else (0,0)),.one (.lit (.int .i64 (riC c p:Nat)))])) p) c
 | _=>False
theorem Wa6(c p:AV)(K:AV->Prop):ja1 [c,p] K=(onCp (λc=>onA (λp=>cl c<=1000/\al p<=1000/\cchk c=0/\K (.tup [pQ (if riC c p=0 then endA (cpv c) (av p) (zL (cpv c) (av p)) else (0,0)),pQ (if riC c p=0 then endB (cpv c) (av p) (zL (cpv c) (av p)) else (0,0)),.one (.lit (.int .i64 (riC c p:Nat)))])) p) c):=propext Iff.rfl
@[congr] theorem zbN {K:AV->Prop} {l l' : List AV} (h:l=l'):ja1 l K=ja1 l' K:=by subst h;rfl
attribute [go_sem,go_sem ↓] Wa6
def kaW(l:List AV)(K:AV->Prop):Prop:=
 match l with
 | [c,a,b]=>onCp (λc=>onA (λa=>onA (λb=>cl c<=10000/\al a<=10000/\al b<=10000/\K (pQ (ptQ (cpv c) (av a) (av b)))) b) a) c
 | _=>False
theorem JaV(c a b:AV)(K:AV->Prop):kaW [c,a,b] K=(onCp (λc=>onA (λa=>onA (λb=>cl c<=10000/\al a<=10000/\al b<=10000/\K (pQ (ptQ (cpv c) (av a) (av b)))) b) a) c):=propext Iff.rfl
@[congr] theorem ubT {K:AV->Prop} {l l' : List AV} (h:l=l'):kaW l K=kaW l' K:=by subst h;rfl
attribute [go_sem,go_sem ↓] JaV
def xaZ(l:List AV)(K:AV->Prop):Prop:=
 match l with
 | [c,a,b]=>onCp (λc=>onA (λa=>onA (λb=>cl c<=10000/\al a<=10000/\al b<=10000/\K (.one (.lit (.bool (decide (hldQ (cpv c) (av a) (av b))))))) b) a) c
 | _=>False
theorem yaT(c a b:AV)(K:AV->Prop):xaZ [c,a,b] K=(onCp (λc=>onA (λa=>onA (λb=>cl c<=10000/\al a<=10000/\al b<=10000/\K (.one (.lit (.bool (decide (hldQ (cpv c) (av a) (av b))))))) b) a) c):=propext Iff.rfl
@[congr] theorem xbQ {K:AV->Prop} {l l' : List AV} (h:l=l'):xaZ l K=xaZ l' K:=by subst h;rfl
attribute [go_sem,go_sem ↓] yaT
def qh(f0 f1:Nat):AC:=(.seq (.ops false [.u 2 (.box 6 (.t 0)),.u 3 (.box 6 (.t 1)),.u 4 (.alloc [(.lit (.bool false)),.emp,.emp])])
 (.fg [2,3,4] (.seq (.ops true [.u 5 (.fa 0 (.t 2)),.u 6 (.ld none 3 true (.t 5)),.u 7 (.fa 3 (.t 3)),.u 8 (.ld none 3 true (.t 7)),.u 9 (.call f0 [(.t 6),(.t 8)]),.u 10 (.fa 3 (.t 2)),.u 11 (.ld none 3 true (.t 10)),.u 12 (.fa 0 (.t 3)),.u 13 (.ld none 3 true (.t 12)),.u 14 (.call f0 [(.t 11),(.t 13)]),.u 15 (.call f1 [(.t 9),(.t 14)]),.n (.st none 3 (.t 4) (.t 15))])
 .ret)))
theorem jaa(hΓ:Holds P Γ){f fm fs:Nat}(hm:Γ fm=.dat false Xo)(hs:Γ fs=.dat false Yu)(hc:check P f=some (16,(qh fm fs).strip,[.cell 4 3 true])):Sound P f (.dat false Yn):=by
 refine ka hc Zaj hΓ (λargs K hcl hfi hG=>?_);match args,hG with
 | [a,b],hG=>
  obtain⟨p,rfl,wp,q,rfl,wq,hl,hl2,hK⟩:=hG;refine⟨by simp,?_⟩
  have w1:=wp.1;have w2:=wp.2;have w3:=wq.1;have w4:=wq.2;have l1:=(Nat.max_le.1 hl).1;have l2:=(Nat.max_le.1 hl).2;have l3:=(Nat.max_le.1 hl2).1;have l4:=(Nat.max_le.1 hl2).2;have r1:=yj w1;have r2:=yj w2;have r3:=yj w3;have r4:=yj w4;have m1:=Nat.le_trans (Uc (rv p.1) (rv q.2)) (by omega:_<=1000000000)
  have m2:=Nat.le_trans (Uc (rv p.2) (rv q.1)) (by omega:_<=1000000000)
  simp only [go_sem,qh,hm,hs,yb,Yb];repeat first|refine Va (by with_reducible assumption) ?_|refine Va (Nat.le_trans (by with_reducible assumption) (by decide)) ?_|refine Va (by decide) ?_
  exact hK
end Go.Abs
end
section
namespace Go.Abs
open Go.Num
variable {P:Program} {Γ:Nat->Spec}
def Xs:AC:=(.seq (.ops false [.m 2 (.c (.one .emp))])
 (.fg [0] (.seq (.ops false [.m 4 (.t 0),.u 5 (.len (.t 4)),.m 3 (.t 5)])
 (.fg [0,3] (.seq (.block 0 (.loop (.seq (.seq (.ops false [.m 6 (.t 3),.u 7 (.bin .gtr (.t 6) (.i 0)),.m 8 (.t 7),.w 9 8 true (.mv (.t 0)),.w 10 8 true (.mv (.t 3)),.w 11 8 true (.bin .sub (.t 10) (.i 1)),.w 12 8 true (.idx 1 (.t 9) (.t 11)),.w 13 8 true (.ld none 1 false (.t 12)),.w 14 8 true (.bin .eql (.t 13) (.c (.one (.lit (.int .u32 0))))),.u 15 (.pick (.t 8) (.t 14) .fa)])
 (.fg [0,3,15] (.cond (.t 15) .skip (.exit 0))))
 (.fg [0,3] (.block 1 (.ops false [.m 16 (.t 3),.u 17 (.bin .sub (.t 16) (.i 1)),.m 3 (.t 17)]))))))
 (.fg [0,3] (.seq (.seq (.ops false [.m 18 (.t 3),.u 19 (.bin .eql (.t 18) (.i 0))])
 (.fg [0,3,19] (.cond (.t 19) (.seq (.ops false [.m 2 (.c (.one .emp))])
 .ret) .skip)))
 (.fg [0,3] (.seq (.ops false [.m 20 (.c (.one .emp)),.m 21 (.t 0),.m 22 (.t 3),.u 23 (.sl 1 (.t 21) none (some (.t 22))),.u 24 (.app0 1 (.t 20) (.t 23)),.m 2 (.t 24)])
 .ret)))))))))
def vm:AC:=(.seq (.ops false [.m 4 (.c (.one (.lit (.int .u64 0))))])
 (.fg [0,1] (.seq (.seq (.ops false [.m 5 (.t 1),.m 6 (.t 0),.u 7 (.len (.t 6)),.u 8 (.bin .lss (.t 5) (.t 7))])
 (.fg [0,1,8] (.cond (.t 8) (.seq (.ops false [.m 9 (.t 0),.m 10 (.t 1),.u 11 (.idx 1 (.t 9) (.t 10)),.u 12 (.ld none 1 false (.t 11)),.u 13 (.conv .u64 (.t 12)),.m 4 (.t 13)])
 .ret) .skip)))
 (.fg [] (.seq (.ops false [.m 4 (.c (.one (.lit (.int .u64 0))))])
 .ret)))))
def Jt(f0 f1:Nat):AC:=(.seq (.ops false [.m 4 (.c (.one .emp))])
 (.fg [0,1] (.seq (.ops false [.m 8 (.t 0),.u 9 (.len (.t 8)),.m 10 (.t 1),.u 11 (.len (.t 10)),.u 12 (.max [(.t 9),(.t 11)]),.u 13 (.bin .add (.t 12) (.i 1)),.u 14 (.mk 1 [(.lit (.int .u32 0))] (.t 13) (.t 13)),.m 5 (.t 14)])
 (.fg [0,1,5] (.seq (.ops false [.m 6 (.c (.one (.lit (.int .u64 0))))])
 (.fg [0,1,5,6] (.seq (.seq (.ops false [.m 15 (.t 5),.u 16 (.len (.t 15)),.m 17 (.i 0)])
 (.fg [0,1,5,6,16,17] (.block 0 (.loop (.seq (.ops false [.u 18 (.bin .lss (.t 17) (.t 16))])
 (.fg [0,1,5,6,16,17,18] (.seq (.cond (.t 18) .skip (.exit 0))
 (.fg [0,1,5,6,16,17] (.seq (.block 1 (.seq (.ops false [.m 19 (.t 17),.m 7 (.t 19)])
 (.fg [0,1,5,6,7,16,17] (.seq (.ops false [.m 20 (.t 6),.m 21 (.t 0),.m 22 (.t 7),.u 23 (.call f0 [(.t 21),(.t 22)]),.m 24 (.t 1),.m 25 (.t 7),.u 26 (.call f0 [(.t 24),(.t 25)]),.u 27 (.bin .add (.t 23) (.t 26)),.u 28 (.bin .add (.t 20) (.t 27)),.m 6 (.t 28)])
 (.fg [0,1,5,6,7,16,17] (.seq (.ops false [.m 29 (.t 5),.m 30 (.t 7),.m 31 (.t 6),.u 32 (.conv .u32 (.t 31)),.u 33 (.idx 1 (.t 29) (.t 30)),.n (.st none 1 (.t 33) (.t 32))])
 (.fg [0,1,5,6,16,17] (.ops false [.m 34 (.t 6),.u 35 (.bin .shr (.t 34) (.c (.one (.lit (.int .u64 32))))),.m 6 (.t 35)]))))))))
 (.fg [0,1,5,6,16,17] (.ops false [.u 36 (.bin .add (.t 17) (.i 1)),.m 17 (.t 36)])))))))))))
 (.fg [5] (.seq (.ops false [.m 37 (.t 5),.u 38 (.call f1 [(.t 37)]),.m 4 (.t 38)])
 .ret)))))))))
theorem qaD(hΓ:Holds P Γ){f:Nat}(hc:check P f=some (25,Xs.strip,[.tmp 2])):Sound P f (.dat false Vu):=by
 refine ka hc vaS hΓ (λargs K hcl hfi hG=>?_);match args,hG with
 | [a],hG=>
  obtain⟨l,rfl,hl,hlen,hK⟩:=hG;refine⟨by simp,?_⟩
  simp only [go_sem,Xs];intro hmax;refine Ya (λn:Nat=>⟨mkV [(0,wsA l),(3,.one (.lit (.int .i64 n)))],mkH []⟩) (λn=>n<=l.length/\val (l.take n)=val l) id l.length ?_ ?_ ?_
  .exact ja (by simp [okS,okV,okC,okL,okH,okB,okE,Qa,va,qa,Ja,wsA,ws]) trivial
  .simp
  .rintro n ⟨hn,ht⟩;simp only [go_sem];refine⟨λh=>⟨by omega,by omega,by omega,λh0=>⟨by omega,n-1,ja (by simp [okS,okV,okC,okL,okH,okB,okE,Qa,va,qa,Ja,wsA,ws];omega) trivial,⟨by omega,?_⟩,?_⟩,λh0=>⟨λh1=>by omega,λ_=>⟨by omega,by simp;omega,?_⟩⟩⟩,λh=>⟨λh1=>?_,λh1=>by omega⟩⟩
   .rw [show((n:Int)-1).toNat=n-1 by omega]at h0
    have:=Zc l (n-1);rw [show n-1+1=n by omega,h0,Nat.mul_zero,Nat.add_zero]at this
    rw [<-this];exact ht
   .simp only [id];omega
   .rw [show((n:Int)-1).toNat=n-1 by omega]at h0
    have:=Ve (Ux hl n) (XL h hn h0);rw [<-this,ht];exact hK
   .subst h1;have:val l=0:=by rw [<-ht];simp [val]
    rw [this,Wb]at hK;exact hK
theorem vQ(hΓ:Holds P Γ){f:Nat}(hc:check P f=some (14,vm.strip,[.tmp 4])):Sound P f (.dat true Vl):=by
 refine ka hc waL hΓ (λargs K hcl hfi hG=>?_);match args,hG with
 | [a,b],hG=>
  obtain⟨l,rfl,hl,hG⟩:=hG;obtain⟨k,i,rfl,rfl,hi,hK⟩:=vb hG;refine⟨by simp,?_⟩
  simp only [go_sem,vm];intro hmax;refine⟨λh=>⟨hi,by omega,?_⟩,λh=>?_⟩
  .have:=qc hl i.toNat;rw [Nat.mod_eq_of_lt (by omega)];exact hK
  .rw [List.getD_eq_getElem?_getD,List.getElem?_eq_none (by omega)]at hK;exact hK
theorem YaG(hΓ:Holds P Γ){f fw ft:Nat}(hw:Γ fw=.dat true Vl)(ht:Γ ft=.dat false Vu)(hc:check P f=some (39,(Jt fw ft).strip,[.tmp 4])):Sound P f (.dat false qq):=by
 refine ka hc U5 hΓ (λargs K hcl hfi hG=>?_);match args,hG with
 | [a,b],hG=>
  obtain⟨x,rfl,hx,y,rfl,hy,hxl,hyl,hK⟩:=hG;refine⟨by simp,?_⟩
  simp only [go_sem,Jt,hw,ht];intro h1 h2;refine⟨by omega,by omega,λhN=>?_⟩
  generalize hNN:max x.length y.length+1=N at hN;refine Ya (λp:List Nat×Nat=>⟨mkV [(0,wsA x),(1,wsA y),(5,.one (.own 14 1 1 0 N)),(6,.one (.lit (.int .u64 p.2))),(16,.one (.lit (.int .i64 N))),(17,.one (.lit (.int .i64 p.1.length)))],mkH [(14,⟨1,some ⟨(p.1++List.replicate (N-p.1.length) 0).map wc,1,true⟩⟩)]⟩)
   (λp=>p.1.length<=N/\WL p.1/\p.2<=1/\val p.1+4294967296 ^ p.1.length*p.2=val (x.take p.1.length)+val (y.take p.1.length)) (λp=>N-p.1.length) ([],0) ?_ ?_ ?_
  .exact ja (by simp [okS,okV,okC,okL,okH,okB,okE,Qa,va,qa,Ja,wsA,ws]) (Xi (by simp))
  .simp [Wc,val]
  .rintro⟨o,c⟩ ⟨hoN,ho,hc1,hval⟩;simp only at hoN ho hc1 hval;have hlen:(o++List.replicate (N-o.length) 0).length=N:=by simp;omega
   simp only [go_sem,hw,ht,hlen];refine⟨λhlt=>⟨hx,hy,hlt,hlt,by omega,by omega,?_⟩,λhge=>?_⟩
   .have g1:=qc hx o.length;have g2:=qc hy o.length;rw [Nat.mod_eq_of_lt (show x.getD o.length 0+y.getD o.length 0<18446744073709551616 by omega),Nat.mod_eq_of_lt (show c+(x.getD o.length 0+y.getD o.length 0)<18446744073709551616 by omega)]
    generalize hs:c+(x.getD o.length 0+y.getD o.length 0)=s;refine⟨(o++[s % 4294967296],s / 4294967296),ja (by simp [okS,okV,okC,okL,okH,okB,okE,Qa,va,qa,Ja,wsA,ws]) (Xi ?_),⟨by simp;omega,zf.2 ⟨ho,vc.2 ⟨Nat.mod_lt _ (by omega),Wc⟩⟩,by simp only;omega,?_⟩,by simp;omega⟩
    .rw [show N-o.length=N-(o.length+1)+1 by omega,Xaj];simp
    .simp only [List.length_append,List.length_cons,List.length_nil,Nat.zero_add,Zc,Jc,Yi,Xm,Nat.mul_zero,Nat.add_zero,Nat.pow_succ];rw [Nat.mul_assoc,Nat.add_assoc,<-Nat.mul_add,Nat.mod_add_div,<-hs,Nat.mul_add,<-Nat.add_assoc,hval,Nat.mul_add];omega
   .have e:o.length=N:=by omega
    simp only [e,Nat.sub_self,List.replicate_zero,List.append_nil,Nat.le_refl,if_true,qI];have hv:val o=val x+val y:=by
     rw [e,xk (by omega),xk (by omega)]at hval
     exact yat hx hy (by omega) (by omega) (by omega) hval
    refine⟨ho,by omega,?_⟩
    rw [hv];exact hK
end Go.Abs
end
section
namespace Go.Abs
open Go.Num
variable {P:Program} {Γ:Nat->Spec}
def vu(f0 f1:Nat):AC:=(.seq (.ops false [.m 4 (.c (.one .emp))])
 (.fg [0,1] (.seq (.ops false [.m 9 (.t 0),.u 10 (.len (.t 9)),.u 11 (.mk 1 [(.lit (.int .u32 0))] (.t 10) (.t 10)),.m 5 (.t 11)])
 (.fg [0,1,5] (.seq (.ops false [.m 6 (.c (.one (.lit (.int .u64 0))))])
 (.fg [0,1,5,6] (.seq (.seq (.ops false [.m 12 (.t 5),.u 13 (.len (.t 12)),.m 14 (.i 0)])
 (.fg [0,1,5,6,13,14] (.block 0 (.loop (.seq (.ops false [.u 15 (.bin .lss (.t 14) (.t 13))])
 (.fg [0,1,5,6,13,14,15] (.seq (.cond (.t 15) .skip (.exit 0))
 (.fg [0,1,5,6,13,14] (.seq (.block 1 (.seq (.ops false [.m 16 (.t 14),.m 7 (.t 16)])
 (.fg [0,1,5,6,7,13,14] (.seq (.ops true [.m 17 (.t 0),.m 18 (.t 7),.u 19 (.idx 1 (.t 17) (.t 18)),.u 20 (.ld none 1 false (.t 19)),.u 21 (.conv .u64 (.t 20)),.m 22 (.t 1),.m 23 (.t 7),.u 24 (.call f0 [(.t 22),(.t 23)]),.u 25 (.bin .sub (.t 21) (.t 24)),.m 26 (.t 6),.u 27 (.bin .sub (.t 25) (.t 26)),.m 8 (.t 27)])
 (.fg [0,1,5,7,8,13,14] (.seq (.ops false [.m 28 (.t 5),.m 29 (.t 7),.m 30 (.t 8),.u 31 (.conv .u32 (.t 30)),.u 32 (.idx 1 (.t 28) (.t 29)),.n (.st none 1 (.t 32) (.t 31))])
 (.fg [0,1,5,8,13,14] (.ops false [.m 33 (.t 8),.u 34 (.bin .shr (.t 33) (.c (.one (.lit (.int .u64 63))))),.m 6 (.t 34)]))))))))
 (.fg [0,1,5,6,13,14] (.ops false [.u 35 (.bin .add (.t 14) (.i 1)),.m 14 (.t 35)])))))))))))
 (.fg [5] (.seq (.ops false [.m 36 (.t 5),.u 37 (.call f1 [(.t 36)]),.m 4 (.t 37)])
 .ret)))))))))
def Jm:AC:=(.seq (.ops false [.m 4 (.i 0)])
 (.fg [0,1] (.seq (.seq (.ops false [.m 6 (.t 0),.u 7 (.len (.t 6)),.m 8 (.t 1),.u 9 (.len (.t 8)),.u 10 (.bin .neq (.t 7) (.t 9))])
 (.fg [0,1,10] (.cond (.t 10) (.seq (.seq (.ops false [.m 11 (.t 0),.u 12 (.len (.t 11)),.m 13 (.t 1),.u 14 (.len (.t 13)),.u 15 (.bin .lss (.t 12) (.t 14))])
 (.fg [15] (.cond (.t 15) (.seq (.ops false [.m 4 (.i (-1))])
 .ret) .skip)))
 (.fg [] (.seq (.ops false [.m 4 (.i 1)])
 .ret))) .skip)))
 (.fg [0,1] (.seq (.seq (.ops false [.m 16 (.t 0),.u 17 (.len (.t 16)),.u 18 (.bin .sub (.t 17) (.i 1)),.m 5 (.t 18)])
 (.fg [0,1,5] (.block 0 (.loop (.seq (.seq (.ops false [.m 19 (.t 5),.u 20 (.bin .geq (.t 19) (.i 0))])
 (.fg [0,1,5,20] (.cond (.t 20) .skip (.exit 0))))
 (.fg [0,1,5] (.seq (.block 1 (.seq (.ops true [.m 23 (.t 0),.m 24 (.t 5),.u 25 (.idx 1 (.t 23) (.t 24)),.u 26 (.ld none 1 false (.t 25)),.m 27 (.t 1),.m 28 (.t 5),.u 29 (.idx 1 (.t 27) (.t 28)),.u 30 (.ld none 1 false (.t 29)),.u 31 (.bin .neq (.t 26) (.t 30))])
 (.fg [0,1,5,31] (.cond (.t 31) (.seq (.seq (.ops true [.m 32 (.t 0),.m 33 (.t 5),.u 34 (.idx 1 (.t 32) (.t 33)),.u 35 (.ld none 1 false (.t 34)),.m 36 (.t 1),.m 37 (.t 5),.u 38 (.idx 1 (.t 36) (.t 37)),.u 39 (.ld none 1 false (.t 38)),.u 40 (.bin .lss (.t 35) (.t 39))])
 (.fg [40] (.cond (.t 40) (.seq (.ops false [.m 4 (.i (-1))])
 .ret) .skip)))
 (.fg [] (.seq (.ops false [.m 4 (.i 1)])
 .ret))) .skip))))
 (.fg [0,1,5] (.ops false [.m 21 (.t 5),.u 22 (.bin .sub (.t 21) (.i 1)),.m 5 (.t 22)])))))))))
 (.fg [] (.seq (.ops false [.m 4 (.i 0)])
 .ret)))))))
def Qp(f0:Nat):AC:=(.seq (.ops false [.m 4 (.c (.one .emp)),.m 5 (.c (.one (.lit (.int .u32 0))))])
 (.fg [0,1] (.seq (.ops false [.m 9 (.t 0),.u 10 (.len (.t 9)),.u 11 (.mk 1 [(.lit (.int .u32 0))] (.t 10) (.t 10)),.m 6 (.t 11)])
 (.fg [0,1,6] (.seq (.ops false [.m 7 (.c (.one (.lit (.int .u64 0))))])
 (.fg [0,1,6,7] (.seq (.seq (.ops false [.m 12 (.t 0),.u 13 (.len (.t 12)),.u 14 (.bin .sub (.t 13) (.i 1)),.m 8 (.t 14)])
 (.fg [0,1,6,7,8] (.block 0 (.loop (.seq (.seq (.ops false [.m 15 (.t 8),.u 16 (.bin .geq (.t 15) (.i 0))])
 (.fg [0,1,6,7,8,16] (.cond (.t 16) .skip (.exit 0))))
 (.fg [0,1,6,7,8] (.seq (.block 1 (.seq (.ops false [.m 19 (.t 7),.u 20 (.bin .shl (.t 19) (.c (.one (.lit (.int .u64 32))))),.m 21 (.t 0),.m 22 (.t 8),.u 23 (.idx 1 (.t 21) (.t 22)),.u 24 (.ld none 1 false (.t 23)),.u 25 (.conv .u64 (.t 24)),.u 26 (.bin .or (.t 20) (.t 25)),.m 7 (.t 26)])
 (.fg [0,1,6,7,8] (.seq (.ops false [.m 27 (.t 6),.m 28 (.t 8),.m 29 (.t 7),.m 30 (.t 1),.u 31 (.conv .u64 (.t 30)),.u 32 (.bin .quo (.t 29) (.t 31)),.u 33 (.conv .u32 (.t 32)),.u 34 (.idx 1 (.t 27) (.t 28)),.n (.st none 1 (.t 34) (.t 33))])
 (.fg [0,1,6,7,8] (.ops false [.m 35 (.t 7),.m 36 (.t 1),.u 37 (.conv .u64 (.t 36)),.u 38 (.bin .rem (.t 35) (.t 37)),.m 7 (.t 38)]))))))
 (.fg [0,1,6,7,8] (.ops false [.m 17 (.t 8),.u 18 (.bin .sub (.t 17) (.i 1)),.m 8 (.t 18)])))))))))
 (.fg [6,7] (.seq (.ops false [.m 39 (.t 6),.u 40 (.call f0 [(.t 39)]),.m 41 (.t 7),.u 42 (.conv .u32 (.t 41)),.m 4 (.t 40),.m 5 (.t 42)])
 .ret)))))))))
theorem QaI(hΓ:Holds P Γ){f fw ft:Nat}(hw:Γ fw=.dat true Vl)(ht:Γ ft=.dat false Vu)(hc:check P f=some (38,(vu fw ft).strip,[.tmp 4])):Sound P f (.dat false qt):=by
 refine ka hc zae hΓ (λargs K hcl hfi hG=>?_);match args,hG with
 | [a,b],hG=>
  obtain⟨x,rfl,hx,y,rfl,hy,hxl,hle,hK⟩:=hG;refine⟨by simp,?_⟩
  simp only [go_sem,vu,hw,ht];intro h1;refine⟨by omega,λ_=>?_⟩
  generalize hN:x.length=N at h1 hxl;refine Ya (λp:List Nat×Nat=>⟨mkV [(0,wsA x),(1,wsA y),(5,.one (.own 11 1 1 0 N)),(6,.one (.lit (.int .u64 p.2))),(13,.one (.lit (.int .i64 N))),(14,.one (.lit (.int .i64 p.1.length)))],mkH [(11,⟨1,some ⟨(p.1++List.replicate (N-p.1.length) 0).map wc,1,true⟩⟩)]⟩)
   (λp=>p.1.length<=N/\WL p.1/\p.2<=1/\val p.1+val (y.take p.1.length)=val (x.take p.1.length)+4294967296 ^ p.1.length*p.2) (λp=>N-p.1.length) ([],0) ?_ ?_ ?_
  .exact ja (by simp [okS,okV,okC,okL,okH,okB,okE,Qa,va,qa,Ja,wsA,ws]) (Xi (by simp))
  .simp [Wc,val]
  .rintro⟨o,c⟩ ⟨hoN,ho,hc1,hval⟩;simp only at hoN ho hc1 hval;have hlen:(o++List.replicate (N-o.length) 0).length=N:=by simp;omega
   simp only [go_sem,hw,ht,hlen];refine⟨λhlt=>⟨by omega,hy,hlt,hlt,by omega,by omega,?_⟩,λhge=>?_⟩
   .have g1:=qc hx o.length;have g2:=qc hy o.length;rw [Nat.mod_eq_of_lt (show x.getD o.length 0<18446744073709551616 by omega)]
    obtain⟨s1,s2⟩:=jay g1 g2 hc1;generalize sub64 (sub64 (x.getD o.length 0) (y.getD o.length 0)) c=s at s1 s2;refine⟨(o++[s % 4294967296],s / 9223372036854775808),ja (by simp [okS,okV,okC,okL,okH,okB,okE,Qa,va,qa,Ja,wsA,ws]) (Xi ?_),⟨by simp;omega,zf.2 ⟨ho,vc.2 ⟨Nat.mod_lt _ (by omega),Wc⟩⟩,s2,?_⟩,by simp;omega⟩
    .rw [show N-o.length=N-(o.length+1)+1 by omega,Xaj];simp
    .simp only [List.length_append,List.length_cons,List.length_nil,Nat.zero_add,Zc,Jc,Yi,Xm,Nat.mul_zero,Nat.add_zero,Nat.pow_succ];exact uI hval s1
   .have e:o.length=N:=by omega
    have hv:=JI ho hx (by omega) hle hval
    simp only [e,Nat.sub_self,List.replicate_zero,List.append_nil];refine⟨ho,by omega,?_⟩
    rw [hv];exact hK
theorem xY(hΓ:Holds P Γ){f:Nat}(hc:check P f=some (41,Jm.strip,[.tmp 4])):Sound P f (.dat false wi):=by
 refine ka hc Jac hΓ (λargs K hcl hfi hG=>?_);match args,hG with
 | [a,b],hG=>
  obtain⟨x,rfl,hx,y,rfl,hy,hzx,hzy,hK⟩:=hG;refine⟨by simp,?_⟩
  simp only [go_sem,Jm];intro h1 h2;refine⟨λhl _=>⟨by omega,?_⟩,λhne _ _=>⟨λhlt=>?_,λhge=>?_⟩⟩
  rotate_left
  .rw [wX (jL hx hzy hlt)]at hK;exact hK
  .rw [Jaj (jL hy hzx (by omega))]at hK;exact hK
  refine Ya (λn:Nat=>⟨mkV [(0,wsA x),(1,wsA y),(5,.one (.lit (.int .i64 ((n:Int)-1))))],mkH []⟩) (λn=>n<=x.length/\x.drop n=y.drop n) id x.length ?_ ?_ ?_
  .exact ja (by simp [okS,okV,okC,okL,okH,okB,okE,Qa,va,qa,Ja,wsA,ws]) trivial
  .simp [hl]
  .rintro n ⟨hn,hd⟩;simp only [go_sem];refine⟨λh=>⟨by omega,by omega,by omega,by omega,λhe=>⟨by omega,n-1,ja (by simp [okS,okV,okC,okL,okH,okB,okE,Qa,va,qa,Ja,wsA,ws];omega) trivial,⟨by omega,?_⟩,by simp only [id];omega⟩,λhne=>?_⟩,λh=>?_⟩
   .rw [show((n:Int)-1).toNat=n-1 by omega]at he
    rw [List.getD_eq_getElem?_getD,List.getD_eq_getElem?_getD,List.getElem?_eq_getElem (by omega),List.getElem?_eq_getElem (by omega)]at he
    have e1:=List.getElem_cons_drop (as:=x) (i:=n-1) (by omega)
    have e2:=List.getElem_cons_drop (as:=y) (i:=n-1) (by omega)
    rw [show n-1+1=n by omega]at e1 e2
    rw [<-e1,<-e2,hd];simp only [Option.getD_some]at he;rw [he]
   .rw [show((n:Int)-1).toNat=n-1 by omega]at hne ⊢
    refine⟨by omega,by omega,by omega,by omega,λhlt=>?_,λhge=>?_⟩
    .rw [wX (Xbg (i:=n-1) hx hl (by omega) (by rw [show n-1+1=n by omega];exact hd) hlt)]at hK;exact hK
    .rw [Jaj (Xbg (i:=n-1) hy hl.symm (by omega) (by rw [show n-1+1=n by omega];exact hd.symm) (by omega))]at hK;exact hK
   .have:n=0:=by omega
    subst this;simp only [List.drop_zero]at hd;rw [hd,ZaV]at hK;exact hK
theorem wam(hΓ:Holds P Γ){f ft:Nat}(ht:Γ ft=.dat false Vu)(hc:check P f=some (43,(Qp ft).strip,[.tmp 4,.tmp 5])):Sound P f (.dat false vw):=by
 refine ka hc vaF hΓ (λargs K hcl hfi hG=>?_);match args,hG with
 | [a,b],hG=>
  obtain⟨x,rfl,hx,hG⟩:=hG;obtain⟨k,m,rfl,rfl,hm,hmB,hxl,hK⟩:=vb hG;obtain⟨m,rfl⟩:∃n:Nat,m=n:=⟨m.toNat,by omega⟩
  simp only [Int.toNat_natCast]at hK;refine⟨by simp,?_⟩
  simp only [go_sem,Qp,ht];intro h1;refine⟨hxl,λ_=>⟨by omega,?_⟩⟩
  refine Ya (λp:List Nat×Nat=>⟨mkV [(0,wsA x),(1,.one (.lit (.int .u32 m))),(6,.one (.own 11 1 1 0 x.length)),(7,.one (.lit (.int .u64 p.2))),(8,.one (.lit (.int .i64 ((x.length:Int)-p.1.length-1))))],mkH [(11,⟨1,some ⟨(List.replicate (x.length-p.1.length) 0++p.1).map wc,1,true⟩⟩)]⟩)
   (λp=>p.1.length<=x.length/\WL p.1/\p.2<m/\val p.1*m+p.2=val (x.drop (x.length-p.1.length))) (λp=>x.length-p.1.length) ([],0) ?_ ?_ ?_
  .exact ja (by simp [okS,okV,okC,okL,okH,okB,okE,Qa,va,qa,Ja,wsA,ws]) (Xi (by simp))
  .simp [Wc,val];omega
  .rintro⟨q,r⟩ ⟨hq,hqw,hr,hval⟩;simp only at hq hqw hr hval;have hlen:(List.replicate (x.length-q.length) 0++q).length=x.length:=by simp;omega
   simp only [go_sem,ht,hlen];refine⟨λh=>?_,λh=>?_⟩
   .obtain⟨n,hn⟩:∃n,n=x.length-q.length:=⟨_,rfl⟩;have hn0:0<n:=by omega
    have hi:((x.length:Int)-q.length-1).toNat=n-1:=by omega
    have g1:=qc hx (n-1);have hd:=kK x hn0 (by omega)
    obtain⟨s1,s2⟩:=ya9 (by omega) hr g1
    have s3:=uaU (B:=4294967296) (a:=x.getD (n-1) 0) (by omega) (hn▸hval)
    have e1:r*4294967296 % 18446744073709551616=r*4294967296:=by omega
    have e2:x.getD (n-1) 0 % 18446744073709551616=x.getD (n-1) 0:=by omega
    have e3:m % 18446744073709551616=m:=by omega
    rw [hi,<-hn,e1,e2,e3,or32 _ _ g1];generalize hs:r*4294967296+x.getD (n-1) 0=s at s1 s2 s3;rw [Nat.mod_eq_of_lt (show s / m<18446744073709551616 by omega),Nat.mod_eq_of_lt s1]
    have hm0:s % m<m:=Nat.mod_lt _ (by omega)
    refine⟨⟨rfl,by omega⟩,by omega,by omega,⟨rfl,by omega,by omega⟩,by omega,⟨by omega,by omega⟩,by omega,by omega,by omega,(s / m::q,s % m),ja (by simp [okS,okV,okC,okL,okH,okB,okE,Qa,va,qa,Ja,wsA,ws];omega) (Xi ?_),⟨by simp;omega,vc.2 ⟨s1,hqw⟩,hm0,?_⟩,by simp;omega⟩
    .simp only [List.length_cons];rw [Us q _ hn0,show x.length-(q.length+1)=n-1 by omega]
    .rw [Yi,List.length_cons,show x.length-(q.length+1)=n-1 by omega,hd];exact s3
   .have e:x.length-q.length=0:=by omega
    simp only [e,List.replicate_zero,List.nil_append,List.drop_zero]at hval ⊢;have h1:=Nat.div_mod_unique (show 0<m by omega) (a:=val x) (c:=r) (d:=val q)
    obtain⟨h2,h3⟩:=h1.2 ⟨by rw [<-hval,Nat.mul_comm m,Nat.add_comm],hr⟩
    rw [h2,h3]at hK;refine⟨hqw,by omega,?_⟩
    rw [Nat.mod_eq_of_lt (by omega)];exact hK
end Go.Abs
end
section
namespace Go.Abs
open Go.Num
variable {P:Program} {Γ:Nat->Spec}
def ky:AC:=(.seq (.ops false [.m 4 (.c (.one .emp))])
 (.fg [0,1] (.seq (.ops false [.m 9 (.t 0),.u 10 (.len (.t 9)),.u 11 (.bin .add (.t 10) (.i 1)),.u 12 (.mk 1 [(.lit (.int .u32 0))] (.t 11) (.t 11)),.m 5 (.t 12)])
 (.fg [0,1,5] (.seq (.seq (.ops false [.m 13 (.t 0),.u 14 (.len (.t 13)),.m 15 (.i 0)])
 (.fg [1,5,13,14,15] (.block 0 (.loop (.seq (.ops false [.u 16 (.bin .lss (.t 15) (.t 14))])
 (.fg [1,5,13,14,15,16] (.seq (.cond (.t 16) .skip (.exit 0))
 (.fg [1,5,13,14,15] (.seq (.block 1 (.seq (.ops false [.m 17 (.t 15),.u 18 (.idx 1 (.t 13) (.t 15)),.u 19 (.ld none 1 false (.t 18)),.m 6 (.t 17),.m 7 (.t 19)])
 (.fg [1,5,6,7,13,14,15] (.seq (.ops false [.m 20 (.t 7),.u 21 (.conv .u64 (.t 20)),.m 22 (.t 1),.u 23 (.bin .shl (.t 21) (.t 22)),.m 8 (.t 23)])
 (.fg [1,5,6,8,13,14,15] (.seq (.ops false [.m 24 (.t 5),.m 25 (.t 6),.u 26 (.idx 1 (.t 24) (.t 25)),.u 27 (.ld none 1 false (.t 26)),.m 28 (.t 8),.u 29 (.conv .u32 (.t 28)),.u 30 (.bin .or (.t 27) (.t 29)),.u 31 (.idx 1 (.t 24) (.t 25)),.n (.st none 1 (.t 31) (.t 30))])
 (.fg [1,5,6,8,13,14,15] (.ops false [.m 32 (.t 5),.m 33 (.t 6),.u 34 (.bin .add (.t 33) (.i 1)),.m 35 (.t 8),.u 36 (.bin .shr (.t 35) (.c (.one (.lit (.int .u64 32))))),.u 37 (.conv .u32 (.t 36)),.u 38 (.idx 1 (.t 32) (.t 34)),.n (.st none 1 (.t 38) (.t 37))]))))))))
 (.fg [1,5,13,14,15] (.ops false [.u 39 (.bin .add (.t 15) (.i 1)),.m 15 (.t 39)])))))))))))
 (.fg [5] (.seq (.ops false [.m 40 (.t 5),.m 4 (.t 40)])
 .ret)))))))
def Ju(f0 f1:Nat):AC:=(.seq (.ops false [.m 4 (.c (.one .emp))])
 (.fg [0,1] (.seq (.ops false [.m 7 (.t 0),.u 8 (.len (.t 7)),.u 9 (.mk 1 [(.lit (.int .u32 0))] (.t 8) (.t 8)),.m 5 (.t 9)])
 (.fg [0,1,5] (.seq (.seq (.ops false [.m 10 (.t 0),.u 11 (.len (.t 10)),.m 12 (.i 0)])
 (.fg [0,1,5,11,12] (.block 0 (.loop (.seq (.ops false [.u 13 (.bin .lss (.t 12) (.t 11))])
 (.fg [0,1,5,11,12,13] (.seq (.cond (.t 13) .skip (.exit 0))
 (.fg [0,1,5,11,12] (.seq (.block 1 (.seq (.ops false [.m 14 (.t 12),.m 6 (.t 14)])
 (.fg [0,1,5,6,11,12] (.ops true [.m 15 (.t 5),.m 16 (.t 6),.m 17 (.t 0),.m 18 (.t 6),.u 19 (.idx 1 (.t 17) (.t 18)),.u 20 (.ld none 1 false (.t 19)),.u 21 (.conv .u64 (.t 20)),.m 22 (.t 0),.m 23 (.t 6),.u 24 (.bin .add (.t 23) (.i 1)),.u 25 (.call f0 [(.t 22),(.t 24)]),.u 26 (.bin .shl (.t 25) (.c (.one (.lit (.int .u64 32))))),.u 27 (.bin .or (.t 21) (.t 26)),.m 28 (.t 1),.u 29 (.bin .shr (.t 27) (.t 28)),.u 30 (.conv .u32 (.t 29)),.u 31 (.idx 1 (.t 15) (.t 16)),.n (.st none 1 (.t 31) (.t 30))]))))
 (.fg [0,1,5,11,12] (.ops false [.u 32 (.bin .add (.t 12) (.i 1)),.m 12 (.t 32)])))))))))))
 (.fg [5] (.seq (.ops false [.m 33 (.t 5),.u 34 (.call f1 [(.t 33)]),.m 4 (.t 34)])
 .ret)))))))
def Jp(f0:Nat):AC:=(.seq (.ops false [.m 4 (.c (.one .emp))])
 (.fg [0,1] (.seq (.ops false [.m 11 (.t 0),.u 12 (.len (.t 11)),.m 13 (.t 1),.u 14 (.len (.t 13)),.u 15 (.bin .add (.t 12) (.t 14)),.u 16 (.mk 1 [(.lit (.int .u32 0))] (.t 15) (.t 15)),.m 5 (.t 16)])
 (.fg [0,1,5] (.seq (.seq (.ops false [.m 17 (.t 0),.u 18 (.len (.t 17)),.m 19 (.i 0)])
 (.fg [1,5,17,18,19] (.block 0 (.loop (.seq (.ops false [.u 20 (.bin .lss (.t 19) (.t 18))])
 (.fg [1,5,17,18,19,20] (.seq (.cond (.t 20) .skip (.exit 0))
 (.fg [1,5,17,18,19] (.seq (.block 1 (.seq (.ops false [.m 21 (.t 19),.u 22 (.idx 1 (.t 17) (.t 19)),.u 23 (.ld none 1 false (.t 22)),.m 6 (.t 21),.m 7 (.t 23)])
 (.fg [1,5,6,7,17,18,19] (.seq (.ops false [.m 8 (.c (.one (.lit (.int .u64 0))))])
 (.fg [1,5,6,7,8,17,18,19] (.seq (.seq (.ops false [.m 24 (.t 1),.u 25 (.len (.t 24)),.m 26 (.i 0)])
 (.fg [1,5,6,7,8,17,18,19,24,25,26] (.block 2 (.loop (.seq (.ops false [.u 27 (.bin .lss (.t 26) (.t 25))])
 (.fg [1,5,6,7,8,17,18,19,24,25,26,27] (.seq (.cond (.t 27) .skip (.exit 2))
 (.fg [1,5,6,7,8,17,18,19,24,25,26] (.seq (.block 3 (.seq (.ops false [.m 28 (.t 26),.u 29 (.idx 1 (.t 24) (.t 26)),.u 30 (.ld none 1 false (.t 29)),.m 9 (.t 28),.m 10 (.t 30)])
 (.fg [1,5,6,7,8,9,10,17,18,19,24,25,26] (.seq (.ops false [.m 31 (.t 8),.m 32 (.t 7),.u 33 (.conv .u64 (.t 32)),.m 34 (.t 10),.u 35 (.conv .u64 (.t 34)),.u 36 (.bin .mul (.t 33) (.t 35)),.m 37 (.t 5),.m 38 (.t 6),.m 39 (.t 9),.u 40 (.bin .add (.t 38) (.t 39)),.u 41 (.idx 1 (.t 37) (.t 40)),.u 42 (.ld none 1 false (.t 41)),.u 43 (.conv .u64 (.t 42)),.u 44 (.bin .add (.t 36) (.t 43)),.u 45 (.bin .add (.t 31) (.t 44)),.m 8 (.t 45)])
 (.fg [1,5,6,7,8,9,17,18,19,24,25,26] (.seq (.ops false [.m 46 (.t 5),.m 47 (.t 6),.m 48 (.t 9),.u 49 (.bin .add (.t 47) (.t 48)),.m 50 (.t 8),.u 51 (.conv .u32 (.t 50)),.u 52 (.idx 1 (.t 46) (.t 49)),.n (.st none 1 (.t 52) (.t 51))])
 (.fg [1,5,6,7,8,17,18,19,24,25,26] (.ops false [.m 53 (.t 8),.u 54 (.bin .shr (.t 53) (.c (.one (.lit (.int .u64 32))))),.m 8 (.t 54)]))))))))
 (.fg [1,5,6,7,8,17,18,19,24,25,26] (.ops false [.u 55 (.bin .add (.t 26) (.i 1)),.m 26 (.t 55)])))))))))))
 (.fg [1,5,6,8,17,18,19] (.ops false [.m 56 (.t 5),.m 57 (.t 6),.m 58 (.t 1),.u 59 (.len (.t 58)),.u 60 (.bin .add (.t 57) (.t 59)),.m 61 (.t 8),.u 62 (.conv .u32 (.t 61)),.u 63 (.idx 1 (.t 56) (.t 60)),.n (.st none 1 (.t 63) (.t 62))]))))))))
 (.fg [1,5,17,18,19] (.ops false [.u 64 (.bin .add (.t 19) (.i 1)),.m 19 (.t 64)])))))))))))
 (.fg [5] (.seq (.ops false [.m 65 (.t 5),.u 66 (.call f0 [(.t 65)]),.m 4 (.t 66)])
 .ret)))))))
theorem Wba(hΓ:Holds P Γ){f:Nat}(hc:check P f=some (41,ky.strip,[.tmp 4])):Sound P f (.fresh 1 up_G):=by
 refine Zt hc Ybl hΓ (λargs K hcl hfi hG=>?_);match args,hG with
 | [a,b],hG=>
  obtain⟨x,rfl,hx,hG⟩:=hG;obtain⟨k,m,rfl,rfl,hm,hmB,hxl,hK⟩:=vb hG;obtain⟨m,rfl⟩:∃n:Nat,m=n:=⟨m.toNat,by omega⟩
  simp only [Int.toNat_natCast]at hK;refine⟨by simp,?_⟩
  simp only [go_sem,ky];intro h1;refine⟨by omega,by omega,λ_=>?_⟩
  refine Ya (λp:List Nat×Nat=>⟨mkV [(1,.one (.lit (.int .i64 m))),(5,.one (.own 12 1 1 0 (x.length+1))),(13,wsA x),(14,.one (.lit (.int .i64 x.length))),(15,.one (.lit (.int .i64 p.1.length)))],mkH [(12,⟨1,some ⟨(p.1++p.2::List.replicate (x.length-p.1.length) 0).map wc,1,true⟩⟩)]⟩)
   (λp=>p.1.length<=x.length/\WL p.1/\p.2<2 ^ m/\val p.1+4294967296 ^ p.1.length*p.2=val (x.take p.1.length)*2 ^ m) (λp=>x.length-p.1.length) ([],0) ?_ ?_ ?_
  .exact ja (by simp [okS,okV,okC,okL,okH,okB,okE,Qa,va,qa,Ja,wsA,ws]) (Xi (by simp [List.replicate_succ]))
  .simp [Wc,val];exact Nat.pow_pos (by omega)
  .rintro⟨o,c⟩ ⟨hoN,ho,hc1,hval⟩;simp only at hoN ho hc1 hval;have hlen:(o++c::List.replicate (x.length-o.length) 0).length=x.length+1:=by simp;omega
   simp only [go_sem,hlen,List.length_set];refine⟨λhlt=>?_,λhge=>?_⟩
   .have g1:=qc hx o.length;obtain⟨s1,s2,s3,s4⟩:=jbt (by omega) hc1 g1
    have e1:x.getD o.length 0 % 18446744073709551616=x.getD o.length 0:=by omega
    have hp:=ZX (show m<32 by omega)
    rw [zbG,e1,Nat.mod_eq_of_lt s1,s2,kbD];generalize hy:x.getD o.length 0*2 ^ m=y at s1 s2 s3 s4;rw [Nat.mod_eq_of_lt (show y / 4294967296<4294967296 by omega)]
    refine⟨hlt,⟨rfl,by omega⟩,by omega,by omega,⟨rfl,by omega,by omega⟩,by omega,by omega,by omega,by omega,by omega,by omega,by omega,(o++[y % 4294967296+c],y / 4294967296),ja (by simp [okS,okV,okC,okL,okH,okB,okE,Qa,va,qa,Ja,wsA,ws]) (Xi ?_),⟨by simp;omega,zf.2 ⟨ho,vc.2 ⟨s3,Wc⟩⟩,s4,?_⟩,by simp;omega⟩
    .rw [show x.length-o.length=(x.length-(o.length+1))+1 by omega,List.replicate_succ,Zbu];simp
    .simp only [List.length_append,List.length_cons,List.length_nil,Nat.zero_add,Zc,Jc,Yi,Xm,Nat.mul_zero,Nat.add_zero,Nat.pow_succ];rw [Ubv (B:=4294967296) (x:=y) hval rfl,Nat.add_mul,<-hy,Nat.mul_assoc]
   .have e:o.length=x.length:=by omega
    have hcB:c<4294967296:=by have:=ZX (show m<32 by omega);omega
    rw [e,xk (Nat.le_refl _)]at hval;simp only [e,Nat.sub_self,List.replicate_zero];have hw:WL (o++[c]):=zf.2 ⟨ho,vc.2 ⟨hcB,Wc⟩⟩;have hv:val (o++[c])=val x*2 ^ m:=by rw [Jc,e];simpa [val] using hval
    have:=qE hw;rw [hv,List.length_append,List.length_singleton,e]at this;rw [<-this];exact hK
theorem YaF(hΓ:Holds P Γ){f fw ft:Nat}(hw:Γ fw=.dat true Vl)(ht:Γ ft=.dat false Vu)(hc:check P f=some (35,(Ju fw ft).strip,[.tmp 4])):Sound P f (.dat false jF):=by
 refine ka hc Va7 hΓ (λargs K hcl hfi hG=>?_);match args,hG with
 | [a,b],hG=>
  obtain⟨x,rfl,hx,hG⟩:=hG;obtain⟨k,m,rfl,rfl,hm,hmB,hxl,hK⟩:=vb hG;obtain⟨m,rfl⟩:∃n:Nat,m=n:=⟨m.toNat,by omega⟩
  simp only [Int.toNat_natCast]at hK;refine⟨by simp,?_⟩
  simp only [go_sem,Ju,hw,ht];intro h1;refine⟨by omega,λ_=>?_⟩
  refine Ya (λo:List Nat=>⟨mkV [(0,wsA x),(1,.one (.lit (.int .i64 m))),(5,.one (.own 9 1 1 0 x.length)),(11,.one (.lit (.int .i64 x.length))),(12,.one (.lit (.int .i64 o.length)))],mkH [(9,⟨1,some ⟨(o++List.replicate (x.length-o.length) 0).map wc,1,true⟩⟩)]⟩)
   (λo=>o.length<=x.length/\WL o/\val o=val x / 2 ^ m % 4294967296 ^ o.length) (λo=>x.length-o.length) [] ?_ ?_ ?_
  .exact ja (by simp [okS,okV,okC,okL,okH,okB,okE,Qa,va,qa,Ja,wsA,ws]) (Xi (by simp))
  .simp [Wc,val,Nat.mod_one]
  .rintro o ⟨hoN,ho,hval⟩;have hlen:(o++List.replicate (x.length-o.length) 0).length=x.length:=by simp;omega
   simp only [go_sem,hw,ht,hlen];refine⟨λhlt=>⟨hlt,by omega,hx,⟨rfl,by omega⟩,⟨rfl,by omega,by omega⟩,by omega,hlt,hlt,by omega,?_⟩,λhge=>?_⟩
   .have g1:=qc hx o.length;have g2:=qc hx (o.length+1);have e1:x.getD o.length 0 % 18446744073709551616=x.getD o.length 0:=by omega
    have e2:x.getD (o.length+1) 0*4294967296 % 18446744073709551616=x.getD (o.length+1) 0*4294967296:=by omega
    rw [e1,e2,or32' _ _ g1,show x.getD (o.length+1) 0*4294967296+x.getD o.length 0=x.getD o.length 0+4294967296*x.getD (o.length+1) 0 by omega,yae hx (by omega)]
    generalize hv:val x / 2 ^ m / 4294967296 ^ o.length % 4294967296=v;have hvB:v<4294967296:=by rw [<-hv];exact Nat.mod_lt _ (by omega)
    refine⟨o++[v],ja (by simp [okS,okV,okC,okL,okH,okB,okE,Qa,va,qa,Ja,wsA,ws]) (Xi ?_),⟨by simp;omega,zf.2 ⟨ho,vc.2 ⟨hvB,Wc⟩⟩,?_⟩,by simp;omega⟩
    .rw [show x.length-o.length=x.length-(o.length+1)+1 by omega,Xaj];simp
    .rw [Jc,List.length_append,List.length_singleton,UH,hv,<-hval];simp [val]
   .have e:o.length=x.length:=by omega
    have hlt:val x / 2 ^ m<4294967296 ^ x.length:=Nat.lt_of_le_of_lt (Nat.div_le_self _ _) (Xl hx);rw [e,Nat.mod_eq_of_lt hlt]at hval;simp only [e,Nat.sub_self,List.replicate_zero,List.append_nil];refine⟨ho,by omega,?_⟩
    rw [hval];exact hK
theorem Yak(hΓ:Holds P Γ){f ft:Nat}(ht:Γ ft=.dat false Vu)(hc:check P f=some (67,(Jp ft).strip,[.tmp 4])):Sound P f (.dat false xx):=by
 refine ka hc jaC hΓ (λargs K hcl hfi hG=>?_);match args,hG with
 | [a,b],hG=>
  obtain⟨x,rfl,hx,y,rfl,hy,hxl,hyl,hK⟩:=hG;refine⟨by simp,?_⟩
  simp only [go_sem,Jp,ht];intro h1 h2;refine⟨by omega,by omega,λ_=>?_⟩
  generalize hN:x.length+y.length=N;refine Ya (λp:Nat×List Nat=>⟨mkV [(1,wsA y),(5,.one (.own 16 1 1 0 N)),(17,wsA x),(18,.one (.lit (.int .i64 x.length))),(19,.one (.lit (.int .i64 p.1)))],mkH [(16,⟨1,some ⟨p.2.map wc,1,true⟩⟩)]⟩)
   (λp=>p.1<=x.length/\WL p.2/\p.2.length=N/\val p.2=val (x.take p.1)*val y/\∀j,p.1+y.length<=j->p.2.getD j 0=0) (λp=>x.length-p.1) (0,List.replicate N 0) ?_ ?_ ?_
  .exact ja (by simp [okS,okV,okC,okL,okH,okB,okE,Qa,va,qa,Ja,wsA,ws]) (Xi (by simp))
  .simp [Vbj,val,Uaj];intro j _;rw [List.getElem?_replicate];split <;> rfl
  .rintro⟨i,o⟩ ⟨hi,ho,hoN,hval,hz⟩;simp only at hi ho hoN hval hz;simp only [go_sem,ht,hoN];refine⟨λhlt=>⟨hlt,λ_=>?_⟩,λhge=>?_⟩
   .have g1:=qc hx i;refine Ya (λp:Nat×Nat×List Nat=>⟨mkV [(1,wsA y),(5,.one (.own 16 1 1 0 N)),(6,.one (.lit (.int .i64 i))),(7,.one (.lit (.int .u32 (x.getD i 0:Nat)))),(8,.one (.lit (.int .u64 p.2.1))),(17,wsA x),(18,.one (.lit (.int .i64 x.length))),(19,.one (.lit (.int .i64 i))),(24,wsA y),(25,.one (.lit (.int .i64 y.length))),(26,.one (.lit (.int .i64 p.1)))],mkH [(16,⟨1,some ⟨p.2.2.map wc,1,true⟩⟩)]⟩)
     (λp=>p.1<=y.length/\p.2.1<4294967296/\WL p.2.2/\p.2.2.length=N/\val p.2.2+4294967296 ^ i*4294967296 ^ p.1*p.2.1=val (x.take i)*val y+4294967296 ^ i*x.getD i 0*val (y.take p.1)/\∀j,i+y.length<=j->p.2.2.getD j 0=0) (λp=>y.length-p.1) (0,0,o) ?_ ?_ ?_
    .exact ja (by simp [okS,okV,okC,okL,okH,okB,okE,Qa,va,qa,Ja,wsA,ws]) (Xi rfl)
    .exact⟨Nat.zero_le _,by simp,ho,hoN,by simp [val,hval],hz⟩
    .rintro⟨k,c,o⟩ ⟨hk,hc,ho,hoN,hval,hz⟩;simp only at hk hc ho hoN hval hz;simp only [go_sem,ht,hoN];refine⟨λhlt2=>?_,λhge2=>?_⟩
     .have g2:=qc hy k;have g3:=qc ho (i+k);have s1:=Yax g1 g2 hc g3;have e1:x.getD i 0 % 18446744073709551616=x.getD i 0:=by omega
      have e2:y.getD k 0 % 18446744073709551616=y.getD k 0:=by omega
      have e3:o.getD (i+k) 0 % 18446744073709551616=o.getD (i+k) 0:=by omega
      have hstep:=UaD hval (by omega) rfl
      rw [e1,e2,e3,Nat.mod_eq_of_lt (show x.getD i 0*y.getD k 0<18446744073709551616 by omega),Nat.mod_eq_of_lt (show x.getD i 0*y.getD k 0+o.getD (i+k) 0<18446744073709551616 by omega),Nat.mod_eq_of_lt s1]
      generalize hs:c+(x.getD i 0*y.getD k 0+o.getD (i+k) 0)=s at s1 hstep;refine⟨hlt2,by omega,by omega,by omega,by omega,by omega,by omega,by omega,by omega,(k+1,s / 4294967296,o.set (i+k) (s % 4294967296)),ja (by simp [okS,okV,okC,okL,okH,okB,okE,Qa,va,qa,Ja,wsA,ws]) (Xi rfl),⟨by simp only;omega,by simp only;omega,Qa0 ho _ (Nat.mod_lt _ (by omega)),by simp [hoN],hstep,?_⟩,by simp only;omega⟩
      intro j hj;simp only;rw [Num.getD_set_ne (by omega)];exact hz j hj
     .have e:k=y.length:=by omega
      subst e;have hend:=YaZ hval (by omega) (hz _ (Nat.le_refl _))
      rw [Nat.mod_eq_of_lt hc];refine λ_=>⟨by omega,by omega,by omega,by omega,(i+1,o.set (i+y.length) c),ja (by simp [okS,okV,okC,okL,okH,okB,okE,Qa,va,qa,Ja,wsA,ws]) (Xi rfl),⟨by simp only;omega,Qa0 ho _ hc,by simp [hoN],hend,?_⟩,by simp only;omega⟩
      intro j hj;simp only at hj ⊢;rw [Num.getD_set_ne (by omega)];exact hz j (by omega)
   .have e:i=x.length:=by omega
    subst e;rw [xk (Nat.le_refl _)]at hval;refine⟨ho,by omega,?_⟩
    rw [hval];exact hK
end Go.Abs
end
section
namespace Go.Abs
open Go.Num
variable {P:Program} {Γ:Nat->Spec}
def Um(f0:Nat):AC:=(.seq (.ops false [.m 6 .fa])
 (.fg [0,1,2] (.seq (.ops false [.m 7 (.c (.one (.lit (.int .u64 0)))),.m 8 (.c (.one (.lit (.int .u64 0))))])
 (.fg [0,1,2,7,8] (.seq (.seq (.ops false [.m 11 (.t 0),.u 12 (.len (.t 11)),.m 13 (.i 0)])
 (.fg [0,1,2,7,8,12,13] (.block 0 (.loop (.seq (.ops false [.u 14 (.bin .lss (.t 13) (.t 12))])
 (.fg [0,1,2,7,8,12,13,14] (.seq (.cond (.t 14) .skip (.exit 0))
 (.fg [0,1,2,7,8,12,13] (.seq (.block 1 (.seq (.ops false [.m 15 (.t 13),.m 9 (.t 15)])
 (.fg [0,1,2,7,8,9,12,13] (.seq (.ops false [.m 16 (.t 7),.m 17 (.t 2),.m 18 (.t 1),.m 19 (.t 9),.u 20 (.call f0 [(.t 18),(.t 19)]),.u 21 (.bin .mul (.t 17) (.t 20)),.u 22 (.bin .add (.t 16) (.t 21)),.m 7 (.t 22)])
 (.fg [0,1,2,7,8,9,12,13] (.seq (.ops false [.m 23 (.t 0),.m 24 (.t 9),.u 25 (.idx 1 (.t 23) (.t 24)),.u 26 (.ld none 1 false (.t 25)),.u 27 (.conv .u64 (.t 26)),.m 28 (.t 7),.u 29 (.conv .u32 (.t 28)),.u 30 (.conv .u64 (.t 29)),.u 31 (.bin .sub (.t 27) (.t 30)),.m 32 (.t 8),.u 33 (.bin .sub (.t 31) (.t 32)),.m 10 (.t 33)])
 (.fg [0,1,2,7,9,10,12,13] (.seq (.ops false [.m 34 (.t 0),.m 35 (.t 9),.m 36 (.t 10),.u 37 (.conv .u32 (.t 36)),.u 38 (.idx 1 (.t 34) (.t 35)),.n (.st none 1 (.t 38) (.t 37))])
 (.fg [0,1,2,7,10,12,13] (.seq (.ops false [.m 39 (.t 10),.u 40 (.bin .shr (.t 39) (.c (.one (.lit (.int .u64 63))))),.m 8 (.t 40)])
 (.fg [0,1,2,7,8,12,13] (.ops false [.m 41 (.t 7),.u 42 (.bin .shr (.t 41) (.c (.one (.lit (.int .u64 32))))),.m 7 (.t 42)]))))))))))))
 (.fg [0,1,2,7,8,12,13] (.ops false [.u 43 (.bin .add (.t 13) (.i 1)),.m 13 (.t 43)])))))))))))
 (.fg [8] (.seq (.ops false [.m 44 (.t 8),.u 45 (.bin .eql (.t 44) (.c (.one (.lit (.int .u64 1))))),.m 6 (.t 45)])
 .ret)))))))
def vt(f0:Nat):AC:=(.seq (.ops false [.m 4 (.c (.one (.lit (.int .u64 0))))])
 (.fg [0,1,4] (.seq (.ops false [.m 6 (.t 0),.u 7 (.len (.t 6)),.m 8 (.i 0)])
 (.fg [0,1,4,7,8] (.block 0 (.loop (.seq (.ops false [.u 9 (.bin .lss (.t 8) (.t 7))])
 (.fg [0,1,4,7,8,9] (.seq (.cond (.t 9) .skip (.exit 0))
 (.fg [0,1,4,7,8] (.seq (.block 1 (.seq (.ops false [.m 10 (.t 8),.m 5 (.t 10)])
 (.fg [0,1,4,5,7,8] (.seq (.ops true [.m 11 (.t 4),.m 12 (.t 0),.m 13 (.t 5),.u 14 (.idx 1 (.t 12) (.t 13)),.u 15 (.ld none 1 false (.t 14)),.u 16 (.conv .u64 (.t 15)),.m 17 (.t 1),.m 18 (.t 5),.u 19 (.call f0 [(.t 17),(.t 18)]),.u 20 (.bin .add (.t 16) (.t 19)),.u 21 (.bin .add (.t 11) (.t 20)),.m 4 (.t 21)])
 (.fg [0,1,4,5,7,8] (.seq (.ops false [.m 22 (.t 0),.m 23 (.t 5),.m 24 (.t 4),.u 25 (.conv .u32 (.t 24)),.u 26 (.idx 1 (.t 22) (.t 23)),.n (.st none 1 (.t 26) (.t 25))])
 (.fg [0,1,4,7,8] (.ops false [.m 27 (.t 4),.u 28 (.bin .shr (.t 27) (.c (.one (.lit (.int .u64 32))))),.m 4 (.t 28)]))))))))
 (.fg [0,1,4,7,8] (.ops false [.u 29 (.bin .add (.t 8) (.i 1)),.m 8 (.t 29)])))))))))))))
theorem Uad(hΓ:Holds P Γ){f fw:Nat}(hw:Γ fw=.dat true Vl)(hc:check P f=some (46,(Um fw).strip,[.tmp 6])):Sound P f (.own Jr):=by
 refine kg hc hΓ (λd args h K hG=>?_);unfold Jr at hG;split at hG
 case h_2=>exact hG.elim
 rename_i r ver off len b n;obtain⟨v,rfl,hv,pre,seg,post,m,rfl,rfl,rfl,hr,hseg,hm,hvl,hlt,hsl,hK⟩:=hG;refine⟨[r],[⟨(pre++seg++post).map wc,1,true⟩],[.one (.own 1048576 ver 1 pre.length seg.length),wsA v,.one (.lit (.int .u64 m))],by simp,rfl,?_,?_,?_,λhfi=>⟨by simp,?_⟩⟩
 .intro i r' b h1 h2;cases i with
  | zero=>simp only [List.getElem?_cons_zero,Option.some.injEq]at h1 h2;subst h1 h2;exact⟨by rw [hr],rfl,of_eq_true (ve _)⟩
  | succ i=>simp at h1
 .simp [exA,exC,exB,nameOf,pinA,wsA,ws]
 .intro a ha;simp only [List.mem_cons,List.not_mem_nil,or_false]at ha;rcases ha with rfl|rfl|rfl
  .simp [pasA,pasC,pasB,nameOf,pinA]
  .exact .slice _ (of_eq_true (ve _))
  .exact .lit _
 simp only [go_sem,Um,hw,hr];intro h1;refine Ya (λp:List Nat×Nat×Nat×Nat=>⟨mkV [(0,.one (.own 1048576 ver 1 pre.length seg.length)),(1,wsA v),(2,.one (.lit (.int .u64 m))),(7,.one (.lit (.int .u64 p.2.1))),(8,.one (.lit (.int .u64 p.2.2.1))),(12,.one (.lit (.int .i64 seg.length))),(13,.one (.lit (.int .i64 p.1.length)))],
   mkH [(1048576,⟨ver,some ⟨(pre++(p.1++seg.drop p.1.length)++post).map wc,1,true⟩⟩)]⟩)
  (λp=>p.1.length<=seg.length/\WL p.1/\(p.2.1=0∨p.2.1<m)/\p.2.2.1<=1/\p.2.2.2+4294967296 ^ p.1.length*p.2.1=m*val (v.take p.1.length)/\val p.1+p.2.2.2=val (seg.take p.1.length)+4294967296 ^ p.1.length*p.2.2.1) (λp=>seg.length-p.1.length) ([],0,0,0) ?_ ?_ ?_
 .exact ja (by simp [okS,okV,okC,okL,okH,okB,okE,Qa,va,qa,Ja,wsA,ws]) (Xi (by simp))
 .simp [Wc,val]
 .rintro⟨o,c,bw,p⟩ ⟨hoN,ho,hc1,hb1,hp1,hp2⟩;simp only at hoN ho hc1 hb1 hp1 hp2;have hlen:(pre++(o++seg.drop o.length)++post).length=pre.length+seg.length+post.length:=by simp;omega
  simp only [go_sem,hw,hr,hlen];refine⟨λhlt2=>?_,λhge=>?_⟩
  .have g1:=qc hseg o.length;have g2:=qc hv o.length;obtain⟨s1,s2⟩:=ka3 hm g2 hc1;have a1:=Jba (B:=4294967296) (v:=v.getD o.length 0) hp1;have e1:m*v.getD o.length 0 % 18446744073709551616=m*v.getD o.length 0:=Nat.mod_eq_of_lt (by omega)
   have e2:seg.getD o.length 0 % 18446744073709551616=seg.getD o.length 0:=by omega
   rw [QaL _ _ _ _ hlt2,e1,e2,Nat.mod_eq_of_lt s1,Yag _ _ _ _ _ hlt2];generalize hs:c+m*v.getD o.length 0=s at s1 s2 a1;have e3:s % 4294967296 % 18446744073709551616=s % 4294967296:=by omega
   rw [e3];obtain⟨t1,t2⟩:=jay (b:=s % 4294967296) g1 (by omega) hb1
   generalize sub64 (sub64 (seg.getD o.length 0) (s % 4294967296)) bw=d at t1 t2;have a2:=jba hp2 t1;refine⟨hv,hlt2,by omega,hlt2,by omega,by omega,by omega,by omega,(o++[d % 4294967296],s / 4294967296,d / 9223372036854775808,p+4294967296 ^ o.length*(s % 4294967296)),ja (by simp [okS,okV,okC,okL,okH,okB,okE,Qa,va,qa,Ja,wsA,ws]) (Xi rfl),⟨by simp;omega,zf.2 ⟨ho,vc.2 ⟨Nat.mod_lt _ (by omega),Wc⟩⟩,s2,t2,?_,?_⟩,by simp;omega⟩
   .simp only [List.length_append,List.length_cons,List.length_nil,Nat.zero_add,Zc,Nat.pow_succ];exact a1
   .simp only [List.length_append,List.length_cons,List.length_nil,Nat.zero_add,Zc,Jc,Yi,Xm,Nat.mul_zero,Nat.add_zero,Nat.pow_succ];exact a2
  .have e:o.length=seg.length:=by omega
   rw [e]at hp1 hp2;rw [xk hvl]at hp1;rw [xk (Nat.le_refl _)]at hp2;obtain⟨t1,t2⟩:=Wbt ho e hp1 hlt hp2 hb1;rw [List.drop_of_length_le (by omega),List.append_nil]
   rw [<-t1]at hK;have:(decide ((bw:Int)=1))=decide (val seg<m*val v):=by
    rw [decide_eq_decide,<-t2];omega
   rw [this];exact hK
theorem uaF(hΓ:Holds P Γ){f fw:Nat}(hw:Γ fw=.dat true Vl)(hc:check P f=some (30,(vt fw).strip,[])):Sound P f (.own jG):=by
 refine kg hc hΓ (λd args h K hG=>?_);unfold jG at hG;split at hG
 case h_2=>exact hG.elim
 rename_i r ver off len b;obtain⟨v,rfl,hv,pre,seg,post,rfl,rfl,hr,hseg,hvl,hsl,hK⟩:=hG;refine⟨[r],[⟨(pre++seg++post).map wc,1,true⟩],[.one (.own 1048576 ver 1 pre.length seg.length),wsA v],by simp,rfl,?_,?_,?_,λhfi=>⟨by simp,?_⟩⟩
 .intro i r' b h1 h2;cases i with
  | zero=>simp only [List.getElem?_cons_zero,Option.some.injEq]at h1 h2;subst h1 h2;exact⟨by rw [hr],rfl,of_eq_true (ve _)⟩
  | succ i=>simp at h1
 .simp [exA,exC,exB,nameOf,pinA,wsA,ws]
 .intro a ha;simp only [List.mem_cons,List.not_mem_nil,or_false]at ha;rcases ha with rfl|rfl
  .simp [pasA,pasC,pasB,nameOf,pinA]
  .exact .slice _ (of_eq_true (ve _))
 simp only [go_sem,vt,hw,hr];intro h1;refine Ya (λp:List Nat×Nat=>⟨mkV [(0,.one (.own 1048576 ver 1 pre.length seg.length)),(1,wsA v),(4,.one (.lit (.int .u64 p.2))),(7,.one (.lit (.int .i64 seg.length))),(8,.one (.lit (.int .i64 p.1.length)))],
   mkH [(1048576,⟨ver,some ⟨(pre++(p.1++seg.drop p.1.length)++post).map wc,1,true⟩⟩)]⟩)
  (λp=>p.1.length<=seg.length/\WL p.1/\p.2<=1/\val p.1+4294967296 ^ p.1.length*p.2=val (seg.take p.1.length)+val (v.take p.1.length)) (λp=>seg.length-p.1.length) ([],0) ?_ ?_ ?_
 .exact ja (by simp [okS,okV,okC,okL,okH,okB,okE,Qa,va,qa,Ja,wsA,ws]) (Xi (by simp))
 .simp [Wc,val]
 .rintro⟨o,c⟩ ⟨hoN,ho,hc1,hp1⟩;simp only at hoN ho hc1 hp1;have hlen:(pre++(o++seg.drop o.length)++post).length=pre.length+seg.length+post.length:=by simp;omega
  simp only [go_sem,hw,hr,hlen];refine⟨λhlt2=>?_,λhge=>?_⟩
  .have g1:=qc hseg o.length;have g2:=qc hv o.length;have e2:seg.getD o.length 0 % 18446744073709551616=seg.getD o.length 0:=by omega
   rw [QaL _ _ _ _ hlt2,e2,Nat.mod_eq_of_lt (show seg.getD o.length 0+v.getD o.length 0<18446744073709551616 by omega),Nat.mod_eq_of_lt (show c+(seg.getD o.length 0+v.getD o.length 0)<18446744073709551616 by omega),Yag _ _ _ _ _ hlt2]
   have a1:=Zbc (B:=4294967296) (a:=seg.getD o.length 0) (b:=v.getD o.length 0) hp1 rfl;generalize hs:c+(seg.getD o.length 0+v.getD o.length 0)=s at a1;refine⟨hlt2,by omega,hv,hlt2,by omega,by omega,by omega,(o++[s % 4294967296],s / 4294967296),ja (by simp [okS,okV,okC,okL,okH,okB,okE,Qa,va,qa,Ja,wsA,ws]) (Xi rfl),⟨by simp;omega,zf.2 ⟨ho,vc.2 ⟨Nat.mod_lt _ (by omega),Wc⟩⟩,by simp only;omega,?_⟩,by simp;omega⟩
   simp only [List.length_append,List.length_cons,List.length_nil,Nat.zero_add,Zc,Jc,Yi,Xm,Nat.mul_zero,Nat.add_zero,Nat.pow_succ];exact a1
  .have e:o.length=seg.length:=by omega
   rw [e,xk hvl,xk (Nat.le_refl _)]at hp1;have t1:=qbb ho e hp1;rw [List.drop_of_length_le (by omega),List.append_nil]
   rw [<-t1]at hK;exact hK
end Go.Abs
end
