/-
  Parts of the proof, merged: ArgG, PoseM, PoseN, BurH, BurI, CoupH, CoupJ, CoupL, IntC, IntD, IntE.
-/
import Derived.Test.YtegaodlldjpcaaaGreatDoorM11
set_option linter.unusedVariables false
set_option linter.unusedSimpArgs false
set_option maxRecDepth 100000
section
namespace Go.Abs
open Go.Num
variable {H:Type} {enc:TypeId×Value->H} {bulk:DataW H->Nat} {P:Program} {w:World} {α:Type}
theorem xaH{t u:TypeId}{s:Nat}{e:α->List C}{ok:Nat->α->Prop}(B:Bk bulk)(ht:P.underlying t=some (.array 4 u))(hs:P.cellsOf u=s)(hz:P.cellsOf t=4*s)
  (mono:∀n n' a,n<=n'->ok n a->ok n' a) (h:Opens enc bulk P w u e ok):Opens enc bulk P w t (λa:α×α×α×α=>e a.1++(e a.2.1++(e a.2.2.1++e a.2.2.2))) (λn a=>ok n a.1/\ok n a.2.1/\ok n a.2.2.1/\ok n a.2.2.2):=by
 intro fuel cs x hx;obtain⟨xs,m,rfl,rfl,hlen,hxl,hget⟩:=DataW.trod_array ht hx;rw [hs]at hget;match xs,hxl with
 | [x0,x1,x2,x3],_=>
  obtain⟨a0,k0,r0⟩:=h m _ x0 (hget 0 (by omega))
  obtain⟨a1,k1,r1⟩:=h m _ x1 (hget 1 (by omega))
  obtain⟨a2,k2,r2⟩:=h m _ x2 (hget 2 (by omega))
  obtain⟨a3,k3,r3⟩:=h m _ x3 (hget 3 (by omega))
  rw [Nat.zero_mul,List.drop_zero]at r0;rw [Nat.one_mul]at r1;have e0:cs=cs.take s++((cs.drop s).take s++((cs.drop (2*s)).take s++(cs.drop (3*s)).take s)):=by
   have h1:(cs.drop (3*s)).take s=cs.drop (3*s):=List.take_of_length_le (by rw [List.length_drop,hlen,hz];omega)
   have h2:cs.drop (2*s)=(cs.drop s).drop s:=by rw [List.drop_drop];congr 1;omega
   have h3:cs.drop (3*s)=((cs.drop s).drop s).drop s:=by rw [List.drop_drop,List.drop_drop];congr 1;omega
   rw [h1,h2,h3,List.take_append_drop,List.take_append_drop,List.take_append_drop]
  have b:∀y∈[x0,x1,x2,x3],bulk y.1<=bulk (.agg ([x0,x1,x2,x3].map (·.1))):=λy hy=>B.ag _ _ (List.mem_map.2 ⟨y,hy,rfl⟩);refine⟨(a0,a1,a2,a3),⟨mono _ _ _ (b x0 (by simp)) k0,mono _ _ _ (b x1 (by simp)) k1,mono _ _ _ (b x2 (by simp)) k2,mono _ _ _ (b x3 (by simp)) k3⟩,?_⟩
  rw [e0];exact r0.append (r1.append (r2.append r3))
structure P4T (P:Program) (t:TypeId):Prop where
 ex:∃u,P.underlying t=some (.array 4 u)/\P.cellsOf u=10/\P.cellsOf t=40/\PsT P u
def okP4(n:Nat)(t:P4):Prop:=WL4 t/\okPs n (l4 t)
theorem jbb{t:TypeId}(B:Bk bulk)(h:P4T P t):Opens enc bulk P w t p4C okP4:=by
 obtain⟨u,ht,hc,hz,hu⟩:=h.ex;have:=xaH (enc:=enc) (w:=w) (s:=10) B ht hc (by omega) zam (Xa9 (enc:=enc) (w:=w) B hu)
 refine this.imp λn x h=>⟨⟨h.1.1,h.2.1.1,h.2.2.1.1,h.2.2.2.1⟩,λp hp=>?_⟩;rcases Wbf.1 hp with rfl|rfl|rfl|rfl
 .exact h.1
 .exact h.2.1
 .exact h.2.2.1
 .exact h.2.2.2
end Go.Abs
end
section
namespace Go.Num
open Go.Abs
theorem YbR{l:List Ps}(h3:l.length=3)(hv:l.all pvld=true):threeC l=0:=by
 have e:plchk l=0:=by unfold plchk;rw [if_neg (by omega),if_neg (by omega),if_pos hv]
 unfold threeC;rw [if_neg (by omega),if_pos h3]
end Go.Num
namespace Go.Abs
open Go.Num
variable {P:Program} {Γ:Nat->Spec}
def z6:List C:=[.lit (.bool false),.emp,.emp,.lit (.bool false),.emp,.emp]
def q6(x:V2):List C:=[cb (rcan x.1),cn (rcan x.1),cd (rcan x.1),cb (rcan x.2),cn (rcan x.2),cd (rcan x.2)]
def ZO(l:List AV)(K:AV->Prop):Prop:=
 match l with
 | [a,b]=>onP3 (λt=>onA (λm=>okPs 1048576 (l3 t)/\al m<=1048576/\K (.one (.lit (.bool true)))) b) a
 | _=>False
theorem uS(a b:AV)(K:AV->Prop):ZO [a,b] K=(onP3 (λt=>onA (λm=>okPs 1048576 (l3 t)/\al m<=1048576/\K (.one (.lit (.bool true)))) b) a):=propext Iff.rfl
@[congr] theorem ubu {K:AV->Prop} {l l' : List AV} (h:l=l'):ZO l K=ZO l' K:=by subst h;rfl
attribute [go_sem,go_sem ↓] uS
end Go.Abs
end
section
namespace Go.Num
open Go.Abs
theorem ubk(a:V2):av (rcan a.1,rcan a.2)=a:=Xae a
theorem dl_3{c m:Arc}{r:Rat}{b:Nat}(h1:al c<=b)(h2:al m<=b)(h3:rz r<=b):dl (c,m,rcan r)<=b:=Nat.max_le.2 ⟨h1,Nat.max_le.2 ⟨h2,h3⟩⟩
end Go.Num
namespace Go.Abs
open Go.Num
variable {P:Program} {Γ:Nat->Spec}
def ZK(l:List AV)(K:AV->Prop):Prop:=
 match l with
 | [a,b,c]=>onP3 (λt=>onA (λm=>onA (λo=>okPs 1048576 (l3 t)/\al m<=1048576/\al o<=1048576/\K (.one (.lit (.bool true)))) c) b) a
 | _=>False
theorem YO(a b c:AV)(K:AV->Prop):ZK [a,b,c] K=(onP3 (λt=>onA (λm=>onA (λo=>okPs 1048576 (l3 t)/\al m<=1048576/\al o<=1048576/\K (.one (.lit (.bool true)))) c) b) a):=propext Iff.rfl
@[congr] theorem Qbv {K:AV->Prop} {l l' : List AV} (h:l=l'):ZK l K=ZK l' K:=by subst h;rfl
attribute [go_sem,go_sem ↓] YO
end Go.Abs
end
section
namespace Go.Num
open Go.Abs
theorem xbr{t:P4}(h:(l4 t).all pvld=true):fourC (l4 t)=0/\plchk (l4 t)=0:=by
 have f:=UaX (l:=l4 t) rfl h;refine⟨f,?_⟩;unfold fourC at f;split at f
 .rename_i h1;exact absurd f h1
 .rename_i h1;omega
theorem ZbC(t:P4)(c m:Arc)(r:Rat):psnB (l4 t) (c,m,rcan r)=true↔sqQ (subQ (appQ (pv t.1) (av m)) (av c))=r/\sqQ (subQ (appQ (pv t.2.1) (av m)) (av c))=r/\sqQ (subQ (appQ (pv t.2.2.1) (av m)) (av c))=r/\sqQ (subQ (appQ (pv t.2.2.2) (av m)) (av c))=r:=by
 have e:imgs (l4 t) m=[appQ (pv t.1) (av m),appQ (pv t.2.1) (av m),appQ (pv t.2.2.1) (av m),appQ (pv t.2.2.2) (av m)]:=rfl;unfold psnB;simp only [e,List.all_cons,List.all_nil,Bool.and_true,Bool.and_eq_true,decide_eq_true_eq,jc]
end Go.Num
namespace Go.Abs
open Go.Num
variable {P:Program} {Γ:Nat->Spec}
def vH(l:List AV)(K:AV->Prop):Prop:=
 match l with
 | [a,b]=>onP4 (λt=>onA (λm=>okPs 1048576 (l4 t)/\al m<=1048576/\K (.one (.lit (.bool true)))) b) a
 | _=>False
theorem jO(a b:AV)(K:AV->Prop):vH [a,b] K=(onP4 (λt=>onA (λm=>okPs 1048576 (l4 t)/\al m<=1048576/\K (.one (.lit (.bool true)))) b) a):=propext Iff.rfl
@[congr] theorem ubl {K:AV->Prop} {l l' : List AV} (h:l=l'):vH l K=vH l' K:=by subst h;rfl
attribute [go_sem,go_sem ↓] jO
end Go.Abs
end
section
namespace Go.Num
open Go.Abs
def t3(t:P4):P3:=(t.1,t.2.1,t.2.2.1)
theorem Zay{t:P4}{p:Ps}(h:p∈l3 (t3 t)):p∈l4 t:=by
 rcases jbG.1 h with rfl|rfl|rfl <;> simp [l4,t3]
theorem Ybk{a b c d:V2}(h:crs a b c≠0):detQ a b c d=0↔sqQ (subQ d (ctr3 a b c))=sqQ (subQ a (ctr3 a b c)):=by
 obtain⟨e1,e2⟩:=XaI h;have k:=JbG a b c d (ctr3 a b c);rw [e1,e2]at k;constructor
 .intro hd;rw [hd]at k;have:=qbN (a:=sqQ (subQ d (ctr3 a b c))-sqQ (subQ a (ctr3 a b c))) (b:=crossQ (subQ b a) (subQ c a)) (by grind) h
  grind
 .intro hd;rw [hd]at k;rw [k];grind
theorem Yao{t:P4}{m:Arc}(h:crV (imgs (l3 (t3 t)) m)≠0):ciV (imgs (l3 (t3 t)) m)=ctr3 (appQ (pv t.1) (av m)) (appQ (pv t.2.1) (av m)) (appQ (pv t.2.2.1) (av m)):=if_neg h
theorem Za8{t:P4}{m:Arc}(h:crV (imgs (l3 (t3 t)) m)≠0) :
  psnB (l4 t) ((rcan (ciV (imgs (l3 (t3 t)) m)).1,rcan (ciV (imgs (l3 (t3 t)) m)).2),m,rcan (sqQ (subQ (pt 0 (imgs (l3 (t3 t)) m)) (ciV (imgs (l3 (t3 t)) m)))))=decide (dtL (l4 t) (av m)=0):=by
 have e:=Yao h;have h' : crs (appQ (pv t.1) (av m)) (appQ (pv t.2.1) (av m)) (appQ (pv t.2.2.1) (av m))≠0:=h;have e0:pt 0 (imgs (l3 (t3 t)) m)=appQ (pv t.1) (av m):=rfl;obtain⟨e1,e2⟩:=XaI h';have key:dtL (l4 t) (av m)=0↔_:=Ybk (d:=appQ (pv t.2.2.2) (av m)) h';rw [<-e]at e1 e2 key;rw [Bool.eq_iff_iff,ZbC,ubk,decide_eq_true_eq,key,e0];exact⟨λx=>x.2.2.2,λx=>⟨rfl,e1,e2,x⟩⟩
theorem kbc{t:P4}{m:Arc}(h:crV (imgs (l3 (t3 t)) m)≠0)(hc:onC (l4 t) m=0)(hd:dtL (l4 t) (av m)=0):dyC (l4 t) m=0/\dyR (l4 t) m=cenQ (imgs (l3 (t3 t)) m) (av m):=by
 have e:=Yao h;have h' : crs (appQ (pv t.1) (av m)) (appQ (pv t.2.1) (av m)) (appQ (pv t.2.2.1) (av m))≠0:=h;have hn:dyN (l4 t) (av m)=some (appQ (pv t.1) (av m),appQ (pv t.2.1) (av m),appQ (pv t.2.2.1) (av m)):=by
  show dy3 _ _ _ _=_;unfold dy3;rw [if_pos h']
 have c:dyC (l4 t) m=0:=by unfold dyC;rw [if_neg (by omega),if_neg (by simp [hd]),hn]
 refine⟨c,?_⟩;unfold dyR;rw [c,if_pos rfl,hn];unfold cenQ;rw [e];rfl
end Go.Num
namespace Go.Abs
open Go.Num
variable {P:Program} {Γ:Nat->Spec}
theorem tk3(a b c d:List C):(([a,b,c,d]:List (List C)).drop 0).take (3-0)=[a,b,c]:=rfl
theorem len4p(a b c d:Ps):(∀e∈[pC a,pC b,pC c,pC d],e.length=10)=True:=eq_true λe he=>by
 simp only [List.mem_cons,List.not_mem_nil,or_false]at he;rcases he with rfl|rfl|rfl|rfl <;> exact uo _
theorem len4(a b c d:List C):([a,b,c,d]:List (List C)).length=4:=rfl
def Zm(l:List AV)(K:AV->Prop):Prop:=
 match l with
 | [a,b]=>onP4 (λt=>onA (λm=>okPs 1048576 (l4 t)/\al m<=1048576/\K (.one (.lit (.bool true)))) b) a
 | _=>False
theorem UO(a b:AV)(K:AV->Prop):Zm [a,b] K=(onP4 (λt=>onA (λm=>okPs 1048576 (l4 t)/\al m<=1048576/\K (.one (.lit (.bool true)))) b) a):=propext Iff.rfl
@[congr] theorem vbu {K:AV->Prop} {l l' : List AV} (h:l=l'):Zm l K=Zm l' K:=by subst h;rfl
attribute [go_sem,go_sem ↓] UO
theorem Y5:Good Zm:=Ya λas=>by
 unfold Zm;split
 .exact(xbh λ_=>(Xw λ_=>(.and λ_=>(.and λ_=>(.ret _)))))
 .exact .of λK hk=>hk.elim
def Qb(f0 f1 f2 f3 f4 f5 f6 f7 f8:Nat):AC:=(.seq (.ops false [.u 2 (.box 40 (.t 0)),.u 3 (.box 6 (.t 1)),.m 4 .fa])
 (.fg [2,3] (.fz [2] (.seq (.seq (.ops false [.u 11 (.call f0 []),.u 12 (.un .not (.t 11)),.m 13 (.t 12),.w 14 13 false (.ld none 40 true (.t 2)),.w 15 13 false (.call f1 [(.t 14)]),.w 16 13 false (.un .not (.t 15)),.u 17 (.pick (.t 13) .tr (.t 16)),.m 18 (.t 17),.w 19 18 false (.ld none 6 true (.t 3)),.w 20 18 false (.row 6 [[.x 6 (.t 19)]]),.w 21 18 false (.call f2 [(.t 20)]),.w 22 18 false (.un .not (.t 21)),.u 23 (.pick (.t 18) .tr (.t 22)),.m 24 (.t 23),.w 25 24 false (.ld none 6 true (.t 3)),.w 26 24 false (.call f3 [(.t 25)]),.w 27 24 false (.un .not (.t 26)),.u 28 (.pick (.t 24) .tr (.t 27))])
 (.fg [2,3,28] (.cond (.t 28) (.seq (.ops false [.u 29 (.call f0 []),.m 4 (.t 29)])
 .ret) .skip)))
 (.fg [2,3] (.seq (.ops true [.u 31 (.rsb 10 4 (.t 2) none (some (.i 3))),.u 32 (.ld none 6 true (.t 3)),.u 33 (.call f4 [(.t 31),(.t 32)]),.m 30 (.t 33),.u 34 (.ext 0 (.t 30)),.u 35 (.ext 1 (.t 30)),.u 5 (.alloc [(.lit (.bool false)),.emp,.emp,(.lit (.bool false)),.emp,.emp,(.lit (.bool false)),.emp,.emp,(.lit (.bool false)),.emp,.emp,(.lit (.bool false)),.emp,.emp]),.n (.st none 15 (.t 5) (.t 34)),.m 6 (.t 35)])
 (.fg [2,3,5,6] (.seq (.seq (.ops false [.m 36 (.t 6),.u 37 (.binn .neq (.t 36) (.c (.one (.lit .nilIface))))])
 (.fg [2,3,5,6,37] (.cond (.t 37) (.seq (.ops false [.m 38 (.t 6),.u 39 (.call f5 [(.t 38),(.i 8)]),.m 4 (.t 39)])
 .ret) .skip)))
 (.fg [2,3,5] (.seq (.ops true [.u 41 (.rsl 10 4 (.t 2)),.u 42 (.ld none 15 true (.t 5)),.u 43 (.call f6 [(.t 41),(.t 42)]),.m 40 (.t 43),.u 44 (.ext 0 (.t 40)),.u 45 (.ext 1 (.t 40)),.m 7 (.t 44),.m 8 (.t 45)])
 (.fg [2,3,5,7,8] (.seq (.ops true [.u 47 (.rsl 10 4 (.t 2)),.u 48 (.ld none 6 true (.t 3)),.u 49 (.call f7 [(.t 47),(.t 48)]),.m 46 (.t 49),.u 50 (.ext 0 (.t 46)),.u 51 (.ext 1 (.t 46)),.u 9 (.alloc [(.lit (.bool false)),.emp,.emp,(.lit (.bool false)),.emp,.emp,(.lit (.bool false)),.emp,.emp,(.lit (.bool false)),.emp,.emp,(.lit (.bool false)),.emp,.emp]),.n (.st none 15 (.t 9) (.t 50)),.m 10 (.t 51)])
 (.fg [5,7,8,9,10] (.seq (.seq (.ops false [.m 52 (.t 8),.u 53 (.binn .neq (.t 52) (.c (.one (.lit .nilIface))))])
 (.fg [5,7,9,10,53] (.cond (.t 53) (.seq (.ops false [.m 4 .fa])
 .ret) .skip)))
 (.fg [5,7,9,10] (.seq (.seq (.ops false [.m 54 (.t 7),.u 55 (.un .not (.t 54))])
 (.fg [5,9,10,55] (.cond (.t 55) (.seq (.ops false [.m 56 (.t 10),.u 57 (.call f5 [(.t 56),(.i 21)]),.m 4 (.t 57)])
 .ret) .skip)))
 (.fg [5,9,10] (.seq (.ops false [.m 58 (.t 10),.u 59 (.binn .eql (.t 58) (.c (.one (.lit .nilIface)))),.m 60 (.t 59),.w 61 60 true (.ld none 15 true (.t 9)),.w 62 60 true (.ld none 15 true (.t 5)),.w 63 60 true (.call f8 [(.t 61),(.t 62)]),.u 64 (.pick (.t 60) (.t 63) .fa),.m 4 (.t 64)])
 .ret))))))))))))))))))
set_option maxHeartbeats 0 in
theorem zX(hΓ:Holds P Γ){f fw f4 fa fp fc fi ft fd fe tE:Nat}(hw:Γ fw=.dat true Uy)(h4:Γ f4=.dat true xy)(ha:Γ fa=.dat true Yr)(hp:Γ fp=.dat true Vd)(hce:Γ fc=.dat false (jm tE))(hi:Γ fi=.dat true (qW tE))(ht:Γ ft=.dat false (vm tE))(hd:Γ fd=.dat false (wO tE))(he:Γ fe=.dat true Ur)(hc:check P f=some (65,(Qb fw f4 fa fp fc fi ft fd fe).strip,[.tmp 4])):Sound P f (.dat true Zm):=by
 refine Wa hc Y5 hΓ (λargs K hcl hfi hG=>?_);match args,hG with
 | [a,b],hG=>
  obtain⟨t,rfl,hwt,m,rfl,hwm,hok,hm,hK⟩:=hG;refine⟨by simp,?_⟩
  have hwl:=vbz hwt;have om1:okAs 4294967296 [m]:=λz hz=>by rw [List.mem_singleton.1 hz];exact⟨hwm,by omega⟩
  have hmv:al m<=100000000:=by omega
  cases hsl:((l4 t).all pvld && (decide ((l4 t).length<=20) && (l4 t).all sP)) with
  | false=>
   simp only [go_sem,Qb,hw,h4,hsl,Yb,Vb];repeat first|refine Va (by omega) ?_|refine Va (by assumption) ?_|refine Va rfl ?_|refine Va ⟨rfl,by omega⟩ ?_|refine Va ⟨rfl,by omega,by omega⟩ ?_|intro _
   exact hK
  | true=>
  cases hsm:List.all [m] sA with
  | false=>
   simp only [go_sem,Qb,hw,h4,ha,hsl,Yb,Vb,hsm];repeat first|refine Va (by omega) ?_|refine Va (by assumption) ?_|refine Va rfl ?_|refine Va ⟨rfl,by omega⟩ ?_|refine Va ⟨rfl,by omega,by omega⟩ ?_|intro _
   exact hK
  | true=>
  cases hav:avld m with
  | false=>
   simp only [go_sem,Qb,hw,h4,ha,hp,hsl,Yb,Vb,hsm,hav];repeat first|refine Va (by omega) ?_|refine Va (by assumption) ?_|refine Va rfl ?_|refine Va ⟨rfl,by omega⟩ ?_|refine Va ⟨rfl,by omega,by omega⟩ ?_|intro _
   exact hK
  | true=>
   have hsl2:=hsl;simp only [Bool.and_eq_true,decide_eq_true_eq]at hsl2;obtain⟨hvl,_,hsP⟩:=hsl2;have hsm2:=hsm;simp only [List.all_cons,List.all_nil,Bool.and_true]at hsm2;have o2l:=Zba hwl hsP;have o2m:=Zbc hsm2;have ok2:=Xf o2l (by decide:2<=1000)
   have om2:al m<=10000:=by omega
   obtain⟨f0,p0⟩:=xbr hvl;have c0:=wbs f0 hav;have e0:=kb tE;have d0' : decide ((0:Nat)=0)=true:=rfl;have o3:okPs 1000 (l3 (t3 t)):=λp hp=>ok2 p (Zay hp);have o32:okPs 2 (l3 (t3 t)):=λp hp=>o2l p (Zay hp);have w3:∀x∈l3 (t3 t),WLP x:=λp hp=>hwl p (Zay hp);have v3:(l3 (t3 t)).all pvld=true:=List.all_eq_true.2 λp hp=>List.all_eq_true.1 hvl p (Zay hp);have h3:=YbR (l:=l3 (t3 t)) rfl v3;have hch:chkC (l3 (t3 t)) [m]=0:=by rw [ZaW h3,if_pos hav]
   have hC1:=VbS hch;have et:l3 (t.1,t.2.1,t.2.2.1)=l3 (t3 t):=rfl;have o8:∀k,onErr tE k (.one (.lit (.iface tE (.int .i64 8))))=k 8:=λk=>by
    have e:=qO tE k 8;rw [yb tE (by decide)]at e
    exact e
   have o21:∀k,onErr tE k (.one (.lit (.iface tE (.int .i64 21))))=k 21:=λk=>by
    have e:=qO tE k 21;rw [yb tE (by decide)]at e
    exact e
   have q1:decide (((8:Nat):Int)=8)=true:=rfl;have q4:decide (((21:Nat):Int)=21)=true:=rfl;by_cases ka:crV (imgs (l3 (t3 t)) m)=0
   .rw [if_pos ka]at hC1;have e8:errV tE 8=.one (.lit (.iface tE (.int .i64 8))):=yb tE (by decide)
    simp only [go_sem,Qb,hw,h4,ha,hp,hce,hi,hsl,Yb,Vb,hsm,hav,tk3,len4p,len4,et,hC1,e8,o8,q1];repeat first|refine Va (by omega) ?_|refine Va (by assumption) ?_|refine Va rfl ?_|refine Va ⟨rfl,by omega⟩ ?_|refine Va ⟨rfl,by omega,by omega⟩ ?_|intro _
    exact hK
   .rw [if_neg ka]at hC1;have hps:=Za8 ka;have hdy:=kbc ka c0;have hA:=λi=>ZaI o32 hwm o2m i;have hci:=Qbe (hA 0) (hA 1) (hA 2);have hsz:=Vae (subQ (pt 0 (imgs (l3 (t3 t)) m)) (ciV (imgs (l3 (t3 t)) m)));have hsb:=jn (pt 0 (imgs (l3 (t3 t)) m)) (ciV (imgs (l3 (t3 t)) m));have hA0:=hA 0;have hmm:=XbH hwm hav;have hcq:cenQ (imgs (l3 (t3 t)) m) (av m)=(ciV (imgs (l3 (t3 t)) m),av m,sqQ (subQ (pt 0 (imgs (l3 (t3 t)) m)) (ciV (imgs (l3 (t3 t)) m)))):=rfl;rw [hcq]at hdy;obtain⟨C,hC⟩:∃C,ciV (imgs (l3 (t3 t)) m)=C:=⟨_,rfl⟩;rw [hC]at hps hdy hci hsz hsb hcq;obtain⟨r,hr⟩:∃r,sqQ (subQ (pt 0 (imgs (l3 (t3 t)) m)) C)=r:=⟨_,rfl⟩;rw [hr]at hps hdy hsz hcq;have wC:WLA (rcan C.1,rcan C.2):=qB C;have lC:al (rcan C.1,rcan C.2)=zq C:=rfl;have wD:WLD ((rcan C.1,rcan C.2),m,rcan r):=⟨wC,hwm,xo _⟩;have lD:dl ((rcan C.1,rcan C.2),m,rcan r)<=100000:=dl_3 (by omega) (by omega) (by omega)
    have lD2:dl ((rcan C.1,rcan C.2),m,rcan r)<=4294967296:=Nat.le_trans lD (by decide)
    have vD:dvld ((rcan C.1,rcan C.2),m,rcan r)=true:=by
     have:=ka8 C;unfold dvld;rw [hav,xm];show(avld (acan C) && _)=true;rw [this];rfl
    have hp0:psnC (l4 t) ((rcan C.1,rcan C.2),m,rcan r)=0:=by unfold psnC;rw [if_neg (by omega),if_pos vD]
    by_cases hD:dtL (l4 t) (av m)=0
    .obtain⟨y1,y2⟩:=hdy hD;rw [decide_eq_true hD]at hps;simp only [go_sem,Qb,hw,h4,ha,hp,hce,hi,ht,hd,he,hsl,Yb,Vb,hsm,hav,tk3,len4p,len4,et,hC1,e0,hcq,hmm,hp0,hps,d0',Bool.true_and,y1,y2,decide_true];repeat first|refine Va (by omega) ?_|refine Va (by assumption) ?_|refine Va rfl ?_|refine Va ⟨rfl,by omega⟩ ?_|refine Va ⟨rfl,by omega,by omega⟩ ?_|intro _
     exact hK
    .rw [decide_eq_false hD]at hps;have ec:dyC (l4 t) m=21:=by unfold dyC;rw [if_neg (by omega),if_pos hD]
     have e21:errV tE 21=.one (.lit (.iface tE (.int .i64 21))):=yb tE (by decide)
     simp only [go_sem,Qb,hw,h4,ha,hp,hce,hi,ht,hd,he,hsl,Yb,Vb,hsm,hav,tk3,len4p,len4,et,hC1,e0,hcq,hmm,hp0,hps,d0',Bool.true_and,ec,e21,o21,q4];repeat first|refine Va (by omega) ?_|refine Va (by assumption) ?_|refine Va rfl ?_|refine Va ⟨rfl,by omega⟩ ?_|refine Va ⟨rfl,by omega,by omega⟩ ?_|intro _
     exact hK
end Go.Abs
end
section
namespace Go.Num
open Go.Abs
end Go.Num
namespace Go.Abs
open Go.Num
variable {P:Program} {Γ:Nat->Spec}
def QO(l:List AV)(K:AV->Prop):Prop:=
 match l with
 | [c,p]=>onCp (λc=>onA (λp=>cl c<=1048576/\al p<=1048576/\K (.one (.lit (.bool true)))) p) c
 | _=>False
theorem vR(c p:AV)(K:AV->Prop):QO [c,p] K=(onCp (λc=>onA (λp=>cl c<=1048576/\al p<=1048576/\K (.one (.lit (.bool true)))) p) c):=propext Iff.rfl
@[congr] theorem Wbu {K:AV->Prop} {l l' : List AV} (h:l=l'):QO l K=QO l' K:=by subst h;rfl
attribute [go_sem,go_sem ↓] vR
end Go.Abs
end
section
namespace Go.Num
open Go.Abs
def clsC(c:Cp)(a b:Arc):Cp:=(c.1,c.2.1,rcan (sqQ (subQ (av a) (av c.1))),rcan (sqQ (subQ (av b) (av a))),rcan (sqQ (subQ (av b) (av c.2.1))),c.2.2.2.2.2.1,c.2.2.2.2.2.2)
end Go.Num
namespace Go.Abs
open Go.Num
variable {P:Program} {Γ:Nat->Spec}
def wa6(l:List AV)(K:AV->Prop):Prop:=
 match l with
 | [c]=>onCp (λc=>cl c<=100000000/\K (.one (.lit (.int .i64 (cchk c:Nat))))) c
 | _=>False
theorem uaU(c:AV)(K:AV->Prop):wa6 [c] K=(onCp (λc=>cl c<=100000000/\K (.one (.lit (.int .i64 (cchk c:Nat))))) c):=propext Iff.rfl
@[congr] theorem UbU {K:AV->Prop} {l l' : List AV} (h:l=l'):wa6 l K=wa6 l' K:=by subst h;rfl
attribute [go_sem,go_sem ↓] uaU
def vaY(l:List AV)(K:AV->Prop):Prop:=
 match l with
 | [c,a,b]=>onCp (λc=>onA (λa=>onA (λb=>cl c<=10000/\al a<=10000/\al b<=10000/\K (.tup [cpA (clsC c a b),.one (.lit (.bool (decide (cchk (clsC c a b)=0))))])) b) a) c
 | _=>False
theorem YaY(c a b:AV)(K:AV->Prop):vaY [c,a,b] K=(onCp (λc=>onA (λa=>onA (λb=>cl c<=10000/\al a<=10000/\al b<=10000/\K (.tup [cpA (clsC c a b),.one (.lit (.bool (decide (cchk (clsC c a b)=0))))])) b) a) c):=propext Iff.rfl
@[congr] theorem ybR {K:AV->Prop} {l l' : List AV} (h:l=l'):vaY l K=vaY l' K:=by subst h;rfl
attribute [go_sem,go_sem ↓] YaY
end Go.Abs
end
section
namespace Go.Num
open Go.Abs
def riC(c:Cp)(p:Arc):Nat:=if wV (cpv c) (av p)≠0 then 21 else if wM (cpv c) (av p)=0 then 15 else 0
def reQ(c:CpR):V2:=subQ (1,0) (cW c)
end Go.Num
namespace Go.Abs
open Go.Num
variable {P:Program} {Γ:Nat->Spec}
def Wbt(l:List AV)(K:AV->Prop):Prop:=
 match l with
 | [c]=>onCp (λc=>K (aA (c.2.2.2.2.2.1,c.2.2.2.2.2.2))) c
 | _=>False
theorem kbg(c:AV)(K:AV->Prop):Wbt [c] K=(onCp (λc=>K (aA (c.2.2.2.2.2.1,c.2.2.2.2.2.2))) c):=propext Iff.rfl
@[congr] theorem wbW {K:AV->Prop} {l l' : List AV} (h:l=l'):Wbt l K=Wbt l' K:=by subst h;rfl
attribute [go_sem,go_sem ↓] kbg
def Qa3(l:List AV)(K:AV->Prop):Prop:=
 match l with
 | [c]=>onCp (λc=>cl c<=100000000/\K (pQ (reQ (cpv c)))) c
 | _=>False
theorem wa0(c:AV)(K:AV->Prop):Qa3 [c] K=(onCp (λc=>cl c<=100000000/\K (pQ (reQ (cpv c)))) c):=propext Iff.rfl
@[congr] theorem jbO {K:AV->Prop} {l l' : List AV} (h:l=l'):Qa3 l K=Qa3 l' K:=by subst h;rfl
attribute [go_sem,go_sem ↓] wa0
def qaU(l:List AV)(K:AV->Prop):Prop:=
 match l with
 | [c,p]=>onCp (λc=>onA (λp=>cl c<=1000/\al p<=1000/\cchk c=0/\K (.tup [pQ (wN (cpv c) (av p)),rQ (wM (cpv c) (av p))])) p) c
 | _=>False
theorem Wa2(c p:AV)(K:AV->Prop):qaU [c,p] K=(onCp (λc=>onA (λp=>cl c<=1000/\al p<=1000/\cchk c=0/\K (.tup [pQ (wN (cpv c) (av p)),rQ (wM (cpv c) (av p))])) p) c):=propext Iff.rfl
@[congr] theorem xbR {K:AV->Prop} {l l' : List AV} (h:l=l'):qaU l K=qaU l' K:=by subst h;rfl
attribute [go_sem,go_sem ↓] Wa2
def kaV(l:List AV)(K:AV->Prop):Prop:=
 match l with
 | [c,p]=>onCp (λc=>onA (λp=>cl c<=1000/\al p<=1000/\cchk c=0/\K (rQ (wV (cpv c) (av p)))) p) c
 | _=>False
theorem Va5(c p:AV)(K:AV->Prop):kaV [c,p] K=(onCp (λc=>onA (λp=>cl c<=1000/\al p<=1000/\cchk c=0/\K (rQ (wV (cpv c) (av p)))) p) c):=propext Iff.rfl
@[congr] theorem ybQ {K:AV->Prop} {l l' : List AV} (h:l=l'):kaV l K=kaV l' K:=by subst h;rfl
attribute [go_sem,go_sem ↓] Va5
def qaL(l:List AV)(K:AV->Prop):Prop:=
 match l with
 | [c,p]=>onCp (λc=>onA (λp=>cl c<=1000/\al p<=1000/\cchk c=0/\K (.tup [pQ (if riC c p=0 then endA (cpv c) (av p) (zL (cpv c) (av p)) else (0,0)),pQ (if riC c p=0 then endB (cpv c) (av p) (zL (cpv c) (av p)) else (0,0)),.one (.lit (.int .i64 (riC c p:Nat)))])) p) c
 | _=>False
theorem ZaP(c p:AV)(K:AV->Prop):qaL [c,p] K=(onCp (λc=>onA (λp=>cl c<=1000/\al p<=1000/\cchk c=0/\K (.tup [pQ (if riC c p=0 then endA (cpv c) (av p) (zL (cpv c) (av p)) else (0,0)),pQ (if riC c p=0 then endB (cpv c) (av p) (zL (cpv c) (av p)) else (0,0)),.one (.lit (.int .i64 (riC c p:Nat)))])) p) c):=propext Iff.rfl
@[congr] theorem ybV {K:AV->Prop} {l l' : List AV} (h:l=l'):qaL l K=qaL l' K:=by subst h;rfl
attribute [go_sem,go_sem ↓] ZaP
def UaY(l:List AV)(K:AV->Prop):Prop:=
 match l with
 | [c,a,b]=>onCp (λc=>onA (λa=>onA (λb=>cl c<=10000/\al a<=10000/\al b<=10000/\K (pQ (ptQ (cpv c) (av a) (av b)))) b) a) c
 | _=>False
theorem WaW(c a b:AV)(K:AV->Prop):UaY [c,a,b] K=(onCp (λc=>onA (λa=>onA (λb=>cl c<=10000/\al a<=10000/\al b<=10000/\K (pQ (ptQ (cpv c) (av a) (av b)))) b) a) c):=propext Iff.rfl
@[congr] theorem UbT {K:AV->Prop} {l l' : List AV} (h:l=l'):UaY l K=UaY l' K:=by subst h;rfl
attribute [go_sem,go_sem ↓] WaW
def YaS(l:List AV)(K:AV->Prop):Prop:=
 match l with
 | [c,a,b]=>onCp (λc=>onA (λa=>onA (λb=>cl c<=10000/\al a<=10000/\al b<=10000/\K (.one (.lit (.bool (decide (hldQ (cpv c) (av a) (av b))))))) b) a) c
 | _=>False
theorem yaJ(c a b:AV)(K:AV->Prop):YaS [c,a,b] K=(onCp (λc=>onA (λa=>onA (λb=>cl c<=10000/\al a<=10000/\al b<=10000/\K (.one (.lit (.bool (decide (hldQ (cpv c) (av a) (av b))))))) b) a) c):=propext Iff.rfl
@[congr] theorem UbN {K:AV->Prop} {l l' : List AV} (h:l=l'):YaS l K=YaS l' K:=by subst h;rfl
attribute [go_sem,go_sem ↓] yaJ
def kh(f0 f1:Nat):AC:=(.seq (.ops false [.u 2 (.box 6 (.t 0)),.u 3 (.box 6 (.t 1)),.u 4 (.alloc [(.lit (.bool false)),.emp,.emp])])
 (.fg [2,3,4] (.seq (.ops true [.u 5 (.fa 0 (.t 2)),.u 6 (.ld none 3 true (.t 5)),.u 7 (.fa 3 (.t 3)),.u 8 (.ld none 3 true (.t 7)),.u 9 (.call f0 [(.t 6),(.t 8)]),.u 10 (.fa 3 (.t 2)),.u 11 (.ld none 3 true (.t 10)),.u 12 (.fa 0 (.t 3)),.u 13 (.ld none 3 true (.t 12)),.u 14 (.call f0 [(.t 11),(.t 13)]),.u 15 (.call f1 [(.t 9),(.t 14)]),.n (.st none 3 (.t 4) (.t 15))])
 .ret)))
theorem Wae(hΓ:Holds P Γ){f fm fs:Nat}(hm:Γ fm=.dat false Zn)(hs:Γ fs=.dat false Yq)(hc:check P f=some (16,(kh fm fs).strip,[.cell 4 3 true])):Sound P f (.dat false Yh):=by
 refine Wa hc xM hΓ (λargs K hcl hfi hG=>?_);match args,hG with
 | [a,b],hG=>
  obtain⟨p,rfl,wp,q,rfl,wq,hl,hl2,hK⟩:=hG;refine⟨by simp,?_⟩
  have w1:=wp.1;have w2:=wp.2;have w3:=wq.1;have w4:=wq.2;have l1:=(Nat.max_le.1 hl).1;have l2:=(Nat.max_le.1 hl).2;have l3:=(Nat.max_le.1 hl2).1;have l4:=(Nat.max_le.1 hl2).2;have r1:=Qj w1;have r2:=Qj w2;have r3:=Qj w3;have r4:=Qj w4;have m1:=Nat.le_trans (Wc (rv p.1) (rv q.2)) (by omega:_<=1000000000)
  have m2:=Nat.le_trans (Wc (rv p.2) (rv q.1)) (by omega:_<=1000000000)
  simp only [go_sem,kh,hm,hs,Yb,jc];repeat first|refine Va (by with_reducible assumption) ?_|refine Va (Nat.le_trans (by with_reducible assumption) (by decide)) ?_|refine Va (by decide) ?_
  exact hK
end Go.Abs
end
section
namespace Go.Abs
open Go.Num
variable {P:Program} {Γ:Nat->Spec}
def xt:AC:=(.seq (.ops false [.m 2 (.c (.one .emp))])
 (.fg [0] (.seq (.ops false [.m 4 (.t 0),.u 5 (.len (.t 4)),.m 3 (.t 5)])
 (.fg [0,3] (.seq (.block 0 (.loop (.seq (.seq (.ops false [.m 6 (.t 3),.u 7 (.bin .gtr (.t 6) (.i 0)),.m 8 (.t 7),.w 9 8 true (.mv (.t 0)),.w 10 8 true (.mv (.t 3)),.w 11 8 true (.bin .sub (.t 10) (.i 1)),.w 12 8 true (.idx 1 (.t 9) (.t 11)),.w 13 8 true (.ld none 1 false (.t 12)),.w 14 8 true (.bin .eql (.t 13) (.c (.one (.lit (.int .u32 0))))),.u 15 (.pick (.t 8) (.t 14) .fa)])
 (.fg [0,3,15] (.cond (.t 15) .skip (.exit 0))))
 (.fg [0,3] (.block 1 (.ops false [.m 16 (.t 3),.u 17 (.bin .sub (.t 16) (.i 1)),.m 3 (.t 17)]))))))
 (.fg [0,3] (.seq (.seq (.ops false [.m 18 (.t 3),.u 19 (.bin .eql (.t 18) (.i 0))])
 (.fg [0,3,19] (.cond (.t 19) (.seq (.ops false [.m 2 (.c (.one .emp))])
 .ret) .skip)))
 (.fg [0,3] (.seq (.ops false [.m 20 (.c (.one .emp)),.m 21 (.t 0),.m 22 (.t 3),.u 23 (.sl 1 (.t 21) none (some (.t 22))),.u 24 (.app0 1 (.t 20) (.t 23)),.m 2 (.t 24)])
 .ret)))))))))
def Xm:AC:=(.seq (.ops false [.m 4 (.c (.one (.lit (.int .u64 0))))])
 (.fg [0,1] (.seq (.seq (.ops false [.m 5 (.t 1),.m 6 (.t 0),.u 7 (.len (.t 6)),.u 8 (.bin .lss (.t 5) (.t 7))])
 (.fg [0,1,8] (.cond (.t 8) (.seq (.ops false [.m 9 (.t 0),.m 10 (.t 1),.u 11 (.idx 1 (.t 9) (.t 10)),.u 12 (.ld none 1 false (.t 11)),.u 13 (.conv .u64 (.t 12)),.m 4 (.t 13)])
 .ret) .skip)))
 (.fg [] (.seq (.ops false [.m 4 (.c (.one (.lit (.int .u64 0))))])
 .ret)))))
def Jv(f0 f1:Nat):AC:=(.seq (.ops false [.m 4 (.c (.one .emp))])
 (.fg [0,1] (.seq (.ops false [.m 8 (.t 0),.u 9 (.len (.t 8)),.m 10 (.t 1),.u 11 (.len (.t 10)),.u 12 (.max [(.t 9),(.t 11)]),.u 13 (.bin .add (.t 12) (.i 1)),.u 14 (.mk 1 [(.lit (.int .u32 0))] (.t 13) (.t 13)),.m 5 (.t 14)])
 (.fg [0,1,5] (.seq (.ops false [.m 6 (.c (.one (.lit (.int .u64 0))))])
 (.fg [0,1,5,6] (.seq (.seq (.ops false [.m 15 (.t 5),.u 16 (.len (.t 15)),.m 17 (.i 0)])
 (.fg [0,1,5,6,16,17] (.block 0 (.loop (.seq (.ops false [.u 18 (.bin .lss (.t 17) (.t 16))])
 (.fg [0,1,5,6,16,17,18] (.seq (.cond (.t 18) .skip (.exit 0))
 (.fg [0,1,5,6,16,17] (.seq (.block 1 (.seq (.ops false [.m 19 (.t 17),.m 7 (.t 19)])
 (.fg [0,1,5,6,7,16,17] (.seq (.ops false [.m 20 (.t 6),.m 21 (.t 0),.m 22 (.t 7),.u 23 (.call f0 [(.t 21),(.t 22)]),.m 24 (.t 1),.m 25 (.t 7),.u 26 (.call f0 [(.t 24),(.t 25)]),.u 27 (.bin .add (.t 23) (.t 26)),.u 28 (.bin .add (.t 20) (.t 27)),.m 6 (.t 28)])
 (.fg [0,1,5,6,7,16,17] (.seq (.ops false [.m 29 (.t 5),.m 30 (.t 7),.m 31 (.t 6),.u 32 (.conv .u32 (.t 31)),.u 33 (.idx 1 (.t 29) (.t 30)),.n (.st none 1 (.t 33) (.t 32))])
 (.fg [0,1,5,6,16,17] (.ops false [.m 34 (.t 6),.u 35 (.bin .shr (.t 34) (.c (.one (.lit (.int .u64 32))))),.m 6 (.t 35)]))))))))
 (.fg [0,1,5,6,16,17] (.ops false [.u 36 (.bin .add (.t 17) (.i 1)),.m 17 (.t 36)])))))))))))
 (.fg [5] (.seq (.ops false [.m 37 (.t 5),.u 38 (.call f1 [(.t 37)]),.m 4 (.t 38)])
 .ret)))))))))
theorem xaG(hΓ:Holds P Γ){f:Nat}(hc:check P f=some (25,xt.strip,[.tmp 2])):Sound P f (.dat false Wu):=by
 refine Wa hc QaU hΓ (λargs K hcl hfi hG=>?_);match args,hG with
 | [a],hG=>
  obtain⟨l,rfl,hl,hlen,hK⟩:=hG;refine⟨by simp,?_⟩
  simp only [go_sem,xt];intro hmax;refine Xa (λn:Nat=>⟨mkV [(0,wsA l),(3,.one (.lit (.int .i64 n)))],mkH []⟩) (λn=>n<=l.length/\val (l.take n)=val l) id l.length ?_ ?_ ?_
  .exact ja (by simp [okS,okV,okC,okL,okH,okB,okE,Qa,Ja,qa,va,wsA,ws]) trivial
  .simp
  .rintro n ⟨hn,ht⟩;simp only [go_sem];refine⟨λh=>⟨by omega,by omega,by omega,λh0=>⟨by omega,n-1,ja (by simp [okS,okV,okC,okL,okH,okB,okE,Qa,Ja,qa,va,wsA,ws];omega) trivial,⟨by omega,?_⟩,?_⟩,λh0=>⟨λh1=>by omega,λ_=>⟨by omega,by simp;omega,?_⟩⟩⟩,λh=>⟨λh1=>?_,λh1=>by omega⟩⟩
   .rw [show((n:Int)-1).toNat=n-1 by omega]at h0
    have:=Zc l (n-1);rw [show n-1+1=n by omega,h0,Nat.mul_zero,Nat.add_zero]at this
    rw [<-this];exact ht
   .simp only [id];omega
   .rw [show((n:Int)-1).toNat=n-1 by omega]at h0
    have:=ye (Yz hl n) (vM h hn h0);rw [<-this,ht];exact hK
   .subst h1;have:val l=0:=by rw [<-ht];simp [val]
    rw [this,Xb]at hK;exact hK
theorem XT(hΓ:Holds P Γ){f:Nat}(hc:check P f=some (14,Xm.strip,[.tmp 4])):Sound P f (.dat true Xl):=by
 refine Wa hc jaV hΓ (λargs K hcl hfi hG=>?_);match args,hG with
 | [a,b],hG=>
  obtain⟨l,rfl,hl,hG⟩:=hG;obtain⟨k,i,rfl,rfl,hi,hK⟩:=vb hG;refine⟨by simp,?_⟩
  simp only [go_sem,Xm];intro hmax;refine⟨λh=>⟨hi,by omega,?_⟩,λh=>?_⟩
  .have:=qc hl i.toNat;rw [Nat.mod_eq_of_lt (by omega)];exact hK
  .rw [List.getD_eq_getElem?_getD,List.getElem?_eq_none (by omega)]at hK;exact hK
theorem ZaE(hΓ:Holds P Γ){f fw ft:Nat}(hw:Γ fw=.dat true Xl)(ht:Γ ft=.dat false Wu)(hc:check P f=some (39,(Jv fw ft).strip,[.tmp 4])):Sound P f (.dat false Xq):=by
 refine Wa hc vae hΓ (λargs K hcl hfi hG=>?_);match args,hG with
 | [a,b],hG=>
  obtain⟨x,rfl,hx,y,rfl,hy,hxl,hyl,hK⟩:=hG;refine⟨by simp,?_⟩
  simp only [go_sem,Jv,hw,ht];intro h1 h2;refine⟨by omega,by omega,λhN=>?_⟩
  generalize hNN:max x.length y.length+1=N at hN;refine Xa (λp:List Nat×Nat=>⟨mkV [(0,wsA x),(1,wsA y),(5,.one (.own 14 1 1 0 N)),(6,.one (.lit (.int .u64 p.2))),(16,.one (.lit (.int .i64 N))),(17,.one (.lit (.int .i64 p.1.length)))],mkH [(14,⟨1,some ⟨(p.1++List.replicate (N-p.1.length) 0).map wc,1,true⟩⟩)]⟩)
   (λp=>p.1.length<=N/\WL p.1/\p.2<=1/\val p.1+4294967296 ^ p.1.length*p.2=val (x.take p.1.length)+val (y.take p.1.length)) (λp=>N-p.1.length) ([],0) ?_ ?_ ?_
  .exact ja (by simp [okS,okV,okC,okL,okH,okB,okE,Qa,Ja,qa,va,wsA,ws]) (wj (by simp))
  .simp [uc,val]
  .rintro⟨o,c⟩ ⟨hoN,ho,hc1,hval⟩;simp only at hoN ho hc1 hval;have hlen:(o++List.replicate (N-o.length) 0).length=N:=by simp;omega
   simp only [go_sem,hw,ht,hlen];refine⟨λhlt=>⟨hx,hy,hlt,hlt,by omega,by omega,?_⟩,λhge=>?_⟩
   .have g1:=qc hx o.length;have g2:=qc hy o.length;rw [Nat.mod_eq_of_lt (show x.getD o.length 0+y.getD o.length 0<18446744073709551616 by omega),Nat.mod_eq_of_lt (show c+(x.getD o.length 0+y.getD o.length 0)<18446744073709551616 by omega)]
    generalize hs:c+(x.getD o.length 0+y.getD o.length 0)=s;refine⟨(o++[s % 4294967296],s / 4294967296),ja (by simp [okS,okV,okC,okL,okH,okB,okE,Qa,Ja,qa,va,wsA,ws]) (wj ?_),⟨by simp;omega,jf.2 ⟨ho,xc.2 ⟨Nat.mod_lt _ (by omega),uc⟩⟩,by simp only;omega,?_⟩,by simp;omega⟩
    .rw [show N-o.length=N-(o.length+1)+1 by omega,Qak];simp
    .simp only [List.length_append,List.length_cons,List.length_nil,Nat.zero_add,Zc,Yc,xj,Un,Nat.mul_zero,Nat.add_zero,Nat.pow_succ];rw [Nat.mul_assoc,Nat.add_assoc,<-Nat.mul_add,Nat.mod_add_div,<-hs,Nat.mul_add,<-Nat.add_assoc,hval,Nat.mul_add];omega
   .have e:o.length=N:=by omega
    simp only [e,Nat.sub_self,List.replicate_zero,List.append_nil,Nat.le_refl,if_true,QI];have hv:val o=val x+val y:=by
     rw [e,vl (by omega),vl (by omega)]at hval
     exact jat hx hy (by omega) (by omega) (by omega) hval
    refine⟨ho,by omega,?_⟩
    rw [hv];exact hK
end Go.Abs
end
section
namespace Go.Abs
open Go.Num
variable {P:Program} {Γ:Nat->Spec}
def Vt(f0 f1:Nat):AC:=(.seq (.ops false [.m 4 (.c (.one .emp))])
 (.fg [0,1] (.seq (.ops false [.m 9 (.t 0),.u 10 (.len (.t 9)),.u 11 (.mk 1 [(.lit (.int .u32 0))] (.t 10) (.t 10)),.m 5 (.t 11)])
 (.fg [0,1,5] (.seq (.ops false [.m 6 (.c (.one (.lit (.int .u64 0))))])
 (.fg [0,1,5,6] (.seq (.seq (.ops false [.m 12 (.t 5),.u 13 (.len (.t 12)),.m 14 (.i 0)])
 (.fg [0,1,5,6,13,14] (.block 0 (.loop (.seq (.ops false [.u 15 (.bin .lss (.t 14) (.t 13))])
 (.fg [0,1,5,6,13,14,15] (.seq (.cond (.t 15) .skip (.exit 0))
 (.fg [0,1,5,6,13,14] (.seq (.block 1 (.seq (.ops false [.m 16 (.t 14),.m 7 (.t 16)])
 (.fg [0,1,5,6,7,13,14] (.seq (.ops true [.m 17 (.t 0),.m 18 (.t 7),.u 19 (.idx 1 (.t 17) (.t 18)),.u 20 (.ld none 1 false (.t 19)),.u 21 (.conv .u64 (.t 20)),.m 22 (.t 1),.m 23 (.t 7),.u 24 (.call f0 [(.t 22),(.t 23)]),.u 25 (.bin .sub (.t 21) (.t 24)),.m 26 (.t 6),.u 27 (.bin .sub (.t 25) (.t 26)),.m 8 (.t 27)])
 (.fg [0,1,5,7,8,13,14] (.seq (.ops false [.m 28 (.t 5),.m 29 (.t 7),.m 30 (.t 8),.u 31 (.conv .u32 (.t 30)),.u 32 (.idx 1 (.t 28) (.t 29)),.n (.st none 1 (.t 32) (.t 31))])
 (.fg [0,1,5,8,13,14] (.ops false [.m 33 (.t 8),.u 34 (.bin .shr (.t 33) (.c (.one (.lit (.int .u64 63))))),.m 6 (.t 34)]))))))))
 (.fg [0,1,5,6,13,14] (.ops false [.u 35 (.bin .add (.t 14) (.i 1)),.m 14 (.t 35)])))))))))))
 (.fg [5] (.seq (.ops false [.m 36 (.t 5),.u 37 (.call f1 [(.t 36)]),.m 4 (.t 37)])
 .ret)))))))))
def qm:AC:=(.seq (.ops false [.m 4 (.i 0)])
 (.fg [0,1] (.seq (.seq (.ops false [.m 6 (.t 0),.u 7 (.len (.t 6)),.m 8 (.t 1),.u 9 (.len (.t 8)),.u 10 (.bin .neq (.t 7) (.t 9))])
 (.fg [0,1,10] (.cond (.t 10) (.seq (.seq (.ops false [.m 11 (.t 0),.u 12 (.len (.t 11)),.m 13 (.t 1),.u 14 (.len (.t 13)),.u 15 (.bin .lss (.t 12) (.t 14))])
 (.fg [15] (.cond (.t 15) (.seq (.ops false [.m 4 (.i (-1))])
 .ret) .skip)))
 (.fg [] (.seq (.ops false [.m 4 (.i 1)])
 .ret))) .skip)))
 (.fg [0,1] (.seq (.seq (.ops false [.m 16 (.t 0),.u 17 (.len (.t 16)),.u 18 (.bin .sub (.t 17) (.i 1)),.m 5 (.t 18)])
 (.fg [0,1,5] (.block 0 (.loop (.seq (.seq (.ops false [.m 19 (.t 5),.u 20 (.bin .geq (.t 19) (.i 0))])
 (.fg [0,1,5,20] (.cond (.t 20) .skip (.exit 0))))
 (.fg [0,1,5] (.seq (.block 1 (.seq (.ops true [.m 23 (.t 0),.m 24 (.t 5),.u 25 (.idx 1 (.t 23) (.t 24)),.u 26 (.ld none 1 false (.t 25)),.m 27 (.t 1),.m 28 (.t 5),.u 29 (.idx 1 (.t 27) (.t 28)),.u 30 (.ld none 1 false (.t 29)),.u 31 (.bin .neq (.t 26) (.t 30))])
 (.fg [0,1,5,31] (.cond (.t 31) (.seq (.seq (.ops true [.m 32 (.t 0),.m 33 (.t 5),.u 34 (.idx 1 (.t 32) (.t 33)),.u 35 (.ld none 1 false (.t 34)),.m 36 (.t 1),.m 37 (.t 5),.u 38 (.idx 1 (.t 36) (.t 37)),.u 39 (.ld none 1 false (.t 38)),.u 40 (.bin .lss (.t 35) (.t 39))])
 (.fg [40] (.cond (.t 40) (.seq (.ops false [.m 4 (.i (-1))])
 .ret) .skip)))
 (.fg [] (.seq (.ops false [.m 4 (.i 1)])
 .ret))) .skip))))
 (.fg [0,1,5] (.ops false [.m 21 (.t 5),.u 22 (.bin .sub (.t 21) (.i 1)),.m 5 (.t 22)])))))))))
 (.fg [] (.seq (.ops false [.m 4 (.i 0)])
 .ret)))))))
def Qq(f0:Nat):AC:=(.seq (.ops false [.m 4 (.c (.one .emp)),.m 5 (.c (.one (.lit (.int .u32 0))))])
 (.fg [0,1] (.seq (.ops false [.m 9 (.t 0),.u 10 (.len (.t 9)),.u 11 (.mk 1 [(.lit (.int .u32 0))] (.t 10) (.t 10)),.m 6 (.t 11)])
 (.fg [0,1,6] (.seq (.ops false [.m 7 (.c (.one (.lit (.int .u64 0))))])
 (.fg [0,1,6,7] (.seq (.seq (.ops false [.m 12 (.t 0),.u 13 (.len (.t 12)),.u 14 (.bin .sub (.t 13) (.i 1)),.m 8 (.t 14)])
 (.fg [0,1,6,7,8] (.block 0 (.loop (.seq (.seq (.ops false [.m 15 (.t 8),.u 16 (.bin .geq (.t 15) (.i 0))])
 (.fg [0,1,6,7,8,16] (.cond (.t 16) .skip (.exit 0))))
 (.fg [0,1,6,7,8] (.seq (.block 1 (.seq (.ops false [.m 19 (.t 7),.u 20 (.bin .shl (.t 19) (.c (.one (.lit (.int .u64 32))))),.m 21 (.t 0),.m 22 (.t 8),.u 23 (.idx 1 (.t 21) (.t 22)),.u 24 (.ld none 1 false (.t 23)),.u 25 (.conv .u64 (.t 24)),.u 26 (.bin .or (.t 20) (.t 25)),.m 7 (.t 26)])
 (.fg [0,1,6,7,8] (.seq (.ops false [.m 27 (.t 6),.m 28 (.t 8),.m 29 (.t 7),.m 30 (.t 1),.u 31 (.conv .u64 (.t 30)),.u 32 (.bin .quo (.t 29) (.t 31)),.u 33 (.conv .u32 (.t 32)),.u 34 (.idx 1 (.t 27) (.t 28)),.n (.st none 1 (.t 34) (.t 33))])
 (.fg [0,1,6,7,8] (.ops false [.m 35 (.t 7),.m 36 (.t 1),.u 37 (.conv .u64 (.t 36)),.u 38 (.bin .rem (.t 35) (.t 37)),.m 7 (.t 38)]))))))
 (.fg [0,1,6,7,8] (.ops false [.m 17 (.t 8),.u 18 (.bin .sub (.t 17) (.i 1)),.m 8 (.t 18)])))))))))
 (.fg [6,7] (.seq (.ops false [.m 39 (.t 6),.u 40 (.call f0 [(.t 39)]),.m 41 (.t 7),.u 42 (.conv .u32 (.t 41)),.m 4 (.t 40),.m 5 (.t 42)])
 .ret)))))))))
theorem VaD(hΓ:Holds P Γ){f fw ft:Nat}(hw:Γ fw=.dat true Xl)(ht:Γ ft=.dat false Wu)(hc:check P f=some (38,(Vt fw ft).strip,[.tmp 4])):Sound P f (.dat false Qv):=by
 refine Wa hc Y9 hΓ (λargs K hcl hfi hG=>?_);match args,hG with
 | [a,b],hG=>
  obtain⟨x,rfl,hx,y,rfl,hy,hxl,hle,hK⟩:=hG;refine⟨by simp,?_⟩
  simp only [go_sem,Vt,hw,ht];intro h1;refine⟨by omega,λ_=>?_⟩
  generalize hN:x.length=N at h1 hxl;refine Xa (λp:List Nat×Nat=>⟨mkV [(0,wsA x),(1,wsA y),(5,.one (.own 11 1 1 0 N)),(6,.one (.lit (.int .u64 p.2))),(13,.one (.lit (.int .i64 N))),(14,.one (.lit (.int .i64 p.1.length)))],mkH [(11,⟨1,some ⟨(p.1++List.replicate (N-p.1.length) 0).map wc,1,true⟩⟩)]⟩)
   (λp=>p.1.length<=N/\WL p.1/\p.2<=1/\val p.1+val (y.take p.1.length)=val (x.take p.1.length)+4294967296 ^ p.1.length*p.2) (λp=>N-p.1.length) ([],0) ?_ ?_ ?_
  .exact ja (by simp [okS,okV,okC,okL,okH,okB,okE,Qa,Ja,qa,va,wsA,ws]) (wj (by simp))
  .simp [uc,val]
  .rintro⟨o,c⟩ ⟨hoN,ho,hc1,hval⟩;simp only at hoN ho hc1 hval;have hlen:(o++List.replicate (N-o.length) 0).length=N:=by simp;omega
   simp only [go_sem,hw,ht,hlen];refine⟨λhlt=>⟨by omega,hy,hlt,hlt,by omega,by omega,?_⟩,λhge=>?_⟩
   .have g1:=qc hx o.length;have g2:=qc hy o.length;rw [Nat.mod_eq_of_lt (show x.getD o.length 0<18446744073709551616 by omega)]
    obtain⟨s1,s2⟩:=kas g1 g2 hc1;generalize sub64 (sub64 (x.getD o.length 0) (y.getD o.length 0)) c=s at s1 s2;refine⟨(o++[s % 4294967296],s / 9223372036854775808),ja (by simp [okS,okV,okC,okL,okH,okB,okE,Qa,Ja,qa,va,wsA,ws]) (wj ?_),⟨by simp;omega,jf.2 ⟨ho,xc.2 ⟨Nat.mod_lt _ (by omega),uc⟩⟩,s2,?_⟩,by simp;omega⟩
    .rw [show N-o.length=N-(o.length+1)+1 by omega,Qak];simp
    .simp only [List.length_append,List.length_cons,List.length_nil,Nat.zero_add,Zc,Yc,xj,Un,Nat.mul_zero,Nat.add_zero,Nat.pow_succ];exact YI hval s1
   .have e:o.length=N:=by omega
    have hv:=qJ ho hx (by omega) hle hval
    simp only [e,Nat.sub_self,List.replicate_zero,List.append_nil];refine⟨ho,by omega,?_⟩
    rw [hv];exact hK
theorem jV(hΓ:Holds P Γ){f:Nat}(hc:check P f=some (41,qm.strip,[.tmp 4])):Sound P f (.dat false Zi):=by
 refine Wa hc Z5 hΓ (λargs K hcl hfi hG=>?_);match args,hG with
 | [a,b],hG=>
  obtain⟨x,rfl,hx,y,rfl,hy,hzx,hzy,hK⟩:=hG;refine⟨by simp,?_⟩
  simp only [go_sem,qm];intro h1 h2;refine⟨λhl _=>⟨by omega,?_⟩,λhne _ _=>⟨λhlt=>?_,λhge=>?_⟩⟩
  rotate_left
  .rw [qZ (JL hx hzy hlt)]at hK;exact hK
  .rw [zak (JL hy hzx (by omega))]at hK;exact hK
  refine Xa (λn:Nat=>⟨mkV [(0,wsA x),(1,wsA y),(5,.one (.lit (.int .i64 ((n:Int)-1))))],mkH []⟩) (λn=>n<=x.length/\x.drop n=y.drop n) id x.length ?_ ?_ ?_
  .exact ja (by simp [okS,okV,okC,okL,okH,okB,okE,Qa,Ja,qa,va,wsA,ws]) trivial
  .simp [hl]
  .rintro n ⟨hn,hd⟩;simp only [go_sem];refine⟨λh=>⟨by omega,by omega,by omega,by omega,λhe=>⟨by omega,n-1,ja (by simp [okS,okV,okC,okL,okH,okB,okE,Qa,Ja,qa,va,wsA,ws];omega) trivial,⟨by omega,?_⟩,by simp only [id];omega⟩,λhne=>?_⟩,λh=>?_⟩
   .rw [show((n:Int)-1).toNat=n-1 by omega]at he
    rw [List.getD_eq_getElem?_getD,List.getD_eq_getElem?_getD,List.getElem?_eq_getElem (by omega),List.getElem?_eq_getElem (by omega)]at he
    have e1:=List.getElem_cons_drop (as:=x) (i:=n-1) (by omega)
    have e2:=List.getElem_cons_drop (as:=y) (i:=n-1) (by omega)
    rw [show n-1+1=n by omega]at e1 e2
    rw [<-e1,<-e2,hd];simp only [Option.getD_some]at he;rw [he]
   .rw [show((n:Int)-1).toNat=n-1 by omega]at hne ⊢
    refine⟨by omega,by omega,by omega,by omega,λhlt=>?_,λhge=>?_⟩
    .rw [qZ (Ybj (i:=n-1) hx hl (by omega) (by rw [show n-1+1=n by omega];exact hd) hlt)]at hK;exact hK
    .rw [zak (Ybj (i:=n-1) hy hl.symm (by omega) (by rw [show n-1+1=n by omega];exact hd.symm) (by omega))]at hK;exact hK
   .have:n=0:=by omega
    subst this;simp only [List.drop_zero]at hd;rw [hd,ya5]at hK;exact hK
theorem Vah(hΓ:Holds P Γ){f ft:Nat}(ht:Γ ft=.dat false Wu)(hc:check P f=some (43,(Qq ft).strip,[.tmp 4,.tmp 5])):Sound P f (.dat false Uw):=by
 refine Wa hc YaH hΓ (λargs K hcl hfi hG=>?_);match args,hG with
 | [a,b],hG=>
  obtain⟨x,rfl,hx,hG⟩:=hG;obtain⟨k,m,rfl,rfl,hm,hmB,hxl,hK⟩:=vb hG;obtain⟨m,rfl⟩:∃n:Nat,m=n:=⟨m.toNat,by omega⟩
  simp only [Int.toNat_natCast]at hK;refine⟨by simp,?_⟩
  simp only [go_sem,Qq,ht];intro h1;refine⟨hxl,λ_=>⟨by omega,?_⟩⟩
  refine Xa (λp:List Nat×Nat=>⟨mkV [(0,wsA x),(1,.one (.lit (.int .u32 m))),(6,.one (.own 11 1 1 0 x.length)),(7,.one (.lit (.int .u64 p.2))),(8,.one (.lit (.int .i64 ((x.length:Int)-p.1.length-1))))],mkH [(11,⟨1,some ⟨(List.replicate (x.length-p.1.length) 0++p.1).map wc,1,true⟩⟩)]⟩)
   (λp=>p.1.length<=x.length/\WL p.1/\p.2<m/\val p.1*m+p.2=val (x.drop (x.length-p.1.length))) (λp=>x.length-p.1.length) ([],0) ?_ ?_ ?_
  .exact ja (by simp [okS,okV,okC,okL,okH,okB,okE,Qa,Ja,qa,va,wsA,ws]) (wj (by simp))
  .simp [uc,val];omega
  .rintro⟨q,r⟩ ⟨hq,hqw,hr,hval⟩;simp only at hq hqw hr hval;have hlen:(List.replicate (x.length-q.length) 0++q).length=x.length:=by simp;omega
   simp only [go_sem,ht,hlen];refine⟨λh=>?_,λh=>?_⟩
   .obtain⟨n,hn⟩:∃n,n=x.length-q.length:=⟨_,rfl⟩;have hn0:0<n:=by omega
    have hi:((x.length:Int)-q.length-1).toNat=n-1:=by omega
    have g1:=qc hx (n-1);have hd:=ZM x hn0 (by omega)
    obtain⟨s1,s2⟩:=Wa8 (by omega) hr g1
    have s3:=kaX (B:=4294967296) (a:=x.getD (n-1) 0) (by omega) (hn▸hval)
    have e1:r*4294967296 % 18446744073709551616=r*4294967296:=by omega
    have e2:x.getD (n-1) 0 % 18446744073709551616=x.getD (n-1) 0:=by omega
    have e3:m % 18446744073709551616=m:=by omega
    rw [hi,<-hn,e1,e2,e3,or32 _ _ g1];generalize hs:r*4294967296+x.getD (n-1) 0=s at s1 s2 s3;rw [Nat.mod_eq_of_lt (show s / m<18446744073709551616 by omega),Nat.mod_eq_of_lt s1]
    have hm0:s % m<m:=Nat.mod_lt _ (by omega)
    refine⟨⟨rfl,by omega⟩,by omega,by omega,⟨rfl,by omega,by omega⟩,by omega,⟨by omega,by omega⟩,by omega,by omega,by omega,(s / m::q,s % m),ja (by simp [okS,okV,okC,okL,okH,okB,okE,Qa,Ja,qa,va,wsA,ws];omega) (wj ?_),⟨by simp;omega,xc.2 ⟨s1,hqw⟩,hm0,?_⟩,by simp;omega⟩
    .simp only [List.length_cons];rw [qu q _ hn0,show x.length-(q.length+1)=n-1 by omega]
    .rw [xj,List.length_cons,show x.length-(q.length+1)=n-1 by omega,hd];exact s3
   .have e:x.length-q.length=0:=by omega
    simp only [e,List.replicate_zero,List.nil_append,List.drop_zero]at hval ⊢;have h1:=Nat.div_mod_unique (show 0<m by omega) (a:=val x) (c:=r) (d:=val q)
    obtain⟨h2,h3⟩:=h1.2 ⟨by rw [<-hval,Nat.mul_comm m,Nat.add_comm],hr⟩
    rw [h2,h3]at hK;refine⟨hqw,by omega,?_⟩
    rw [Nat.mod_eq_of_lt (by omega)];exact hK
end Go.Abs
end
section
namespace Go.Abs
open Go.Num
variable {P:Program} {Γ:Nat->Spec}
def yA:AC:=(.seq (.ops false [.m 4 (.c (.one .emp))])
 (.fg [0,1] (.seq (.ops false [.m 9 (.t 0),.u 10 (.len (.t 9)),.u 11 (.bin .add (.t 10) (.i 1)),.u 12 (.mk 1 [(.lit (.int .u32 0))] (.t 11) (.t 11)),.m 5 (.t 12)])
 (.fg [0,1,5] (.seq (.seq (.ops false [.m 13 (.t 0),.u 14 (.len (.t 13)),.m 15 (.i 0)])
 (.fg [1,5,13,14,15] (.block 0 (.loop (.seq (.ops false [.u 16 (.bin .lss (.t 15) (.t 14))])
 (.fg [1,5,13,14,15,16] (.seq (.cond (.t 16) .skip (.exit 0))
 (.fg [1,5,13,14,15] (.seq (.block 1 (.seq (.ops false [.m 17 (.t 15),.u 18 (.idx 1 (.t 13) (.t 15)),.u 19 (.ld none 1 false (.t 18)),.m 6 (.t 17),.m 7 (.t 19)])
 (.fg [1,5,6,7,13,14,15] (.seq (.ops false [.m 20 (.t 7),.u 21 (.conv .u64 (.t 20)),.m 22 (.t 1),.u 23 (.bin .shl (.t 21) (.t 22)),.m 8 (.t 23)])
 (.fg [1,5,6,8,13,14,15] (.seq (.ops false [.m 24 (.t 5),.m 25 (.t 6),.u 26 (.idx 1 (.t 24) (.t 25)),.u 27 (.ld none 1 false (.t 26)),.m 28 (.t 8),.u 29 (.conv .u32 (.t 28)),.u 30 (.bin .or (.t 27) (.t 29)),.u 31 (.idx 1 (.t 24) (.t 25)),.n (.st none 1 (.t 31) (.t 30))])
 (.fg [1,5,6,8,13,14,15] (.ops false [.m 32 (.t 5),.m 33 (.t 6),.u 34 (.bin .add (.t 33) (.i 1)),.m 35 (.t 8),.u 36 (.bin .shr (.t 35) (.c (.one (.lit (.int .u64 32))))),.u 37 (.conv .u32 (.t 36)),.u 38 (.idx 1 (.t 32) (.t 34)),.n (.st none 1 (.t 38) (.t 37))]))))))))
 (.fg [1,5,13,14,15] (.ops false [.u 39 (.bin .add (.t 15) (.i 1)),.m 15 (.t 39)])))))))))))
 (.fg [5] (.seq (.ops false [.m 40 (.t 5),.m 4 (.t 40)])
 .ret)))))))
def yu(f0 f1:Nat):AC:=(.seq (.ops false [.m 4 (.c (.one .emp))])
 (.fg [0,1] (.seq (.ops false [.m 7 (.t 0),.u 8 (.len (.t 7)),.u 9 (.mk 1 [(.lit (.int .u32 0))] (.t 8) (.t 8)),.m 5 (.t 9)])
 (.fg [0,1,5] (.seq (.seq (.ops false [.m 10 (.t 0),.u 11 (.len (.t 10)),.m 12 (.i 0)])
 (.fg [0,1,5,11,12] (.block 0 (.loop (.seq (.ops false [.u 13 (.bin .lss (.t 12) (.t 11))])
 (.fg [0,1,5,11,12,13] (.seq (.cond (.t 13) .skip (.exit 0))
 (.fg [0,1,5,11,12] (.seq (.block 1 (.seq (.ops false [.m 14 (.t 12),.m 6 (.t 14)])
 (.fg [0,1,5,6,11,12] (.ops true [.m 15 (.t 5),.m 16 (.t 6),.m 17 (.t 0),.m 18 (.t 6),.u 19 (.idx 1 (.t 17) (.t 18)),.u 20 (.ld none 1 false (.t 19)),.u 21 (.conv .u64 (.t 20)),.m 22 (.t 0),.m 23 (.t 6),.u 24 (.bin .add (.t 23) (.i 1)),.u 25 (.call f0 [(.t 22),(.t 24)]),.u 26 (.bin .shl (.t 25) (.c (.one (.lit (.int .u64 32))))),.u 27 (.bin .or (.t 21) (.t 26)),.m 28 (.t 1),.u 29 (.bin .shr (.t 27) (.t 28)),.u 30 (.conv .u32 (.t 29)),.u 31 (.idx 1 (.t 15) (.t 16)),.n (.st none 1 (.t 31) (.t 30))]))))
 (.fg [0,1,5,11,12] (.ops false [.u 32 (.bin .add (.t 12) (.i 1)),.m 12 (.t 32)])))))))))))
 (.fg [5] (.seq (.ops false [.m 33 (.t 5),.u 34 (.call f1 [(.t 33)]),.m 4 (.t 34)])
 .ret)))))))
def Zq(f0:Nat):AC:=(.seq (.ops false [.m 4 (.c (.one .emp))])
 (.fg [0,1] (.seq (.ops false [.m 11 (.t 0),.u 12 (.len (.t 11)),.m 13 (.t 1),.u 14 (.len (.t 13)),.u 15 (.bin .add (.t 12) (.t 14)),.u 16 (.mk 1 [(.lit (.int .u32 0))] (.t 15) (.t 15)),.m 5 (.t 16)])
 (.fg [0,1,5] (.seq (.seq (.ops false [.m 17 (.t 0),.u 18 (.len (.t 17)),.m 19 (.i 0)])
 (.fg [1,5,17,18,19] (.block 0 (.loop (.seq (.ops false [.u 20 (.bin .lss (.t 19) (.t 18))])
 (.fg [1,5,17,18,19,20] (.seq (.cond (.t 20) .skip (.exit 0))
 (.fg [1,5,17,18,19] (.seq (.block 1 (.seq (.ops false [.m 21 (.t 19),.u 22 (.idx 1 (.t 17) (.t 19)),.u 23 (.ld none 1 false (.t 22)),.m 6 (.t 21),.m 7 (.t 23)])
 (.fg [1,5,6,7,17,18,19] (.seq (.ops false [.m 8 (.c (.one (.lit (.int .u64 0))))])
 (.fg [1,5,6,7,8,17,18,19] (.seq (.seq (.ops false [.m 24 (.t 1),.u 25 (.len (.t 24)),.m 26 (.i 0)])
 (.fg [1,5,6,7,8,17,18,19,24,25,26] (.block 2 (.loop (.seq (.ops false [.u 27 (.bin .lss (.t 26) (.t 25))])
 (.fg [1,5,6,7,8,17,18,19,24,25,26,27] (.seq (.cond (.t 27) .skip (.exit 2))
 (.fg [1,5,6,7,8,17,18,19,24,25,26] (.seq (.block 3 (.seq (.ops false [.m 28 (.t 26),.u 29 (.idx 1 (.t 24) (.t 26)),.u 30 (.ld none 1 false (.t 29)),.m 9 (.t 28),.m 10 (.t 30)])
 (.fg [1,5,6,7,8,9,10,17,18,19,24,25,26] (.seq (.ops false [.m 31 (.t 8),.m 32 (.t 7),.u 33 (.conv .u64 (.t 32)),.m 34 (.t 10),.u 35 (.conv .u64 (.t 34)),.u 36 (.bin .mul (.t 33) (.t 35)),.m 37 (.t 5),.m 38 (.t 6),.m 39 (.t 9),.u 40 (.bin .add (.t 38) (.t 39)),.u 41 (.idx 1 (.t 37) (.t 40)),.u 42 (.ld none 1 false (.t 41)),.u 43 (.conv .u64 (.t 42)),.u 44 (.bin .add (.t 36) (.t 43)),.u 45 (.bin .add (.t 31) (.t 44)),.m 8 (.t 45)])
 (.fg [1,5,6,7,8,9,17,18,19,24,25,26] (.seq (.ops false [.m 46 (.t 5),.m 47 (.t 6),.m 48 (.t 9),.u 49 (.bin .add (.t 47) (.t 48)),.m 50 (.t 8),.u 51 (.conv .u32 (.t 50)),.u 52 (.idx 1 (.t 46) (.t 49)),.n (.st none 1 (.t 52) (.t 51))])
 (.fg [1,5,6,7,8,17,18,19,24,25,26] (.ops false [.m 53 (.t 8),.u 54 (.bin .shr (.t 53) (.c (.one (.lit (.int .u64 32))))),.m 8 (.t 54)]))))))))
 (.fg [1,5,6,7,8,17,18,19,24,25,26] (.ops false [.u 55 (.bin .add (.t 26) (.i 1)),.m 26 (.t 55)])))))))))))
 (.fg [1,5,6,8,17,18,19] (.ops false [.m 56 (.t 5),.m 57 (.t 6),.m 58 (.t 1),.u 59 (.len (.t 58)),.u 60 (.bin .add (.t 57) (.t 59)),.m 61 (.t 8),.u 62 (.conv .u32 (.t 61)),.u 63 (.idx 1 (.t 56) (.t 60)),.n (.st none 1 (.t 63) (.t 62))]))))))))
 (.fg [1,5,17,18,19] (.ops false [.u 64 (.bin .add (.t 19) (.i 1)),.m 19 (.t 64)])))))))))))
 (.fg [5] (.seq (.ops false [.m 65 (.t 5),.u 66 (.call f0 [(.t 65)]),.m 4 (.t 66)])
 .ret)))))))
theorem ua9(hΓ:Holds P Γ){f:Nat}(hc:check P f=some (41,yA.strip,[.tmp 4])):Sound P f (.fresh 1 up_G):=by
 refine ut hc qbm hΓ (λargs K hcl hfi hG=>?_);match args,hG with
 | [a,b],hG=>
  obtain⟨x,rfl,hx,hG⟩:=hG;obtain⟨k,m,rfl,rfl,hm,hmB,hxl,hK⟩:=vb hG;obtain⟨m,rfl⟩:∃n:Nat,m=n:=⟨m.toNat,by omega⟩
  simp only [Int.toNat_natCast]at hK;refine⟨by simp,?_⟩
  simp only [go_sem,yA];intro h1;refine⟨by omega,by omega,λ_=>?_⟩
  refine Xa (λp:List Nat×Nat=>⟨mkV [(1,.one (.lit (.int .i64 m))),(5,.one (.own 12 1 1 0 (x.length+1))),(13,wsA x),(14,.one (.lit (.int .i64 x.length))),(15,.one (.lit (.int .i64 p.1.length)))],mkH [(12,⟨1,some ⟨(p.1++p.2::List.replicate (x.length-p.1.length) 0).map wc,1,true⟩⟩)]⟩)
   (λp=>p.1.length<=x.length/\WL p.1/\p.2<2 ^ m/\val p.1+4294967296 ^ p.1.length*p.2=val (x.take p.1.length)*2 ^ m) (λp=>x.length-p.1.length) ([],0) ?_ ?_ ?_
  .exact ja (by simp [okS,okV,okC,okL,okH,okB,okE,Qa,Ja,qa,va,wsA,ws]) (wj (by simp [List.replicate_succ]))
  .simp [uc,val];exact Nat.pow_pos (by omega)
  .rintro⟨o,c⟩ ⟨hoN,ho,hc1,hval⟩;simp only at hoN ho hc1 hval;have hlen:(o++c::List.replicate (x.length-o.length) 0).length=x.length+1:=by simp;omega
   simp only [go_sem,hlen,List.length_set];refine⟨λhlt=>?_,λhge=>?_⟩
   .have g1:=qc hx o.length;obtain⟨s1,s2,s3,s4⟩:=Vbm (by omega) hc1 g1
    have e1:x.getD o.length 0 % 18446744073709551616=x.getD o.length 0:=by omega
    have hp:=JY (show m<32 by omega)
    rw [QbD,e1,Nat.mod_eq_of_lt s1,s2,jbw];generalize hy:x.getD o.length 0*2 ^ m=y at s1 s2 s3 s4;rw [Nat.mod_eq_of_lt (show y / 4294967296<4294967296 by omega)]
    refine⟨hlt,⟨rfl,by omega⟩,by omega,by omega,⟨rfl,by omega,by omega⟩,by omega,by omega,by omega,by omega,by omega,by omega,by omega,(o++[y % 4294967296+c],y / 4294967296),ja (by simp [okS,okV,okC,okL,okH,okB,okE,Qa,Ja,qa,va,wsA,ws]) (wj ?_),⟨by simp;omega,jf.2 ⟨ho,xc.2 ⟨s3,uc⟩⟩,s4,?_⟩,by simp;omega⟩
    .rw [show x.length-o.length=(x.length-(o.length+1))+1 by omega,List.replicate_succ,Qbo];simp
    .simp only [List.length_append,List.length_cons,List.length_nil,Nat.zero_add,Zc,Yc,xj,Un,Nat.mul_zero,Nat.add_zero,Nat.pow_succ];rw [XbC (B:=4294967296) (x:=y) hval rfl,Nat.add_mul,<-hy,Nat.mul_assoc]
   .have e:o.length=x.length:=by omega
    have hcB:c<4294967296:=by have:=JY (show m<32 by omega);omega
    rw [e,vl (Nat.le_refl _)]at hval;simp only [e,Nat.sub_self,List.replicate_zero];have hw:WL (o++[c]):=jf.2 ⟨ho,xc.2 ⟨hcB,uc⟩⟩;have hv:val (o++[c])=val x*2 ^ m:=by rw [Yc,e];simpa [val] using hval
    have:=qE hw;rw [hv,List.length_append,List.length_singleton,e]at this;rw [<-this];exact hK
theorem vaH(hΓ:Holds P Γ){f fw ft:Nat}(hw:Γ fw=.dat true Xl)(ht:Γ ft=.dat false Wu)(hc:check P f=some (35,(yu fw ft).strip,[.tmp 4])):Sound P f (.dat false xG):=by
 refine Wa hc XaU hΓ (λargs K hcl hfi hG=>?_);match args,hG with
 | [a,b],hG=>
  obtain⟨x,rfl,hx,hG⟩:=hG;obtain⟨k,m,rfl,rfl,hm,hmB,hxl,hK⟩:=vb hG;obtain⟨m,rfl⟩:∃n:Nat,m=n:=⟨m.toNat,by omega⟩
  simp only [Int.toNat_natCast]at hK;refine⟨by simp,?_⟩
  simp only [go_sem,yu,hw,ht];intro h1;refine⟨by omega,λ_=>?_⟩
  refine Xa (λo:List Nat=>⟨mkV [(0,wsA x),(1,.one (.lit (.int .i64 m))),(5,.one (.own 9 1 1 0 x.length)),(11,.one (.lit (.int .i64 x.length))),(12,.one (.lit (.int .i64 o.length)))],mkH [(9,⟨1,some ⟨(o++List.replicate (x.length-o.length) 0).map wc,1,true⟩⟩)]⟩)
   (λo=>o.length<=x.length/\WL o/\val o=val x / 2 ^ m % 4294967296 ^ o.length) (λo=>x.length-o.length) [] ?_ ?_ ?_
  .exact ja (by simp [okS,okV,okC,okL,okH,okB,okE,Qa,Ja,qa,va,wsA,ws]) (wj (by simp))
  .simp [uc,val,Nat.mod_one]
  .rintro o ⟨hoN,ho,hval⟩;have hlen:(o++List.replicate (x.length-o.length) 0).length=x.length:=by simp;omega
   simp only [go_sem,hw,ht,hlen];refine⟨λhlt=>⟨hlt,by omega,hx,⟨rfl,by omega⟩,⟨rfl,by omega,by omega⟩,by omega,hlt,hlt,by omega,?_⟩,λhge=>?_⟩
   .have g1:=qc hx o.length;have g2:=qc hx (o.length+1);have e1:x.getD o.length 0 % 18446744073709551616=x.getD o.length 0:=by omega
    have e2:x.getD (o.length+1) 0*4294967296 % 18446744073709551616=x.getD (o.length+1) 0*4294967296:=by omega
    rw [e1,e2,or32' _ _ g1,show x.getD (o.length+1) 0*4294967296+x.getD o.length 0=x.getD o.length 0+4294967296*x.getD (o.length+1) 0 by omega,J2 hx (by omega)]
    generalize hv:val x / 2 ^ m / 4294967296 ^ o.length % 4294967296=v;have hvB:v<4294967296:=by rw [<-hv];exact Nat.mod_lt _ (by omega)
    refine⟨o++[v],ja (by simp [okS,okV,okC,okL,okH,okB,okE,Qa,Ja,qa,va,wsA,ws]) (wj ?_),⟨by simp;omega,jf.2 ⟨ho,xc.2 ⟨hvB,uc⟩⟩,?_⟩,by simp;omega⟩
    .rw [show x.length-o.length=x.length-(o.length+1)+1 by omega,Qak];simp
    .rw [Yc,List.length_append,List.length_singleton,jI,hv,<-hval];simp [val]
   .have e:o.length=x.length:=by omega
    have hlt:val x / 2 ^ m<4294967296 ^ x.length:=Nat.lt_of_le_of_lt (Nat.div_le_self _ _) (Vm hx);rw [e,Nat.mod_eq_of_lt hlt]at hval;simp only [e,Nat.sub_self,List.replicate_zero,List.append_nil];refine⟨ho,by omega,?_⟩
    rw [hval];exact hK
theorem qaj(hΓ:Holds P Γ){f ft:Nat}(ht:Γ ft=.dat false Wu)(hc:check P f=some (67,(Zq ft).strip,[.tmp 4])):Sound P f (.dat false JA):=by
 refine Wa hc UaG hΓ (λargs K hcl hfi hG=>?_);match args,hG with
 | [a,b],hG=>
  obtain⟨x,rfl,hx,y,rfl,hy,hxl,hyl,hK⟩:=hG;refine⟨by simp,?_⟩
  simp only [go_sem,Zq,ht];intro h1 h2;refine⟨by omega,by omega,λ_=>?_⟩
  generalize hN:x.length+y.length=N;refine Xa (λp:Nat×List Nat=>⟨mkV [(1,wsA y),(5,.one (.own 16 1 1 0 N)),(17,wsA x),(18,.one (.lit (.int .i64 x.length))),(19,.one (.lit (.int .i64 p.1)))],mkH [(16,⟨1,some ⟨p.2.map wc,1,true⟩⟩)]⟩)
   (λp=>p.1<=x.length/\WL p.2/\p.2.length=N/\val p.2=val (x.take p.1)*val y/\∀j,p.1+y.length<=j->p.2.getD j 0=0) (λp=>x.length-p.1) (0,List.replicate N 0) ?_ ?_ ?_
  .exact ja (by simp [okS,okV,okC,okL,okH,okB,okE,Qa,Ja,qa,va,wsA,ws]) (wj (by simp))
  .simp [Xbd,val,Xam];intro j _;rw [List.getElem?_replicate];split <;> rfl
  .rintro⟨i,o⟩ ⟨hi,ho,hoN,hval,hz⟩;simp only at hi ho hoN hval hz;simp only [go_sem,ht,hoN];refine⟨λhlt=>⟨hlt,λ_=>?_⟩,λhge=>?_⟩
   .have g1:=qc hx i;refine Xa (λp:Nat×Nat×List Nat=>⟨mkV [(1,wsA y),(5,.one (.own 16 1 1 0 N)),(6,.one (.lit (.int .i64 i))),(7,.one (.lit (.int .u32 (x.getD i 0:Nat)))),(8,.one (.lit (.int .u64 p.2.1))),(17,wsA x),(18,.one (.lit (.int .i64 x.length))),(19,.one (.lit (.int .i64 i))),(24,wsA y),(25,.one (.lit (.int .i64 y.length))),(26,.one (.lit (.int .i64 p.1)))],mkH [(16,⟨1,some ⟨p.2.2.map wc,1,true⟩⟩)]⟩)
     (λp=>p.1<=y.length/\p.2.1<4294967296/\WL p.2.2/\p.2.2.length=N/\val p.2.2+4294967296 ^ i*4294967296 ^ p.1*p.2.1=val (x.take i)*val y+4294967296 ^ i*x.getD i 0*val (y.take p.1)/\∀j,i+y.length<=j->p.2.2.getD j 0=0) (λp=>y.length-p.1) (0,0,o) ?_ ?_ ?_
    .exact ja (by simp [okS,okV,okC,okL,okH,okB,okE,Qa,Ja,qa,va,wsA,ws]) (wj rfl)
    .exact⟨Nat.zero_le _,by simp,ho,hoN,by simp [val,hval],hz⟩
    .rintro⟨k,c,o⟩ ⟨hk,hc,ho,hoN,hval,hz⟩;simp only at hk hc ho hoN hval hz;simp only [go_sem,ht,hoN];refine⟨λhlt2=>?_,λhge2=>?_⟩
     .have g2:=qc hy k;have g3:=qc ho (i+k);have s1:=uaq g1 g2 hc g3;have e1:x.getD i 0 % 18446744073709551616=x.getD i 0:=by omega
      have e2:y.getD k 0 % 18446744073709551616=y.getD k 0:=by omega
      have e3:o.getD (i+k) 0 % 18446744073709551616=o.getD (i+k) 0:=by omega
      have hstep:=QaF hval (by omega) rfl
      rw [e1,e2,e3,Nat.mod_eq_of_lt (show x.getD i 0*y.getD k 0<18446744073709551616 by omega),Nat.mod_eq_of_lt (show x.getD i 0*y.getD k 0+o.getD (i+k) 0<18446744073709551616 by omega),Nat.mod_eq_of_lt s1]
      generalize hs:c+(x.getD i 0*y.getD k 0+o.getD (i+k) 0)=s at s1 hstep;refine⟨hlt2,by omega,by omega,by omega,by omega,by omega,by omega,by omega,by omega,(k+1,s / 4294967296,o.set (i+k) (s % 4294967296)),ja (by simp [okS,okV,okC,okL,okH,okB,okE,Qa,Ja,qa,va,wsA,ws]) (wj rfl),⟨by simp only;omega,by simp only;omega,ua4 ho _ (Nat.mod_lt _ (by omega)),by simp [hoN],hstep,?_⟩,by simp only;omega⟩
      intro j hj;simp only;rw [Num.getD_set_ne (by omega)];exact hz j hj
     .have e:k=y.length:=by omega
      subst e;have hend:=za4 hval (by omega) (hz _ (Nat.le_refl _))
      rw [Nat.mod_eq_of_lt hc];refine λ_=>⟨by omega,by omega,by omega,by omega,(i+1,o.set (i+y.length) c),ja (by simp [okS,okV,okC,okL,okH,okB,okE,Qa,Ja,qa,va,wsA,ws]) (wj rfl),⟨by simp only;omega,ua4 ho _ hc,by simp [hoN],hend,?_⟩,by simp only;omega⟩
      intro j hj;simp only at hj ⊢;rw [Num.getD_set_ne (by omega)];exact hz j (by omega)
   .have e:i=x.length:=by omega
    subst e;rw [vl (Nat.le_refl _)]at hval;refine⟨ho,by omega,?_⟩
    rw [hval];exact hK
end Go.Abs
end
