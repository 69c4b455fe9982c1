/-
  Parts of the proof, merged: ArgG, PoseM, PoseN, BurH, BurI, BurQ, BurJ, BurK, BurL, BurM, BurN.
-/
import Derived.Test.YtneiiodebbmcaaaGreatDoorM11
set_option linter.unusedVariables false
set_option linter.unusedSimpArgs false
set_option maxRecDepth 100000
section
namespace Go.Abs
open Go.Num
variable {H:Type} {enc:TypeId×Value->H} {bulk:DataW H->Nat} {P:Program} {w:World} {α:Type}
structure P4T (P:Program) (t:TypeId):Prop where
 ex:∃u,P.underlying t=some (.array 4 u)/\P.cellsOf u=10/\P.cellsOf t=40/\PsT P u
end Go.Abs
end
section
namespace Go.Num
open Go.Abs
end Go.Num
namespace Go.Abs
open Go.Num
variable {P:Program} {Γ:Nat->Spec}
def z6:List C:=[.lit (.bool false),.emp,.emp,.lit (.bool false),.emp,.emp]
def q6(x:V2):List C:=[cb (rcan x.1),cn (rcan x.1),cd (rcan x.1),cb (rcan x.2),cn (rcan x.2),cd (rcan x.2)]
def UL(l:List AV)(K:AV->Prop):Prop:=
 match l with
 | [a,b]=>onP3 (λt=>onA (λm=>okPs 1048576 (l3 t)/\al m<=1048576/\K (.one (.lit (.bool true)))) b) a
 | _=>False
theorem xT(a b:AV)(K:AV->Prop):UL [a,b] K=(onP3 (λt=>onA (λm=>okPs 1048576 (l3 t)/\al m<=1048576/\K (.one (.lit (.bool true)))) b) a):=propext Iff.rfl
@[congr] theorem Vbx {K:AV->Prop} {l l' : List AV} (h:l=l'):UL l K=UL l' K:=by subst h;rfl
attribute [go_sem,go_sem ↓] xT
end Go.Abs
end
section
namespace Go.Num
open Go.Abs
theorem dl_3{c m:Arc}{r:Rat}{b:Nat}(h1:al c<=b)(h2:al m<=b)(h3:rz r<=b):dl (c,m,rcan r)<=b:=Nat.max_le.2 ⟨h1,Nat.max_le.2 ⟨h2,h3⟩⟩
end Go.Num
namespace Go.Abs
open Go.Num
variable {P:Program} {Γ:Nat->Spec}
def jL(l:List AV)(K:AV->Prop):Prop:=
 match l with
 | [a,b,c]=>onP3 (λt=>onA (λm=>onA (λo=>okPs 1048576 (l3 t)/\al m<=1048576/\al o<=1048576/\K (.one (.lit (.bool true)))) c) b) a
 | _=>False
theorem UQ(a b c:AV)(K:AV->Prop):jL [a,b,c] K=(onP3 (λt=>onA (λm=>onA (λo=>okPs 1048576 (l3 t)/\al m<=1048576/\al o<=1048576/\K (.one (.lit (.bool true)))) c) b) a):=propext Iff.rfl
@[congr] theorem Jbx {K:AV->Prop} {l l' : List AV} (h:l=l'):jL l K=jL l' K:=by subst h;rfl
attribute [go_sem,go_sem ↓] UQ
end Go.Abs
end
section
namespace Go.Num
open Go.Abs
theorem zbG{l:List Ps}{m:Arc}(hl:okPs 2 l)(hw:WLA m)(hm:al m<=2):∀p∈l,zq (appQ (pv p) (av m))<=70:=λp hp=>by
 have h1:=(hl p hp).1;have h2:=(hl p hp).2;have h3:=Vao (pv p) (av m);have h4:=Nat.le_trans (vE hw) hm;have e1:rz (pv p).1.1<=2:=Nat.le_trans (Wj h1.1) (Nat.le_trans (Nat.le_max_left _ _) h2);have e2:zq (pv p).2<=2:=Nat.le_trans (vE h1.2) (Nat.le_trans (Nat.le_max_right _ _) h2);omega
theorem kbt{a b c d x y z:V2}(h:dy3 a b c d=some (x,y,z)):(x=a∨x=b)/\(y=b∨y=c)/\(z=c∨z=d):=by
 unfold dy3 at h;split at h
 .simp only [Option.some.injEq,Prod.mk.injEq]at h;obtain⟨rfl,rfl,rfl⟩:=h;exact⟨.inl rfl,.inl rfl,.inl rfl⟩
 split at h
 .simp only [Option.some.injEq,Prod.mk.injEq]at h;obtain⟨rfl,rfl,rfl⟩:=h;exact⟨.inl rfl,.inl rfl,.inr rfl⟩
 split at h
 .simp only [Option.some.injEq,Prod.mk.injEq]at h;obtain⟨rfl,rfl,rfl⟩:=h;exact⟨.inl rfl,.inr rfl,.inr rfl⟩
 split at h
 .simp only [Option.some.injEq,Prod.mk.injEq]at h;obtain⟨rfl,rfl,rfl⟩:=h;exact⟨.inr rfl,.inr rfl,.inr rfl⟩
 .contradiction
theorem wbB{t:P4}{m:Arc}(hl:okPs 2 (l4 t))(hw:WLA m)(hm:al m<=2){x y z:V2}(h:dyN (l4 t) (av m)=some (x,y,z)):zq (ctr3 x y z)<=2900/\rz (sqQ (subQ x (ctr3 x y z)))<=30000:=by
 have hi:=zbG hl hw hm;obtain⟨h1,h2,h3⟩:=kbt (show dy3 _ _ _ _=_ from h);have a:=hi t.1 (by simp [l4])
 have b:=hi t.2.1 (by simp [l4])
 have c:=hi t.2.2.1 (by simp [l4])
 have d:=hi t.2.2.2 (by simp [l4])
 have zx:zq x<=70:=by rcases h1 with rfl | rfl <;> assumption
 have zy:zq y<=70:=by rcases h2 with rfl | rfl <;> assumption
 have zz:zq z<=70:=by rcases h3 with rfl | rfl <;> assumption
 have zc:=vA zx zy zz;have zs:=vl x (ctr3 x y z);have zr:=J2 (subQ x (ctr3 x y z));exact⟨by omega,by omega⟩
end Go.Num
namespace Go.Abs
open Go.Num
variable {P:Program} {Γ:Nat->Spec}
def zI(l:List AV)(K:AV->Prop):Prop:=
 match l with
 | [a,b]=>onP4 (λt=>onA (λm=>okPs 1048576 (l4 t)/\al m<=1048576/\K (.one (.lit (.bool true)))) b) a
 | _=>False
theorem vN(a b:AV)(K:AV->Prop):zI [a,b] K=(onP4 (λt=>onA (λm=>okPs 1048576 (l4 t)/\al m<=1048576/\K (.one (.lit (.bool true)))) b) a):=propext Iff.rfl
@[congr] theorem Jbq {K:AV->Prop} {l l' : List AV} (h:l=l'):zI l K=zI l' K:=by subst h;rfl
attribute [go_sem,go_sem ↓] vN
end Go.Abs
end
section
namespace Go.Num
open Go.Abs
def t3(t:P4):P3:=(t.1,t.2.1,t.2.2.1)
end Go.Num
namespace Go.Abs
open Go.Num
variable {P:Program} {Γ:Nat->Spec}
def YK(l:List AV)(K:AV->Prop):Prop:=
 match l with
 | [a,b]=>onP4 (λt=>onA (λm=>okPs 1048576 (l4 t)/\al m<=1048576/\K (.one (.lit (.bool true)))) b) a
 | _=>False
theorem VT(a b:AV)(K:AV->Prop):YK [a,b] K=(onP4 (λt=>onA (λm=>okPs 1048576 (l4 t)/\al m<=1048576/\K (.one (.lit (.bool true)))) b) a):=propext Iff.rfl
@[congr] theorem Ybw {K:AV->Prop} {l l' : List AV} (h:l=l'):YK l K=YK l' K:=by subst h;rfl
attribute [go_sem,go_sem ↓] VT
end Go.Abs
end
section
namespace Go.Num
def addT(a b:TnQ):TnQ:=
 if a.2=true then (if b.2=true then (0,false) else if b.1=0 then (0,true) else (-1 / b.1,false))
 else if b.2=true then (if a.1=0 then (0,true) else (-1 / a.1,false))
 else if 1-a.1*b.1=0 then (0,true) else ((a.1+b.1) / (1-a.1*b.1),false)
def thenQ(p q:PsQ):PsQ:=(addT p.1 q.1,appQ q p.2)
def btwQ(p q:PsQ):PsQ:=thenQ (invQ p) q
def fixQ(p:PsQ):V2:=
 (((1-cosQ p.1)*p.2.1-sinQ p.1*p.2.2) / (2*(1-cosQ p.1)),((1-cosQ p.1)*p.2.2+sinQ p.1*p.2.1) / (2*(1-cosQ p.1)))
def zeroT(t:TnQ):Bool:=!t.2 && decide (t.1=0)
end Go.Num
end
section
namespace Go.Num
open Go.Abs
end Go.Num
namespace Go.Abs
open Go.Num
variable {P:Program} {Γ:Nat->Spec} {L:List (Nat×Spec)}
def t2A(p:Tn×Tn):AV:=.one (.slice [tC p.1,tC p.2])
theorem Ybp(x y:Tn×Tn)(h:t2A x=t2A y):x=y:=by
 simp only [t2A,AV.one.injEq,C.slice.injEq,List.cons.injEq,and_true]at h;exact Prod.ext (UaQ _ _ (congrArg AV.agg h.1)) (UaQ _ _ (congrArg AV.agg h.2))
def onT2(k:Tn×Tn->Prop)(a:AV):Prop:=onE t2A (λt=>(WLR t.1.1/\WLR t.2.1)/\k t) a
@[congr] theorem kbP {k:Tn×Tn->Prop} {a a' : AV} (h:a=a'):onT2 k a=onT2 k a':=by subst h;rfl
theorem Qbi(k:Tn×Tn->Prop)(x y:R)(b c:Bool):onT2 k (.one (.slice [[cb x,cn x,cd x,.lit (.bool b)],[cb y,cn y,cd y,.lit (.bool c)]]))=((WLR x/\WLR y)/\k ((x,b),(y,c))):=
 Yo Ybp (λt=>(WLR t.1.1/\WLR t.2.1)/\k t) ((x,b),(y,c))
attribute [go_sem,go_sem ↓] Qbi
def Zam(tE:Nat)(l:List AV)(K:AV->Prop):Prop:=
 match l with
 | [a]=>onT2 (λt=>rl t.1.1<=100000000/\rl t.2.1<=100000000/\tchk t.1=0/\tchk t.2=0/\K (.one (.lit .nilIface))) a
 | _=>False
theorem JaB(tE:Nat)(a:AV)(K:AV->Prop):Zam tE [a] K=(onT2 (λt=>rl t.1.1<=100000000/\rl t.2.1<=100000000/\tchk t.1=0/\tchk t.2=0/\K (.one (.lit .nilIface))) a):=propext Iff.rfl
@[congr] theorem vbL (tE:Nat) {K:AV->Prop} {l l' : List AV} (h:l=l'):Zam tE l K=Zam tE l' K:=by subst h;rfl
attribute [go_sem,go_sem ↓] JaB
def vam(l:List AV)(K:AV->Prop):Prop:=
 match l with
 | []=>K (tQ (0,true))
 | _=>False
theorem Zav(K:AV->Prop):vam [] K=(K (tQ (0,true))):=propext Iff.rfl
@[congr] theorem WbN {K:AV->Prop} {l l' : List AV} (h:l=l'):vam l K=vam l' K:=by subst h;rfl
attribute [go_sem,go_sem ↓] Zav
def VaX(r:Bool)(l:List AV)(K:AV->Prop):Prop:=
 match l with
 | [a,b]=>onT (λt=>onT (λu=>(r=true∨t.2=true∨u.2=false)/\rl t.1<=1000000/\rl u.1<=1000000/\tchk t=0/\tchk u=0/\K (tQ (addT (tv t) (tv u)))) b) a
 | _=>False
theorem waM(r:Bool)(a b:AV)(K:AV->Prop):VaX r [a,b] K=(onT (λt=>onT (λu=>(r=true∨t.2=true∨u.2=false)/\rl t.1<=1000000/\rl u.1<=1000000/\tchk t=0/\tchk u=0/\K (tQ (addT (tv t) (tv u)))) b) a):=propext Iff.rfl
@[congr] theorem kbR (r:Bool) {K:AV->Prop} {l l' : List AV} (h:l=l'):VaX r l K=VaX r l' K:=by subst h;rfl
attribute [go_sem,go_sem ↓] waM
def waT(l:List AV)(K:AV->Prop):Prop:=
 match l with
 | [a,b]=>onT (λt=>onT (λu=>rl t.1<=1000000/\rl u.1<=1000000/\tchk t=0/\tchk u=0/\K (.tup [tQ (addT (tv t) (tv u)),.one (.lit .nilIface)])) b) a
 | _=>False
theorem YaO(a b:AV)(K:AV->Prop):waT [a,b] K=(onT (λt=>onT (λu=>rl t.1<=1000000/\rl u.1<=1000000/\tchk t=0/\tchk u=0/\K (.tup [tQ (addT (tv t) (tv u)),.one (.lit .nilIface)])) b) a):=propext Iff.rfl
@[congr] theorem VbR {K:AV->Prop} {l l' : List AV} (h:l=l'):waT l K=waT l' K:=by subst h;rfl
attribute [go_sem,go_sem ↓] YaO
def xan(l:List AV)(K:AV->Prop):Prop:=
 match l with
 | [a,b]=>onPo (λp=>onPo (λq=>pl p<=100000/\pl q<=100000/\pvld p=true/\pvld q=true/\K (.tup [psQ (thenQ (pv p) (pv q)),.one (.lit .nilIface)])) b) a
 | _=>False
theorem zaE(a b:AV)(K:AV->Prop):xan [a,b] K=(onPo (λp=>onPo (λq=>pl p<=100000/\pl q<=100000/\pvld p=true/\pvld q=true/\K (.tup [psQ (thenQ (pv p) (pv q)),.one (.lit .nilIface)])) b) a):=propext Iff.rfl
@[congr] theorem xbL {K:AV->Prop} {l l' : List AV} (h:l=l'):xan l K=xan l' K:=by subst h;rfl
attribute [go_sem,go_sem ↓] zaE
def kaR(l:List AV)(K:AV->Prop):Prop:=
 match l with
 | [a,b]=>onPo (λp=>onPo (λq=>pl p<=1000/\pl q<=1000/\pvld p=true/\pvld q=true/\K (.tup [psQ (btwQ (pv p) (pv q)),.one (.lit .nilIface)])) b) a
 | _=>False
theorem jaQ(a b:AV)(K:AV->Prop):kaR [a,b] K=(onPo (λp=>onPo (λq=>pl p<=1000/\pl q<=1000/\pvld p=true/\pvld q=true/\K (.tup [psQ (btwQ (pv p) (pv q)),.one (.lit .nilIface)])) b) a):=propext Iff.rfl
@[congr] theorem wbV {K:AV->Prop} {l l' : List AV} (h:l=l'):kaR l K=kaR l' K:=by subst h;rfl
attribute [go_sem,go_sem ↓] jaQ
def xa1(tE:Nat)(l:List AV)(K:AV->Prop):Prop:=
 match l with
 | [a]=>onPo (λp=>pl p<=1000000/\pvld p=true/\K (.tup [pQ (if zeroT (pv p).1=true then (0,0) else fixQ (pv p)),errV tE (if zeroT (pv p).1=true then 8 else 0)])) a
 | _=>False
theorem YaY(tE:Nat)(a:AV)(K:AV->Prop):xa1 tE [a] K=(onPo (λp=>pl p<=1000000/\pvld p=true/\K (.tup [pQ (if zeroT (pv p).1=true then (0,0) else fixQ (pv p)),errV tE (if zeroT (pv p).1=true then 8 else 0)])) a):=propext Iff.rfl
@[congr] theorem ZbS (tE:Nat) {K:AV->Prop} {l l' : List AV} (h:l=l'):xa1 tE l K=xa1 tE l' K:=by subst h;rfl
attribute [go_sem,go_sem ↓] YaY
def Yai(tE:Nat)(l:List AV)(K:AV->Prop):Prop:=
 match l with
 | [a,b]=>onPo (λp=>onPo (λq=>pl p<=1000/\pl q<=1000/\pvld p=true/\pvld q=true/\K (.tup [pQ (if zeroT (btwQ (pv p) (pv q)).1=true then (0,0) else fixQ (btwQ (pv p) (pv q))),errV tE (if zeroT (btwQ (pv p) (pv q)).1=true then 8 else 0)])) b) a
 | _=>False
theorem xar(tE:Nat)(a b:AV)(K:AV->Prop):Yai tE [a,b] K=(onPo (λp=>onPo (λq=>pl p<=1000/\pl q<=1000/\pvld p=true/\pvld q=true/\K (.tup [pQ (if zeroT (btwQ (pv p) (pv q)).1=true then (0,0) else fixQ (btwQ (pv p) (pv q))),errV tE (if zeroT (btwQ (pv p) (pv q)).1=true then 8 else 0)])) b) a):=propext Iff.rfl
@[congr] theorem zbM (tE:Nat) {K:AV->Prop} {l l' : List AV} (h:l=l'):Yai tE l K=Yai tE l' K:=by subst h;rfl
attribute [go_sem,go_sem ↓] xar
end Go.Abs
end
section
namespace Go.Num
open Go.Abs
end Go.Num
namespace Go.Abs
open Go.Num
variable {P:Program} {Γ:Nat->Spec}
def WN(l:List AV)(K:AV->Prop):Prop:=
 match l with
 | [a]=>onP4 (λt=>okPs 1048576 (l4 t)/\K (.one (.lit (.bool true)))) a
 | _=>False
theorem yU(a:AV)(K:AV->Prop):WN [a] K=(onP4 (λt=>okPs 1048576 (l4 t)/\K (.one (.lit (.bool true)))) a):=propext Iff.rfl
@[congr] theorem Zbx {K:AV->Prop} {l l' : List AV} (h:l=l'):WN l K=WN l' K:=by subst h;rfl
attribute [go_sem,go_sem ↓] yU
end Go.Abs
end
section
namespace Go.Num
open Go.Abs
theorem vbu(a b c d:V2):detQ a b c d =
  (sqQ b-sqQ a)*((subQ c a).1*(subQ d a).2-(subQ c a).2*(subQ d a).1)+(sqQ c-sqQ a)*((subQ d a).1*(subQ b a).2-(subQ d a).2*(subQ b a).1)+(sqQ d-sqQ a)*((subQ b a).1*(subQ c a).2-(subQ b a).2*(subQ c a).1):=by
 unfold detQ subQ;simp only;grind
end Go.Num
namespace Go.Abs
open Go.Num
variable {P:Program} {Γ:Nat->Spec}
def jz(l:List AV)(K:AV->Prop):Prop:=
 match l with
 | [a]=>onPs (λl=>okPs 100000000 l/\K (.one (.lit (.int .i64 (fourC l:Nat))))) a
 | _=>False
theorem zaD(a:AV)(K:AV->Prop):jz [a] K=(onPs (λl=>okPs 100000000 l/\K (.one (.lit (.int .i64 (fourC l:Nat))))) a):=propext Iff.rfl
@[congr] theorem qbO {K:AV->Prop} {l l' : List AV} (h:l=l'):jz l K=jz l' K:=by subst h;rfl
attribute [go_sem,go_sem ↓] zaD
theorem vaJ:Good jz:=Wa λas=>by
 unfold jz;split
 .exact(xu λ_=>(.and λ_=>(.ret _)))
 .exact .of λK hk=>hk.elim
def JD(l:List AV)(K:AV->Prop):Prop:=
 match l with
 | [a,b]=>onPs (λl=>onA (λm=>okPs 1000 l/\al m<=10000/\fourC l=0/\K (rQ (dtL l (av m)))) b) a
 | _=>False
theorem Qa2(a b:AV)(K:AV->Prop):JD [a,b] K=(onPs (λl=>onA (λm=>okPs 1000 l/\al m<=10000/\fourC l=0/\K (rQ (dtL l (av m)))) b) a):=propext Iff.rfl
@[congr] theorem zbU {K:AV->Prop} {l l' : List AV} (h:l=l'):JD l K=JD l' K:=by subst h;rfl
attribute [go_sem,go_sem ↓] Qa2
theorem waV:Good JD:=Wa λas=>by
 unfold JD;split
 .exact(xu λ_=>(Uv λ_=>(.and λ_=>(.and λ_=>(.and λ_=>(.ret _))))))
 .exact .of λK hk=>hk.elim
def Vd(f0:Nat):AC:=(.seq (.ops false [.m 2 (.i 0)])
 (.fg [0] (.seq (.seq (.ops false [.m 4 (.t 0),.u 5 (.call f0 [(.t 4)]),.m 3 (.t 5)])
 (.fg [0,3] (.seq (.ops false [.m 6 (.t 3),.u 7 (.bin .neq (.t 6) (.i 0))])
 (.fg [0,3,7] (.cond (.t 7) (.seq (.ops false [.m 8 (.t 3),.m 2 (.t 8)])
 .ret) .skip)))))
 (.fg [0] (.seq (.seq (.ops false [.m 9 (.t 0),.u 10 (.len (.t 9)),.u 11 (.bin .neq (.t 10) (.i 4))])
 (.fg [11] (.cond (.t 11) (.seq (.ops false [.m 2 (.i 10)])
 .ret) .skip)))
 (.fg [] (.seq (.ops false [.m 2 (.i 0)])
 .ret)))))))
def jh(f0 f1 f2 f3 f4 f5:Nat):AC:=(.seq (.ops false [.u 3 (.box 6 (.t 1)),.u 4 (.alloc [(.lit (.bool false)),.emp,.emp])])
 (.fg [0,3,4] (.seq (.ops false [.m 14 (.t 0),.u 15 (.ld none 6 true (.t 3)),.u 16 (.call f0 [(.t 14),(.t 15)]),.m 5 (.t 16)])
 (.fg [4,5] (.seq (.ops false [.u 6 (.alloc [(.lit (.bool false)),.emp,.emp,(.lit (.bool false)),.emp,.emp,(.lit (.bool false)),.emp,.emp,(.lit (.bool false)),.emp,.emp,(.lit (.bool false)),.emp,.emp,(.lit (.bool false)),.emp,.emp,(.lit (.bool false)),.emp,.emp,(.lit (.bool false)),.emp,.emp,(.lit (.bool false)),.emp,.emp])])
 (.fg [4,5,6] (.seq (.seq (.ops false [.m 17 (.i 0)])
 (.fg [4,5,6,17] (.block 0 (.loop (.seq (.ops false [.u 18 (.bin .lss (.t 17) (.i 3))])
 (.fg [4,5,6,17,18] (.seq (.cond (.t 18) .skip (.exit 0))
 (.fg [4,5,6,17] (.seq (.block 1 (.seq (.ops false [.m 19 (.t 17),.m 7 (.t 19)])
 (.fg [4,5,6,7,17] (.seq (.ops true [.m 20 (.t 5),.m 21 (.t 7),.u 22 (.bin .add (.t 21) (.i 1)),.u 23 (.idx 6 (.t 20) (.t 22)),.u 24 (.ld none 6 true (.t 23)),.m 25 (.t 5),.u 26 (.idx 6 (.t 25) (.i 0)),.u 27 (.ld none 6 true (.t 26)),.u 28 (.call f1 [(.t 24),(.t 27)]),.u 8 (.alloc [(.lit (.bool false)),.emp,.emp,(.lit (.bool false)),.emp,.emp]),.n (.st none 6 (.t 8) (.t 28))])
 (.fg [4,5,6,7,8,17] (.ops true [.m 29 (.t 7),.m 30 (.t 5),.m 31 (.t 7),.u 32 (.bin .add (.t 31) (.i 1)),.u 33 (.idx 6 (.t 30) (.t 32)),.u 34 (.ld none 6 true (.t 33)),.u 35 (.call f2 [(.t 34)]),.m 36 (.t 5),.u 37 (.idx 6 (.t 36) (.i 0)),.u 38 (.ld none 6 true (.t 37)),.u 39 (.call f2 [(.t 38)]),.u 40 (.call f3 [(.t 35),(.t 39)]),.u 41 (.fa 0 (.t 8)),.u 42 (.ld none 3 true (.t 41)),.u 43 (.fa 3 (.t 8)),.u 44 (.ld none 3 true (.t 43)),.u 45 (.build [.x 3 (.t 40),.x 3 (.t 42),.x 3 (.t 44)]),.u 46 (.ai 9 3 (.t 6) (.t 29)),.n (.st none 9 (.t 46) (.t 45))]))))))
 (.fg [4,5,6,17] (.ops false [.u 47 (.bin .add (.t 17) (.i 1)),.m 17 (.t 47)])))))))))))
 (.fg [4,6] (.seq (.ops false [.u 48 (.build [.z [(.lit (.bool false)),.emp,.emp]]),.u 9 (.alloc [(.lit (.bool false)),.emp,.emp]),.n (.st none 3 (.t 9) (.t 48))])
 (.fg [4,6,9] (.seq (.seq (.ops false [.m 49 (.i 0)])
 (.fg [4,6,9,49] (.block 2 (.loop (.seq (.ops false [.u 50 (.bin .lss (.t 49) (.i 3))])
 (.fg [4,6,9,49,50] (.seq (.cond (.t 50) .skip (.exit 2))
 (.fg [4,6,9,49] (.seq (.block 3 (.seq (.ops false [.m 51 (.t 49),.m 10 (.t 51)])
 (.fg [4,6,9,10,49] (.seq (.ops true [.m 52 (.t 10),.u 53 (.bin .add (.t 52) (.i 1)),.u 54 (.bin .rem (.t 53) (.i 3)),.u 55 (.ai 9 3 (.t 6) (.t 54)),.u 56 (.ld (some 6) 9 true (.t 55)),.m 57 (.t 10),.u 58 (.bin .add (.t 57) (.i 2)),.u 59 (.bin .rem (.t 58) (.i 3)),.u 60 (.ai 9 3 (.t 6) (.t 59)),.u 61 (.ld (some 6) 9 true (.t 60)),.u 11 (.alloc [(.lit (.bool false)),.emp,.emp,(.lit (.bool false)),.emp,.emp,(.lit (.bool false)),.emp,.emp]),.u 12 (.alloc [(.lit (.bool false)),.emp,.emp,(.lit (.bool false)),.emp,.emp,(.lit (.bool false)),.emp,.emp]),.n (.st (some 11) 9 (.t 11) (.t 56)),.n (.st (some 12) 9 (.t 12) (.t 61))])
 (.fg [4,6,9,10,11,12,49] (.seq (.ops true [.u 62 (.ai 3 3 (.t 11) (.i 1)),.u 63 (.ld none 3 true (.t 62)),.u 64 (.ai 3 3 (.t 12) (.i 2)),.u 65 (.ld none 3 true (.t 64)),.u 66 (.call f4 [(.t 63),(.t 65)]),.u 67 (.ai 3 3 (.t 11) (.i 2)),.u 68 (.ld none 3 true (.t 67)),.u 69 (.ai 3 3 (.t 12) (.i 1)),.u 70 (.ld none 3 true (.t 69)),.u 71 (.call f4 [(.t 68),(.t 70)]),.u 72 (.call f3 [(.t 66),(.t 71)]),.u 13 (.alloc [(.lit (.bool false)),.emp,.emp]),.n (.st none 3 (.t 13) (.t 72))])
 (.fg [4,6,9,10,13,49] (.ops true [.u 73 (.ld none 3 true (.t 9)),.m 74 (.t 10),.u 75 (.ai 9 3 (.t 6) (.t 74)),.u 76 (.ai 3 3 (.t 75) (.i 0)),.u 77 (.ld none 3 true (.t 76)),.u 78 (.ld none 3 true (.t 13)),.u 79 (.call f4 [(.t 77),(.t 78)]),.u 80 (.call f5 [(.t 73),(.t 79)]),.n (.st none 3 (.t 9) (.t 80))]))))))))
 (.fg [4,6,9,49] (.ops false [.u 81 (.bin .add (.t 49) (.i 1)),.m 49 (.t 81)])))))))))))
 (.fg [4,9] (.seq (.ops false [.u 82 (.ld none 3 true (.t 9)),.n (.st none 3 (.t 4) (.t 82))])
 .ret)))))))))))))
theorem Zan(hΓ:Holds P Γ){f fk:Nat}(hk:Γ fk=.dat true Vz)(hc:check P f=some (12,(Vd fk).strip,[.tmp 2])):Sound P f (.dat true jz):=by
 refine ka hc vaJ hΓ (λargs K hcl hfi hG=>?_);match args,hG with
 | [a],hG=>
  obtain⟨l,rfl,hw,hok,hK⟩:=hG;refine⟨by simp,?_⟩
  unfold fourC at hK;by_cases h1:plchk l=0
  .have g1:((plchk l:Nat):Int)=0:=by omega
   rw [if_neg (by omega)]at hK
   by_cases h2:l.length=4
   .have g2:((l.length:Nat):Int)=4:=by omega
    rw [if_pos h2]at hK;simp only [go_sem,Vd,hk,g1,g2];repeat first | refine Ja (by omega) ?_ | refine Ja (by assumption) ?_ | refine Ja rfl ?_ | refine Ja ⟨rfl,by omega⟩ ?_ | refine Ja ⟨rfl,by omega,by omega⟩ ?_ | intro _
    exact hK
   .have g2:(((l.length:Nat):Int)=4)=False:=eq_false (by omega)
    rw [if_neg h2]at hK;simp only [go_sem,Vd,hk,g1,g2,decide_false];repeat first | refine Ja (by omega) ?_ | refine Ja (by assumption) ?_ | refine Ja rfl ?_ | refine Ja ⟨rfl,by omega⟩ ?_ | refine Ja ⟨rfl,by omega,by omega⟩ ?_ | intro _
    exact hK
  .have g1:(((plchk l:Nat):Int)=0)=False:=eq_false (by omega)
   rw [if_pos h1]at hK;simp only [go_sem,Vd,hk,g1,decide_false];repeat first | refine Ja (by omega) ?_ | refine Ja (by assumption) ?_ | refine Ja rfl ?_ | refine Ja ⟨rfl,by omega⟩ ?_ | refine Ja ⟨rfl,by omega,by omega⟩ ?_ | intro _
   exact hK
set_option maxHeartbeats 4000000 in
theorem xaJ(hΓ:Holds P Γ){f fp fl fq fs fm fa:Nat}(hp:Γ fp=.dat false Ql)(hl:Γ fl=.dat false Qm)(hq:Γ fq=.dat false yD)(hb:Γ fs=.dat false zo)(hm:Γ fm=.dat false jk)(ha:Γ fa=.dat false Jk)(hc:check P f=some (83,(jh fp fl fq fs fm fa).strip,[.cell 4 3 true])):Sound P f (.dat false JD):=by
 refine ka hc waV hΓ (λargs K hcl hfi hG=>?_);match args,hG with
 | [a,b],hG=>
  obtain⟨l,rfl,hw,m,rfl,wm,hok,lm,h4,hK⟩:=hG;refine⟨by simp,?_⟩
  obtain⟨hlen,hval⟩:=uR h4;obtain⟨p,q,r,s,rfl⟩:=jaE hlen;have hok6:okPs 1000000 [p,q,r,s]:=Xi hok (by decide)
  have lm6:al m<=1000000:=Nat.le_trans lm (by decide)
  have l45:([p,q,r,s]:List Ps).length<=100000:=by show 4<=100000;decide
  have zm:=Nat.le_trans (vE wm) lm;have img:∀x:Ps,x∈[p,q,r,s]->zq (appQ (pv x) (av m))<=30000:=λx hx=>by
   obtain⟨y1,y2⟩:=VB (hok x hx).1 (hok x hx).2;have:=Vao (pv x) (av m);omega
  have zI0:=img p (by simp)
  have zI1:=img q (by simp)
  have zI2:=img r (by simp)
  have zI3:=img s (by simp)
  have eI:imgs [p,q,r,s] m=[appQ (pv p) (av m),appQ (pv q) (av m),appQ (pv r) (av m),appQ (pv s) (av m)]:=rfl;have eD:dtL [p,q,r,s] (av m)=detQ (appQ (pv p) (av m)) (appQ (pv q) (av m)) (appQ (pv r) (av m)) (appQ (pv s) (av m)):=rfl;rw [eD,vbu]at hK;obtain⟨I0,hI0⟩:∃x,appQ (pv p) (av m)=x:=⟨_,rfl⟩;obtain⟨I1,hI1⟩:∃x,appQ (pv q) (av m)=x:=⟨_,rfl⟩;obtain⟨I2,hI2⟩:∃x,appQ (pv r) (av m)=x:=⟨_,rfl⟩;obtain⟨I3,hI3⟩:∃x,appQ (pv s) (av m)=x:=⟨_,rfl⟩;rw [hI0]at zI0;rw [hI1]at zI1;rw [hI2]at zI2;rw [hI3]at zI3;rw [hI0,hI1,hI2,hI3]at eI hK;have hQ:qsA (imgs [p,q,r,s] m)=.one (.slice [aC (rcan I0.1,rcan I0.2),aC (rcan I1.1,rcan I1.2),aC (rcan I2.1,rcan I2.2),aC (rcan I3.1,rcan I3.2)]):=by rw [eI];rfl
  have hQ' : ((imgs [p,q,r,s] m).map acan).map aC=[aC (rcan I0.1,rcan I0.2),aC (rcan I1.1,rcan I1.2),aC (rcan I2.1,rcan I2.2),aC (rcan I3.1,rcan I3.2)]:=by rw [eI];rfl
  have w0:=vd I0;have w1:=vd I1;have w2:=vd I2;have w3:=vd I3;have l0:al (rcan I0.1,rcan I0.2)<=100000:=Nat.le_trans zI0 (by decide)
  have l1:al (rcan I1.1,rcan I1.2)<=100000:=Nat.le_trans zI1 (by decide)
  have l2:al (rcan I2.1,rcan I2.2)<=100000:=Nat.le_trans zI2 (by decide)
  have l3' : al (rcan I3.1,rcan I3.2)<=100000:=Nat.le_trans zI3 (by decide)
  have sqb:∀x:V2,zq x<=30000->rz (sqQ x)<=150000:=λx hx=>by have:=J2 x;omega
  have q0:=sqb I0 zI0;have q1:=sqb I1 zI1;have q2:=sqb I2 zI2;have q3:=sqb I3 zI3;obtain⟨s1,hs1⟩:∃x,sqQ I1-sqQ I0=x:=⟨_,rfl⟩;obtain⟨s2,hs2⟩:∃x,sqQ I2-sqQ I0=x:=⟨_,rfl⟩;obtain⟨s3,hs3⟩:∃x,sqQ I3-sqQ I0=x:=⟨_,rfl⟩;obtain⟨D1,hD1⟩:∃x,subQ I1 I0=x:=⟨_,rfl⟩;obtain⟨D2,hD2⟩:∃x,subQ I2 I0=x:=⟨_,rfl⟩;obtain⟨D3,hD3⟩:∃x,subQ I3 I0=x:=⟨_,rfl⟩;rw [hs1,hs2,hs3,hD1,hD2,hD3]at hK;have zs1:rz s1<=400000:=by rw [<-hs1];have:=Zo (sqQ I1) (sqQ I0);omega
  have zs2:rz s2<=400000:=by rw [<-hs2];have:=Zo (sqQ I2) (sqQ I0);omega
  have zs3:rz s3<=400000:=by rw [<-hs3];have:=Zo (sqQ I3) (sqQ I0);omega
  have zD1:zq D1<=70000:=by rw [<-hD1];have:=vl I1 I0;omega
  have zD2:zq D2<=70000:=by rw [<-hD2];have:=vl I2 I0;omega
  have zD3:zq D3<=70000:=by rw [<-hD3];have:=vl I3 I0;omega
  have wD1:=vd D1;have wD2:=vd D2;have wD3:=vd D3;have d11:=Nat.le_trans (kaH D1) zD1;have d12:=Nat.le_trans (VaF D1) zD1;have d21:=Nat.le_trans (kaH D2) zD2;have d22:=Nat.le_trans (VaF D2) zD2;have d31:=Nat.le_trans (kaH D3) zD3;have d32:=Nat.le_trans (VaF D3) zD3;have mb:∀{x y:Rat},rz x<=70000->rz y<=70000->rz (x*y)<=150000:=λ{x y} h1 h2=>by have:=ub x y;omega
  have m1:=mb d21 d32;have m2:=mb d22 d31;have m3:=mb d31 d12;have m4:=mb d32 d11;have m5:=mb d11 d22;have m6:=mb d12 d21;obtain⟨n1,hn1⟩:∃x,D2.1*D3.2-D2.2*D3.1=x:=⟨_,rfl⟩;obtain⟨n2,hn2⟩:∃x,D3.1*D1.2-D3.2*D1.1=x:=⟨_,rfl⟩;obtain⟨n3,hn3⟩:∃x,D1.1*D2.2-D1.2*D2.1=x:=⟨_,rfl⟩;rw [hn1,hn2,hn3]at hK;have zn1:rz n1<=400000:=by rw [<-hn1];have:=Zo (D2.1*D3.2) (D2.2*D3.1);omega
  have zn2:rz n2<=400000:=by rw [<-hn2];have:=Zo (D3.1*D1.2) (D3.2*D1.1);omega
  have zn3:rz n3<=400000:=by rw [<-hn3];have:=Zo (D1.1*D2.2) (D1.2*D2.1);omega
  have k1:rz (s1*n1)<=1000000:=by have:=ub s1 n1;omega
  have k2:rz (s2*n2)<=1000000:=by have:=ub s2 n2;omega
  have k3:rz (s3*n3)<=1000000:=by have:=ub s3 n3;omega
  obtain⟨t0,ht0⟩:∃x,s1*n1=x:=⟨_,rfl⟩;rw [ht0]at k1 hK;obtain⟨t1,ht1⟩:∃x,t0+s2*n2=x:=⟨_,rfl⟩;rw [ht1]at hK;obtain⟨t2,ht2⟩:∃x,t1+s3*n3=x:=⟨_,rfl⟩;rw [ht2]at hK;have zt1:rz t1<=3000000:=by rw [<-ht1];have:=qo t0 (s2*n2);omega
  have e3:([p,q,r,s]:List Ps)=[p,q,r,s]:=rfl;have hO:∀k,onPs k (.one (.slice [pC p,pC q,pC r,pC s]))=((∀x∈[p,q,r,s],WLP x)/\k [p,q,r,s]):=λk=>YL k [p,q,r,s];simp only [go_sem,jh,hp,hO,List.map_cons,List.map_nil,Wb,Zb,hQ'];refine⟨hw,wm,hok6,lm6,?_⟩;refine ZB 3 [4,5,6,17] [4,6] (by simp [go_sem]) ?_
  iterate 3
   simp only [go_sem,Int.reduceAdd,Int.reduceLT,Int.reduceMod,Int.reduceMul,Int.reduceLE,hl,hq,hb,hm,ha,Wb,Zb,Uj,Qb,Rat.zero_add,hs1,hs2,hs3,hD1,hD2,hD3,hn1,hn2,hn3,ht0,ht1,ht2];repeat first | refine Ja (by with_reducible assumption) ?_ | refine Ja (Nat.le_trans (by with_reducible assumption) (by decide)) ?_ | refine Ja (by decide) ?_
   refine Un [4,5,6,17] [4,6] (by simp [go_sem]) ?_
  simp only [go_sem,Int.reduceAdd,Int.reduceLT,Int.reduceMod,Int.reduceMul,Int.reduceLE,hl,hq,hb,hm,ha,Wb,Zb,Uj,Qb,Rat.zero_add,hs1,hs2,hs3,hD1,hD2,hD3,hn1,hn2,hn3,ht0,ht1,ht2];repeat first | refine Ja (by with_reducible assumption) ?_ | refine Ja (Nat.le_trans (by with_reducible assumption) (by decide)) ?_ | refine Ja (by decide) ?_
  refine ZB 3 [4,6,9,49] [4,6,9] (by simp [go_sem]) ?_
  iterate 3
   simp only [go_sem,Int.reduceAdd,Int.reduceLT,Int.reduceMod,Int.reduceMul,Int.reduceLE,hl,hq,hb,hm,ha,Wb,Zb,Uj,Qb,Rat.zero_add,hs1,hs2,hs3,hD1,hD2,hD3,hn1,hn2,hn3,ht0,ht1,ht2];repeat first | refine Ja (by with_reducible assumption) ?_ | refine Ja (Nat.le_trans (by with_reducible assumption) (by decide)) ?_ | refine Ja (by decide) ?_
   refine Un [4,6,9,49] [4,6,9] (by simp [go_sem]) ?_
  simp only [go_sem,Int.reduceAdd,Int.reduceLT,Int.reduceMod,Int.reduceMul,Int.reduceLE,hl,hq,hb,hm,ha,Wb,Zb,Uj,Qb,Rat.zero_add,hs1,hs2,hs3,hD1,hD2,hD3,hn1,hn2,hn3,ht0,ht1,ht2];repeat first | refine Ja (by with_reducible assumption) ?_ | refine Ja (Nat.le_trans (by with_reducible assumption) (by decide)) ?_ | refine Ja (by decide) ?_
  exact hK
end Go.Abs
end
section
namespace Go.Abs
open Go.Num
variable {P:Program} {Γ:Nat->Spec}
theorem WI(x y z:V2):crL [(rcan x.1,rcan x.2),(rcan y.1,rcan y.2),(rcan z.1,rcan z.2)]=crs x y z:=kbo [x,y,z]
theorem uaB{x y z:V2}(h:¬crs x y z=0):ciL [(rcan x.1,rcan x.2),(rcan y.1,rcan y.2),(rcan z.1,rcan z.2)]=ctr3 x y z:=by
 have e:ciL [(rcan x.1,rcan x.2),(rcan y.1,rcan y.2),(rcan z.1,rcan z.2)]=ciV [x,y,z]:=xbq [x,y,z];rw [e];exact if_neg h
theorem Ui(k:List Arc->Prop)(x y z:V2):onAs k (.one (.slice [[cb (rcan x.1),cn (rcan x.1),cd (rcan x.1),cb (rcan x.2),cn (rcan x.2),cd (rcan x.2)],[cb (rcan y.1),cn (rcan y.1),cd (rcan y.1),cb (rcan y.2),cn (rcan y.2),cd (rcan y.2)],[cb (rcan z.1),cn (rcan z.1),cd (rcan z.1),cb (rcan z.2),cn (rcan z.2),cd (rcan z.2)]]))=((∀t∈[(rcan x.1,rcan x.2),(rcan y.1,rcan y.2),(rcan z.1,rcan z.2)],WLA t)/\k [(rcan x.1,rcan x.2),(rcan y.1,rcan y.2),(rcan z.1,rcan z.2)]):=yI k [(rcan x.1,rcan x.2),(rcan y.1,rcan y.2),(rcan z.1,rcan z.2)]
theorem jj(x y z:V2):datO (some [[cb (rcan x.1),cn (rcan x.1),cd (rcan x.1),cb (rcan x.2),cn (rcan x.2),cd (rcan x.2)],[cb (rcan y.1),cn (rcan y.1),cd (rcan y.1),cb (rcan y.2),cn (rcan y.2),cd (rcan y.2)],[cb (rcan z.1),cn (rcan z.1),cd (rcan z.1),cb (rcan z.2),cn (rcan z.2),cd (rcan z.2)]])=.slice [[cb (rcan x.1),cn (rcan x.1),cd (rcan x.1),cb (rcan x.2),cn (rcan x.2),cd (rcan x.2)],[cb (rcan y.1),cn (rcan y.1),cd (rcan y.1),cb (rcan y.2),cn (rcan y.2),cd (rcan y.2)],[cb (rcan z.1),cn (rcan z.1),cd (rcan z.1),cb (rcan z.2),cn (rcan z.2),cd (rcan z.2)]]:=Yv _ (cleanA3 (rcan x.1,rcan x.2) (rcan y.1,rcan y.2) (rcan z.1,rcan z.2))
def uY(l:List AV)(K:AV->Prop):Prop:=
 match l with
 | [a,b]=>onPs (λl=>onA (λm=>okPs 1000 l/\al m<=10000/\fourC l=0/\avld m=true/\K (.tup [dqA (dyR l m),.one (.lit (.int .i64 (dyC l m:Nat)))])) b) a
 | _=>False
theorem Jbm(a b:AV)(K:AV->Prop):uY [a,b] K=(onPs (λl=>onA (λm=>okPs 1000 l/\al m<=10000/\fourC l=0/\avld m=true/\K (.tup [dqA (dyR l m),.one (.lit (.int .i64 (dyC l m:Nat)))])) b) a):=propext Iff.rfl
@[congr] theorem Jb0 {K:AV->Prop} {l l' : List AV} (h:l=l'):uY l K=uY l' K:=by subst h;rfl
attribute [go_sem,go_sem ↓] Jbm
theorem Qbb:Good uY:=Wa λas=>by
 unfold uY;split
 .exact(xu λ_=>(Uv λ_=>(.and λ_=>(.and λ_=>(.and λ_=>(.and λ_=>(.ret _)))))))
 .exact .of λK hk=>hk.elim
def zf(f0 f1 f2 f3 f4 f5:Nat):AC:=(.seq (.ops false [.u 3 (.box 6 (.t 1)),.u 4 (.alloc [(.lit (.bool false)),.emp,.emp,(.lit (.bool false)),.emp,.emp,(.lit (.bool false)),.emp,.emp,(.lit (.bool false)),.emp,.emp,(.lit (.bool false)),.emp,.emp]),.m 5 (.i 0)])
 (.fg [0,3,4] (.seq (.seq (.ops false [.m 13 (.t 0),.u 14 (.ld none 6 true (.t 3)),.u 15 (.call f0 [(.t 13),(.t 14)]),.u 16 (.call f1 [(.t 15)]),.u 17 (.un .not (.t 16))])
 (.fg [0,3,4,17] (.cond (.t 17) (.seq (.ops false [.u 18 (.build [.z [(.lit (.bool false)),.emp,.emp,(.lit (.bool false)),.emp,.emp,(.lit (.bool false)),.emp,.emp,(.lit (.bool false)),.emp,.emp,(.lit (.bool false)),.emp,.emp]]),.n (.st none 15 (.t 4) (.t 18)),.m 5 (.i 21)])
 .ret) .skip)))
 (.fg [0,3,4] (.seq (.ops false [.m 19 (.t 0),.u 20 (.ld none 6 true (.t 3)),.u 21 (.call f2 [(.t 19),(.t 20)]),.m 6 (.t 21)])
 (.fg [3,4,6] (.seq (.seq (.ops false [.m 7 (.i 3)])
 (.fg [3,4,6,7] (.block 0 (.loop (.seq (.seq (.ops false [.m 22 (.t 7),.u 23 (.bin .geq (.t 22) (.i 0))])
 (.fg [3,4,6,7,23] (.cond (.t 23) .skip (.exit 0))))
 (.fg [3,4,6,7] (.seq (.block 1 (.seq (.ops false [.m 8 (.c (.one .emp))])
 (.fg [3,4,6,7,8] (.seq (.seq (.ops false [.m 26 (.t 6),.u 27 (.len (.t 26)),.m 28 (.i 0)])
 (.fg [3,4,6,7,8,26,27,28] (.block 2 (.loop (.seq (.ops false [.u 29 (.bin .lss (.t 28) (.t 27))])
 (.fg [3,4,6,7,8,26,27,28,29] (.seq (.cond (.t 29) .skip (.exit 2))
 (.fg [3,4,6,7,8,26,27,28] (.seq (.block 3 (.seq (.ops false [.m 30 (.t 28),.u 31 (.idx 6 (.t 26) (.t 28)),.u 32 (.ld none 6 true (.t 31)),.u 10 (.alloc [(.lit (.bool false)),.emp,.emp,(.lit (.bool false)),.emp,.emp]),.m 9 (.t 30),.n (.st none 6 (.t 10) (.t 32))])
 (.fg [3,4,6,7,8,9,10,26,27,28] (.seq (.ops false [.m 33 (.t 9),.m 34 (.t 7),.u 35 (.bin .neq (.t 33) (.t 34))])
 (.fg [3,4,6,7,8,10,26,27,28,35] (.cond (.t 35) (.ops false [.m 36 (.t 8),.u 37 (.ld none 6 true (.t 10)),.u 38 (.row 6 [[.x 6 (.t 37)]]),.u 39 (.app 6 (.t 36) (.t 38)),.m 8 (.t 39)]) .skip))))))
 (.fg [3,4,6,7,8,26,27,28] (.ops false [.u 40 (.bin .add (.t 28) (.i 1)),.m 28 (.t 40)])))))))))))
 (.fg [3,4,6,7,8] (.seq (.ops false [.m 42 (.t 8),.u 43 (.call f3 [(.t 42)]),.m 41 (.t 43),.u 44 (.ext 0 (.t 41)),.u 45 (.ext 1 (.t 41)),.u 11 (.alloc [(.lit (.bool false)),.emp,.emp,(.lit (.bool false)),.emp,.emp]),.n (.st none 6 (.t 11) (.t 44)),.m 12 (.t 45)])
 (.fg [3,4,6,7,8,11,12] (.seq (.ops false [.m 46 (.t 12)])
 (.fg [3,4,6,7,8,11,46] (.cond (.t 46) (.seq (.ops true [.u 47 (.ld none 6 true (.t 11)),.u 48 (.ld none 6 true (.t 3)),.m 49 (.t 8),.u 50 (.idx 6 (.t 49) (.i 0)),.u 51 (.ld none 6 true (.t 50)),.u 52 (.ld none 6 true (.t 11)),.u 53 (.call f4 [(.t 51),(.t 52)]),.u 54 (.call f5 [(.t 53)]),.u 55 (.build [.x 6 (.t 47),.x 6 (.t 48),.x 3 (.t 54)]),.n (.st none 15 (.t 4) (.t 55)),.m 5 (.i 0)])
 .ret) .skip))))))))))
 (.fg [3,4,6,7] (.ops false [.m 24 (.t 7),.u 25 (.bin .sub (.t 24) (.i 1)),.m 7 (.t 25)])))))))))
 (.fg [4] (.seq (.ops false [.u 56 (.build [.z [(.lit (.bool false)),.emp,.emp,(.lit (.bool false)),.emp,.emp,(.lit (.bool false)),.emp,.emp,(.lit (.bool false)),.emp,.emp,(.lit (.bool false)),.emp,.emp]]),.n (.st none 15 (.t 4) (.t 56)),.m 5 (.i 8)])
 .ret)))))))))
set_option maxHeartbeats 8000000 in
theorem YaQ(hΓ:Holds P Γ){f fv fz fp fc fl fq:Nat}(hv:Γ fv=.dat false JD)(hz:Γ fz=.dat true Vr)(hp:Γ fp=.dat false Ql)(hcirc:Γ fc=.dat false xz)(hl:Γ fl=.dat false Qm)(hq:Γ fq=.dat false yD)(hc:check P f=some (57,(zf fv fz fp fc fl fq).strip,[.cell 4 15 true,.tmp 5])):Sound P f (.dat false uY):=by
 refine ka hc Qbb hΓ (λargs K hcl hfi hG=>?_);match args,hG with
 | [a,b],hG=>
  obtain⟨l,rfl,hw,m,rfl,wm,hok,lm,h4,hvm,hK⟩:=hG;refine⟨by simp,?_⟩
  have zm:=Nat.le_trans (vE wm) lm;obtain⟨M,hM⟩:∃M,av m=M:=⟨_,rfl⟩;have em:m=(rcan M.1,rcan M.2):=by rw [<-hM];exact(Vbl wm hvm).symm
  rw [hM]at zm;have rd:=kaT hok h4 wm.1 wm.2 (Nat.le_trans (Nat.le_max_left _ _) lm) (Nat.le_trans (Nat.le_max_right _ _) lm);have rd:rz (dtL l M)<=4294967296:=by rw [<-hM];exact rd
  have onc:onC l m=0:=Uba h4 hvm;subst em;have lm6:al (rcan M.1,rcan M.2)<=1000000:=Nat.le_trans lm (by decide)
  by_cases hd:dtL l M=0
  case neg=>
   have gd:=decide_eq_false hd;have ec:dyC l (rcan M.1,rcan M.2)=21:=by unfold dyC;rw [if_neg (by omega),hM,if_pos hd]
   have er:dyR l (rcan M.1,rcan M.2)=d0:=by unfold dyR;rw [ec,if_neg (by decide)]
   rw [er,ec]at hK;unfold dqA d0 at hK;simp only [yb]at hK;simp only [go_sem,zf,hv,hz,Wb,Zb,Uj,Qb,hM,hd,true_implies,not_true_eq_false,false_implies,not_false_eq_true,and_true,true_and];repeat first | refine Ja (by with_reducible assumption) ?_ | refine Ja (Nat.le_trans (by with_reducible assumption) (by decide)) ?_ | refine Ja (by decide) ?_
   exact hK
  have gd:=decide_eq_true hd;obtain⟨hlen,hval⟩:=uR h4;obtain⟨p,q,r,s,rfl⟩:=jaE hlen;have hok6:okPs 1000000 [p,q,r,s]:=Xi hok (by decide)
  have img:∀x:Ps,x∈[p,q,r,s]->zq (appQ (pv x) M)<=30000:=λx hx=>by
   obtain⟨y1,y2⟩:=VB (hok x hx).1 (hok x hx).2;have:=Vao (pv x) M;omega
  have zI0:=img p (by simp)
  have zI1:=img q (by simp)
  have zI2:=img r (by simp)
  have zI3:=img s (by simp)
  have eI:imgs [p,q,r,s] (rcan M.1,rcan M.2)=[appQ (pv p) (av (rcan M.1,rcan M.2)),appQ (pv q) (av (rcan M.1,rcan M.2)),appQ (pv r) (av (rcan M.1,rcan M.2)),appQ (pv s) (av (rcan M.1,rcan M.2))]:=rfl;have eN:dyN [p,q,r,s] (av (rcan M.1,rcan M.2))=dy3 (appQ (pv p) (av (rcan M.1,rcan M.2))) (appQ (pv q) (av (rcan M.1,rcan M.2))) (appQ (pv r) (av (rcan M.1,rcan M.2))) (appQ (pv s) (av (rcan M.1,rcan M.2))):=rfl;rw [hM]at eI eN;obtain⟨I0,hI0⟩:∃x,appQ (pv p) M=x:=⟨_,rfl⟩;obtain⟨I1,hI1⟩:∃x,appQ (pv q) M=x:=⟨_,rfl⟩;obtain⟨I2,hI2⟩:∃x,appQ (pv r) M=x:=⟨_,rfl⟩;obtain⟨I3,hI3⟩:∃x,appQ (pv s) M=x:=⟨_,rfl⟩;rw [hI0]at zI0;rw [hI1]at zI1;rw [hI2]at zI2;rw [hI3]at zI3;rw [hI0,hI1,hI2,hI3]at eI eN;have hQ' : ((imgs [p,q,r,s] (rcan M.1,rcan M.2)).map acan).map aC=[aC (rcan I0.1,rcan I0.2),aC (rcan I1.1,rcan I1.2),aC (rcan I2.1,rcan I2.2),aC (rcan I3.1,rcan I3.2)]:=by rw [eI];rfl
  have w0:=vd I0;have w1:=vd I1;have w2:=vd I2;have w3:=vd I3;have l0:al (rcan I0.1,rcan I0.2)<=100000:=Nat.le_trans zI0 (by decide)
  have l1:al (rcan I1.1,rcan I1.2)<=100000:=Nat.le_trans zI1 (by decide)
  have l2:al (rcan I2.1,rcan I2.2)<=100000:=Nat.le_trans zI2 (by decide)
  have l3' : al (rcan I3.1,rcan I3.2)<=100000:=Nat.le_trans zI3 (by decide)
  have tri:∀{x y z:V2},al (rcan x.1,rcan x.2)<=100000->al (rcan y.1,rcan y.2)<=100000->al (rcan z.1,rcan z.2)<=100000->okAs 1000000 [(rcan x.1,rcan x.2),(rcan y.1,rcan y.2),(rcan z.1,rcan z.2)]:=λ{x y z} h1 h2 h3 t ht=>by
   simp only [List.mem_cons,List.not_mem_nil,or_false]at ht;rcases ht with rfl | rfl | rfl
   .exact⟨vd _,Nat.le_trans h1 (by decide)⟩
   .exact⟨vd _,Nat.le_trans h2 (by decide)⟩
   .exact⟨vd _,Nat.le_trans h3 (by decide)⟩
  have o012:=tri l0 l1 l2;have o013:=tri l0 l1 l3';have o023:=tri l0 l2 l3';have o123:=tri l1 l2 l3';have v012:∀t∈[(rcan I0.1,rcan I0.2),(rcan I1.1,rcan I1.2),(rcan I2.1,rcan I2.2)],WLA t:=λt ht=>(o012 t ht).1;have v013:∀t∈[(rcan I0.1,rcan I0.2),(rcan I1.1,rcan I1.2),(rcan I3.1,rcan I3.2)],WLA t:=λt ht=>(o013 t ht).1;have v023:∀t∈[(rcan I0.1,rcan I0.2),(rcan I2.1,rcan I2.2),(rcan I3.1,rcan I3.2)],WLA t:=λt ht=>(o023 t ht).1;have v123:∀t∈[(rcan I1.1,rcan I1.2),(rcan I2.1,rcan I2.2),(rcan I3.1,rcan I3.2)],WLA t:=λt ht=>(o123 t ht).1;have fI0:∀e:List C,e∈[[cb (rcan I0.1),cn (rcan I0.1),cd (rcan I0.1),cb (rcan I0.2),cn (rcan I0.2),cd (rcan I0.2)]]->e.length=6:=λe he=>by rw [List.mem_singleton.1 he];rfl
  have fI1:∀e:List C,e∈[[cb (rcan I1.1),cn (rcan I1.1),cd (rcan I1.1),cb (rcan I1.2),cn (rcan I1.2),cd (rcan I1.2)]]->e.length=6:=λe he=>by rw [List.mem_singleton.1 he];rfl
  have fI2:∀e:List C,e∈[[cb (rcan I2.1),cn (rcan I2.1),cd (rcan I2.1),cb (rcan I2.2),cn (rcan I2.2),cd (rcan I2.2)]]->e.length=6:=λe he=>by rw [List.mem_singleton.1 he];rfl
  have fI3:∀e:List C,e∈[[cb (rcan I3.1),cn (rcan I3.1),cd (rcan I3.1),cb (rcan I3.2),cn (rcan I3.2),cd (rcan I3.2)]]->e.length=6:=λe he=>by rw [List.mem_singleton.1 he];rfl
  have hK2:∀x y z,dy3 I0 I1 I2 I3=some (x,y,z)->K (.tup [.agg [cb (rcan (ctr3 x y z).1),cn (rcan (ctr3 x y z).1),cd (rcan (ctr3 x y z).1),cb (rcan (ctr3 x y z).2),cn (rcan (ctr3 x y z).2),cd (rcan (ctr3 x y z).2),cb (rcan M.1),cn (rcan M.1),cd (rcan M.1),cb (rcan M.2),cn (rcan M.2),cd (rcan M.2),cb (rcan (sqQ (subQ x (ctr3 x y z)))),cn (rcan (sqQ (subQ x (ctr3 x y z)))),cd (rcan (sqQ (subQ x (ctr3 x y z))))],.one (.lit (.int .i64 0))]):=λx y z h=>by
   have ec:dyC [p,q,r,s] (rcan M.1,rcan M.2)=0:=by unfold dyC;rw [if_neg (by omega),hM,if_neg (by simp [hd]),eN,h]
   have er:dyR [p,q,r,s] (rcan M.1,rcan M.2)=(ctr3 x y z,M,sqQ (subQ x (ctr3 x y z))):=by unfold dyR;rw [ec,if_pos rfl,hM,eN,h]
   rw [er,ec]at hK;exact hK
  have hK3:dy3 I0 I1 I2 I3=none->K (.tup [.agg [.lit (.bool false),.slice [],.slice [],.lit (.bool false),.slice [],.slice [],.lit (.bool false),.slice [],.slice [],.lit (.bool false),.slice [],.slice [],.lit (.bool false),.slice [],.slice []],.one (.lit (.int .i64 8))]):=λh=>by
   have ec:dyC [p,q,r,s] (rcan M.1,rcan M.2)=8:=by unfold dyC;rw [if_neg (by omega),hM,if_neg (by simp [hd]),eN,h]
   have er:dyR [p,q,r,s] (rcan M.1,rcan M.2)=d0:=by unfold dyR;rw [ec,if_neg (by decide)]
   rw [er,ec]at hK;unfold dqA d0 at hK;simp only [yb]at hK;exact hK
  have i4:((4:Nat):Int)=4:=rfl;have hO:∀k,onPs k (.one (.slice [pC p,pC q,pC r,pC s]))=((∀x∈[p,q,r,s],WLP x)/\k [p,q,r,s]):=λk=>YL k [p,q,r,s];simp only [go_sem,zf,hv,hz,hp,hO,List.map_cons,List.map_nil,Wb,Zb,hQ',Uj,Qb,hM,hd,true_implies,not_true_eq_false,false_implies,not_false_eq_true,and_true,true_and];repeat first | refine Ja (by with_reducible assumption) ?_ | refine Ja (Nat.le_trans (by with_reducible assumption) (by decide)) ?_ | refine Ja (by decide) ?_
  refine ZB 4 [3,4,6,7] [3,4] (by simp [go_sem]) ?_
  simp only [go_sem,Int.reduceAdd,Int.reduceSub,Int.reduceNeg,Int.reduceLT,Int.reduceLE,Int.reduceEq,Int.reduceNe,true_implies,not_true_eq_false,false_implies,not_false_eq_true,and_true,true_and,ge_iff_le,decide_true,decide_false,Bool.not_true,Bool.not_false,i4,hcirc,hl,hq,Wb,Zb,Uj,Qb,Ui,jj];repeat first | refine Ja (by with_reducible assumption) ?_ | refine Ja (Nat.le_trans (by with_reducible assumption) (by decide)) ?_ | refine Ja (by decide) ?_
  refine ZB 4 [3,4,6,7,8,26,27,28] [3,4] (by simp [go_sem]) ?_
  iterate 4
   simp only [go_sem,Int.reduceAdd,Int.reduceSub,Int.reduceNeg,Int.reduceLT,Int.reduceLE,Int.reduceEq,Int.reduceNe,true_implies,not_true_eq_false,false_implies,not_false_eq_true,and_true,true_and,ge_iff_le,decide_true,decide_false,Bool.not_true,Bool.not_false,i4,hcirc,hl,hq,Wb,Zb,Uj,Qb,Ui,jj,fI0,fI1,fI2,fI3];repeat first | refine Ja (by with_reducible assumption) ?_ | refine Ja (Nat.le_trans (by with_reducible assumption) (by decide)) ?_ | refine Ja (by decide) ?_
   refine Un [3,4,6,7,8,26,27,28] [3,4,39] (by simp [go_sem]) ?_
  by_cases h012:crs I0 I1 I2=0
  case neg=>
   have cz:(crL [(rcan I0.1,rcan I0.2),(rcan I1.1,rcan I1.2),(rcan I2.1,rcan I2.2)]≠0)=True:=eq_true (by rw [WI];exact h012)
   have cv:ciL [(rcan I0.1,rcan I0.2),(rcan I1.1,rcan I1.2),(rcan I2.1,rcan I2.2)]=ctr3 I0 I1 I2:=uaB h012;have ed:dy3 I0 I1 I2 I3=some (I0,I1,I2):=by unfold dy3;rw [ if_pos h012]
   obtain⟨R,hR⟩:∃R,ctr3 I0 I1 I2=R:=⟨_,rfl⟩;have zR:=vA zI0 zI1 zI2;rw [hR]at zR cv;have wR:=vd R;have lR:al (rcan R.1,rcan R.2)<=100000000:=Nat.le_trans zR (by decide)
   have zQ:=vl I0 R;have wQ:=vd (subQ I0 R);have lQ:al (rcan (subQ I0 R).1,rcan (subQ I0 R).2)<=100000000:=Nat.le_trans zQ (by omega)
   have hK:=hK2 I0 I1 I2 ed;rw [hR]at hK;simp only [go_sem,Int.reduceAdd,Int.reduceSub,Int.reduceNeg,Int.reduceLT,Int.reduceLE,Int.reduceEq,Int.reduceNe,true_implies,not_true_eq_false,false_implies,not_false_eq_true,and_true,true_and,ge_iff_le,decide_true,decide_false,Bool.not_true,Bool.not_false,i4,hcirc,hl,hq,Wb,Zb,Uj,Qb,Ui,jj,cz,cv];repeat first | refine Ja (by with_reducible assumption) ?_ | refine Ja (Nat.le_trans (by with_reducible assumption) (by decide)) ?_ | refine Ja (by decide) ?_
   exact hK
  have cz3:(crL [(rcan I0.1,rcan I0.2),(rcan I1.1,rcan I1.2),(rcan I2.1,rcan I2.2)]≠0)=False:=eq_false (by rw [WI];simp [h012])
  simp only [go_sem,Int.reduceAdd,Int.reduceSub,Int.reduceNeg,Int.reduceLT,Int.reduceLE,Int.reduceEq,Int.reduceNe,true_implies,not_true_eq_false,false_implies,not_false_eq_true,and_true,true_and,ge_iff_le,decide_true,decide_false,Bool.not_true,Bool.not_false,i4,hcirc,hl,hq,Wb,Zb,Uj,Qb,Ui,jj,cz3];repeat first | refine Ja (by with_reducible assumption) ?_ | refine Ja (Nat.le_trans (by with_reducible assumption) (by decide)) ?_ | refine Ja (by decide) ?_
  refine Un [3,4,6,7] [3,4] (by simp [go_sem]) ?_
  simp only [go_sem,Int.reduceAdd,Int.reduceSub,Int.reduceNeg,Int.reduceLT,Int.reduceLE,Int.reduceEq,Int.reduceNe,true_implies,not_true_eq_false,false_implies,not_false_eq_true,and_true,true_and,ge_iff_le,decide_true,decide_false,Bool.not_true,Bool.not_false,i4,hcirc,hl,hq,Wb,Zb,Uj,Qb,Ui,jj];repeat first | refine Ja (by with_reducible assumption) ?_ | refine Ja (Nat.le_trans (by with_reducible assumption) (by decide)) ?_ | refine Ja (by decide) ?_
  refine ZB 4 [3,4,6,7,8,26,27,28] [3,4] (by simp [go_sem]) ?_
  iterate 4
   simp only [go_sem,Int.reduceAdd,Int.reduceSub,Int.reduceNeg,Int.reduceLT,Int.reduceLE,Int.reduceEq,Int.reduceNe,true_implies,not_true_eq_false,false_implies,not_false_eq_true,and_true,true_and,ge_iff_le,decide_true,decide_false,Bool.not_true,Bool.not_false,i4,hcirc,hl,hq,Wb,Zb,Uj,Qb,Ui,jj,fI0,fI1,fI2,fI3];repeat first | refine Ja (by with_reducible assumption) ?_ | refine Ja (Nat.le_trans (by with_reducible assumption) (by decide)) ?_ | refine Ja (by decide) ?_
   refine Un [3,4,6,7,8,26,27,28] [3,4,39] (by simp [go_sem]) ?_
  by_cases h013:crs I0 I1 I3=0
  case neg=>
   have cz:(crL [(rcan I0.1,rcan I0.2),(rcan I1.1,rcan I1.2),(rcan I3.1,rcan I3.2)]≠0)=True:=eq_true (by rw [WI];exact h013)
   have cv:ciL [(rcan I0.1,rcan I0.2),(rcan I1.1,rcan I1.2),(rcan I3.1,rcan I3.2)]=ctr3 I0 I1 I3:=uaB h013;have ed:dy3 I0 I1 I2 I3=some (I0,I1,I3):=by unfold dy3;rw [if_neg (by simp [h012]),if_pos h013]
   obtain⟨R,hR⟩:∃R,ctr3 I0 I1 I3=R:=⟨_,rfl⟩;have zR:=vA zI0 zI1 zI3;rw [hR]at zR cv;have wR:=vd R;have lR:al (rcan R.1,rcan R.2)<=100000000:=Nat.le_trans zR (by decide)
   have zQ:=vl I0 R;have wQ:=vd (subQ I0 R);have lQ:al (rcan (subQ I0 R).1,rcan (subQ I0 R).2)<=100000000:=Nat.le_trans zQ (by omega)
   have hK:=hK2 I0 I1 I3 ed;rw [hR]at hK;simp only [go_sem,Int.reduceAdd,Int.reduceSub,Int.reduceNeg,Int.reduceLT,Int.reduceLE,Int.reduceEq,Int.reduceNe,true_implies,not_true_eq_false,false_implies,not_false_eq_true,and_true,true_and,ge_iff_le,decide_true,decide_false,Bool.not_true,Bool.not_false,i4,hcirc,hl,hq,Wb,Zb,Uj,Qb,Ui,jj,cz,cv];repeat first | refine Ja (by with_reducible assumption) ?_ | refine Ja (Nat.le_trans (by with_reducible assumption) (by decide)) ?_ | refine Ja (by decide) ?_
   exact hK
  have cz2:(crL [(rcan I0.1,rcan I0.2),(rcan I1.1,rcan I1.2),(rcan I3.1,rcan I3.2)]≠0)=False:=eq_false (by rw [WI];simp [h013])
  simp only [go_sem,Int.reduceAdd,Int.reduceSub,Int.reduceNeg,Int.reduceLT,Int.reduceLE,Int.reduceEq,Int.reduceNe,true_implies,not_true_eq_false,false_implies,not_false_eq_true,and_true,true_and,ge_iff_le,decide_true,decide_false,Bool.not_true,Bool.not_false,i4,hcirc,hl,hq,Wb,Zb,Uj,Qb,Ui,jj,cz2];repeat first | refine Ja (by with_reducible assumption) ?_ | refine Ja (Nat.le_trans (by with_reducible assumption) (by decide)) ?_ | refine Ja (by decide) ?_
  refine Un [3,4,6,7] [3,4] (by simp [go_sem]) ?_
  simp only [go_sem,Int.reduceAdd,Int.reduceSub,Int.reduceNeg,Int.reduceLT,Int.reduceLE,Int.reduceEq,Int.reduceNe,true_implies,not_true_eq_false,false_implies,not_false_eq_true,and_true,true_and,ge_iff_le,decide_true,decide_false,Bool.not_true,Bool.not_false,i4,hcirc,hl,hq,Wb,Zb,Uj,Qb,Ui,jj];repeat first | refine Ja (by with_reducible assumption) ?_ | refine Ja (Nat.le_trans (by with_reducible assumption) (by decide)) ?_ | refine Ja (by decide) ?_
  refine ZB 4 [3,4,6,7,8,26,27,28] [3,4] (by simp [go_sem]) ?_
  iterate 4
   simp only [go_sem,Int.reduceAdd,Int.reduceSub,Int.reduceNeg,Int.reduceLT,Int.reduceLE,Int.reduceEq,Int.reduceNe,true_implies,not_true_eq_false,false_implies,not_false_eq_true,and_true,true_and,ge_iff_le,decide_true,decide_false,Bool.not_true,Bool.not_false,i4,hcirc,hl,hq,Wb,Zb,Uj,Qb,Ui,jj,fI0,fI1,fI2,fI3];repeat first | refine Ja (by with_reducible assumption) ?_ | refine Ja (Nat.le_trans (by with_reducible assumption) (by decide)) ?_ | refine Ja (by decide) ?_
   refine Un [3,4,6,7,8,26,27,28] [3,4,39] (by simp [go_sem]) ?_
  by_cases h023:crs I0 I2 I3=0
  case neg=>
   have cz:(crL [(rcan I0.1,rcan I0.2),(rcan I2.1,rcan I2.2),(rcan I3.1,rcan I3.2)]≠0)=True:=eq_true (by rw [WI];exact h023)
   have cv:ciL [(rcan I0.1,rcan I0.2),(rcan I2.1,rcan I2.2),(rcan I3.1,rcan I3.2)]=ctr3 I0 I2 I3:=uaB h023;have ed:dy3 I0 I1 I2 I3=some (I0,I2,I3):=by unfold dy3;rw [if_neg (by simp [h012]),if_neg (by simp [h013]),if_pos h023]
   obtain⟨R,hR⟩:∃R,ctr3 I0 I2 I3=R:=⟨_,rfl⟩;have zR:=vA zI0 zI2 zI3;rw [hR]at zR cv;have wR:=vd R;have lR:al (rcan R.1,rcan R.2)<=100000000:=Nat.le_trans zR (by decide)
   have zQ:=vl I0 R;have wQ:=vd (subQ I0 R);have lQ:al (rcan (subQ I0 R).1,rcan (subQ I0 R).2)<=100000000:=Nat.le_trans zQ (by omega)
   have hK:=hK2 I0 I2 I3 ed;rw [hR]at hK;simp only [go_sem,Int.reduceAdd,Int.reduceSub,Int.reduceNeg,Int.reduceLT,Int.reduceLE,Int.reduceEq,Int.reduceNe,true_implies,not_true_eq_false,false_implies,not_false_eq_true,and_true,true_and,ge_iff_le,decide_true,decide_false,Bool.not_true,Bool.not_false,i4,hcirc,hl,hq,Wb,Zb,Uj,Qb,Ui,jj,cz,cv];repeat first | refine Ja (by with_reducible assumption) ?_ | refine Ja (Nat.le_trans (by with_reducible assumption) (by decide)) ?_ | refine Ja (by decide) ?_
   exact hK
  have cz1:(crL [(rcan I0.1,rcan I0.2),(rcan I2.1,rcan I2.2),(rcan I3.1,rcan I3.2)]≠0)=False:=eq_false (by rw [WI];simp [h023])
  simp only [go_sem,Int.reduceAdd,Int.reduceSub,Int.reduceNeg,Int.reduceLT,Int.reduceLE,Int.reduceEq,Int.reduceNe,true_implies,not_true_eq_false,false_implies,not_false_eq_true,and_true,true_and,ge_iff_le,decide_true,decide_false,Bool.not_true,Bool.not_false,i4,hcirc,hl,hq,Wb,Zb,Uj,Qb,Ui,jj,cz1];repeat first | refine Ja (by with_reducible assumption) ?_ | refine Ja (Nat.le_trans (by with_reducible assumption) (by decide)) ?_ | refine Ja (by decide) ?_
  refine Un [3,4,6,7] [3,4] (by simp [go_sem]) ?_
  simp only [go_sem,Int.reduceAdd,Int.reduceSub,Int.reduceNeg,Int.reduceLT,Int.reduceLE,Int.reduceEq,Int.reduceNe,true_implies,not_true_eq_false,false_implies,not_false_eq_true,and_true,true_and,ge_iff_le,decide_true,decide_false,Bool.not_true,Bool.not_false,i4,hcirc,hl,hq,Wb,Zb,Uj,Qb,Ui,jj];repeat first | refine Ja (by with_reducible assumption) ?_ | refine Ja (Nat.le_trans (by with_reducible assumption) (by decide)) ?_ | refine Ja (by decide) ?_
  refine ZB 4 [3,4,6,7,8,26,27,28] [3,4] (by simp [go_sem]) ?_
  iterate 4
   simp only [go_sem,Int.reduceAdd,Int.reduceSub,Int.reduceNeg,Int.reduceLT,Int.reduceLE,Int.reduceEq,Int.reduceNe,true_implies,not_true_eq_false,false_implies,not_false_eq_true,and_true,true_and,ge_iff_le,decide_true,decide_false,Bool.not_true,Bool.not_false,i4,hcirc,hl,hq,Wb,Zb,Uj,Qb,Ui,jj,fI0,fI1,fI2,fI3];repeat first | refine Ja (by with_reducible assumption) ?_ | refine Ja (Nat.le_trans (by with_reducible assumption) (by decide)) ?_ | refine Ja (by decide) ?_
   refine Un [3,4,6,7,8,26,27,28] [3,4,39] (by simp [go_sem]) ?_
  by_cases h123:crs I1 I2 I3=0
  case neg=>
   have cz:(crL [(rcan I1.1,rcan I1.2),(rcan I2.1,rcan I2.2),(rcan I3.1,rcan I3.2)]≠0)=True:=eq_true (by rw [WI];exact h123)
   have cv:ciL [(rcan I1.1,rcan I1.2),(rcan I2.1,rcan I2.2),(rcan I3.1,rcan I3.2)]=ctr3 I1 I2 I3:=uaB h123;have ed:dy3 I0 I1 I2 I3=some (I1,I2,I3):=by unfold dy3;rw [if_neg (by simp [h012]),if_neg (by simp [h013]),if_neg (by simp [h023]),if_pos h123]
   obtain⟨R,hR⟩:∃R,ctr3 I1 I2 I3=R:=⟨_,rfl⟩;have zR:=vA zI1 zI2 zI3;rw [hR]at zR cv;have wR:=vd R;have lR:al (rcan R.1,rcan R.2)<=100000000:=Nat.le_trans zR (by decide)
   have zQ:=vl I1 R;have wQ:=vd (subQ I1 R);have lQ:al (rcan (subQ I1 R).1,rcan (subQ I1 R).2)<=100000000:=Nat.le_trans zQ (by omega)
   have hK:=hK2 I1 I2 I3 ed;rw [hR]at hK;simp only [go_sem,Int.reduceAdd,Int.reduceSub,Int.reduceNeg,Int.reduceLT,Int.reduceLE,Int.reduceEq,Int.reduceNe,true_implies,not_true_eq_false,false_implies,not_false_eq_true,and_true,true_and,ge_iff_le,decide_true,decide_false,Bool.not_true,Bool.not_false,i4,hcirc,hl,hq,Wb,Zb,Uj,Qb,Ui,jj,cz,cv];repeat first | refine Ja (by with_reducible assumption) ?_ | refine Ja (Nat.le_trans (by with_reducible assumption) (by decide)) ?_ | refine Ja (by decide) ?_
   exact hK
  have cz0:(crL [(rcan I1.1,rcan I1.2),(rcan I2.1,rcan I2.2),(rcan I3.1,rcan I3.2)]≠0)=False:=eq_false (by rw [WI];simp [h123])
  simp only [go_sem,Int.reduceAdd,Int.reduceSub,Int.reduceNeg,Int.reduceLT,Int.reduceLE,Int.reduceEq,Int.reduceNe,true_implies,not_true_eq_false,false_implies,not_false_eq_true,and_true,true_and,ge_iff_le,decide_true,decide_false,Bool.not_true,Bool.not_false,i4,hcirc,hl,hq,Wb,Zb,Uj,Qb,Ui,jj,cz0];repeat first | refine Ja (by with_reducible assumption) ?_ | refine Ja (Nat.le_trans (by with_reducible assumption) (by decide)) ?_ | refine Ja (by decide) ?_
  refine Un [3,4,6,7] [3,4] (by simp [go_sem]) ?_
  simp only [go_sem,Int.reduceAdd,Int.reduceSub,Int.reduceNeg,Int.reduceLT,Int.reduceLE,Int.reduceEq,Int.reduceNe,true_implies,not_true_eq_false,false_implies,not_false_eq_true,and_true,true_and,ge_iff_le,decide_true,decide_false,Bool.not_true,Bool.not_false,i4,hcirc,hl,hq,Wb,Zb,Uj,Qb,Ui,jj];repeat first | refine Ja (by with_reducible assumption) ?_ | refine Ja (Nat.le_trans (by with_reducible assumption) (by decide)) ?_ | refine Ja (by decide) ?_
  refine hK3 ?_;unfold dy3;rw [if_neg (by simp [h012]),if_neg (by simp [h013]),if_neg (by simp [h023]),if_neg (by simp [h123])]
end Go.Abs
end
section
namespace Go.Num
open Go.Abs
theorem kbE(D:DyQ):WLD ((rcan D.1.1,rcan D.1.2),(rcan D.2.1.1,rcan D.2.1.2),rcan D.2.2):=⟨⟨Ze _,Ze _⟩,⟨Ze _,Ze _⟩,Ze _⟩
theorem Jbn:dl ((rcan (0:Rat),rcan (0:Rat)),(rcan (0:Rat),rcan (0:Rat)),rcan (0:Rat))<=4294967296:=by
 have e:dl ((rcan 0,rcan 0),(rcan 0,rcan 0),rcan 0)=max (max (rz 0) (rz 0)) (max (max (rz 0) (rz 0)) (rz 0)):=rfl;rw [e,rz_0];decide
theorem XbH{l:List Ps}{m:Arc}(hl:okPs 2 l)(hw:WLA m)(hm:al m<=2)(h:onC l m=0):dl ((rcan (dyR l m).1.1,rcan (dyR l m).1.2),(rcan (dyR l m).2.1.1,rcan (dyR l m).2.1.2),rcan (dyR l m).2.2)<=4294967296:=by
 unfold dyR;split
 .obtain⟨p,q,r,s,rfl⟩:=jaE (uR (qaT h).1).1;split
  .exact Jbn
  .rename_i x y z hn;obtain⟨b1,b2⟩:=wbB (t:=(p,q,r,s)) hl hw hm hn;have zm:=vE hw;exact dl_3 (Nat.le_trans b1 (by decide)) (Nat.le_trans (Nat.le_trans zm hm) (by decide)) (Nat.le_trans b2 (by decide))
 .exact Jbn
end Go.Num
namespace Go.Abs
open Go.Num
variable {P:Program} {Γ:Nat->Spec}
def Xm(l:List AV)(K:AV->Prop):Prop:=
 match l with
 | [a,b]=>onPs (λl=>onA (λm=>okPs 1048576 l/\al m<=1048576/\K (.one (.lit (.bool true)))) b) a
 | _=>False
theorem WV(a b:AV)(K:AV->Prop):Xm [a,b] K=(onPs (λl=>onA (λm=>okPs 1048576 l/\al m<=1048576/\K (.one (.lit (.bool true)))) b) a):=propext Iff.rfl
@[congr] theorem Wbw {K:AV->Prop} {l l' : List AV} (h:l=l'):Xm l K=Xm l' K:=by subst h;rfl
attribute [go_sem,go_sem ↓] WV
theorem Xaa:Good Xm:=Wa λas=>by
 unfold Xm;split
 .exact(xu λ_=>(Uv λ_=>(.and λ_=>(.and λ_=>(.ret _)))))
 .exact .of λK hk=>hk.elim
def jb(f0 f1 f2 f3 f4 f5 f6 f7 f8 f9 f10 f11:Nat):AC:=(.seq (.ops false [.u 3 (.box 6 (.t 1)),.m 4 .fa])
 (.fg [0,3] (.seq (.seq (.ops false [.u 11 (.call f0 []),.u 12 (.un .not (.t 11)),.m 13 (.t 12),.w 14 13 false (.mv (.t 0)),.w 15 13 false (.call f1 [(.t 14)]),.w 16 13 false (.un .not (.t 15)),.u 17 (.pick (.t 13) .tr (.t 16)),.m 18 (.t 17),.w 19 18 false (.ld none 6 true (.t 3)),.w 20 18 false (.row 6 [[.x 6 (.t 19)]]),.w 21 18 false (.call f2 [(.t 20)]),.w 22 18 false (.un .not (.t 21)),.u 23 (.pick (.t 18) .tr (.t 22))])
 (.fg [0,3,23] (.cond (.t 23) (.seq (.ops false [.u 24 (.call f0 []),.m 4 (.t 24)])
 .ret) .skip)))
 (.fg [0,3] (.seq (.ops false [.m 26 (.t 0),.u 27 (.ld none 6 true (.t 3)),.u 28 (.call f3 [(.t 26),(.t 27)]),.m 25 (.t 28),.u 29 (.ext 0 (.t 25)),.u 30 (.ext 1 (.t 25)),.m 5 (.t 29),.m 6 (.t 30)])
 (.fg [0,3,5,6] (.seq (.ops false [.m 32 (.t 0),.u 33 (.ld none 6 true (.t 3)),.u 34 (.call f4 [(.t 32),(.t 33)]),.m 31 (.t 34),.u 35 (.ext 0 (.t 31)),.u 36 (.ext 1 (.t 31)),.u 7 (.alloc [(.lit (.bool false)),.emp,.emp,(.lit (.bool false)),.emp,.emp,(.lit (.bool false)),.emp,.emp,(.lit (.bool false)),.emp,.emp,(.lit (.bool false)),.emp,.emp]),.n (.st none 15 (.t 7) (.t 35)),.m 8 (.t 36)])
 (.fg [0,3,5,6,7,8] (.seq (.ops false [.m 37 (.t 0),.u 38 (.call f5 [(.t 37)]),.m 9 (.t 38)])
 (.fg [0,3,5,6,7,8,9] (.seq (.seq (.ops false [.m 39 (.t 9),.u 40 (.bin .eql (.t 39) (.i 0)),.m 41 (.t 40),.w 42 41 true (.ld none 6 true (.t 3)),.w 43 41 true (.call f6 [(.t 42)]),.w 44 41 true (.un .not (.t 43)),.u 45 (.pick (.t 41) (.t 44) .fa)])
 (.fg [0,3,5,6,7,8,9,45] (.cond (.t 45) (.ops false [.m 9 (.i 2)]) .skip)))
 (.fg [0,3,5,6,7,8,9] (.seq (.seq (.ops false [.m 46 (.t 9),.u 47 (.bin .neq (.t 46) (.i 0))])
 (.fg [0,3,5,6,7,8,9,47] (.cond (.t 47) (.seq (.ops false [.m 48 (.t 5),.u 49 (.un .not (.t 48)),.m 50 (.t 49),.w 51 50 true (.mv (.t 6)),.w 52 50 true (.call f7 [(.t 51)]),.w 53 50 true (.mv (.t 9)),.w 54 50 true (.bin .eql (.t 52) (.t 53)),.u 55 (.pick (.t 50) (.t 54) .fa),.m 56 (.t 55),.w 57 56 true (.mv (.t 8)),.w 58 56 true (.call f7 [(.t 57)]),.w 59 56 true (.mv (.t 9)),.w 60 56 true (.bin .eql (.t 58) (.t 59)),.u 61 (.pick (.t 56) (.t 60) .fa),.m 62 (.t 61),.w 63 62 true (.ld none 15 true (.t 7)),.w 64 62 true (.build [.z [(.lit (.bool false)),.emp,.emp,(.lit (.bool false)),.emp,.emp,(.lit (.bool false)),.emp,.emp,(.lit (.bool false)),.emp,.emp,(.lit (.bool false)),.emp,.emp]]),.w 65 62 true (.call f8 [(.t 63),(.t 64)]),.u 66 (.pick (.t 62) (.t 65) .fa),.m 4 (.t 66)])
 .ret) .skip)))
 (.fg [0,3,5,6,7,8] (.seq (.ops false [.m 68 (.t 0),.u 69 (.ld none 6 true (.t 3)),.u 70 (.call f9 [(.t 68),(.t 69)]),.m 67 (.t 70),.u 71 (.ext 0 (.t 67)),.u 72 (.ext 1 (.t 67)),.u 10 (.alloc [(.lit (.bool false)),.emp,.emp,(.lit (.bool false)),.emp,.emp,(.lit (.bool false)),.emp,.emp,(.lit (.bool false)),.emp,.emp,(.lit (.bool false)),.emp,.emp]),.n (.st none 15 (.t 10) (.t 71)),.m 9 (.t 72)])
 (.fg [0,3,5,6,7,8,9,10] (.seq (.ops false [.m 73 (.t 6),.u 74 (.binn .eql (.t 73) (.c (.one (.lit .nilIface)))),.m 75 (.t 74),.w 76 75 true (.mv (.t 5)),.w 77 75 true (.mv (.t 0)),.w 78 75 true (.ld none 6 true (.t 3)),.w 79 75 true (.call f10 [(.t 77),(.t 78)]),.w 80 75 true (.call f11 [(.t 79)]),.w 81 75 true (.binb .eql (.t 76) (.t 80)),.u 82 (.pick (.t 75) (.t 81) .fa),.m 83 (.t 82),.w 84 83 true (.mv (.t 8)),.w 85 83 true (.call f7 [(.t 84)]),.w 86 83 true (.mv (.t 9)),.w 87 83 true (.bin .eql (.t 85) (.t 86)),.u 88 (.pick (.t 83) (.t 87) .fa),.m 89 (.t 88),.w 90 89 true (.ld none 15 true (.t 7)),.w 91 89 true (.ld none 15 true (.t 10)),.w 92 89 true (.call f8 [(.t 90),(.t 91)]),.u 93 (.pick (.t 89) (.t 92) .fa),.m 4 (.t 93)])
 .ret)))))))))))))))))
set_option maxHeartbeats 0 in
theorem XY(hΓ:Holds P Γ){f fw fs fa fo fd f4 fp fn fe fy fv fz tE:Nat}(hw:Γ fw=.dat true qB)(hs:Γ fs=.dat true Qu)(ha:Γ fa=.dat true Us)(ho:Γ fo=.dat false (VM tE))(hd:Γ fd=.dat false (XO tE))(h4:Γ f4=.dat true jz)(hp:Γ fp=.dat true qf)(hn:Γ fn=.dat true (UF tE))(he:Γ fe=.dat true Qs)(hy:Γ fy=.dat false uY)(hv:Γ fv=.dat false JD)(hz:Γ fz=.dat true Vr)(hc:check P f=some (94,(jb fw fs fa fo fd f4 fp fn fe fy fv fz).strip,[.tmp 4])):Sound P f (.dat true Xm):=by
 refine ka hc Xaa hΓ (λargs K hcl hfi hG=>?_);match args,hG with
 | [a,b],hG=>
  obtain⟨l,rfl,hwl,m,rfl,hwm,hok,hm,hK⟩:=hG;refine⟨by simp,?_⟩
  have ok1:=Xi hok (by decide:1048576<=4294967296)
  have om1:okAs 4294967296 [m]:=λz hz=>by rw [List.mem_singleton.1 hz];exact⟨hwm,by omega⟩
  cases hsl:(decide (l.length<=20) && l.all sP) with
  | false=>
   simp only [go_sem,jb,hw,hs,ha,hsl,Wb,Zb];repeat first | refine Ja (by omega) ?_ | refine Ja (by assumption) ?_ | refine Ja rfl ?_ | refine Ja ⟨rfl,by omega⟩ ?_ | refine Ja ⟨rfl,by omega,by omega⟩ ?_ | intro _
   exact hK
  | true=>
  cases hsm:sA m with
  | false=>
   have hsm' : List.all [m] sA=false:=by simp [hsm]
   simp only [go_sem,jb,hw,hs,ha,hsl,Wb,Zb,hsm'];repeat first | refine Ja (by omega) ?_ | refine Ja (by assumption) ?_ | refine Ja rfl ?_ | refine Ja ⟨rfl,by omega⟩ ?_ | refine Ja ⟨rfl,by omega,by omega⟩ ?_ | intro _
   exact hK
  | true=>
   have hsm' : List.all [m] sA=true:=by simp [hsm]
   have hsl2:=hsl;simp only [Bool.and_eq_true,decide_eq_true_eq]at hsl2;have o2l:=xbb hwl hsl2.2;have o2m:=zbe hsm;have ok2:=Xi o2l (by decide:2<=1000)
   have ok3:=Xi o2l (by decide:2<=100000000)
   have om2:al m<=10000:=by omega
   have om3:al m<=100000000:=by omega
   have lz:=Jbn;have wz:WLD ((rcan 0,rcan 0),(rcan 0,rcan 0),rcan 0):=⟨⟨Ze _,Ze _⟩,⟨Ze _,Ze _⟩,Ze _⟩;have d0' : decide (0=0)=true:=rfl;have n20:¬((2:Int)=0):=by decide
   have e0:=jc tE;by_cases h0:onC l m=0
   .obtain⟨f0,hv'⟩:=qaT h0;have hmm:=Vbl hwm hv';have bD:=XbH o2l hwm o2m h0;have wD:=kbE (dyR l m);have rd:=kaT ok2 f0 hwm.1 hwm.2 (Nat.le_trans (Nat.le_max_left _ _) om2) (Nat.le_trans (Nat.le_max_right _ _) om2);have rd:rz (dtL l (av m))<=4294967296:=rd;obtain⟨D,hD⟩:∃D,dyR l m=D:=⟨_,rfl⟩;obtain⟨c,hcc⟩:∃c,dyC l m=c:=⟨_,rfl⟩;obtain⟨v,hvv⟩:∃v,dtL l (av m)=v:=⟨_,rfl⟩;rw [hD]at bD wD;rw [hvv]at rd;simp only [go_sem,jb,hw,hs,ha,ho,hd,h4,hp,hn,he,hy,hv,hz,hsl,Wb,Zb,hsm',h0,f0,hv',hD,hcc,hvv,X6,dA,dC,e0,d0',Bool.true_and,zbz,Qb,beq_self_eq_true];repeat first | refine Ja (by omega) ?_ | refine Ja (by assumption) ?_ | refine Ja rfl ?_ | refine Ja ⟨rfl,by omega⟩ ?_ | refine Ja ⟨rfl,by omega,by omega⟩ ?_ | intro _
    exact hK
   .have hcc:dyC l m=onC l m:=if_pos h0;have hR:dyR l m=d0:=by unfold dyR;rw [hcc,if_neg h0]
    have h0i:¬((onC l m:Nat):Int)=0:=by omega
    have gd:=decide_eq_false h0;by_cases f0:fourC l=0
    .have hv' : avld m=false:=by
      cases h:avld m with
      | false=>rfl
      | true=>exact absurd (Uba f0 h) h0
     have ec:=wbH f0 hv';simp only [go_sem,jb,hw,hs,ha,ho,hd,h4,hp,hn,he,hsl,Wb,Zb,hsm',ec,f0,hv',hR,hcc,gd,X6,d0,ybf,dA,dC,wbP,zbz,n20,Bool.false_and];repeat first | refine Ja (by omega) ?_ | refine Ja (by assumption) ?_ | refine Ja rfl ?_ | refine Ja ⟨rfl,by omega⟩ ?_ | refine Ja ⟨rfl,by omega,by omega⟩ ?_ | intro _
     exact hK
    .have ec:=jbG (m:=m) f0;have f0i:¬((fourC l:Nat):Int)=0:=by omega
     have gd2:=decide_eq_false f0;simp only [go_sem,jb,hw,hs,ha,ho,hd,h4,hp,hn,he,hsl,Wb,Zb,hsm',ec,f0i,hR,hcc,gd2,X6,d0,ybf,dA,dC,Bool.false_and];repeat first | refine Ja (by omega) ?_ | refine Ja (by assumption) ?_ | refine Ja rfl ?_ | refine Ja ⟨rfl,by omega⟩ ?_ | refine Ja ⟨rfl,by omega,by omega⟩ ?_ | intro _
     exact hK
end Go.Abs
end
