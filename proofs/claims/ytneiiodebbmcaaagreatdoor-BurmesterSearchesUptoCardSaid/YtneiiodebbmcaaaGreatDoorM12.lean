/-
  Parts of the proof, merged: ArgG, PoseM, PoseN, BurH, BurI, BurQ, BurJ, BurK, BurL.
-/
import Derived.Test.YtneiiodebbmcaaaGreatDoorM11
set_option linter.unusedVariables false
set_option linter.unusedSimpArgs false
set_option maxRecDepth 100000
section
namespace Go.Abs
open Go.Num
variable {H:Type} {enc:TypeId×Value->H} {bulk:DataW H->Nat} {P:Program} {w:World} {α:Type}
structure P4T (P:Program) (t:TypeId):Prop where
 ex:∃u,P.underlying t=some (.array 4 u)/\P.cellsOf u=10/\P.cellsOf t=40/\PsT P u
end Go.Abs
end
section
namespace Go.Num
open Go.Abs
end Go.Num
namespace Go.Abs
open Go.Num
variable {P:Program} {Γ:Nat->Spec}
def z6:List C:=[.lit (.bool false),.emp,.emp,.lit (.bool false),.emp,.emp]
def q6(x:V2):List C:=[cb (rcan x.1),cn (rcan x.1),cd (rcan x.1),cb (rcan x.2),cn (rcan x.2),cd (rcan x.2)]
def kN(l:List AV)(K:AV->Prop):Prop:=
 match l with
 | [a,b]=>onP3 (λt=>onA (λm=>okPs 1048576 (l3 t)/\al m<=1048576/\K (.one (.lit (.bool true)))) b) a
 | _=>False
theorem VQ a b K:kN [a,b] K=(onP3 (λt=>onA (λm=>okPs 1048576 (l3 t)/\al m<=1048576/\K (.one (.lit (.bool true)))) b) a):=propext Iff.rfl
@[congr] theorem Ybx{K}{l l'}(h:l=l'):kN l K=kN l' K:=by subst h;rfl
attribute [go_sem,go_sem ↓] VQ
end Go.Abs
end
section
namespace Go.Num
open Go.Abs
end Go.Num
namespace Go.Abs
open Go.Num
variable {P:Program} {Γ:Nat->Spec}
def XN(l:List AV)(K:AV->Prop):Prop:=
 match l with
 | [a,b,c]=>onP3 (λt=>onA (λm=>onA (λo=>okPs 1048576 (l3 t)/\al m<=1048576/\al o<=1048576/\K (.one (.lit (.bool true)))) c) b) a
 | _=>False
theorem uP a b c K:XN [a,b,c] K=(onP3 (λt=>onA (λm=>onA (λo=>okPs 1048576 (l3 t)/\al m<=1048576/\al o<=1048576/\K (.one (.lit (.bool true)))) c) b) a):=propext Iff.rfl
@[congr] theorem qby{K}{l l'}(h:l=l'):XN l K=XN l' K:=by subst h;rfl
attribute [go_sem,go_sem ↓] uP
end Go.Abs
end
section
namespace Go.Num
open Go.Abs
end Go.Num
namespace Go.Abs
open Go.Num
variable {P:Program} {Γ:Nat->Spec}
def UH(l:List AV)(K:AV->Prop):Prop:=
 match l with
 | [a,b]=>onP4 (λt=>onA (λm=>okPs 1048576 (l4 t)/\al m<=1048576/\K (.one (.lit (.bool true)))) b) a
 | _=>False
theorem WM a b K:UH [a,b] K=(onP4 (λt=>onA (λm=>okPs 1048576 (l4 t)/\al m<=1048576/\K (.one (.lit (.bool true)))) b) a):=propext Iff.rfl
@[congr] theorem qbv{K}{l l'}(h:l=l'):UH l K=UH l' K:=by subst h;rfl
attribute [go_sem,go_sem ↓] WM
end Go.Abs
end
section
namespace Go.Num
open Go.Abs
def t3(t:P4):P3:=(t.1,t.2.1,t.2.2.1)
end Go.Num
namespace Go.Abs
open Go.Num
variable {P:Program} {Γ:Nat->Spec}
def wL(l:List AV)(K:AV->Prop):Prop:=
 match l with
 | [a,b]=>onP4 (λt=>onA (λm=>okPs 1048576 (l4 t)/\al m<=1048576/\K (.one (.lit (.bool true)))) b) a
 | _=>False
theorem uR a b K:wL [a,b] K=(onP4 (λt=>onA (λm=>okPs 1048576 (l4 t)/\al m<=1048576/\K (.one (.lit (.bool true)))) b) a):=propext Iff.rfl
@[congr] theorem yby{K}{l l'}(h:l=l'):wL l K=wL l' K:=by subst h;rfl
attribute [go_sem,go_sem ↓] uR
end Go.Abs
end
section
namespace Go.Num
def addT(a b:TnQ):TnQ:=
 if a.2=true then (if b.2=true then (0,false) else if b.1=0 then (0,true) else (-1 / b.1,false))
 else if b.2=true then (if a.1=0 then (0,true) else (-1 / a.1,false))
 else if 1-a.1*b.1=0 then (0,true) else ((a.1+b.1) / (1-a.1*b.1),false)
def thenQ(p q:PsQ):PsQ:=(addT p.1 q.1,appQ q p.2)
def btwQ(p q:PsQ):PsQ:=thenQ (invQ p) q
def fixQ(p:PsQ):V2:=
 (((1-cosQ p.1)*p.2.1-sinQ p.1*p.2.2) / (2*(1-cosQ p.1)),((1-cosQ p.1)*p.2.2+sinQ p.1*p.2.1) / (2*(1-cosQ p.1)))
def zeroT(t:TnQ):Bool:=!t.2 && decide (t.1=0)
end Go.Num
end
section
namespace Go.Num
open Go.Abs
end Go.Num
namespace Go.Abs
open Go.Num
variable {P:Program} {Γ:Nat->Spec} {L:List (Nat×Spec)}
def t2A(p:Tn×Tn):AV:=.one (.slice [tC p.1,tC p.2])
theorem ubu(x y:Tn×Tn)(h:t2A x=t2A y):x=y:=by
 simp only [t2A,AV.one.injEq,C.slice.injEq,List.cons.injEq,and_true]at h;exact Prod.ext (XaW _ _ (congrArg AV.agg h.1)) (XaW _ _ (congrArg AV.agg h.2))
def onT2(k:Tn×Tn->Prop)(a:AV):Prop:=onE t2A (λt=>(WLR t.1.1/\WLR t.2.1)/\k t) a
@[congr] theorem JbZ{k:Tn×Tn->Prop}{a a'}(h:a=a'):onT2 k a=onT2 k a':=by subst h;rfl
theorem Ubm(k:Tn×Tn->Prop)(x y:R)(b c:Bool):onT2 k (.one (.slice [[cb x,cn x,cd x,.lit (.bool b)],[cb y,cn y,cd y,.lit (.bool c)]]))=((WLR x/\WLR y)/\k ((x,b),(y,c))):=
 wo ubu (λt=>(WLR t.1.1/\WLR t.2.1)/\k t) ((x,b),(y,c))
attribute [go_sem,go_sem ↓] Ubm
def Uai(tE:Nat)(l:List AV)(K:AV->Prop):Prop:=
 match l with
 | [a]=>onT2 (λt=>rl t.1.1<=100000000/\rl t.2.1<=100000000/\tchk t.1=0/\tchk t.2=0/\K (.one (.lit .nilIface))) a
 | _=>False
theorem Xaw tE a K:Uai tE [a] K=(onT2 (λt=>rl t.1.1<=100000000/\rl t.2.1<=100000000/\tchk t.1=0/\tchk t.2=0/\K (.one (.lit .nilIface))) a):=propext Iff.rfl
@[congr] theorem XbM tE{K}{l l'}(h:l=l'):Uai tE l K=Uai tE l' K:=by subst h;rfl
attribute [go_sem,go_sem ↓] Xaw
def Jai(l:List AV)(K:AV->Prop):Prop:=
 match l with
 | []=>K (tQ (0,true))
 | _=>False
theorem vav K:Jai [] K=(K (tQ (0,true))):=propext Iff.rfl
@[congr] theorem qbP{K}{l l'}(h:l=l'):Jai l K=Jai l' K:=by subst h;rfl
attribute [go_sem,go_sem ↓] vav
def jaY(r:Bool)(l:List AV)(K:AV->Prop):Prop:=
 match l with
 | [a,b]=>onT (λt=>onT (λu=>(r=true∨t.2=true∨u.2=false)/\rl t.1<=1000000/\rl u.1<=1000000/\tchk t=0/\tchk u=0/\K (tQ (addT (tv t) (tv u)))) b) a
 | _=>False
theorem Ja1 r a b K:jaY r [a,b] K=(onT (λt=>onT (λu=>(r=true∨t.2=true∨u.2=false)/\rl t.1<=1000000/\rl u.1<=1000000/\tchk t=0/\tchk u=0/\K (tQ (addT (tv t) (tv u)))) b) a):=propext Iff.rfl
@[congr] theorem wbW r{K}{l l'}(h:l=l'):jaY r l K=jaY r l' K:=by subst h;rfl
attribute [go_sem,go_sem ↓] Ja1
def QaY(l:List AV)(K:AV->Prop):Prop:=
 match l with
 | [a,b]=>onT (λt=>onT (λu=>rl t.1<=1000000/\rl u.1<=1000000/\tchk t=0/\tchk u=0/\K (.tup [tQ (addT (tv t) (tv u)),.one (.lit .nilIface)])) b) a
 | _=>False
theorem Ya0 a b K:QaY [a,b] K=(onT (λt=>onT (λu=>rl t.1<=1000000/\rl u.1<=1000000/\tchk t=0/\tchk u=0/\K (.tup [tQ (addT (tv t) (tv u)),.one (.lit .nilIface)])) b) a):=propext Iff.rfl
@[congr] theorem QbZ{K}{l l'}(h:l=l'):QaY l K=QaY l' K:=by subst h;rfl
attribute [go_sem,go_sem ↓] Ya0
def Xai(l:List AV)(K:AV->Prop):Prop:=
 match l with
 | [a,b]=>onPo (λp=>onPo (λq=>pl p<=100000/\pl q<=100000/\pvld p=true/\pvld q=true/\K (.tup [psQ (thenQ (pv p) (pv q)),.one (.lit .nilIface)])) b) a
 | _=>False
theorem UaE a b K:Xai [a,b] K=(onPo (λp=>onPo (λq=>pl p<=100000/\pl q<=100000/\pvld p=true/\pvld q=true/\K (.tup [psQ (thenQ (pv p) (pv q)),.one (.lit .nilIface)])) b) a):=propext Iff.rfl
@[congr] theorem xbP{K}{l l'}(h:l=l'):Xai l K=Xai l' K:=by subst h;rfl
attribute [go_sem,go_sem ↓] UaE
def kaX(l:List AV)(K:AV->Prop):Prop:=
 match l with
 | [a,b]=>onPo (λp=>onPo (λq=>pl p<=1000/\pl q<=1000/\pvld p=true/\pvld q=true/\K (.tup [psQ (btwQ (pv p) (pv q)),.one (.lit .nilIface)])) b) a
 | _=>False
theorem XaN a b K:kaX [a,b] K=(onPo (λp=>onPo (λq=>pl p<=1000/\pl q<=1000/\pvld p=true/\pvld q=true/\K (.tup [psQ (btwQ (pv p) (pv q)),.one (.lit .nilIface)])) b) a):=propext Iff.rfl
@[congr] theorem ZbY{K}{l l'}(h:l=l'):kaX l K=kaX l' K:=by subst h;rfl
attribute [go_sem,go_sem ↓] XaN
def YaX(tE:Nat)(l:List AV)(K:AV->Prop):Prop:=
 match l with
 | [a]=>onPo (λp=>pl p<=1000000/\pvld p=true/\K (.tup [pQ (if zeroT (pv p).1=true then (0,0) else fixQ (pv p)),errV tE (if zeroT (pv p).1=true then 8 else 0)])) a
 | _=>False
theorem UaM tE a K:YaX tE [a] K=(onPo (λp=>pl p<=1000000/\pvld p=true/\K (.tup [pQ (if zeroT (pv p).1=true then (0,0) else fixQ (pv p)),errV tE (if zeroT (pv p).1=true then 8 else 0)])) a):=propext Iff.rfl
@[congr] theorem xbZ tE{K}{l l'}(h:l=l'):YaX tE l K=YaX tE l' K:=by subst h;rfl
attribute [go_sem,go_sem ↓] UaM
def jai(tE:Nat)(l:List AV)(K:AV->Prop):Prop:=
 match l with
 | [a,b]=>onPo (λp=>onPo (λq=>pl p<=1000/\pl q<=1000/\pvld p=true/\pvld q=true/\K (.tup [pQ (if zeroT (btwQ (pv p) (pv q)).1=true then (0,0) else fixQ (btwQ (pv p) (pv q))),errV tE (if zeroT (btwQ (pv p) (pv q)).1=true then 8 else 0)])) b) a
 | _=>False
theorem Xaz tE a b K:jai tE [a,b] K=(onPo (λp=>onPo (λq=>pl p<=1000/\pl q<=1000/\pvld p=true/\pvld q=true/\K (.tup [pQ (if zeroT (btwQ (pv p) (pv q)).1=true then (0,0) else fixQ (btwQ (pv p) (pv q))),errV tE (if zeroT (btwQ (pv p) (pv q)).1=true then 8 else 0)])) b) a):=propext Iff.rfl
@[congr] theorem wbP tE{K}{l l'}(h:l=l'):jai tE l K=jai tE l' K:=by subst h;rfl
attribute [go_sem,go_sem ↓] Xaz
end Go.Abs
end
section
namespace Go.Num
open Go.Abs
end Go.Num
namespace Go.Abs
open Go.Num
variable {P:Program} {Γ:Nat->Spec}
def zO(l:List AV)(K:AV->Prop):Prop:=
 match l with
 | [a]=>onP4 (λt=>okPs 1048576 (l4 t)/\K (.one (.lit (.bool true)))) a
 | _=>False
theorem yP a K:zO [a] K=(onP4 (λt=>okPs 1048576 (l4 t)/\K (.one (.lit (.bool true)))) a):=propext Iff.rfl
@[congr] theorem zby{K}{l l'}(h:l=l'):zO l K=zO l' K:=by subst h;rfl
attribute [go_sem,go_sem ↓] yP
end Go.Abs
end
section
namespace Go.Num
open Go.Abs
theorem Ubv(a b c d:V2):detQ a b c d =
  (sqQ b-sqQ a)*((subQ c a).1*(subQ d a).2-(subQ c a).2*(subQ d a).1)+(sqQ c-sqQ a)*((subQ d a).1*(subQ b a).2-(subQ d a).2*(subQ b a).1)+(sqQ d-sqQ a)*((subQ b a).1*(subQ c a).2-(subQ b a).2*(subQ c a).1):=by
 unfold detQ subQ;simp only;grind
end Go.Num
namespace Go.Abs
open Go.Num
variable {P:Program} {Γ:Nat->Spec}
theorem wbV:CleanL []:=λc hc=>by simp at hc
theorem zaZ{c:C}{l:List C}(h:Clean c)(k:CleanL l):CleanL (c::l):=λx hx=>by
 rcases List.mem_cons.1 hx with rfl | hx
 .exact h
 .exact k x hx
theorem clR1{l:List C}(h:CleanL l):CleanR [l]:=λe he=>by rw [List.mem_singleton.1 he];exact h
def yA(l:List AV)(K:AV->Prop):Prop:=
 match l with
 | [a]=>onPs (λl=>okPs 100000000 l/\K (.one (.lit (.int .i64 (fourC l:Nat))))) a
 | _=>False
theorem QaC a K:yA [a] K=(onPs (λl=>okPs 100000000 l/\K (.one (.lit (.int .i64 (fourC l:Nat))))) a):=propext Iff.rfl
@[congr] theorem xbM{K}{l l'}(h:l=l'):yA l K=yA l' K:=by subst h;rfl
attribute [go_sem,go_sem ↓] QaC
theorem qaK:Good yA:=Wa λas=>by
 unfold yA;split
 .exact(Vq λ_=>(.and λ_=>(.ret _)))
 .exact .of λK hk=>hk.elim
def kF(l:List AV)(K:AV->Prop):Prop:=
 match l with
 | [a,b]=>onPs (λl=>onA (λm=>okPs 1000 l/\al m<=10000/\fourC l=0/\K (rQ (dtL l (av m)))) b) a
 | _=>False
theorem QaX a b K:kF [a,b] K=(onPs (λl=>onA (λm=>okPs 1000 l/\al m<=10000/\fourC l=0/\K (rQ (dtL l (av m)))) b) a):=propext Iff.rfl
@[congr] theorem JbQ{K}{l l'}(h:l=l'):kF l K=kF l' K:=by subst h;rfl
attribute [go_sem,go_sem ↓] QaX
theorem kaV:Good kF:=Wa λas=>by
 unfold kF;split
 .exact(Vq λ_=>(Xv λ_=>(.and λ_=>(.and λ_=>(.and λ_=>(.ret _))))))
 .exact .of λK hk=>hk.elim
def vd(f0:Nat):AC:=(.seq (.ops false [.m 2 (.i 0)])
 (.fg [0] (.seq (.seq (.ops false [.m 4 (.t 0),.u 5 (.call f0 [(.t 4)]),.m 3 (.t 5)])
 (.fg [0,3] (.seq (.ops false [.m 6 (.t 3),.u 7 (.bin .neq (.t 6) (.i 0))])
 (.fg [0,3,7] (.cond (.t 7) (.seq (.ops false [.m 8 (.t 3),.m 2 (.t 8)])
 .ret) .skip)))))
 (.fg [0] (.seq (.seq (.ops false [.m 9 (.t 0),.u 10 (.len (.t 9)),.u 11 (.bin .neq (.t 10) (.i 4))])
 (.fg [11] (.cond (.t 11) (.seq (.ops false [.m 2 (.i 10)])
 .ret) .skip)))
 (.fg [] (.seq (.ops false [.m 2 (.i 0)])
 .ret)))))))
def jh(f0 f1 f2 f3 f4 f5:Nat):AC:=(.seq (.ops false [.u 3 (.box 6 (.t 1)),.u 4 (.alloc [(.lit (.bool false)),.emp,.emp])])
 (.fg [0,3,4] (.seq (.ops false [.m 14 (.t 0),.u 15 (.ld none 6 true (.t 3)),.u 16 (.call f0 [(.t 14),(.t 15)]),.m 5 (.t 16)])
 (.fg [4,5] (.seq (.ops false [.u 6 (.alloc [(.lit (.bool false)),.emp,.emp,(.lit (.bool false)),.emp,.emp,(.lit (.bool false)),.emp,.emp,(.lit (.bool false)),.emp,.emp,(.lit (.bool false)),.emp,.emp,(.lit (.bool false)),.emp,.emp,(.lit (.bool false)),.emp,.emp,(.lit (.bool false)),.emp,.emp,(.lit (.bool false)),.emp,.emp])])
 (.fg [4,5,6] (.seq (.seq (.ops false [.m 17 (.i 0)])
 (.fg [4,5,6,17] (.block 0 (.loop (.seq (.ops false [.u 18 (.bin .lss (.t 17) (.i 3))])
 (.fg [4,5,6,17,18] (.seq (.cond (.t 18) .skip (.exit 0))
 (.fg [4,5,6,17] (.seq (.block 1 (.seq (.ops false [.m 19 (.t 17),.m 7 (.t 19)])
 (.fg [4,5,6,7,17] (.seq (.ops true [.m 20 (.t 5),.m 21 (.t 7),.u 22 (.bin .add (.t 21) (.i 1)),.u 23 (.idx 6 (.t 20) (.t 22)),.u 24 (.ld none 6 true (.t 23)),.m 25 (.t 5),.u 26 (.idx 6 (.t 25) (.i 0)),.u 27 (.ld none 6 true (.t 26)),.u 28 (.call f1 [(.t 24),(.t 27)]),.u 8 (.alloc [(.lit (.bool false)),.emp,.emp,(.lit (.bool false)),.emp,.emp]),.n (.st none 6 (.t 8) (.t 28))])
 (.fg [4,5,6,7,8,17] (.ops true [.m 29 (.t 7),.m 30 (.t 5),.m 31 (.t 7),.u 32 (.bin .add (.t 31) (.i 1)),.u 33 (.idx 6 (.t 30) (.t 32)),.u 34 (.ld none 6 true (.t 33)),.u 35 (.call f2 [(.t 34)]),.m 36 (.t 5),.u 37 (.idx 6 (.t 36) (.i 0)),.u 38 (.ld none 6 true (.t 37)),.u 39 (.call f2 [(.t 38)]),.u 40 (.call f3 [(.t 35),(.t 39)]),.u 41 (.fa 0 (.t 8)),.u 42 (.ld none 3 true (.t 41)),.u 43 (.fa 3 (.t 8)),.u 44 (.ld none 3 true (.t 43)),.u 45 (.build [.x 3 (.t 40),.x 3 (.t 42),.x 3 (.t 44)]),.u 46 (.ai 9 3 (.t 6) (.t 29)),.n (.st none 9 (.t 46) (.t 45))]))))))
 (.fg [4,5,6,17] (.ops false [.u 47 (.bin .add (.t 17) (.i 1)),.m 17 (.t 47)])))))))))))
 (.fg [4,6] (.seq (.ops false [.u 48 (.build [.z [(.lit (.bool false)),.emp,.emp]]),.u 9 (.alloc [(.lit (.bool false)),.emp,.emp]),.n (.st none 3 (.t 9) (.t 48))])
 (.fg [4,6,9] (.seq (.seq (.ops false [.m 49 (.i 0)])
 (.fg [4,6,9,49] (.block 2 (.loop (.seq (.ops false [.u 50 (.bin .lss (.t 49) (.i 3))])
 (.fg [4,6,9,49,50] (.seq (.cond (.t 50) .skip (.exit 2))
 (.fg [4,6,9,49] (.seq (.block 3 (.seq (.ops false [.m 51 (.t 49),.m 10 (.t 51)])
 (.fg [4,6,9,10,49] (.seq (.ops true [.m 52 (.t 10),.u 53 (.bin .add (.t 52) (.i 1)),.u 54 (.bin .rem (.t 53) (.i 3)),.u 55 (.ai 9 3 (.t 6) (.t 54)),.u 56 (.ld (some 6) 9 true (.t 55)),.m 57 (.t 10),.u 58 (.bin .add (.t 57) (.i 2)),.u 59 (.bin .rem (.t 58) (.i 3)),.u 60 (.ai 9 3 (.t 6) (.t 59)),.u 61 (.ld (some 6) 9 true (.t 60)),.u 11 (.alloc [(.lit (.bool false)),.emp,.emp,(.lit (.bool false)),.emp,.emp,(.lit (.bool false)),.emp,.emp]),.u 12 (.alloc [(.lit (.bool false)),.emp,.emp,(.lit (.bool false)),.emp,.emp,(.lit (.bool false)),.emp,.emp]),.n (.st (some 11) 9 (.t 11) (.t 56)),.n (.st (some 12) 9 (.t 12) (.t 61))])
 (.fg [4,6,9,10,11,12,49] (.seq (.ops true [.u 62 (.ai 3 3 (.t 11) (.i 1)),.u 63 (.ld none 3 true (.t 62)),.u 64 (.ai 3 3 (.t 12) (.i 2)),.u 65 (.ld none 3 true (.t 64)),.u 66 (.call f4 [(.t 63),(.t 65)]),.u 67 (.ai 3 3 (.t 11) (.i 2)),.u 68 (.ld none 3 true (.t 67)),.u 69 (.ai 3 3 (.t 12) (.i 1)),.u 70 (.ld none 3 true (.t 69)),.u 71 (.call f4 [(.t 68),(.t 70)]),.u 72 (.call f3 [(.t 66),(.t 71)]),.u 13 (.alloc [(.lit (.bool false)),.emp,.emp]),.n (.st none 3 (.t 13) (.t 72))])
 (.fg [4,6,9,10,13,49] (.ops true [.u 73 (.ld none 3 true (.t 9)),.m 74 (.t 10),.u 75 (.ai 9 3 (.t 6) (.t 74)),.u 76 (.ai 3 3 (.t 75) (.i 0)),.u 77 (.ld none 3 true (.t 76)),.u 78 (.ld none 3 true (.t 13)),.u 79 (.call f4 [(.t 77),(.t 78)]),.u 80 (.call f5 [(.t 73),(.t 79)]),.n (.st none 3 (.t 9) (.t 80))]))))))))
 (.fg [4,6,9,49] (.ops false [.u 81 (.bin .add (.t 49) (.i 1)),.m 49 (.t 81)])))))))))))
 (.fg [4,9] (.seq (.ops false [.u 82 (.ld none 3 true (.t 9)),.n (.st none 3 (.t 4) (.t 82))])
 .ret)))))))))))))
theorem Yao(hΓ:Holds P Γ){f fk:Nat}(hk:Γ fk=.dat true ZA)(hc:check P f=some (12,(vd fk).strip,[.tmp 2])):Sound P f (.dat true yA):=by
 refine ka hc qaK hΓ (λargs K hcl hfi hG=>?_);match args,hG with
 | [a],hG=>
  obtain⟨l,rfl,hw,hok,hK⟩:=hG;refine⟨by simp,?_⟩
  unfold fourC at hK;by_cases h1:plchk l=0
  .have g1:((plchk l:Nat):Int)=0:=by omega
   rw [if_neg (by omega)]at hK
   by_cases h2:l.length=4
   .have g2:((l.length:Nat):Int)=4:=by omega
    rw [if_pos h2]at hK;simp only [go_sem,vd,hk,g1,g2];repeat first | refine Ja (by omega) ?_ | refine Ja (by assumption) ?_ | refine Ja rfl ?_ | refine Ja ⟨rfl,by omega⟩ ?_ | refine Ja ⟨rfl,by omega,by omega⟩ ?_ | intro _
    exact hK
   .have g2:(((l.length:Nat):Int)=4)=False:=eq_false (by omega)
    rw [if_neg h2]at hK;simp only [go_sem,vd,hk,g1,g2,decide_false];repeat first | refine Ja (by omega) ?_ | refine Ja (by assumption) ?_ | refine Ja rfl ?_ | refine Ja ⟨rfl,by omega⟩ ?_ | refine Ja ⟨rfl,by omega,by omega⟩ ?_ | intro _
    exact hK
  .have g1:(((plchk l:Nat):Int)=0)=False:=eq_false (by omega)
   rw [if_pos h1]at hK;simp only [go_sem,vd,hk,g1,decide_false];repeat first | refine Ja (by omega) ?_ | refine Ja (by assumption) ?_ | refine Ja rfl ?_ | refine Ja ⟨rfl,by omega⟩ ?_ | refine Ja ⟨rfl,by omega,by omega⟩ ?_ | intro _
   exact hK
set_option maxHeartbeats 4000000 in
theorem xaK(hΓ:Holds P Γ){f fp fl fq fs fm fa:Nat}(hp:Γ fp=.dat false Vn)(hl:Γ fl=.dat false qo)(hq:Γ fq=.dat false qI)(hb:Γ fs=.dat false Wq)(hm:Γ fm=.dat false vi)(ha:Γ fa=.dat false yi)(hc:check P f=some (83,(jh fp fl fq fs fm fa).strip,[.cell 4 3 true])):Sound P f (.dat false kF):=by
 refine ka hc kaV hΓ (λargs K hcl hfi hG=>?_);match args,hG with
 | [a,b],hG=>
  obtain⟨l,rfl,hw,m,rfl,wm,hok,lm,h4,hK⟩:=hG;refine⟨by simp,?_⟩
  obtain⟨hlen,hval⟩:=uar h4;obtain⟨p,q,r,s,rfl⟩:=wbc hlen;have hok6:okPs 1000000 [p,q,r,s]:=ki hok (by decide)
  have lm6:al m<=1000000:=Nat.le_trans lm (by decide)
  have l45:([p,q,r,s]:List Ps).length<=100000:=by show 4<=100000;decide
  have zm:=Nat.le_trans (Y5 wm) lm;have img:∀x:Ps,x∈[p,q,r,s]->zq (appQ (pv x) (av m))<=30000:=λx hx=>by
   obtain⟨y1,y2⟩:=VC (hok x hx).1 (hok x hx).2;have:=Qbg (pv x) (av m);omega
  have zI0:=img p (by simp)
  have zI1:=img q (by simp)
  have zI2:=img r (by simp)
  have zI3:=img s (by simp)
  have eI:imgs [p,q,r,s] m=[appQ (pv p) (av m),appQ (pv q) (av m),appQ (pv r) (av m),appQ (pv s) (av m)]:=rfl;have eD:dtL [p,q,r,s] (av m)=detQ (appQ (pv p) (av m)) (appQ (pv q) (av m)) (appQ (pv r) (av m)) (appQ (pv s) (av m)):=rfl;rw [eD,Ubv]at hK;obtain⟨I0,hI0⟩:∃x,appQ (pv p) (av m)=x:=⟨_,rfl⟩;obtain⟨I1,hI1⟩:∃x,appQ (pv q) (av m)=x:=⟨_,rfl⟩;obtain⟨I2,hI2⟩:∃x,appQ (pv r) (av m)=x:=⟨_,rfl⟩;obtain⟨I3,hI3⟩:∃x,appQ (pv s) (av m)=x:=⟨_,rfl⟩;rw [hI0]at zI0;rw [hI1]at zI1;rw [hI2]at zI2;rw [hI3]at zI3;rw [hI0,hI1,hI2,hI3]at eI hK;have hQ:qsA (imgs [p,q,r,s] m)=.one (.slice [aC (rcan I0.1,rcan I0.2),aC (rcan I1.1,rcan I1.2),aC (rcan I2.1,rcan I2.2),aC (rcan I3.1,rcan I3.2)]):=by rw [eI];rfl
  have hQ' : ((imgs [p,q,r,s] m).map acan).map aC=[aC (rcan I0.1,rcan I0.2),aC (rcan I1.1,rcan I1.2),aC (rcan I2.1,rcan I2.2),aC (rcan I3.1,rcan I3.2)]:=by rw [eI];rfl
  have w0:=ul I0;have w1:=ul I1;have w2:=ul I2;have w3:=ul I3;have l0:al (rcan I0.1,rcan I0.2)<=100000:=Nat.le_trans zI0 (by decide)
  have l1:al (rcan I1.1,rcan I1.2)<=100000:=Nat.le_trans zI1 (by decide)
  have l2:al (rcan I2.1,rcan I2.2)<=100000:=Nat.le_trans zI2 (by decide)
  have l3' : al (rcan I3.1,rcan I3.2)<=100000:=Nat.le_trans zI3 (by decide)
  have sqb:∀x:V2,zq x<=30000->rz (sqQ x)<=150000:=λx hx=>by have:=wa9 x;omega
  have q0:=sqb I0 zI0;have q1:=sqb I1 zI1;have q2:=sqb I2 zI2;have q3:=sqb I3 zI3;obtain⟨s1,hs1⟩:∃x,sqQ I1-sqQ I0=x:=⟨_,rfl⟩;obtain⟨s2,hs2⟩:∃x,sqQ I2-sqQ I0=x:=⟨_,rfl⟩;obtain⟨s3,hs3⟩:∃x,sqQ I3-sqQ I0=x:=⟨_,rfl⟩;obtain⟨D1,hD1⟩:∃x,subQ I1 I0=x:=⟨_,rfl⟩;obtain⟨D2,hD2⟩:∃x,subQ I2 I0=x:=⟨_,rfl⟩;obtain⟨D3,hD3⟩:∃x,subQ I3 I0=x:=⟨_,rfl⟩;rw [hs1,hs2,hs3,hD1,hD2,hD3]at hK;have zs1:rz s1<=400000:=by rw [<-hs1];have:=Ur (sqQ I1) (sqQ I0);omega
  have zs2:rz s2<=400000:=by rw [<-hs2];have:=Ur (sqQ I2) (sqQ I0);omega
  have zs3:rz s3<=400000:=by rw [<-hs3];have:=Ur (sqQ I3) (sqQ I0);omega
  have zD1:zq D1<=70000:=by rw [<-hD1];have:=kw I1 I0;omega
  have zD2:zq D2<=70000:=by rw [<-hD2];have:=kw I2 I0;omega
  have zD3:zq D3<=70000:=by rw [<-hD3];have:=kw I3 I0;omega
  have wD1:=ul D1;have wD2:=ul D2;have wD3:=ul D3;have d11:=Nat.le_trans (UaH D1) zD1;have d12:=Nat.le_trans (yaG D1) zD1;have d21:=Nat.le_trans (UaH D2) zD2;have d22:=Nat.le_trans (yaG D2) zD2;have d31:=Nat.le_trans (UaH D3) zD3;have d32:=Nat.le_trans (yaG D3) zD3;have mb:∀{x y:Rat},rz x<=70000->rz y<=70000->rz (x*y)<=150000:=λ{x y} h1 h2=>by have:=Xb x y;omega
  have m1:=mb d21 d32;have m2:=mb d22 d31;have m3:=mb d31 d12;have m4:=mb d32 d11;have m5:=mb d11 d22;have m6:=mb d12 d21;obtain⟨n1,hn1⟩:∃x,D2.1*D3.2-D2.2*D3.1=x:=⟨_,rfl⟩;obtain⟨n2,hn2⟩:∃x,D3.1*D1.2-D3.2*D1.1=x:=⟨_,rfl⟩;obtain⟨n3,hn3⟩:∃x,D1.1*D2.2-D1.2*D2.1=x:=⟨_,rfl⟩;rw [hn1,hn2,hn3]at hK;have zn1:rz n1<=400000:=by rw [<-hn1];have:=Ur (D2.1*D3.2) (D2.2*D3.1);omega
  have zn2:rz n2<=400000:=by rw [<-hn2];have:=Ur (D3.1*D1.2) (D3.2*D1.1);omega
  have zn3:rz n3<=400000:=by rw [<-hn3];have:=Ur (D1.1*D2.2) (D1.2*D2.1);omega
  have k1:rz (s1*n1)<=1000000:=by have:=Xb s1 n1;omega
  have k2:rz (s2*n2)<=1000000:=by have:=Xb s2 n2;omega
  have k3:rz (s3*n3)<=1000000:=by have:=Xb s3 n3;omega
  obtain⟨t0,ht0⟩:∃x,s1*n1=x:=⟨_,rfl⟩;rw [ht0]at k1 hK;obtain⟨t1,ht1⟩:∃x,t0+s2*n2=x:=⟨_,rfl⟩;rw [ht1]at hK;obtain⟨t2,ht2⟩:∃x,t1+s3*n3=x:=⟨_,rfl⟩;rw [ht2]at hK;have zt1:rz t1<=3000000:=by rw [<-ht1];have:=Xn t0 (s2*n2);omega
  have hO:∀k,onPs k (.one (.slice [pC p,pC q,pC r,pC s]))=((∀x∈[p,q,r,s],WLP x)/\k [p,q,r,s]):=λk=>VW k [p,q,r,s];simp only [go_sem,jh,hp,hO,List.map_cons,List.map_nil,kb,Zb,hQ'];refine⟨hw,wm,hok6,lm6,?_⟩;refine kE 3 [4,5,6,17] [4,6] (by simp [go_sem]) ?_
  iterate 3
   simp only [go_sem,Int.reduceAdd,Int.reduceLT,Int.reduceMod,Int.reduceMul,Int.reduceLE,hl,hq,hb,hm,ha,kb,Zb,xB,Yb,Rat.zero_add,hs1,hs2,hs3,hD1,hD2,hD3,hn1,hn2,hn3,ht0,ht1,ht2];repeat first | refine Ja (by with_reducible assumption) ?_ | refine Ja (Nat.le_trans (by with_reducible assumption) (by decide)) ?_ | refine Ja (by decide) ?_
   refine Qz [4,5,6,17] [4,6] (by simp [go_sem]) ?_
  simp only [go_sem,Int.reduceAdd,Int.reduceLT,Int.reduceMod,Int.reduceMul,Int.reduceLE,hl,hq,hb,hm,ha,kb,Zb,xB,Yb,Rat.zero_add,hs1,hs2,hs3,hD1,hD2,hD3,hn1,hn2,hn3,ht0,ht1,ht2];repeat first | refine Ja (by with_reducible assumption) ?_ | refine Ja (Nat.le_trans (by with_reducible assumption) (by decide)) ?_ | refine Ja (by decide) ?_
  refine kE 3 [4,6,9,49] [4,6,9] (by simp [go_sem]) ?_
  iterate 3
   simp only [go_sem,Int.reduceAdd,Int.reduceLT,Int.reduceMod,Int.reduceMul,Int.reduceLE,hl,hq,hb,hm,ha,kb,Zb,xB,Yb,Rat.zero_add,hs1,hs2,hs3,hD1,hD2,hD3,hn1,hn2,hn3,ht0,ht1,ht2];repeat first | refine Ja (by with_reducible assumption) ?_ | refine Ja (Nat.le_trans (by with_reducible assumption) (by decide)) ?_ | refine Ja (by decide) ?_
   refine Qz [4,6,9,49] [4,6,9] (by simp [go_sem]) ?_
  simp only [go_sem,Int.reduceAdd,Int.reduceLT,Int.reduceMod,Int.reduceMul,Int.reduceLE,hl,hq,hb,hm,ha,kb,Zb,xB,Yb,Rat.zero_add,hs1,hs2,hs3,hD1,hD2,hD3,hn1,hn2,hn3,ht0,ht1,ht2];repeat first | refine Ja (by with_reducible assumption) ?_ | refine Ja (Nat.le_trans (by with_reducible assumption) (by decide)) ?_ | refine Ja (by decide) ?_
  exact hK
end Go.Abs
end
