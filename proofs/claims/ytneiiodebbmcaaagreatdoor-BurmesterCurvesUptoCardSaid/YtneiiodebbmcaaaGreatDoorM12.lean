/-
  Parts of the proof, merged: ArgG, PoseM, PoseN, BurH, BurI, BurQ, BurJ, BurK, BurL.
-/
import Derived.Test.YtneiiodebbmcaaaGreatDoorM11
set_option linter.unusedVariables false
set_option linter.unusedSimpArgs false
set_option maxRecDepth 100000
section
namespace Go.Abs
open Go.Num
variable {H:Type} {enc:TypeId×Value->H} {bulk:DataW H->Nat} {P:Program} {w:World} {α:Type}
structure P4T (P:Program) (t:TypeId):Prop where
 ex:∃u,P.underlying t=some (.array 4 u)/\P.cellsOf u=10/\P.cellsOf t=40/\PsT P u
end Go.Abs
end
section
namespace Go.Num
open Go.Abs
end Go.Num
namespace Go.Abs
open Go.Num
variable {P:Program} {Γ:Nat->Spec}
def z6:List C:=[.lit (.bool false),.emp,.emp,.lit (.bool false),.emp,.emp]
def q6(x:V2):List C:=[cb (rcan x.1),cn (rcan x.1),cd (rcan x.1),cb (rcan x.2),cn (rcan x.2),cd (rcan x.2)]
def YP(l:List AV)(K:AV->Prop):Prop:=
 match l with
 | [a,b]=>onP3 (λt=>onA (λm=>okPs 1048576 (l3 t)/\al m<=1048576/\K (.one (.lit (.bool true)))) b) a
 | _=>False
theorem vV a b K:YP [a,b] K=(onP3 (λt=>onA (λm=>okPs 1048576 (l3 t)/\al m<=1048576/\K (.one (.lit (.bool true)))) b) a):=propext Iff.rfl
@[congr] theorem wbM{K}{l l'}(h:l=l'):YP l K=YP l' K:=by subst h;rfl
attribute [go_sem,go_sem ↓] vV
end Go.Abs
end
section
namespace Go.Num
open Go.Abs
end Go.Num
namespace Go.Abs
open Go.Num
variable {P:Program} {Γ:Nat->Spec}
def ZS(l:List AV)(K:AV->Prop):Prop:=
 match l with
 | [a,b,c]=>onP3 (λt=>onA (λm=>onA (λo=>okPs 1048576 (l3 t)/\al m<=1048576/\al o<=1048576/\K (.one (.lit (.bool true)))) c) b) a
 | _=>False
theorem uW a b c K:ZS [a,b,c] K=(onP3 (λt=>onA (λm=>onA (λo=>okPs 1048576 (l3 t)/\al m<=1048576/\al o<=1048576/\K (.one (.lit (.bool true)))) c) b) a):=propext Iff.rfl
@[congr] theorem qbM{K}{l l'}(h:l=l'):ZS l K=ZS l' K:=by subst h;rfl
attribute [go_sem,go_sem ↓] uW
end Go.Abs
end
section
namespace Go.Num
open Go.Abs
end Go.Num
namespace Go.Abs
open Go.Num
variable {P:Program} {Γ:Nat->Spec}
def VK(l:List AV)(K:AV->Prop):Prop:=
 match l with
 | [a,b]=>onP4 (λt=>onA (λm=>okPs 1048576 (l4 t)/\al m<=1048576/\K (.one (.lit (.bool true)))) b) a
 | _=>False
theorem yP a b K:VK [a,b] K=(onP4 (λt=>onA (λm=>okPs 1048576 (l4 t)/\al m<=1048576/\K (.one (.lit (.bool true)))) b) a):=propext Iff.rfl
@[congr] theorem UbG{K}{l l'}(h:l=l'):VK l K=VK l' K:=by subst h;rfl
attribute [go_sem,go_sem ↓] yP
end Go.Abs
end
section
namespace Go.Num
open Go.Abs
def t3(t:P4):P3:=(t.1,t.2.1,t.2.2.1)
end Go.Num
namespace Go.Abs
open Go.Num
variable {P:Program} {Γ:Nat->Spec}
def yT(l:List AV)(K:AV->Prop):Prop:=
 match l with
 | [a,b]=>onP4 (λt=>onA (λm=>okPs 1048576 (l4 t)/\al m<=1048576/\K (.one (.lit (.bool true)))) b) a
 | _=>False
theorem UZ a b K:yT [a,b] K=(onP4 (λt=>onA (λm=>okPs 1048576 (l4 t)/\al m<=1048576/\K (.one (.lit (.bool true)))) b) a):=propext Iff.rfl
@[congr] theorem UbM{K}{l l'}(h:l=l'):yT l K=yT l' K:=by subst h;rfl
attribute [go_sem,go_sem ↓] UZ
end Go.Abs
end
section
namespace Go.Num
def addT(a b:TnQ):TnQ:=
 if a.2=true then (if b.2=true then (0,false) else if b.1=0 then (0,true) else (-1 / b.1,false))
 else if b.2=true then (if a.1=0 then (0,true) else (-1 / a.1,false))
 else if 1-a.1*b.1=0 then (0,true) else ((a.1+b.1) / (1-a.1*b.1),false)
def thenQ(p q:PsQ):PsQ:=(addT p.1 q.1,appQ q p.2)
def btwQ(p q:PsQ):PsQ:=thenQ (invQ p) q
def fixQ(p:PsQ):V2:=
 (((1-cosQ p.1)*p.2.1-sinQ p.1*p.2.2) / (2*(1-cosQ p.1)),((1-cosQ p.1)*p.2.2+sinQ p.1*p.2.1) / (2*(1-cosQ p.1)))
def zeroT(t:TnQ):Bool:=!t.2 && decide (t.1=0)
end Go.Num
end
section
namespace Go.Num
open Go.Abs
end Go.Num
namespace Go.Abs
open Go.Num
variable {P:Program} {Γ:Nat->Spec} {L:List (Nat×Spec)}
def t2A(p:Tn×Tn):AV:=.one (.slice [tC p.1,tC p.2])
theorem YbL(x y:Tn×Tn)(h:t2A x=t2A y):x=y:=by
 simp only [t2A,AV.one.injEq,C.slice.injEq,List.cons.injEq,and_true]at h;exact Prod.ext (Qa9 _ _ (congrArg AV.agg h.1)) (Qa9 _ _ (congrArg AV.agg h.2))
def onT2(k:Tn×Tn->Prop)(a:AV):Prop:=onE t2A (λt=>(WLR t.1.1/\WLR t.2.1)/\k t) a
@[congr] theorem Qch{k:Tn×Tn->Prop}{a a'}(h:a=a'):onT2 k a=onT2 k a':=by subst h;rfl
theorem Ybx(k:Tn×Tn->Prop)(x y:R)(b c:Bool):onT2 k (.one (.slice [[cb x,cn x,cd x,.lit (.bool b)],[cb y,cn y,cd y,.lit (.bool c)]]))=((WLR x/\WLR y)/\k ((x,b),(y,c))):=
 Zq YbL (λt=>(WLR t.1.1/\WLR t.2.1)/\k t) ((x,b),(y,c))
attribute [go_sem,go_sem ↓] Ybx
def jas(tE:Nat)(l:List AV)(K:AV->Prop):Prop:=
 match l with
 | [a]=>onT2 (λt=>rl t.1.1<=100000000/\rl t.2.1<=100000000/\tchk t.1=0/\tchk t.2=0/\K (.one (.lit .nilIface))) a
 | _=>False
theorem yaz tE a K:jas tE [a] K=(onT2 (λt=>rl t.1.1<=100000000/\rl t.2.1<=100000000/\tchk t.1=0/\tchk t.2=0/\K (.one (.lit .nilIface))) a):=propext Iff.rfl
@[congr] theorem Zb2 tE{K}{l l'}(h:l=l'):jas tE l K=jas tE l' K:=by subst h;rfl
attribute [go_sem,go_sem ↓] yaz
def wav(l:List AV)(K:AV->Prop):Prop:=
 match l with
 | []=>K (tQ (0,true))
 | _=>False
theorem uay K:wav [] K=(K (tQ (0,true))):=propext Iff.rfl
@[congr] theorem ub5{K}{l l'}(h:l=l'):wav l K=wav l' K:=by subst h;rfl
attribute [go_sem,go_sem ↓] uay
def vaV(r:Bool)(l:List AV)(K:AV->Prop):Prop:=
 match l with
 | [a,b]=>onT (λt=>onT (λu=>(r=true∨t.2=true∨u.2=false)/\rl t.1<=1000000/\rl u.1<=1000000/\tchk t=0/\tchk u=0/\K (tQ (addT (tv t) (tv u)))) b) a
 | _=>False
theorem Wa6 r a b K:vaV r [a,b] K=(onT (λt=>onT (λu=>(r=true∨t.2=true∨u.2=false)/\rl t.1<=1000000/\rl u.1<=1000000/\tchk t=0/\tchk u=0/\K (tQ (addT (tv t) (tv u)))) b) a):=propext Iff.rfl
@[congr] theorem Jcg r{K}{l l'}(h:l=l'):vaV r l K=vaV r l' K:=by subst h;rfl
attribute [go_sem,go_sem ↓] Wa6
def ka4(l:List AV)(K:AV->Prop):Prop:=
 match l with
 | [a,b]=>onT (λt=>onT (λu=>rl t.1<=1000000/\rl u.1<=1000000/\tchk t=0/\tchk u=0/\K (.tup [tQ (addT (tv t) (tv u)),.one (.lit .nilIface)])) b) a
 | _=>False
theorem vba a b K:ka4 [a,b] K=(onT (λt=>onT (λu=>rl t.1<=1000000/\rl u.1<=1000000/\tchk t=0/\tchk u=0/\K (.tup [tQ (addT (tv t) (tv u)),.one (.lit .nilIface)])) b) a):=propext Iff.rfl
@[congr] theorem wca{K}{l l'}(h:l=l'):ka4 l K=ka4 l' K:=by subst h;rfl
attribute [go_sem,go_sem ↓] vba
def Uan(l:List AV)(K:AV->Prop):Prop:=
 match l with
 | [a,b]=>onPo (λp=>onPo (λq=>pl p<=100000/\pl q<=100000/\pvld p=true/\pvld q=true/\K (.tup [psQ (thenQ (pv p) (pv q)),.one (.lit .nilIface)])) b) a
 | _=>False
theorem Wax a b K:Uan [a,b] K=(onPo (λp=>onPo (λq=>pl p<=100000/\pl q<=100000/\pvld p=true/\pvld q=true/\K (.tup [psQ (thenQ (pv p) (pv q)),.one (.lit .nilIface)])) b) a):=propext Iff.rfl
@[congr] theorem Zb3{K}{l l'}(h:l=l'):Uan l K=Uan l' K:=by subst h;rfl
attribute [go_sem,go_sem ↓] Wax
def YaT(l:List AV)(K:AV->Prop):Prop:=
 match l with
 | [a,b]=>onPo (λp=>onPo (λq=>pl p<=1000/\pl q<=1000/\pvld p=true/\pvld q=true/\K (.tup [psQ (btwQ (pv p) (pv q)),.one (.lit .nilIface)])) b) a
 | _=>False
theorem yaU a b K:YaT [a,b] K=(onPo (λp=>onPo (λq=>pl p<=1000/\pl q<=1000/\pvld p=true/\pvld q=true/\K (.tup [psQ (btwQ (pv p) (pv q)),.one (.lit .nilIface)])) b) a):=propext Iff.rfl
@[congr] theorem Xce{K}{l l'}(h:l=l'):YaT l K=YaT l' K:=by subst h;rfl
attribute [go_sem,go_sem ↓] yaU
def ubj(tE:Nat)(l:List AV)(K:AV->Prop):Prop:=
 match l with
 | [a]=>onPo (λp=>pl p<=1000000/\pvld p=true/\K (.tup [pQ (if zeroT (pv p).1=true then (0,0) else fixQ (pv p)),errV tE (if zeroT (pv p).1=true then 8 else 0)])) a
 | _=>False
theorem ybi tE a K:ubj tE [a] K=(onPo (λp=>pl p<=1000000/\pvld p=true/\K (.tup [pQ (if zeroT (pv p).1=true then (0,0) else fixQ (pv p)),errV tE (if zeroT (pv p).1=true then 8 else 0)])) a):=propext Iff.rfl
@[congr] theorem Xcd tE{K}{l l'}(h:l=l'):ubj tE l K=ubj tE l' K:=by subst h;rfl
attribute [go_sem,go_sem ↓] ybi
def wao(tE:Nat)(l:List AV)(K:AV->Prop):Prop:=
 match l with
 | [a,b]=>onPo (λp=>onPo (λq=>pl p<=1000/\pl q<=1000/\pvld p=true/\pvld q=true/\K (.tup [pQ (if zeroT (btwQ (pv p) (pv q)).1=true then (0,0) else fixQ (btwQ (pv p) (pv q))),errV tE (if zeroT (btwQ (pv p) (pv q)).1=true then 8 else 0)])) b) a
 | _=>False
theorem waD tE a b K:wao tE [a,b] K=(onPo (λp=>onPo (λq=>pl p<=1000/\pl q<=1000/\pvld p=true/\pvld q=true/\K (.tup [pQ (if zeroT (btwQ (pv p) (pv q)).1=true then (0,0) else fixQ (btwQ (pv p) (pv q))),errV tE (if zeroT (btwQ (pv p) (pv q)).1=true then 8 else 0)])) b) a):=propext Iff.rfl
@[congr] theorem Zb4 tE{K}{l l'}(h:l=l'):wao tE l K=wao tE l' K:=by subst h;rfl
attribute [go_sem,go_sem ↓] waD
end Go.Abs
end
section
namespace Go.Num
open Go.Abs
end Go.Num
namespace Go.Abs
open Go.Num
variable {P:Program} {Γ:Nat->Spec}
def JR(l:List AV)(K:AV->Prop):Prop:=
 match l with
 | [a]=>onP4 (λt=>okPs 1048576 (l4 t)/\K (.one (.lit (.bool true)))) a
 | _=>False
theorem zZ a K:JR [a] K=(onP4 (λt=>okPs 1048576 (l4 t)/\K (.one (.lit (.bool true)))) a):=propext Iff.rfl
@[congr] theorem YbM{K}{l l'}(h:l=l'):JR l K=JR l' K:=by subst h;rfl
attribute [go_sem,go_sem ↓] zZ
end Go.Abs
end
section
namespace Go.Num
open Go.Abs
theorem WbC(a b c d:V2):detQ a b c d =
  (sqQ b-sqQ a)*((subQ c a).1*(subQ d a).2-(subQ c a).2*(subQ d a).1)+(sqQ c-sqQ a)*((subQ d a).1*(subQ b a).2-(subQ d a).2*(subQ b a).1)+(sqQ d-sqQ a)*((subQ b a).1*(subQ c a).2-(subQ b a).2*(subQ c a).1):=by
 unfold detQ subQ;simp only;grind
end Go.Num
namespace Go.Abs
open Go.Num
variable {P:Program} {Γ:Nat->Spec}
def UC(l:List AV)(K:AV->Prop):Prop:=
 match l with
 | [a]=>onPs (λl=>okPs 100000000 l/\K (.one (.lit (.int .i64 (Vd l:Nat))))) a
 | _=>False
theorem wax a K:UC [a] K=(onPs (λl=>okPs 100000000 l/\K (.one (.lit (.int .i64 (Vd l:Nat))))) a):=propext Iff.rfl
@[congr] theorem wb2{K}{l l'}(h:l=l'):UC l K=UC l' K:=by subst h;rfl
attribute [go_sem,go_sem ↓] wax
theorem XaQ:Good UC:=Wa λas=>by
 unfold UC;split
 .exact(Qs λ_=>(.and λ_=>(.ret _)))
 .exact .of λK hk=>hk.elim
def yaZ(l:List AV)(K:AV->Prop):Prop:=
 match l with
 | [a,b]=>onPs (λl=>onA (λm=>okPs 1000 l/\al m<=10000/\Vd l=0/\K (rQ (dtL l (av m)))) b) a
 | _=>False
theorem Vbh a b K:yaZ [a,b] K=(onPs (λl=>onA (λm=>okPs 1000 l/\al m<=10000/\Vd l=0/\K (rQ (dtL l (av m)))) b) a):=propext Iff.rfl
@[congr] theorem kb8{K}{l l'}(h:l=l'):yaZ l K=yaZ l' K:=by subst h;rfl
attribute [go_sem,go_sem ↓] Vbh
def qe(f0:Nat):AC:=(.o [.N 2 0] [0] (.f (.o [.M 4 0,.H 5 f0 4,.M 3 5] [0,3] (.o [.M 6 3,.I 7 .neq 6 0] [0,3,7] (.cond (.t 7) (.seq (.p [.M 8 3,.M 2 8]) .ret) .skip))) [0] (.f (.o [.M 9 0,.Z 10 9,.I 11 .neq 10 4] [11] (.cond (.t 11) (.seq (.p [.N 2 10]) .ret) .skip)) [] (.seq (.p [.N 2 0]) .ret))))
theorem uas(hΓ:Xa P Γ){f fk:Nat}(hk:Γ fk=.dat true jE)(hc:check P f=some (12,(qe fk).strip,[.tmp 2])):ua P f (.dat true UC):=by
 refine ka hc XaQ hΓ (λargs K hcl hfi hG=>?_);match args,hG with
 | [a],hG=>
  obtain⟨l,rfl,hw,hok,hK⟩:=hG;refine⟨by simp,?_⟩
  unfold Vd at hK;by_cases h1:plchk l=0
  .have g1:((plchk l:Nat):Int)=0:=by omega
   rw [if_neg (by omega)]at hK
   by_cases h2:l.length=4
   .have g2:((l.length:Nat):Int)=4:=by omega
    rw [if_pos h2]at hK;simp only [go_sem,qe,hk,g1,g2];repeat first | refine Wk ?_ | intro _
    exact hK
   .have g2:(((l.length:Nat):Int)=4)=False:=eq_false (by omega)
    rw [if_neg h2]at hK;simp only [go_sem,qe,hk,g1,g2,decide_false];repeat first | refine Wk ?_ | intro _
    exact hK
  .have g1:(((plchk l:Nat):Int)=0)=False:=eq_false (by omega)
   rw [if_pos h1]at hK;simp only [go_sem,qe,hk,g1,decide_false];repeat first | refine Wk ?_ | intro _
   exact hK
end Go.Abs
end
