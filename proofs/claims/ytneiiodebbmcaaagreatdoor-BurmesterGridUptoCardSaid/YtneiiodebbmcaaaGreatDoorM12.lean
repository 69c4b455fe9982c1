/-
  Parts of the proof, merged: ArgG, PoseM, PoseN, BurH, BurI, BurQ, BurJ, BurK, BurL.
-/
import Derived.Test.YtneiiodebbmcaaaGreatDoorM11
set_option linter.unusedVariables false
set_option linter.unusedSimpArgs false
set_option maxRecDepth 100000
section
namespace Go.Abs
open Go.Num
variable {H:Type} {enc:TypeId×Value->H} {bulk:DataW H->Nat} {P:Program} {w:World} {α:Type}
theorem vaE{t u:TypeId}{s:Nat}{e:α->List C}{ok:Nat->α->Prop}(B:Bk bulk)(ht:P.underlying t=some (.array 4 u))(hs:P.cellsOf u=s)(hz:P.cellsOf t=4*s)
  (mono:∀n n' a,n<=n'->ok n a->ok n' a) (h:Opens enc bulk P w u e ok):Opens enc bulk P w t (λa:α×α×α×α=>e a.1++(e a.2.1++(e a.2.2.1++e a.2.2.2))) (λn a=>ok n a.1/\ok n a.2.1/\ok n a.2.2.1/\ok n a.2.2.2):=by
 intro fuel cs x hx;obtain⟨xs,m,rfl,rfl,hlen,hxl,hget⟩:=DataW.trod_array ht hx;rw [hs]at hget;match xs,hxl with
 | [x0,x1,x2,x3],_=>
  obtain⟨a0,k0,r0⟩:=h m _ x0 (hget 0 (by omega))
  obtain⟨a1,k1,r1⟩:=h m _ x1 (hget 1 (by omega))
  obtain⟨a2,k2,r2⟩:=h m _ x2 (hget 2 (by omega))
  obtain⟨a3,k3,r3⟩:=h m _ x3 (hget 3 (by omega))
  rw [Nat.zero_mul,List.drop_zero]at r0;rw [Nat.one_mul]at r1;have e0:cs=cs.take s++((cs.drop s).take s++((cs.drop (2*s)).take s++(cs.drop (3*s)).take s)):=by
   have h1:(cs.drop (3*s)).take s=cs.drop (3*s):=List.take_of_length_le (by rw [List.length_drop,hlen,hz];omega)
   have h2:cs.drop (2*s)=(cs.drop s).drop s:=by rw [List.drop_drop];congr 1;omega
   have h3:cs.drop (3*s)=((cs.drop s).drop s).drop s:=by rw [List.drop_drop,List.drop_drop];congr 1;omega
   rw [h1,h2,h3,List.take_append_drop,List.take_append_drop,List.take_append_drop]
  have b:∀y∈[x0,x1,x2,x3],bulk y.1<=bulk (.agg ([x0,x1,x2,x3].map (·.1))):=λy hy=>B.ag _ _ (List.mem_map.2 ⟨y,hy,rfl⟩);refine⟨(a0,a1,a2,a3),⟨mono _ _ _ (b x0 (by simp)) k0,mono _ _ _ (b x1 (by simp)) k1,mono _ _ _ (b x2 (by simp)) k2,mono _ _ _ (b x3 (by simp)) k3⟩,?_⟩
  rw [e0];exact r0.append (r1.append (r2.append r3))
structure P4T (P:Program) (t:TypeId):Prop where
 ex:∃u,P.underlying t=some (.array 4 u)/\P.cellsOf u=10/\P.cellsOf t=40/\PsT P u
def okP4(n:Nat)(t:P4):Prop:=WL4 t/\okPs n (l4 t)
theorem kbg{t:TypeId}(B:Bk bulk)(h:P4T P t):Opens enc bulk P w t p4C okP4:=by
 obtain⟨u,ht,hc,hz,hu⟩:=h.ex;have:=vaE (enc:=enc) (w:=w) (s:=10) B ht hc (by omega) Vaj (Xba (enc:=enc) (w:=w) B hu)
 refine this.imp λn x h=>⟨⟨h.1.1,h.2.1.1,h.2.2.1.1,h.2.2.2.1⟩,λp hp=>?_⟩;rcases ybk.1 hp with rfl | rfl | rfl | rfl
 .exact h.1
 .exact h.2.1
 .exact h.2.2.1
 .exact h.2.2.2
end Go.Abs
end
section
namespace Go.Num
open Go.Abs
end Go.Num
namespace Go.Abs
open Go.Num
variable {P:Program} {Γ:Nat->Spec}
def z6:List C:=[.lit (.bool false),.emp,.emp,.lit (.bool false),.emp,.emp]
def q6(x:V2):List C:=[cb (rcan x.1),cn (rcan x.1),cd (rcan x.1),cb (rcan x.2),cn (rcan x.2),cd (rcan x.2)]
def jK(l:List AV)(K:AV->Prop):Prop:=
 match l with
 | [a,b]=>onP3 (λt=>onA (λm=>okPs 1048576 (l3 t)/\al m<=1048576/\K (.one (.lit (.bool true)))) b) a
 | _=>False
theorem JU a b K:jK [a,b] K=(onP3 (λt=>onA (λm=>okPs 1048576 (l3 t)/\al m<=1048576/\K (.one (.lit (.bool true)))) b) a):=propext Iff.rfl
@[congr] theorem wbz{K}{l l'}(h:l=l'):jK l K=jK l' K:=by subst h;rfl
attribute [go_sem,go_sem ↓] JU
end Go.Abs
end
section
namespace Go.Num
open Go.Abs
end Go.Num
namespace Go.Abs
open Go.Num
variable {P:Program} {Γ:Nat->Spec}
def wK(l:List AV)(K:AV->Prop):Prop:=
 match l with
 | [a,b,c]=>onP3 (λt=>onA (λm=>onA (λo=>okPs 1048576 (l3 t)/\al m<=1048576/\al o<=1048576/\K (.one (.lit (.bool true)))) c) b) a
 | _=>False
theorem yQ a b c K:wK [a,b,c] K=(onP3 (λt=>onA (λm=>onA (λo=>okPs 1048576 (l3 t)/\al m<=1048576/\al o<=1048576/\K (.one (.lit (.bool true)))) c) b) a):=propext Iff.rfl
@[congr] theorem ZbA{K}{l l'}(h:l=l'):wK l K=wK l' K:=by subst h;rfl
attribute [go_sem,go_sem ↓] yQ
end Go.Abs
end
section
namespace Go.Num
open Go.Abs
theorem wbt{t:P4}(h:(l4 t).all pvld=true):fourC (l4 t)=0/\plchk (l4 t)=0:=by
 have f:=ZaX (l:=l4 t) rfl h;refine⟨f,?_⟩;unfold fourC at f;split at f
 .rename_i h1;exact absurd f h1
 .rename_i h1;omega
end Go.Num
namespace Go.Abs
open Go.Num
variable {P:Program} {Γ:Nat->Spec}
def XG(l:List AV)(K:AV->Prop):Prop:=
 match l with
 | [a,b]=>onP4 (λt=>onA (λm=>okPs 1048576 (l4 t)/\al m<=1048576/\K (.one (.lit (.bool true)))) b) a
 | _=>False
theorem YM a b K:XG [a,b] K=(onP4 (λt=>onA (λm=>okPs 1048576 (l4 t)/\al m<=1048576/\K (.one (.lit (.bool true)))) b) a):=propext Iff.rfl
@[congr] theorem qbz{K}{l l'}(h:l=l'):XG l K=XG l' K:=by subst h;rfl
attribute [go_sem,go_sem ↓] YM
end Go.Abs
end
section
namespace Go.Num
open Go.Abs
def t3(t:P4):P3:=(t.1,t.2.1,t.2.2.1)
end Go.Num
namespace Go.Abs
open Go.Num
variable {P:Program} {Γ:Nat->Spec}
def jM(l:List AV)(K:AV->Prop):Prop:=
 match l with
 | [a,b]=>onP4 (λt=>onA (λm=>okPs 1048576 (l4 t)/\al m<=1048576/\K (.one (.lit (.bool true)))) b) a
 | _=>False
theorem ZR a b K:jM [a,b] K=(onP4 (λt=>onA (λm=>okPs 1048576 (l4 t)/\al m<=1048576/\K (.one (.lit (.bool true)))) b) a):=propext Iff.rfl
@[congr] theorem jbA{K}{l l'}(h:l=l'):jM l K=jM l' K:=by subst h;rfl
attribute [go_sem,go_sem ↓] ZR
end Go.Abs
end
section
namespace Go.Num
def addT(a b:TnQ):TnQ:=
 if a.2=true then (if b.2=true then (0,false) else if b.1=0 then (0,true) else (-1 / b.1,false))
 else if b.2=true then (if a.1=0 then (0,true) else (-1 / a.1,false))
 else if 1-a.1*b.1=0 then (0,true) else ((a.1+b.1) / (1-a.1*b.1),false)
def thenQ(p q:PsQ):PsQ:=(addT p.1 q.1,appQ q p.2)
def btwQ(p q:PsQ):PsQ:=thenQ (invQ p) q
def fixQ(p:PsQ):V2:=
 (((1-cosQ p.1)*p.2.1-sinQ p.1*p.2.2) / (2*(1-cosQ p.1)),((1-cosQ p.1)*p.2.2+sinQ p.1*p.2.1) / (2*(1-cosQ p.1)))
def zeroT(t:TnQ):Bool:=!t.2 && decide (t.1=0)
end Go.Num
end
section
namespace Go.Num
open Go.Abs
end Go.Num
namespace Go.Abs
open Go.Num
variable {P:Program} {Γ:Nat->Spec} {L:List (Nat×Spec)}
def t2A(p:Tn×Tn):AV:=.one (.slice [tC p.1,tC p.2])
theorem Vbt(x y:Tn×Tn)(h:t2A x=t2A y):x=y:=by
 simp only [t2A,AV.one.injEq,C.slice.injEq,List.cons.injEq,and_true]at h;exact Prod.ext (UaW _ _ (congrArg AV.agg h.1)) (UaW _ _ (congrArg AV.agg h.2))
def onT2(k:Tn×Tn->Prop)(a:AV):Prop:=onE t2A (λt=>(WLR t.1.1/\WLR t.2.1)/\k t) a
@[congr] theorem ybX{k:Tn×Tn->Prop}{a a'}(h:a=a'):onT2 k a=onT2 k a':=by subst h;rfl
theorem jbm(k:Tn×Tn->Prop)(x y:R)(b c:Bool):onT2 k (.one (.slice [[cb x,cn x,cd x,.lit (.bool b)],[cb y,cn y,cd y,.lit (.bool c)]]))=((WLR x/\WLR y)/\k ((x,b),(y,c))):=
 Qn Vbt (λt=>(WLR t.1.1/\WLR t.2.1)/\k t) ((x,b),(y,c))
attribute [go_sem,go_sem ↓] jbm
def Wai(tE:Nat)(l:List AV)(K:AV->Prop):Prop:=
 match l with
 | [a]=>onT2 (λt=>rl t.1.1<=100000000/\rl t.2.1<=100000000/\tchk t.1=0/\tchk t.2=0/\K (.one (.lit .nilIface))) a
 | _=>False
theorem Vaw tE a K:Wai tE [a] K=(onT2 (λt=>rl t.1.1<=100000000/\rl t.2.1<=100000000/\tchk t.1=0/\tchk t.2=0/\K (.one (.lit .nilIface))) a):=propext Iff.rfl
@[congr] theorem YbP tE{K}{l l'}(h:l=l'):Wai tE l K=Wai tE l' K:=by subst h;rfl
attribute [go_sem,go_sem ↓] Vaw
def xaf(l:List AV)(K:AV->Prop):Prop:=
 match l with
 | []=>K (tQ (0,true))
 | _=>False
theorem kas K:xaf [] K=(K (tQ (0,true))):=propext Iff.rfl
@[congr] theorem kbO{K}{l l'}(h:l=l'):xaf l K=xaf l' K:=by subst h;rfl
attribute [go_sem,go_sem ↓] kas
def xa7(r:Bool)(l:List AV)(K:AV->Prop):Prop:=
 match l with
 | [a,b]=>onT (λt=>onT (λu=>(r=true∨t.2=true∨u.2=false)/\rl t.1<=1000000/\rl u.1<=1000000/\tchk t=0/\tchk u=0/\K (tQ (addT (tv t) (tv u)))) b) a
 | _=>False
theorem YaY r a b K:xa7 r [a,b] K=(onT (λt=>onT (λu=>(r=true∨t.2=true∨u.2=false)/\rl t.1<=1000000/\rl u.1<=1000000/\tchk t=0/\tchk u=0/\K (tQ (addT (tv t) (tv u)))) b) a):=propext Iff.rfl
@[congr] theorem qb0 r{K}{l l'}(h:l=l'):xa7 r l K=xa7 r l' K:=by subst h;rfl
attribute [go_sem,go_sem ↓] YaY
def UaS(l:List AV)(K:AV->Prop):Prop:=
 match l with
 | [a,b]=>onT (λt=>onT (λu=>rl t.1<=1000000/\rl u.1<=1000000/\tchk t=0/\tchk u=0/\K (.tup [tQ (addT (tv t) (tv u)),.one (.lit .nilIface)])) b) a
 | _=>False
theorem ua7 a b K:UaS [a,b] K=(onT (λt=>onT (λu=>rl t.1<=1000000/\rl u.1<=1000000/\tchk t=0/\tchk u=0/\K (.tup [tQ (addT (tv t) (tv u)),.one (.lit .nilIface)])) b) a):=propext Iff.rfl
@[congr] theorem ybY{K}{l l'}(h:l=l'):UaS l K=UaS l' K:=by subst h;rfl
attribute [go_sem,go_sem ↓] ua7
def Uag(l:List AV)(K:AV->Prop):Prop:=
 match l with
 | [a,b]=>onPo (λp=>onPo (λq=>pl p<=100000/\pl q<=100000/\pvld p=true/\pvld q=true/\K (.tup [psQ (thenQ (pv p) (pv q)),.one (.lit .nilIface)])) b) a
 | _=>False
theorem VaA a b K:Uag [a,b] K=(onPo (λp=>onPo (λq=>pl p<=100000/\pl q<=100000/\pvld p=true/\pvld q=true/\K (.tup [psQ (thenQ (pv p) (pv q)),.one (.lit .nilIface)])) b) a):=propext Iff.rfl
@[congr] theorem QbO{K}{l l'}(h:l=l'):Uag l K=Uag l' K:=by subst h;rfl
attribute [go_sem,go_sem ↓] VaA
def WaX(l:List AV)(K:AV->Prop):Prop:=
 match l with
 | [a,b]=>onPo (λp=>onPo (λq=>pl p<=1000/\pl q<=1000/\pvld p=true/\pvld q=true/\K (.tup [psQ (btwQ (pv p) (pv q)),.one (.lit .nilIface)])) b) a
 | _=>False
theorem ZaQ a b K:WaX [a,b] K=(onPo (λp=>onPo (λq=>pl p<=1000/\pl q<=1000/\pvld p=true/\pvld q=true/\K (.tup [psQ (btwQ (pv p) (pv q)),.one (.lit .nilIface)])) b) a):=propext Iff.rfl
@[congr] theorem xbT{K}{l l'}(h:l=l'):WaX l K=WaX l' K:=by subst h;rfl
attribute [go_sem,go_sem ↓] ZaQ
def uaW(tE:Nat)(l:List AV)(K:AV->Prop):Prop:=
 match l with
 | [a]=>onPo (λp=>pl p<=1000000/\pvld p=true/\K (.tup [pQ (if zeroT (pv p).1=true then (0,0) else fixQ (pv p)),errV tE (if zeroT (pv p).1=true then 8 else 0)])) a
 | _=>False
theorem kaL tE a K:uaW tE [a] K=(onPo (λp=>pl p<=1000000/\pvld p=true/\K (.tup [pQ (if zeroT (pv p).1=true then (0,0) else fixQ (pv p)),errV tE (if zeroT (pv p).1=true then 8 else 0)])) a):=propext Iff.rfl
@[congr] theorem Zb2 tE{K}{l l'}(h:l=l'):uaW tE l K=uaW tE l' K:=by subst h;rfl
attribute [go_sem,go_sem ↓] kaL
def xaj(tE:Nat)(l:List AV)(K:AV->Prop):Prop:=
 match l with
 | [a,b]=>onPo (λp=>onPo (λq=>pl p<=1000/\pl q<=1000/\pvld p=true/\pvld q=true/\K (.tup [pQ (if zeroT (btwQ (pv p) (pv q)).1=true then (0,0) else fixQ (btwQ (pv p) (pv q))),errV tE (if zeroT (btwQ (pv p) (pv q)).1=true then 8 else 0)])) b) a
 | _=>False
theorem Vaz tE a b K:xaj tE [a,b] K=(onPo (λp=>onPo (λq=>pl p<=1000/\pl q<=1000/\pvld p=true/\pvld q=true/\K (.tup [pQ (if zeroT (btwQ (pv p) (pv q)).1=true then (0,0) else fixQ (btwQ (pv p) (pv q))),errV tE (if zeroT (btwQ (pv p) (pv q)).1=true then 8 else 0)])) b) a):=propext Iff.rfl
@[congr] theorem zbQ tE{K}{l l'}(h:l=l'):xaj tE l K=xaj tE l' K:=by subst h;rfl
attribute [go_sem,go_sem ↓] Vaz
end Go.Abs
end
section
namespace Go.Num
open Go.Abs
end Go.Num
namespace Go.Abs
open Go.Num
variable {P:Program} {Γ:Nat->Spec}
def vJ(l:List AV)(K:AV->Prop):Prop:=
 match l with
 | [a]=>onP4 (λt=>okPs 1048576 (l4 t)/\K (.one (.lit (.bool true)))) a
 | _=>False
theorem VT a K:vJ [a] K=(onP4 (λt=>okPs 1048576 (l4 t)/\K (.one (.lit (.bool true)))) a):=propext Iff.rfl
@[congr] theorem Qbz{K}{l l'}(h:l=l'):vJ l K=vJ l' K:=by subst h;rfl
attribute [go_sem,go_sem ↓] VT
end Go.Abs
end
section
namespace Go.Num
open Go.Abs
end Go.Num
namespace Go.Abs
open Go.Num
variable {P:Program} {Γ:Nat->Spec}
theorem ybI:CleanL []:=λc hc=>by simp at hc
theorem vam{c:C}{l:List C}(h:Clean c)(k:CleanL l):CleanL (c::l):=λx hx=>by
 rcases List.mem_cons.1 hx with rfl | hx
 .exact h
 .exact k x hx
theorem clR1{l:List C}(h:CleanL l):CleanR [l]:=λe he=>by rw [List.mem_singleton.1 he];exact h
def Wag(l:List AV)(K:AV->Prop):Prop:=
 match l with
 | [a]=>onPs (λl=>okPs 100000000 l/\K (.one (.lit (.int .i64 (fourC l:Nat))))) a
 | _=>False
theorem qaq a K:Wag [a] K=(onPs (λl=>okPs 100000000 l/\K (.one (.lit (.int .i64 (fourC l:Nat))))) a):=propext Iff.rfl
@[congr] theorem ubR{K}{l l'}(h:l=l'):Wag l K=Wag l' K:=by subst h;rfl
attribute [go_sem,go_sem ↓] qaq
def jaZ(l:List AV)(K:AV->Prop):Prop:=
 match l with
 | [a,b]=>onPs (λl=>onA (λm=>okPs 1000 l/\al m<=10000/\fourC l=0/\K (rQ (dtL l (av m)))) b) a
 | _=>False
theorem Wa1 a b K:jaZ [a,b] K=(onPs (λl=>onA (λm=>okPs 1000 l/\al m<=10000/\fourC l=0/\K (rQ (dtL l (av m)))) b) a):=propext Iff.rfl
@[congr] theorem WbS{K}{l l'}(h:l=l'):jaZ l K=jaZ l' K:=by subst h;rfl
attribute [go_sem,go_sem ↓] Wa1
end Go.Abs
end
