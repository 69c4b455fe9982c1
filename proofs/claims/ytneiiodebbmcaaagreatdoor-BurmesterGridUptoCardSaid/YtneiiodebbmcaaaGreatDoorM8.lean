/-
  Parts of the proof, merged: PoseF, PoseG, PoseH, PoseJ, PoseQ, PoseL.
-/
import Derived.Test.YtneiiodebbmcaaaGreatDoorM7
set_option linter.unusedVariables false
set_option linter.unusedSimpArgs false
set_option maxRecDepth 100000
section
namespace Go.Num
open Go.Abs
def pt(i:Nat)(A:List V2):V2:=A.getD i (0,0)
theorem Qa6(a:V2):acan a=(rcan a.1,rcan a.2):=rfl
def ciV(A:List V2):V2:=ciQ (pt 0 A) (subQ (pt 1 A) (pt 0 A)) (subQ (pt 2 A) (pt 0 A))
def crV(A:List V2):Rat:=crossQ (subQ (pt 1 A) (pt 0 A)) (subQ (pt 2 A) (pt 0 A))
def othV(A:List V2):V2:=if pt 0 A=pt 1 A then pt 2 A else pt 1 A
def lnC(A:List V2):Nat:=if pt 0 A=othV A then 8 else if crV A≠0 then 21 else 0
def lnA(A:List V2):Rat:=if lnC A=0 then (pt 0 A).2-(othV A).2 else 0
def lnB(A:List V2):Rat:=if lnC A=0 then (othV A).1-(pt 0 A).1 else 0
def lnK(A:List V2):Rat:=if lnC A=0 then ((pt 0 A).2-(othV A).2)*(pt 0 A).1+((othV A).1-(pt 0 A).1)*(pt 0 A).2 else 0
abbrev DyQ:=V2×V2×Rat
def dl(d:Dy):Nat:=max (al d.1) (max (al d.2.1) (rl d.2.2))
def dvld(d:Dy):Bool:=avld d.1 && (avld d.2.1 && vldR d.2.2)
def d0:DyQ:=((0,0),(0,0),0)
def cenC(l:List Ps)(m:Arc):Nat:=if chkC l [m]≠0 then chkC l [m] else if crV (imgs l m)=0 then 8 else 0
def cenQ(A:List V2)(m:V2):DyQ:=(ciV A,m,sqQ (subQ (pt 0 A) (ciV A)))
def lineC(l:List Ps)(m:Arc):Nat:=if chkC l [m]≠0 then chkC l [m] else lnC (imgs l m)
def psnC(l:List Ps)(d:Dy):Nat:=if plchk l≠0 then plchk l else if dvld d then 0 else 2
def psnB(l:List Ps)(d:Dy):Bool:=(imgs l d.2.1).all λx=>decide (sqQ (subQ x (av d.1))=rv d.2.2)
theorem zb1{p u v:V2}{b:Nat}(hu:zq u<=b)(hv:zq v<=b):zq (ciQ p u v)<=zq p+14*b+32:=by
 unfold ciQ;split
 .have:zq (0,0)=0:=by unfold zq;rw [rz_0];rfl
  omega
 .have u1:rz u.1<=zq u:=Nat.le_max_left _ _;have u2:rz u.2<=zq u:=Nat.le_max_right _ _;have v1:rz v.1<=zq v:=Nat.le_max_left _ _;have v2:rz v.2<=zq v:=Nat.le_max_right _ _;have p1:rz p.1<=zq p:=Nat.le_max_left _ _;have p2:rz p.2<=zq p:=Nat.le_max_right _ _;have su:=kbc u;have sv:=kbc v;have zc:=WV u v;have zt:=Uat 2;have zt2:zs 2<=2:=Xo (by decide)
  have e2:(((2:Int)):Rat)=2:=rfl;rw [e2]at zt;have md:=qc 2 (crossQ u v);have m1:=qc (sqQ u) v.2;have m2:=qc (sqQ v) u.2;have m3:=qc (sqQ v) u.1;have m4:=qc (sqQ u) v.1;have s1:=VC (sqQ u*v.2) (sqQ v*u.2);have s2:=VC (sqQ v*u.1) (sqQ u*v.1);have d1:=qS (sqQ u*v.2-sqQ v*u.2) (2*crossQ u v);have d2:=qS (sqQ v*u.1-sqQ u*v.1) (2*crossQ u v);have a1:=Ql p.1 ((sqQ u*v.2-sqQ v*u.2) / (2*crossQ u v));have a2:=Ql p.2 ((sqQ v*u.1-sqQ u*v.1) / (2*crossQ u v));have g:zq (ctrQ p u v)=max (rz (p.1+(sqQ u*v.2-sqQ v*u.2) / (2*crossQ u v))) (rz (p.2+(sqQ v*u.1-sqQ u*v.1) / (2*crossQ u v))):=rfl;rw [g];exact Nat.max_le.2 ⟨by omega,by omega⟩
theorem Vi{b c:Nat}{l:List Ps}(h:okPs b l)(hb:b<=c):okPs c l:=λp hp=>⟨(h p hp).1,Nat.le_trans (h p hp).2 hb⟩
end Go.Num
namespace Go.Abs
open Go.Num
variable {P:Program} {Γ:Nat->Spec}
def dqA(d:DyQ):AV:=.agg [cb (rcan d.1.1),cn (rcan d.1.1),cd (rcan d.1.1),cb (rcan d.1.2),cn (rcan d.1.2),cd (rcan d.1.2),cb (rcan d.2.1.1),cn (rcan d.2.1.1),cd (rcan d.2.1.1),cb (rcan d.2.1.2),cn (rcan d.2.1.2),cd (rcan d.2.1.2),cb (rcan d.2.2),cn (rcan d.2.2),cd (rcan d.2.2)]
theorem Zbo(d:DyQ):dqA d=.agg [cb (rcan d.1.1),cn (rcan d.1.1),cd (rcan d.1.1),cb (rcan d.1.2),cn (rcan d.1.2),cd (rcan d.1.2),cb (rcan d.2.1.1),cn (rcan d.2.1.1),cd (rcan d.2.1.1),cb (rcan d.2.1.2),cn (rcan d.2.1.2),cd (rcan d.2.1.2),cb (rcan d.2.2),cn (rcan d.2.2),cd (rcan d.2.2)]:=eq_of_heq (HEq.refl _)
attribute [go_sem,go_sem ↓] Zbo
def kai(tE:Nat)(l:List AV)(K:AV->Prop):Prop:=
 match l with
 | [a,b]=>onPs (λl=>onA (λm=>okPs 1000 l/\al m<=10000/\K (.tup [rQ (if lineC l m=0 then lnA (imgs l m) else 0),rQ (if lineC l m=0 then lnB (imgs l m) else 0),rQ (if lineC l m=0 then lnK (imgs l m) else 0),errV tE (lineC l m)])) b) a
 | _=>False
theorem Qap tE a b K:kai tE [a,b] K=(onPs (λl=>onA (λm=>okPs 1000 l/\al m<=10000/\K (.tup [rQ (if lineC l m=0 then lnA (imgs l m) else 0),rQ (if lineC l m=0 then lnB (imgs l m) else 0),rQ (if lineC l m=0 then lnK (imgs l m) else 0),errV tE (lineC l m)])) b) a):=propext Iff.rfl
@[congr] theorem ubQ tE{K}{l l'}(h:l=l'):kai tE l K=kai tE l' K:=by subst h;rfl
attribute [go_sem,go_sem ↓] Qap
def yai(l:List AV)(K:AV->Prop):Prop:=
 match l with
 | [a,b]=>onPs (λl=>onA (λm=>okPs 1000 l/\al m<=10000/\l.length=3/\K (.tup [rQ (lnA (imgs l m)),rQ (lnB (imgs l m)),rQ (lnK (imgs l m)),.one (.lit (.int .i64 (lnC (imgs l m):Nat)))])) b) a
 | _=>False
theorem zau a b K:yai [a,b] K=(onPs (λl=>onA (λm=>okPs 1000 l/\al m<=10000/\l.length=3/\K (.tup [rQ (lnA (imgs l m)),rQ (lnB (imgs l m)),rQ (lnK (imgs l m)),.one (.lit (.int .i64 (lnC (imgs l m):Nat)))])) b) a):=propext Iff.rfl
@[congr] theorem ZbP{K}{l l'}(h:l=l'):yai l K=yai l' K:=by subst h;rfl
attribute [go_sem,go_sem ↓] zau
def yL(tE:Nat)(l:List AV)(K:AV->Prop):Prop:=
 match l with
 | [a,b]=>onPs (λl=>onA (λm=>okPs 1000 l/\al m<=10000/\K (.tup [dqA (if cenC l m=0 then cenQ (imgs l m) (av m) else d0),errV tE (cenC l m)])) b) a
 | _=>False
theorem wT tE a b K:yL tE [a,b] K=(onPs (λl=>onA (λm=>okPs 1000 l/\al m<=10000/\K (.tup [dqA (if cenC l m=0 then cenQ (imgs l m) (av m) else d0),errV tE (cenC l m)])) b) a):=propext Iff.rfl
@[congr] theorem Ybz tE{K}{l l'}(h:l=l'):yL tE l K=yL tE l' K:=by subst h;rfl
attribute [go_sem,go_sem ↓] wT
def zN(tE:Nat)(l:List AV)(K:AV->Prop):Prop:=
 match l with
 | [a,b]=>onPs (λl=>onDy (λd=>okPs 1000 l/\dl d<=100000/\K (.tup [.one (.lit (.bool (decide (psnC l d=0) && psnB l d))),errV tE (psnC l d)])) b) a
 | _=>False
theorem WP tE a b K:zN tE [a,b] K=(onPs (λl=>onDy (λd=>okPs 1000 l/\dl d<=100000/\K (.tup [.one (.lit (.bool (decide (psnC l d=0) && psnB l d))),errV tE (psnC l d)])) b) a):=propext Iff.rfl
@[congr] theorem ubz tE{K}{l l'}(h:l=l'):zN tE l K=zN tE l' K:=by subst h;rfl
attribute [go_sem,go_sem ↓] WP
end Go.Abs
end
section
namespace Go.Num
open Go.Abs
def exPs:List Ps:=[((rcan 0,false),(rcan 0,rcan 0)),((rcan 0,false),(rcan 2,rcan 0)),((rcan 0,true),(rcan 2,rcan 2))]
def o2:Arc:=(rcan 0,rcan 0)
theorem rz_2:rz 2<=2:=by
 have zt:=Uat 2;have zt2:zs 2<=2:=Xo (by decide)
 have e2:(((2:Int)):Rat)=2:=rfl;rw [e2]at zt;omega
end Go.Num
namespace Go.Abs
open Go.Num
variable {P:Program} {Γ:Nat->Spec}
def vaU(l:List AV)(K:AV->Prop):Prop:=
 match l with
 | []=>K (psA exPs)
 | _=>False
theorem zaL K:vaU [] K=(K (psA exPs)):=propext Iff.rfl
@[congr] theorem ybV{K}{l l'}(h:l=l'):vaU l K=vaU l' K:=by subst h;rfl
attribute [go_sem,go_sem ↓] zaL
def zal(l:List AV)(K:AV->Prop):Prop:=
 match l with
 | []=>K (.one (.lit (.bool true)))
 | _=>False
theorem qaz K:zal [] K=(K (.one (.lit (.bool true)))):=propext Iff.rfl
@[congr] theorem VbP{K}{l l'}(h:l=l'):zal l K=zal l' K:=by subst h;rfl
attribute [go_sem,go_sem ↓] qaz
def JX(l:List AV)(K:AV->Prop):Prop:=
 match l with
 | [a,b]=>onPs (λl=>onA (λm=>okPs 1048576 l/\al m<=1048576/\K (.one (.lit (.bool true)))) b) a
 | _=>False
theorem XZ a b K:JX [a,b] K=(onPs (λl=>onA (λm=>okPs 1048576 l/\al m<=1048576/\K (.one (.lit (.bool true)))) b) a):=propext Iff.rfl
@[congr] theorem kbC{K}{l l'}(h:l=l'):JX l K=JX l' K:=by subst h;rfl
attribute [go_sem,go_sem ↓] XZ
theorem jbg{l:List Ps}(hw:∀p∈l,WLP p)(h:l.all sP=true):okPs 2 l:=by
 intro p hp;have hs:=List.all_eq_true.1 h p hp;simp only [sP,Bool.and_eq_true]at hs;exact⟨hw p hp,Nat.max_le.2 ⟨ja2 hs.1,Nat.max_le.2 ⟨ja2 hs.2.1,ja2 hs.2.2⟩⟩⟩
theorem zaB{m:Arc}(h:sA m=true):al m<=2:=by
 simp only [sA,Bool.and_eq_true]at h;exact Nat.max_le.2 ⟨ja2 h.1,ja2 h.2⟩
end Go.Abs
end
section
namespace Go.Num
open Go.Abs
instance decAR:DecidableEq (Arc×R):=instDecidableEqProd
instance decDy:DecidableEq Dy:=instDecidableEqProd
def dz:Dy:=(((false,[],[]),(false,[],[])),((false,[],[]),(false,[],[])),(false,[],[]))
def cenR(A:List V2)(m:Arc):Dy:=(acan (ciV A),m,rcan (sqQ (subQ (pt 0 A) (ciV A))))
def movR(A:List V2)(m:Arc):Dy:=(m,acan (ciV A),rcan (sqQ (subQ (pt 0 A) (ciV A))))
def pcan(p:PsQ):Ps:=((rcan p.1.1,p.1.2),acan p.2)
theorem VbI(p:PsQ):pv (pcan p)=p:=by unfold pv pcan tv;simp only [Wb,qbh]
def imgsB(l:List Ps)(o:Arc):List V2:=l.map λp=>appQ (invQ (pv p)) (av o)
theorem ybq(p:PsQ):WLP (pcan p):=⟨Qj _,qy _⟩
def movC(l:List Ps)(o:Arc):Nat:=if chkC l [o]≠0 then chkC l [o] else if crV (imgsB l o)=0 then 8 else 0
def movQ(A:List V2)(o:V2):DyQ:=(o,ciV A,sqQ (subQ (pt 0 A) (ciV A)))
end Go.Num
namespace Go.Abs
open Go.Num
variable {P:Program} {Γ:Nat->Spec}
def UN(l:List AV)(K:AV->Prop):Prop:=
 match l with
 | [a,b]=>onPs (λl=>onA (λm=>okPs 1000 l/\al m<=10000/\l.length=3/\K (.tup [dA (if crV (imgs l m)=0 then dz else cenR (imgs l m) m),.one (.lit (.int .i64 (if crV (imgs l m)=0 then 8 else 0)))])) b) a
 | _=>False
theorem UQ a b K:UN [a,b] K=(onPs (λl=>onA (λm=>okPs 1000 l/\al m<=10000/\l.length=3/\K (.tup [dA (if crV (imgs l m)=0 then dz else cenR (imgs l m) m),.one (.lit (.int .i64 (if crV (imgs l m)=0 then 8 else 0)))])) b) a):=propext Iff.rfl
@[congr] theorem ybz{K}{l l'}(h:l=l'):UN l K=UN l' K:=by subst h;rfl
attribute [go_sem,go_sem ↓] UQ
def uL(l:List AV)(K:AV->Prop):Prop:=
 match l with
 | [a,b]=>onPs (λl=>onA (λm=>okPs 1000 l/\al m<=10000/\l.length=3/\K (.tup [dA (if crV (imgsB l m)=0 then dz else movR (imgsB l m) m),.one (.lit (.int .i64 (if crV (imgsB l m)=0 then 8 else 0)))])) b) a
 | _=>False
theorem vT a b K:uL [a,b] K=(onPs (λl=>onA (λm=>okPs 1000 l/\al m<=10000/\l.length=3/\K (.tup [dA (if crV (imgsB l m)=0 then dz else movR (imgsB l m) m),.one (.lit (.int .i64 (if crV (imgsB l m)=0 then 8 else 0)))])) b) a):=propext Iff.rfl
@[congr] theorem vbz{K}{l l'}(h:l=l'):uL l K=uL l' K:=by subst h;rfl
attribute [go_sem,go_sem ↓] vT
def xK(tE:Nat)(l:List AV)(K:AV->Prop):Prop:=
 match l with
 | [a,b]=>onPs (λl=>onA (λm=>okPs 1000 l/\al m<=10000/\K (.tup [dqA (if movC l m=0 then movQ (imgsB l m) (av m) else d0),errV tE (movC l m)])) b) a
 | _=>False
theorem zP tE a b K:xK tE [a,b] K=(onPs (λl=>onA (λm=>okPs 1000 l/\al m<=10000/\K (.tup [dqA (if movC l m=0 then movQ (imgsB l m) (av m) else d0),errV tE (movC l m)])) b) a):=propext Iff.rfl
@[congr] theorem Ubz tE{K}{l l'}(h:l=l'):xK tE l K=xK tE l' K:=by subst h;rfl
attribute [go_sem,go_sem ↓] zP
def QK(l:List AV)(K:AV->Prop):Prop:=
 match l with
 | [a,b]=>onPs (λl=>onDy (λd=>okPs 1000 l/\dl d<=100000/\l.length<=1000/\K (.one (.lit (.bool (psnB l d))))) b) a
 | _=>False
theorem XO a b K:QK [a,b] K=(onPs (λl=>onDy (λd=>okPs 1000 l/\dl d<=100000/\l.length<=1000/\K (.one (.lit (.bool (psnB l d))))) b) a):=propext Iff.rfl
@[congr] theorem Jbz{K}{l l'}(h:l=l'):QK l K=QK l' K:=by subst h;rfl
attribute [go_sem,go_sem ↓] XO
def xai(l:List AV)(K:AV->Prop):Prop:=
 match l with
 | [a]=>onDy (λd=>dl d<=100000/\K (.one (.lit (.bool (dvld d))))) a
 | _=>False
theorem kav a K:xai [a] K=(onDy (λd=>dl d<=100000/\K (.one (.lit (.bool (dvld d))))) a):=propext Iff.rfl
@[congr] theorem jbR{K}{l l'}(h:l=l'):xai l K=xai l' K:=by subst h;rfl
attribute [go_sem,go_sem ↓] kav
def zK(l:List AV)(K:AV->Prop):Prop:=
 match l with
 | [a]=>onDy (λd=>dl d<=4294967296/\K (.one (.lit (.bool (sA d.1 && (sA d.2.1 && sR 4 d.2.2)))))) a
 | _=>False
theorem qQ a K:zK [a] K=(onDy (λd=>dl d<=4294967296/\K (.one (.lit (.bool (sA d.1 && (sA d.2.1 && sR 4 d.2.2)))))) a):=propext Iff.rfl
@[congr] theorem JbA{K}{l l'}(h:l=l'):zK l K=zK l' K:=by subst h;rfl
attribute [go_sem,go_sem ↓] qQ
def VV(l:List AV)(K:AV->Prop):Prop:=
 match l with
 | [a,b]=>onDy (λd=>onDy (λe=>dl d<=4294967296/\K (.one (.lit (.bool (decide (d=e)))))) b) a
 | _=>False
theorem Xaa a b K:VV [a,b] K=(onDy (λd=>onDy (λe=>dl d<=4294967296/\K (.one (.lit (.bool (decide (d=e)))))) b) a):=propext Iff.rfl
@[congr] theorem ybK{K}{l l'}(h:l=l'):VV l K=VV l' K:=by subst h;rfl
attribute [go_sem,go_sem ↓] Xaa
end Go.Abs
end
section
namespace Go.Num
open Go.Abs
end Go.Num
namespace Go.Abs
open Go.Num
variable {P:Program} {Γ:Nat->Spec}
def WY(l:List AV)(K:AV->Prop):Prop:=
 match l with
 | [a,b]=>onPs (λl=>onA (λm=>okPs 1048576 l/\al m<=1048576/\K (.one (.lit (.bool true)))) b) a
 | _=>False
theorem Wab a b K:WY [a,b] K=(onPs (λl=>onA (λm=>okPs 1048576 l/\al m<=1048576/\K (.one (.lit (.bool true)))) b) a):=propext Iff.rfl
@[congr] theorem ZbN{K}{l l'}(h:l=l'):WY l K=WY l' K:=by subst h;rfl
attribute [go_sem,go_sem ↓] Wab
end Go.Abs
end
section
namespace Go.Num
open Go.Abs
theorem vbA(t:TnQ):cosQ t*cosQ t+sinQ t*sinQ t=1:=by
 unfold cosQ sinQ;by_cases h:t.2=true
 .rw [if_pos h,if_pos h];grind
 .rw [if_neg h,if_neg h];have hd:=Wbt t.1;obtain⟨x,hx⟩:∃x,t.1=x:=⟨_,rfl⟩;rw [hx]at hd ⊢;obtain⟨d,hdd⟩:∃d,1+x*x=d:=⟨_,rfl⟩;rw [hdd]at hd ⊢;have e:(1-x*x)*(1-x*x)+(x+x)*(x+x)=d*d:=by grind
  simp only [Rat.div_def];have hi:d*d⁻¹=1:=Rat.mul_inv_cancel d hd;obtain⟨i,hii⟩:∃i,d⁻¹=i:=⟨_,rfl⟩;rw [hii]at hi ⊢;grind
end Go.Num
end
section
namespace Go.Num
open Go.Abs
abbrev P3:=Ps×Ps×Ps
def WL3(t:P3):Prop:=WLP t.1/\WLP t.2.1/\WLP t.2.2
def l3(t:P3):List Ps:=[t.1,t.2.1,t.2.2]
theorem vas(a:V2):avld (acan a)=true:=by
 show(vldR (rcan _) && vldR (rcan _))=true;rw [Jm,Jm];rfl
end Go.Num
namespace Go.Abs
open Go.Num
variable {P:Program} {Γ:Nat->Spec}
def p3C(t:P3):List C:=pC t.1++pC t.2.1++pC t.2.2
def p3A(t:P3):AV:=.agg (p3C t)
def onP3(k:P3->Prop)(a:AV):Prop:=onE p3A (λt=>WL3 t/\k t) a
@[congr] theorem QbW{k:P3->Prop}{a a'}(h:a=a'):onP3 k a=onP3 k a':=by subst h;rfl
theorem qbd(t:P3):CleanL (p3C t):=by
 intro c hc;simp only [p3C,List.mem_append]at hc;rcases hc with(hc | hc) | hc
 .exact Ju _ c hc
 .exact Ju _ c hc
 .exact Ju _ c hc
theorem kaV(t:P3):(p3C t).length=30:=by simp [p3C,Wp]
theorem YaA(t:P3):(p3C t).drop 0=p3C t:=rfl
theorem Ua1(t:P3):(p3C t).take 30=p3C t:=List.take_of_length_le (by rw [kaV];decide)
theorem zbH(t:P3):(p3C t).take 10=pC t.1:=by unfold p3C;rw [List.append_assoc,List.take_left' (Wp _)]
theorem zbM(t:P3):(p3C t).drop 10=pC t.2.1++pC t.2.2:=by unfold p3C;rw [List.append_assoc,List.drop_left' (Wp _)]
theorem ZbL(t:P3):((p3C t).drop 10).take 10=pC t.2.1:=by rw [zbM,List.take_left' (Wp _)]
theorem xbL(t:P3):(((p3C t).drop 10).drop 10).take 10=pC t.2.2:=by rw [zbM,List.drop_left' (Wp _),List.take_of_length_le (by rw [Wp];decide)]
theorem jbl(t:P3)(r:List (List C)):datQ 0 0 (some ⟨p3C t::r,30,true⟩)=.ref (p3C t):=kE [] _ _ _ _ _ ⟨Nat.zero_le _,qbd t⟩
theorem ubi(k:List Ps->Prop)(p q r:Ps):onPs k (.one (.slice [pC p,pC q,pC r]))=((∀x∈l3 (p,q,r),WLP x)/\k (l3 (p,q,r))):=Z3 k (l3 (p,q,r))
theorem Ybj(t:P3):p3A t=.agg (p3C t):=eq_of_heq (HEq.refl _)
attribute [go_sem,go_sem ↓] ubi kaV YaA Ua1 zbH ZbL xbL jbl Ybj
def vaj(l:List AV)(K:AV->Prop):Prop:=
 match l with
 | [a,b]=>onP3 (λt=>onA (λm=>okPs 1048576 (l3 t)/\al m<=1048576/\K (.one (.lit (.bool true)))) b) a
 | _=>False
theorem Yax a b K:vaj [a,b] K=(onP3 (λt=>onA (λm=>okPs 1048576 (l3 t)/\al m<=1048576/\K (.one (.lit (.bool true)))) b) a):=propext Iff.rfl
@[congr] theorem xbR{K}{l l'}(h:l=l'):vaj l K=vaj l' K:=by subst h;rfl
attribute [go_sem,go_sem ↓] Yax
end Go.Abs
end
