/-
  Parts of the proof, merged: BurO.
-/
import Derived.Test.YtneiiodebbmcaaaGreatDoorM12
set_option linter.unusedVariables false
set_option linter.unusedSimpArgs false
set_option maxRecDepth 100000
section
namespace Go.Num
open Go.Abs
abbrev Gd:=Arc×R×Int×Int
def i64ok(n:Int):Prop:=-9223372036854775808<=n/\n<=9223372036854775807
def WLG(g:Gd):Prop:=WLA g.1/\WLR g.2.1/\i64ok g.2.2.1/\i64ok g.2.2.2
def gl(g:Gd):Nat:=max (al g.1) (rl g.2.1)
def atQ(g:Gd)(i j:Nat):V2:=(rv g.1.1+(i:Int)*rv g.2.1,rv g.1.2+(j:Int)*rv g.2.1)
def rngB(g:Gd):Bool:=decide (rv g.2.1<=0) || (decide (g.2.2.1<1) || (decide (16<g.2.2.1) || (decide (g.2.2.2<1) || decide (16<g.2.2.2))))
def gridC(g:Gd):Nat:=if avld g.1=false∨vldR g.2.1=false then 2 else if rngB g=true then 3 else 0
def hit(l:List Ps)(g:Gd)(j:Nat):Nat->List V2
 | 0=>[]
 | i+1=>if dtL l (atQ g i j)=0 then hit l g j i++[atQ g i j] else hit l g j i
def hits(l:List Ps)(g:Gd):Nat->List V2
 | 0=>[]
 | j+1=>hits l g j++hit l g j g.2.2.1.toNat
def srC(l:List Ps)(g:Gd):Nat:=if Vd l≠0 then Vd l else gridC g
def srL(l:List Ps)(g:Gd):List V2:=if srC l g=0 then hits l g g.2.2.2.toNat else []
end Go.Num
namespace Go.Abs
open Go.Num
variable {P:Program} {Γ:Nat->Spec}
def gdC(g:Gd):List C:=[cb g.1.1,cn g.1.1,cd g.1.1,cb g.1.2,cn g.1.2,cd g.1.2,cb g.2.1,cn g.2.1,cd g.2.1,.lit (.int .i64 g.2.2.1),.lit (.int .i64 g.2.2.2)]
def gdA(g:Gd):AV:=.agg (gdC g)
theorem jbE(x y:Gd)(h:gdA x=gdA y):x=y:=by
 simp only [gdA,gdC,AV.agg.injEq,List.cons.injEq,and_true]at h;obtain⟨h1,h2,h3,h4,h5,h6,h7,h8,h9,h10,h11⟩:=h;have e1:aC x.1=aC y.1:=by simp only [aC,h1,h2,h3,h4,h5,h6]
 simp only [C.lit.injEq,Value.int.injEq,true_and]at h10 h11;exact Prod.ext (wa9 e1) (Prod.ext (YbT h7 h8 h9) (Prod.ext h10 h11))
def onGd(k:Gd->Prop)(a:AV):Prop:=onE gdA (λg=>WLG g/\k g) a
@[congr] theorem jb9{k:Gd->Prop}{a a'}(h:a=a'):onGd k a=onGd k a':=by subst h;rfl
theorem vbt(k:Gd->Prop)(g:Gd):onGd k (.agg [cb g.1.1,cn g.1.1,cd g.1.1,cb g.1.2,cn g.1.2,cd g.1.2,cb g.2.1,cn g.2.1,cd g.2.1,.lit (.int .i64 g.2.2.1),.lit (.int .i64 g.2.2.2)])=(WLG g/\k g):=
 propext ⟨λ⟨x,h,hk⟩=>by have:=jbE x g h.symm;subst this;exact hk,λh=>⟨g,rfl,h⟩⟩
theorem ybt(g:Gd):gdA g=.agg [cb g.1.1,cn g.1.1,cd g.1.1,cb g.1.2,cn g.1.2,cd g.1.2,cb g.2.1,cn g.2.1,cd g.2.1,.lit (.int .i64 g.2.2.1),.lit (.int .i64 g.2.2.2)]:=eq_of_heq (HEq.refl _)
attribute [go_sem,go_sem ↓] vbt ybt
def Wav(l:List AV)(K:AV->Prop):Prop:=
 match l with
 | [a]=>onGd (λg=>gl g<=1000/\K (.one (.lit (.int .i64 (gridC g:Nat))))) a
 | _=>False
theorem kaI a K:Wav [a] K=(onGd (λg=>gl g<=1000/\K (.one (.lit (.int .i64 (gridC g:Nat))))) a):=propext Iff.rfl
@[congr] theorem qb2{K}{l l'}(h:l=l'):Wav l K=Wav l' K:=by subst h;rfl
attribute [go_sem,go_sem ↓] kaI
def kas(l:List AV)(K:AV->Prop):Prop:=
 match l with
 | [a,i,j]=>onGd (λg=>asInt (λk i=>asInt (λk' j=>k=.i64/\k' = .i64/\(0<=i/\i<=16)/\(0<=j/\j<=16)/\gl g<=1000/\K (pQ (atQ g i.toNat j.toNat))) j) i) a
 | _=>False
theorem Qaz a i j K:kas [a,i,j] K=(onGd (λg=>asInt (λk i=>asInt (λk' j=>k=.i64/\k' = .i64/\(0<=i/\i<=16)/\(0<=j/\j<=16)/\gl g<=1000/\K (pQ (atQ g i.toNat j.toNat))) j) i) a):=propext Iff.rfl
@[congr] theorem Zb5{K}{l l'}(h:l=l'):kas l K=kas l' K:=by subst h;rfl
attribute [go_sem,go_sem ↓] Qaz
def ZR(l:List AV)(K:AV->Prop):Prop:=
 match l with
 | [a,b]=>onPs (λl=>onGd (λg=>okPs 1000 l/\gl g<=1000/\srC l g=0/\K (qsA (srL l g))) b) a
 | _=>False
theorem W2 a b K:ZR [a,b] K=(onPs (λl=>onGd (λg=>okPs 1000 l/\gl g<=1000/\srC l g=0/\K (qsA (srL l g))) b) a):=propext Iff.rfl
@[congr] theorem qbN{K}{l l'}(h:l=l'):ZR l K=ZR l' K:=by subst h;rfl
attribute [go_sem,go_sem ↓] W2
def yR(tE:Nat)(l:List AV)(K:AV->Prop):Prop:=
 match l with
 | [a,b]=>onPs (λl=>onGd (λg=>okPs 1000 l/\gl g<=1000/\K (.tup [qsA (srL l g),errV tE (srC l g)])) b) a
 | _=>False
theorem wX tE a b K:yR tE [a,b] K=(onPs (λl=>onGd (λg=>okPs 1000 l/\gl g<=1000/\K (.tup [qsA (srL l g),errV tE (srC l g)])) b) a):=propext Iff.rfl
@[congr] theorem kbM tE{K}{l l'}(h:l=l'):yR tE l K=yR tE l' K:=by subst h;rfl
attribute [go_sem,go_sem ↓] wX
end Go.Abs
end
