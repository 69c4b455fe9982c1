/-
  Parts of the proof, merged: ArgD, PolyA.
-/
import Derived.Test.YtfichbefnpcdeaaGreatM5
set_option linter.unusedVariables false
set_option linter.unusedSimpArgs false
set_option linter.unnecessarySimpa false
section
namespace Go.Abs
open Go.Num
variable {H:Type} {enc:TypeId×Value->H} {bulk:DataW H->Nat} {P:Program} {w:World} {α:Type}
def okTn(n:Nat)(x:Tn):Prop:=rl x.1<=n/\WLR x.1
structure TnT (P:Program) (t:TypeId):Prop where
 ex:∃f0 f1:Field,P.underlying t=some (.struct #[f0,f1])/\f0.offset=0/\f1.offset=3/\P.cellsOf t=4/\P.cellsOf f0.type=3/\P.cellsOf f1.type=1/\RatT P f0.type/\P.underlying f1.type=some .bool
theorem xaH{t:TypeId}(B:Bk bulk)(h:TnT P t):Opens enc bulk P w t tC okTn:=by
 obtain⟨f0,f1,ht,o0,o1,hs,c0,c1,r0,r1⟩:=h.ex;have:=ZO (enc:=enc) (w:=w) B ht o0 (by omega) (by omega) yo (λ_ _ _ _ h=>h) (Wl (enc:=enc) (w:=w) B r0) (wJ (enc:=enc) (bulk:=bulk) (w:=w) r1)
 exact this.imp λn x h=>⟨h.1.1,h.1.2⟩
structure PsT (P:Program) (t:TypeId):Prop where
 ex:∃f0 f1:Field,P.underlying t=some (.struct #[f0,f1])/\f0.offset=0/\f1.offset=4/\P.cellsOf t=10/\P.cellsOf f0.type=4/\P.cellsOf f1.type=6/\TnT P f0.type/\ArcT P f1.type
structure PosesT (P:Program) (t:TypeId):Prop where
 ex:∃u,P.underlying t=some (.slice u)/\P.cellsOf u=10/\PsT P u
structure DyT (P:Program) (t:TypeId):Prop where
 ex:∃f0 f1 f2:Field,P.underlying t=some (.struct #[f0,f1,f2])/\f0.offset=0/\f1.offset=6/\f2.offset=12/\P.cellsOf t=15/\P.cellsOf f0.type=6/\P.cellsOf f1.type=6/\P.cellsOf f2.type=3/\ArcT P f0.type/\ArcT P f1.type/\RatT P f2.type
end Go.Abs
end
section
namespace Go.Num
open Go.Abs
abbrev Mo:=Int×Int×R
def i64r(n:Int):Prop:=-9223372036854775808<=n/\n<9223372036854775808
def WLM(t:Mo):Prop:=i64r t.1/\i64r t.2.1/\WLR t.2.2
def inM(t:Mo):Prop:=0<=t.1/\0<=t.2.1/\t.1+t.2.1<=24
def mo0:Mo:=(0,0,(false,[],[]))
def tri:Nat->Nat
 | 0=>0
 | n+1=>tri n+(n+1)
theorem wbg{a b:Nat}(h:a<=b):tri a<=tri b:=by
 induction b with
 | zero=>rw [Nat.le_zero.1 h];exact Nat.le_refl _
 | succ b ih=>
  rcases Nat.lt_or_ge b a with h1 | h1
  .rw [show a=b+1 by omega];exact Nat.le_refl _
  .have:=ih h1;show tri a<=tri b+(b+1);omega
def kM(t:Mo):Nat:=tri (t.1+t.2.1).toNat+t.1.toNat
end Go.Num
namespace Go.Abs
open Go.Num
def mC(t:Mo):List C:=[.lit (.int .i64 t.1),.lit (.int .i64 t.2.1),cb t.2.2,cn t.2.2,cd t.2.2]
def mA(t:Mo):AV:=.agg (mC t)
theorem zaV{x y:Mo}(h:mC x=mC y):x=y:=by
 simp only [mC,List.cons.injEq,and_true,C.lit.injEq,Value.int.injEq,true_and]at h;obtain⟨h1,h2,h3,h4,h5⟩:=h;have e1:=qk x.2.2 y.2.2 (by simp only [rA];rw [h3,h4,h5])
 exact Prod.ext h1 (Prod.ext h2 e1)
theorem waS(x y:Mo)(h:mA x=mA y):x=y:=zaV (by simpa [mA] using h)
def ms(l:List Mo):C:=.slice (l.map mC)
def msA(l:List Mo):AV:=.one (ms l)
theorem Qi{x y:List Mo}(h:x.map mC=y.map mC):x=y:=List.map_inj_right (λ_ _=>zaV) |>.1 h
theorem Zaz(x y:List Mo)(h:msA x=msA y):x=y:=by
 simp only [msA,ms,AV.one.injEq,C.slice.injEq]at h;exact Qi h
def onM(k:Mo->Prop)(a:AV):Prop:=onE mA (λx=>WLM x/\k x) a
@[congr] theorem vbn{k:Mo->Prop}{a a'}(h:a=a'):onM k a=onM k a':=by subst h;rfl
theorem Vbg(k:Mo->Prop)(x:Mo):onM k (.agg (mC x))=(WLM x/\k x):=Vj waS (λx=>WLM x/\k x) x
theorem Zbf(k:Mo->Prop)(i j:Int)(x:R):onM k (.agg [.lit (.int .i64 i),.lit (.int .i64 j),cb x,cn x,cd x])=(WLM (i,j,x)/\k (i,j,x)):=Vj waS (λx=>WLM x/\k x) (i,j,x)
def onMx(k:List Mo->Prop)(a:AV):Prop:=∃l,(a=.one (ms l)∨a=.one (.full (l.map mC))∨(a=.one .emp/\l=[]))/\(∀x∈l,WLM x)/\k l
@[congr] theorem qbn{k:List Mo->Prop}{a a'}(h:a=a'):onMx k a=onMx k a':=by subst h;rfl
theorem jaD(k:List Mo->Prop)(l:List Mo):onMx k (.one (.slice (l.map mC)))=((∀x∈l,WLM x)/\k l):=by
 refine propext ⟨λ⟨x,h,h1,h2⟩=>?_,λh=>⟨l,.inl rfl,h⟩⟩;rcases h with h | h | h
 .have:=Zaz l x h;subst this;exact⟨h1,h2⟩
 .simp at h
 .simp at h
theorem kaU(k:List Mo->Prop)(l:List Mo):onMx k (.one (.full (l.map mC)))=((∀x∈l,WLM x)/\k l):=by
 refine propext ⟨λ⟨x,h,h1,h2⟩=>?_,λh=>⟨l,.inr (.inl rfl),h⟩⟩;rcases h with h | h | h
 .simp [ms]at h
 .have:=Qi (x:=l) (y:=x) (by simpa using h);subst this;exact⟨h1,h2⟩
 .simp at h
theorem jaR(k:List Mo->Prop):onMx k (.one .emp)=k []:=by
 refine propext ⟨λ⟨x,h,h1,h2⟩=>?_,λh=>⟨[],.inr (.inr ⟨rfl,rfl⟩),by simp,h⟩⟩
 rcases h with h | h | h
 .simp [ms]at h
 .simp at h
 .obtain⟨_,rfl⟩:=h;exact h2
theorem uah(k:List Mo->Prop):onMx k (.one (.slice []))=k []:=by
 have:=jaD k [];simp only [List.map_nil,List.not_mem_nil,false_implies,implies_true,true_and]at this;exact this
theorem xaz(K:List C->Prop)(l:List Mo)(i:Nat):getE K (l.map mC) i=(i<l.length/\K (mC (l.getD i mo0))):=by
 simp only [getE,List.length_map,List.getElem?_map];refine propext ⟨λh=>⟨h.1,h.2 _ (by simp [h.1,List.getD_eq_getElem?_getD])⟩,λh=>⟨h.1,λe he=>?_⟩⟩
 simp [h.1]at he;subst he;have:=h.2;simpa [List.getD_eq_getElem?_getD,h.1] using this
theorem xaL(x:Mo):CleanL (mC x):=by
 intro c hc;simp only [mC,List.mem_cons,List.not_mem_nil,or_false]at hc;rcases hc with rfl | rfl | rfl | rfl | rfl
 .exact .lit _
 .exact .lit _
 .exact of_eq_true (xh _)
 .exact of_eq_true (wh _)
 .exact of_eq_true (Yh _)
theorem xO(l:List Mo):CleanR (l.map mC)=True:=eq_true λe he c hc=>by
 obtain⟨x,_,rfl⟩:=List.mem_map.1 he;exact xaL x c hc
theorem xU(l:List Mo):Clean (.slice (l.map mC))=True:=eq_true (.slice _ (of_eq_true (xO l)))
theorem waT(x:Mo):(mC x).length=5:=eq_of_heq (HEq.refl _)
theorem kaR(l:List Mo):(∀e∈l.map mC,e.length=5)=True:=eq_true λe he=>by
 obtain⟨x,_,rfl⟩:=List.mem_map.1 he;rfl
theorem ja6(l:List Mo)(n:Nat)(i j:Int)(x:R):(l.map mC).set n [.lit (.int .i64 i),.lit (.int .i64 j),cb x,cn x,cd x]=(l.set n (i,j,x)).map mC:=by
 rw [List.map_set];rfl
theorem Ja2(l:List Mo)(i:Nat)(x:Mo):(l.map mC).set i (mC x)=(l.set i x).map mC:=by rw [List.map_set]
theorem UaR(h:Nat->HB)(x:Mo):(mC x).map (datC h)=mC x:=eq_of_heq (HEq.refl _)
theorem qaT(x:Mo):(mC x).flatMap ownC=[]:=eq_of_heq (HEq.refl _)
theorem qa4(l:List Mo)(n:Nat):(l.map mC).take n=(l.take n).map mC:=by rw [List.map_take]
theorem ua2(l:List Mo)(n:Nat):(l.map mC).drop n=(l.drop n).map mC:=by rw [List.map_drop]
theorem qaW(l m:List Mo):l.map mC++m.map mC=(l++m).map mC:=by rw [List.map_append]
theorem UaS(l:List Mo):msA l=.one (.slice (l.map mC)):=eq_of_heq (HEq.refl _)
theorem qbf(l:List Mo):ms l=.slice (l.map mC):=eq_of_heq (HEq.refl _)
theorem Xbd(x:Mo):mA x=.agg (mC x):=eq_of_heq (HEq.refl _)
attribute [go_sem] Vbg Zbf jaD kaU jaR uah xaz xO xU waT kaR UaR qaT ja6 Ja2 qa4 ua2 qaW UaS qbf Xbd
attribute [go_sem ↓] Vbg Zbf jaD kaU jaR uah xaz xO xU waT kaR UaR qaT UaS qbf Xbd
end Go.Abs
end
