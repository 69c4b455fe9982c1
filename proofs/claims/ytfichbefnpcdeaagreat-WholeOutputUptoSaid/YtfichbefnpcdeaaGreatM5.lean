/-
  Parts of the proof, merged: ArgB, ArgC, PoseA.
-/
import Derived.Test.YtfichbefnpcdeaaGreatM4
import Derived.Below
import Derived.RowKit
import Derived.ChangeSame
set_option linter.unusedVariables false
set_option linter.unusedSimpArgs false
set_option linter.unnecessarySimpa false
section
namespace Go.Abs
open Go.Num
variable {H:Type} {enc:TypeId×Value->H} {bulk:DataW H->Nat} {P:Program} {w:World} {α:Type}
theorem Opens.imp{t:TypeId}{e:α->List C}{ok ok' : Nat->α->Prop}(h:Opens enc bulk P w t e ok)(hi:∀n a,ok n a->ok' n a):Opens enc bulk P w t e ok':=by
 intro fuel cs x hx;obtain⟨a,h1,h2⟩:=h fuel cs x hx;exact⟨a,hi _ _ h1,h2⟩
def okW(n:Nat)(l:List Nat):Prop:=l.length<=n/\WL l
def okR(n:Nat)(x:R):Prop:=rl x<=n/\WLR x
theorem vac(n n' : Nat)(a:List Nat)(h:n<=n')(k:okW n a):okW n' a:=⟨Nat.le_trans k.1 h,k.2⟩
theorem yo(n n' : Nat)(a:R)(h:n<=n')(k:okR n a):okR n' a:=⟨Nat.le_trans k.1 h,k.2⟩
theorem Jak{t u:TypeId}(B:Bk bulk)(ht:P.underlying t=some (.slice u))(hu:P.underlying u=some (.int .u32))(hc:P.cellsOf u=1):Opens enc bulk P w t (λl:List Nat=>[ws l]) okW:=by
 have:=Z3 (enc:=enc) (w:=w) (e:=wc) (ok:=λ_ n=>n<4294967296) B ht (by omega) (λa=>by rw [hc];rfl) (λa c hc=>by rw [wa5,List.mem_singleton]at hc;subst hc;exact .lit _) (λ_ _ _ _ h=>h) (qax hu)
 exact this.imp λn l h=>⟨h.1,λx hx=>h.2 x hx⟩
structure RatT (P:Program) (t:TypeId):Prop where
 ex:∃f0 f1 f2 u:_,P.underlying t=some (.struct #[f0,f1,f2])/\f0.offset=0/\f1.offset=1/\f2.offset=2/\P.cellsOf t=3/\P.cellsOf f0.type=1/\P.cellsOf f1.type=1/\P.cellsOf f2.type=1/\
  P.underlying f0.type=some .bool/\P.underlying f1.type=some (.slice u)/\P.underlying f2.type=some (.slice u)/\P.underlying u=some (.int .u32)/\P.cellsOf u=1
theorem Wl{t:TypeId}(B:Bk bulk)(h:RatT P t):Opens enc bulk P w t (λx:R=>[cb x,cn x,cd x]) okR:=by
 obtain⟨f0,f1,f2,u,ht,o0,o1,o2,hs,c0,c1,c2,t0,t1,t2,hu,hc⟩:=h.ex;have:=ZP (enc:=enc) (w:=w) B ht o0 (by omega) (by omega) (by omega) (λ_ _ _ _ h=>h) vac vac (wJ (enc:=enc) (bulk:=bulk) (w:=w) t0) (Jak (enc:=enc) (w:=w) B t1 hu hc) (Jak (enc:=enc) (w:=w) B t2 hu hc)
 exact this.imp λn x h=>⟨Nat.max_le.2 ⟨h.2.1.1,h.2.2.1⟩,h.2.1.2,h.2.2.2⟩
structure ArcT (P:Program) (t:TypeId):Prop where
 ex:∃f0 f1:Field,P.underlying t=some (.struct #[f0,f1])/\f0.offset=0/\f1.offset=3/\P.cellsOf t=6/\P.cellsOf f0.type=3/\P.cellsOf f1.type=3/\RatT P f0.type/\RatT P f1.type
structure ArcsT (P:Program) (t:TypeId):Prop where
 ex:∃u,P.underlying t=some (.slice u)/\P.cellsOf u=6/\ArcT P u
structure ArcssT (P:Program) (t:TypeId):Prop where
 ex:∃u,P.underlying t=some (.slice u)/\P.cellsOf u=1/\ArcsT P u
theorem JR{r:Reach}{b0:Nat}{t:TypeId}{fs:Array Field}{v:Value}{d:DataW H}{ps:List MemPlace}{e:α->List C}{ok:Nat->α->Prop}(ht:P.underlying t=some (.struct fs))(hval:Value.okWide P w r b0 t v)
  (hd:DataW.Trod enc P w 0 (λ_=>true) true t v d ps) (ho:Opens enc bulk P w t e ok):∃a,ok (bulk d) a/\RA M0 (Old w) w.heap (.agg (e a)) v:=by
 obtain⟨cs,rfl,_⟩:=Go.WideShapes.okWide_struct ht hval;obtain⟨fuel,hf⟩:=hd;obtain⟨x,hx,hr⟩:=ho _ _ _ hf;have e:(Value.agg cs).cells.toList=cs.toList:=by simp [Value.cells]
 rw [e]at hr;refine⟨x,hx,?_⟩;have:cs=⟨cs.toList⟩:=by simp
 rw [this];exact .agg _ _ hr
theorem Ret.below{w' : World}{I I' : Nat->Prop}(h:Ret w I w' I'):Go.RowKit.Below w.heap.size w w':=⟨h.os,h.tape,h.out,h.grow,λk hk=>h.keep k hk⟩
theorem Ret.frozen{w' : World}{I I' : Nat->Prop}(h:Ret w I w' I')(a:Addr)(hb:a.block<w.heap.size):w'.frozen? a=w.frozen? a:=h.below.frozen hb
theorem Vav{f:FuncId}{G:List AV->(AV->Prop)->Prop}{sc:Bool}{Γ:Nat->Spec}(hΓ:Holds P Γ)(hf:Γ f=.dat sc G){as:List AV}{vals:List Value}
  (hr:RAs M0 (Old w) w.heap as vals) (hc:∀a∈as,CleanV a) (hG:G as (λr=>r=.one (.lit (.bool true)))):Calls P f ⟨vals⟩ w λe w'=>e=.returned (.bool true)/\Go.RowKit.Below w.heap.size w w'/\∀a:Addr,a.block<w.heap.size->w'.frozen? a=w.frozen? a:=by
 have hs:=hΓ f;rw [hf]at hs;refine(hs.2.2 as vals w (Old w) _ (λb hb=>hb) hr hc hG).mono λe w' ⟨v,r,I',he,hK,hra,hcl,hret⟩=>?_;subst hK;cases hra with
 | one c v hrc=>
  cases hrc with
  | lit v hv=>exact⟨he,hret.below,hret.frozen⟩
theorem RAs.nil{m:M}{I:Nat->Prop}{h:Array Obj}:RAs m I h [] []:=⟨rfl,λi a v hc=>by simp at hc⟩
theorem RAs.cons{m:M}{I:Nat->Prop}{h:Array Obj}{a:AV}{v:Value}{l:List AV}{vs:List Value}(h1:RA m I h a v)(h2:RAs m I h l vs):RAs m I h (a::l) (v::vs):=
 ⟨by simp [h2.1],λi a' v' ha hv=>by
  cases i with
  | zero=>simp at ha hv;subst ha hv;exact h1
  | succ i=>exact h2.2 i a' v' (by simpa using ha) (by simpa using hv)⟩
end Go.Abs
end
section
namespace Go.Abs
open Go.Num
variable {P:Program}
def Gl:List (Nat×Spec)->Nat->Spec
 | [],_=>.none
 | (f,s)::L,g=>if g=f then s else Gl L g
theorem ZV:Holds P (Gl []):=λf=>trivial
theorem Qa{L:List (Nat×Spec)}{f:Nat}{s:Spec}(h:Holds P (Gl L))(hs:Sound P f s):Holds P (Gl ((f,s)::L)):=by
 intro g;unfold Gl;split
 .rename_i e;subst e;exact hs
 .exact h g
theorem XaM{w:World}{I:Nat->Prop}(hI:∀b,I b->b<w.heap.size):Ret w I w I:=
  { grow:=Nat.le_refl _,keep:=λ_ _=>rfl,sub:=λ_ h=>h,new:=λ_ h=>.inl h,imb:=hI,
    os:=rfl,tape:=rfl,out:=rfl }
theorem uav{f:FuncId}{G:List AV->(AV->Prop)->Prop}{g:Int->Int}(hE:Enters P f)(hg:Good G)
  (hG:∀args K,G args K->∃n:Int,args=[.one (.lit (.int .u32 n))]/\0<=n/\n<=4294967295/\K (.one (.lit (.int .i64 (g n)))))
  (hc:∀(n:Int) (w:World),0<=n->n<=4294967295->Calls P f #[.int .u32 n] w λe w'=>e=.returned (.int .i64 (g n))/\w' = w):Sound P f (.dat true G):=by
 refine⟨hE,hg,λargs vals w I K hI hr _ hGK=>?_⟩;obtain⟨n,rfl,h0,h1,hK⟩:=hG args K hGK;match vals,hr.1 with
 | [v],_=>
  have hv:=hr.2 0 _ v rfl rfl;cases hv with
  | one c v hv=>
   cases hv with
   | lit v hv=>
    refine(hc n w h0 h1).mono λe w' ⟨he,hw⟩=>?_;subst hw;exact⟨_,_,I,he,hK,.one _ _ (.lit _ rfl),.lit _,XaM hI⟩
theorem ybg(args:List AV)(K:AV->Prop)(h:lz_G args K):∃n:Int,args=[.one (.lit (.int .u32 n))]/\0<=n/\n<=4294967295/\K (.one (.lit (.int .i64 (32-(Lib.bitLen n.toNat:Int))))):=by
 match args,h with
 | [a],h=>
  obtain⟨k,n,rfl,rfl,h0,h1,hK⟩:=Qc h;exact⟨n,rfl,h0,by omega,hK⟩
end Go.Abs
end
section
namespace Go.Num
open Go.Abs
abbrev Tn:=R×Bool
abbrev Ps:=Tn×Arc
abbrev Dy:=Arc×Arc×R
abbrev Cp:=Arc×Arc×R×R×R×R×R
def WLP(p:Ps):Prop:=WLR p.1.1/\WLA p.2
def WLD(d:Dy):Prop:=WLA d.1/\WLA d.2.1/\WLR d.2.2
def WLC(c:Cp):Prop:=WLA c.1/\WLA c.2.1/\WLR c.2.2.1/\WLR c.2.2.2.1/\WLR c.2.2.2.2.1/\WLR c.2.2.2.2.2.1/\WLR c.2.2.2.2.2.2
def pl(p:Ps):Nat:=max (rl p.1.1) (al p.2)
def p0:Ps:=(((false,[],[]),false),((false,[],[]),(false,[],[])))
end Go.Num
namespace Go.Abs
open Go.Num
def onO{α:Type}(k:α->Prop):Option α->Prop
 | some x=>k x
 | none=>False
@[congr] theorem Wbn{α:Type}{k:α->Prop}{a a' : Option α}(h:a=a'):onO k a=onO k a':=by subst h;rfl
theorem WE{α:Type}(k:α->Prop)(x:α):onO k (some x)=k x:=rfl
theorem Jb{α:Type}{k:α->Prop}{a:Option α}:onO k a↔∃x,a=some x/\k x:=by
 cases a with
 | none=>simp [onO]
 | some x=>simp [onO]
noncomputable def dR(a b c:C):Option R:=@dite _ (∃x,a=cb x/\b=cn x/\c=cd x) (Classical.propDecidable _) (λh=>some h.choose) (λ_=>none)
theorem Wb{a b c:C}{x:R}:dR a b c=some x↔a=cb x/\b=cn x/\c=cd x:=by
 unfold dR;constructor
 .intro h;split at h
  .rename_i hx;simp only [zOI]at h;rw [<-h];exact hx.choose_spec
  .simp at h
 .intro h;have hx:∃x,a=cb x/\b=cn x/\c=cd x:=⟨x,h⟩;rw [dif_pos hx];have h2:=hx.choose_spec;have:rA hx.choose=rA x:=by
   simp only [rA];rw [<-h2.1,<-h2.2.1,<-h2.2.2,h.1,h.2.1,h.2.2]
  rw [qk _ _ this]
theorem dR_e(x:R):dR (cb x) (cn x) (cd x)=some x:=Wb.2 ⟨rfl,rfl,rfl⟩
theorem dR_r(b:Bool)(l m:List Nat):dR (.lit (.bool b)) (.slice (l.map wc)) (.slice (m.map wc))=some (b,l,m):=dR_e (b,l,m)
theorem dR_0:dR (.lit (.bool false)) (.slice []) (.slice [])=some (rcan 0):=by rw [uc];exact dR_e (false,[],[])
def dB:C->Option Bool
 | .lit (.bool b)=>some b
 | _=>none
theorem dB_e(b:Bool):dB (.lit (.bool b))=some b:=rfl
theorem kaD{c:C}{b:Bool}:dB c=some b↔c=.lit (.bool b):=by
 unfold dB;constructor
 .intro h;split at h
  .simp only [zOI]at h;rw [h]
  .simp at h
 .rintro rfl;rfl
def tC(t:Tn):List C:=[cb t.1,cn t.1,cd t.1,.lit (.bool t.2)]
def tA(t:Tn):AV:=.agg (tC t)
theorem vay(x y:Tn)(h:tA x=tA y):x=y:=by
 simp only [tA,tC,AV.agg.injEq,List.cons.injEq,C.lit.injEq,Value.bool.injEq,and_true]at h;obtain⟨h1,h2,h3,h4⟩:=h;exact Prod.ext (qk _ _ (by simp only [rA];rw [h1,h2,h3])) h4
def onT(k:Tn->Prop)(a:AV):Prop:=onE tA (λt=>WLR t.1/\k t) a
@[congr] theorem kbn{k:Tn->Prop}{a a'}(h:a=a'):onT k a=onT k a':=by subst h;rfl
theorem Wbb(k:Tn->Prop)(a b c d:C):onT k (.agg [a,b,c,d])=onO (λx=>onO (λh=>WLR x/\k (x,h)) (dB d)) (dR a b c):=by
 refine propext ⟨λ⟨t,h,h1⟩=>?_,λh=>?_⟩
 .simp only [tA,tC,AV.agg.injEq,List.cons.injEq,and_true]at h;obtain⟨rfl,rfl,rfl,rfl⟩:=h;simp only [dR_e,dB_e,WE];exact h1
 .obtain⟨x,h1,q1⟩:=Jb.1 h;obtain⟨e,h2,q2⟩:=Jb.1 q1;obtain⟨rfl,rfl,rfl⟩:=Wb.1 h1;rw [kaD]at h2;subst h2;exact⟨(x,e),rfl,q2⟩
theorem Za6{β:Type}{T:Tn->(β->Prop)->Prop}(h:∀x,GoodT (T x)){a:AV}:GoodT λK=>onT (λx=>T x K) a:=
 Yak (e:=tA) (T:=λt K=>WLR t.1/\T t K) vay λt=>GoodT.and (c:=WLR t.1) (T:=T t) λ_=>h t
theorem zbd(k:Arc->Prop)(a b c d e f:C):onA k (.agg [a,b,c,d,e,f])=onO (λx=>onO (λy=>WLA (x,y)/\k (x,y)) (dR d e f)) (dR a b c):=by
 refine propext ⟨λ⟨t,h,h1⟩=>?_,λh=>?_⟩
 .simp only [aA,aC,AV.agg.injEq,List.cons.injEq,and_true]at h;obtain⟨rfl,rfl,rfl,rfl,rfl,rfl⟩:=h;simp only [dR_e,dB_e,WE];exact h1
 .obtain⟨x,h1,q1⟩:=Jb.1 h;obtain⟨y,h2,q2⟩:=Jb.1 q1;obtain⟨rfl,rfl,rfl⟩:=Wb.1 h1;obtain⟨rfl,rfl,rfl⟩:=Wb.1 h2;exact⟨(x,y),rfl,q2⟩
def pC(p:Ps):List C:=[cb p.1.1,cn p.1.1,cd p.1.1,.lit (.bool p.1.2),cb p.2.1,cn p.2.1,cd p.2.1,cb p.2.2,cn p.2.2,cd p.2.2]
def poA(p:Ps):AV:=.agg (pC p)
theorem uaP{x y:Ps}(h:pC x=pC y):x=y:=by
 simp only [pC,List.cons.injEq,C.lit.injEq,Value.bool.injEq,and_true]at h;obtain⟨h1,h2,h3,h4,h5,h6,h7,h8,h9,h10⟩:=h;exact Prod.ext (Prod.ext (qk _ _ (by simp only [rA];rw [h1,h2,h3])) h4) (Prod.ext (qk _ _ (by simp only [rA];rw [h5,h6,h7])) (qk _ _ (by simp only [rA];rw [h8,h9,h10])))
theorem Va4(x y:Ps)(h:poA x=poA y):x=y:=uaP (by simpa [poA] using h)
def onPo(k:Ps->Prop)(a:AV):Prop:=onE poA (λp=>WLP p/\k p) a
@[congr] theorem Zbn{k:Ps->Prop}{a a'}(h:a=a'):onPo k a=onPo k a':=by subst h;rfl
theorem kaQ(k:Ps->Prop)(p:Ps):onPo k (.agg (pC p))=(WLP p/\k p):=Vj Va4 (λp=>WLP p/\k p) p
theorem zaU(k:Ps->Prop)(a b c d e f g h i j:C):onPo k (.agg [a,b,c,d,e,f,g,h,i,j])=onO (λx=>onO (λq=>onO (λy=>onO (λz=>WLP ((x,q),(y,z))/\k ((x,q),(y,z))) (dR h i j)) (dR e f g)) (dB d)) (dR a b c):=by
 refine propext ⟨λ⟨t,h,h1⟩=>?_,λh=>?_⟩
 .simp only [poA,pC,AV.agg.injEq,List.cons.injEq,and_true]at h;obtain⟨rfl,rfl,rfl,rfl,rfl,rfl,rfl,rfl,rfl,rfl⟩:=h;simp only [dR_e,dB_e,WE];exact h1
 .obtain⟨x,h1,q1⟩:=Jb.1 h;obtain⟨q,h2,q2⟩:=Jb.1 q1;obtain⟨y,h3,q3⟩:=Jb.1 q2;obtain⟨z,h4,q4⟩:=Jb.1 q3;obtain⟨rfl,rfl,rfl⟩:=Wb.1 h1;obtain⟨rfl,rfl,rfl⟩:=Wb.1 h3;obtain⟨rfl,rfl,rfl⟩:=Wb.1 h4;rw [kaD]at h2;subst h2;exact⟨((x,q),(y,z)),rfl,q4⟩
def dC(d:Dy):List C:=[cb d.1.1,cn d.1.1,cd d.1.1,cb d.1.2,cn d.1.2,cd d.1.2,cb d.2.1.1,cn d.2.1.1,cd d.2.1.1,cb d.2.1.2,cn d.2.1.2,cd d.2.1.2,cb d.2.2,cn d.2.2,cd d.2.2]
def dA(d:Dy):AV:=.agg (dC d)
def onDy(k:Dy->Prop)(a:AV):Prop:=onE dA (λd=>WLD d/\k d) a
@[congr] theorem Qbj{k:Dy->Prop}{a a'}(h:a=a'):onDy k a=onDy k a':=by subst h;rfl
theorem UaU(k:Dy->Prop)(a b c d e f g h i j l m n o p:C):onDy k (.agg [a,b,c,d,e,f,g,h,i,j,l,m,n,o,p])=onO (λx=>onO (λy=>onO (λz=>onO (λu=>onO (λv=>WLD ((x,y),(z,u),v)/\k ((x,y),(z,u),v)) (dR n o p)) (dR j l m)) (dR g h i)) (dR d e f)) (dR a b c):=by
 refine propext ⟨λ⟨t,h,h1⟩=>?_,λh=>?_⟩
 .simp only [dA,dC,AV.agg.injEq,List.cons.injEq,and_true]at h;obtain⟨rfl,rfl,rfl,rfl,rfl,rfl,rfl,rfl,rfl,rfl,rfl,rfl,rfl,rfl,rfl⟩:=h;simp only [dR_e,dB_e,WE];exact h1
 .obtain⟨x,h1,q1⟩:=Jb.1 h;obtain⟨y,h2,q2⟩:=Jb.1 q1;obtain⟨z,h3,q3⟩:=Jb.1 q2;obtain⟨u,h4,q4⟩:=Jb.1 q3;obtain⟨v,h5,q5⟩:=Jb.1 q4;obtain⟨rfl,rfl,rfl⟩:=Wb.1 h1;obtain⟨rfl,rfl,rfl⟩:=Wb.1 h2;obtain⟨rfl,rfl,rfl⟩:=Wb.1 h3;obtain⟨rfl,rfl,rfl⟩:=Wb.1 h4;obtain⟨rfl,rfl,rfl⟩:=Wb.1 h5;exact⟨((x,y),(z,u),v),rfl,q5⟩
def psC(l:List Ps):C:=.slice (l.map pC)
def psA(l:List Ps):AV:=.one (psC l)
theorem JaZ(x y:List Ps)(h:psA x=psA y):x=y:=by
 simp only [psA,psC,AV.one.injEq,C.slice.injEq]at h;exact List.map_inj_right (λ_ _=>uaP) |>.1 h
def onPs(k:List Ps->Prop)(a:AV):Prop:=onE psA (λl=>(∀p∈l,WLP p)/\k l) a
@[congr] theorem jbk{k:List Ps->Prop}{a a'}(h:a=a'):onPs k a=onPs k a':=by subst h;rfl
theorem YaD(k:List Ps->Prop)(l:List Ps):onPs k (.one (.slice (l.map pC)))=((∀p∈l,WLP p)/\k l):=Vj JaZ (λl=>(∀p∈l,WLP p)/\k l) l
theorem YaN(l:List Ps):psA l=.one (.slice (l.map pC)):=eq_of_heq (HEq.refl _)
theorem Zay(K:List C->Prop)(l:List Ps)(i:Nat):getE K (l.map pC) i=(i<l.length/\K (pC (l.getD i p0))):=by
 simp only [getE,List.length_map,List.getElem?_map];refine propext ⟨λh=>⟨h.1,h.2 _ (by simp [h.1,List.getD_eq_getElem?_getD])⟩,λh=>⟨h.1,λe he=>?_⟩⟩
 simp [h.1]at he;subst he;have:=h.2;simpa [List.getD_eq_getElem?_getD,h.1] using this
theorem Uz(p:Ps):CleanL (pC p):=by
 intro c hc;simp only [pC,List.mem_cons,List.not_mem_nil,or_false]at hc;rcases hc with rfl | rfl | rfl | rfl | rfl | rfl | rfl | rfl | rfl | rfl
 .exact of_eq_true (xh _)
 .exact of_eq_true (wh _)
 .exact of_eq_true (Yh _)
 .exact .lit _
 .exact of_eq_true (xh _)
 .exact of_eq_true (wh _)
 .exact of_eq_true (Yh _)
 .exact of_eq_true (xh _)
 .exact of_eq_true (wh _)
 .exact of_eq_true (Yh _)
theorem QP(l:List Ps):CleanR (l.map pC)=True:=eq_true λe he c hc=>by
 obtain⟨x,_,rfl⟩:=List.mem_map.1 he;exact Uz x c hc
theorem QX(l:List Ps):Clean (.slice (l.map pC))=True:=eq_true (.slice _ (of_eq_true (QP l)))
theorem jy(p:Ps):(pC p).length=10:=eq_of_heq (HEq.refl _)
theorem YaR(l:List Ps):(∀e∈l.map pC,e.length=10)=True:=eq_true λe he=>by
 obtain⟨x,_,rfl⟩:=List.mem_map.1 he;rfl
theorem vaO(h:Nat->HB)(p:Ps):(pC p).map (datC h)=pC p:=eq_of_heq (HEq.refl _)
theorem JaR(p:Ps):(pC p).flatMap ownC=[]:=eq_of_heq (HEq.refl _)
attribute [go_sem,go_sem ↓] WE dR_e dR_r dR_0 dB_e Wbb zbd kaQ zaU UaU YaD YaN Zay QP QX jy YaR vaO JaR
end Go.Abs
end
