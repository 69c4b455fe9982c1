/-
  Parts of the proof, merged: PoseF, PoseG, PoseH, PoseJ, PolyB, PolyP, PolyQ, PolyC, PolyD, PolyR.
-/
import Derived.Test.YtfichbefnpcdeaaGreatM8
set_option linter.unusedVariables false
set_option linter.unusedSimpArgs false
set_option linter.unnecessarySimpa false
set_option maxRecDepth 100000
section
namespace Go.Num
open Go.Abs
def pt(i:Nat)(A:List V2):V2:=A.getD i (0,0)
abbrev DyQ:=V2×V2×Rat
def d0:DyQ:=((0,0),(0,0),0)
end Go.Num
namespace Go.Abs
open Go.Num
variable {P:Program} {Γ:Nat->Spec}
def dqA(d:DyQ):AV:=.agg [cb (rcan d.1.1),cn (rcan d.1.1),cd (rcan d.1.1),cb (rcan d.1.2),cn (rcan d.1.2),cd (rcan d.1.2),cb (rcan d.2.1.1),cn (rcan d.2.1.1),cd (rcan d.2.1.1),cb (rcan d.2.1.2),cn (rcan d.2.1.2),cd (rcan d.2.1.2),cb (rcan d.2.2),cn (rcan d.2.2),cd (rcan d.2.2)]
theorem jaQ(d:DyQ):dqA d=.agg [cb (rcan d.1.1),cn (rcan d.1.1),cd (rcan d.1.1),cb (rcan d.1.2),cn (rcan d.1.2),cd (rcan d.1.2),cb (rcan d.2.1.1),cn (rcan d.2.1.1),cd (rcan d.2.1.1),cb (rcan d.2.1.2),cn (rcan d.2.1.2),cd (rcan d.2.1.2),cb (rcan d.2.2),cn (rcan d.2.2),cd (rcan d.2.2)]:=eq_of_heq (HEq.refl _)
attribute [go_sem,go_sem ↓] jaQ
end Go.Abs
end
section
namespace Go.Num
open Go.Abs
def o2:Arc:=(rcan 0,rcan 0)
end Go.Num
namespace Go.Abs
open Go.Num
variable {P:Program} {Γ:Nat->Spec}
end Go.Abs
end
section
namespace Go.Num
open Go.Abs
instance decAR:DecidableEq (Arc×R):=instDecidableEqProd
instance decDy:DecidableEq Dy:=instDecidableEqProd
end Go.Num
namespace Go.Abs
open Go.Num
variable {P:Program} {Γ:Nat->Spec}
end Go.Abs
end
section
namespace Go.Num
open Go.Abs
end Go.Num
namespace Go.Abs
open Go.Num
variable {P:Program} {Γ:Nat->Spec}
end Go.Abs
end
section
namespace Go.Abs
open Go.Num
variable {P:Program} {Γ:Nat->Spec}
end Go.Abs
end
section
namespace Go.Num
abbrev MQ:=Int×Int×Rat
abbrev BQ:=List MQ
def mv(t:Mo):MQ:=(t.1,t.2.1,rv t.2.2)
def mcan(t:MQ):Mo:=(t.1,t.2.1,rcan t.2.2)
theorem ja7(t:MQ):mv (mcan t)=t:=by unfold mv mcan;simp only [xc]
def kq(t:MQ):Nat:=tri (t.1+t.2.1).toNat+t.1.toNat
def inQ(t:MQ):Prop:=0<=t.1/\0<=t.2.1/\t.1+t.2.1<=24
def pw(x:Rat):Nat->Rat
 | 0=>1
 | n+1=>pw x n*x
def cf:BQ->Int->Int->Rat
 | [],_,_=>0
 | t::l,i,j=>(if t.1=i/\t.2.1=j then t.2.2 else 0)+cf l i j
def mev(t:MQ)(x y:Rat):Rat:=t.2.2*(pw x t.1.toNat*pw y t.2.1.toNat)
def ev:BQ->Rat->Rat->Rat
 | [],_,_=>0
 | t::l,x,y=>mev t x y+ev l x y
def sz:BQ->Nat
 | []=>0
 | t::l=>rz t.2.2+2+sz l
theorem YD(l m:BQ):sz (l++m)=sz l+sz m:=by
 induction l with
 | nil=>simp only [List.nil_append,sz,Nat.zero_add]
 | cons t l ih=>simp only [List.cons_append,sz,ih,Nat.add_assoc]
def ins(t:MQ):BQ->BQ
 | []=>[t]
 | u::p=>if kq t<kq u then t::u::p else if kq t=kq u then (u.1,u.2.1,u.2.2+t.2.2)::p else u::ins t p
def nfo(l:BQ):BQ:=l.foldr ins []
def nz(t:MQ):Bool:=decide (t.2.2≠0)
def nf(l:BQ):BQ:=(nfo l).filter nz
def StrM(l:BQ):Prop:=l.Pairwise λx y=>kq x<kq y
def InQ(l:BQ):Prop:=∀t∈l,inQ t
structure Canon (p:BQ):Prop where
 str:StrM p
 ins:InQ p
 nz:∀t∈p,t.2.2≠0
theorem vaM{t:MQ}{l:BQ}:InQ (t::l)↔inQ t/\InQ l:=by unfold InQ;simp only [List.mem_cons,forall_eq_or_imp]
theorem YJ{l m:BQ}:InQ (l++m)↔InQ l/\InQ m:=by
 unfold InQ;simp only [List.mem_append];exact⟨λh=>⟨λx hx=>h x (.inl hx),λx hx=>h x (.inr hx)⟩,λh x hx=>hx.elim (h.1 x) (h.2 x)⟩
theorem Q0{t u:MQ}{p:BQ}(h:u∈ins t p):(u.1=t.1/\u.2.1=t.2.1)∨∃v∈p,u.1=v.1/\u.2.1=v.2.1:=by
 induction p with
 | nil=>simp only [ins,List.mem_singleton]at h;subst h;exact .inl ⟨rfl,rfl⟩
 | cons w p ih=>
  simp only [ins]at h;split at h
  .rcases List.mem_cons.1 h with rfl | h
   .exact .inl ⟨rfl,rfl⟩
   .exact .inr ⟨u,h,rfl,rfl⟩
  .split at h
   .rcases List.mem_cons.1 h with rfl | h
    .exact .inr ⟨w,by simp,rfl,rfl⟩
    .exact .inr ⟨u,by simp [h],rfl,rfl⟩
   .rcases List.mem_cons.1 h with rfl | h
    .exact .inr ⟨u,by simp,rfl,rfl⟩
    .rcases ih h with h | ⟨v,hv,h⟩
     .exact .inl h
     .exact .inr ⟨v,by simp [hv],h⟩
theorem kq_c{s t:MQ}(h:s.1=t.1/\s.2.1=t.2.1):kq s=kq t:=by unfold kq;rw [h.1,h.2]
theorem Vbi{s t:MQ}(h:s.1=t.1/\s.2.1=t.2.1)(ht:inQ t):inQ s:=by unfold inQ at *;rw [h.1,h.2];exact ht
theorem Wa6{t:MQ}{p:BQ}(ht:inQ t)(hp:InQ p):InQ (ins t p):=λu hu=>by
 rcases Q0 hu with h | ⟨v,hv,h⟩
 .exact Vbi h ht
 .exact Vbi h (hp v hv)
theorem Za5{t:MQ}{p:BQ}(hp:StrM p):StrM (ins t p):=by
 induction p with
 | nil=>simp only [ins];exact List.pairwise_singleton _ _
 | cons w p ih=>
  obtain⟨h1,h2⟩:=List.pairwise_cons.1 hp;simp only [ins];split
  .rename_i hlt;refine List.pairwise_cons.2 ⟨λu hu=>?_,hp⟩;rcases List.mem_cons.1 hu with rfl | hu
   .exact hlt
   .exact Nat.lt_trans hlt (h1 u hu)
  .split
   .exact List.pairwise_cons.2 ⟨λu hu=>h1 u hu,h2⟩
   .rename_i hlt hne;refine List.pairwise_cons.2 ⟨λu hu=>?_,ih h2⟩;rcases Q0 hu with h | ⟨v,hv,h⟩
    .rw [kq_c h];omega
    .rw [kq_c h];exact h1 v hv
theorem wbh(t:MQ)(p:BQ):sz (ins t p)<=sz (t::p):=by
 induction p with
 | nil=>exact Nat.le_refl _
 | cons w p ih=>
  simp only [ins];split
  .exact Nat.le_refl _
  .split
   .have:=ZG w.2.2 t.2.2;simp only [sz];omega
   .simp only [sz]at ih ⊢;omega
theorem Ja9{l:BQ}(h:InQ l):InQ (nfo l):=by
 induction l with
 | nil=>exact h
 | cons t l ih=>obtain⟨h1,h2⟩:=vaM.1 h;exact Wa6 h1 (ih h2)
theorem YaV(l:BQ):StrM (nfo l):=by
 induction l with
 | nil=>exact List.Pairwise.nil
 | cons t l ih=>exact Za5 ih
theorem kbb(l:BQ):sz (nfo l)<=sz l:=by
 induction l with
 | nil=>exact Nat.le_refl _
 | cons t l ih=>
  have:=wbh t (nfo l);show sz (ins t (nfo l))<=_;simp only [sz]at this ⊢;omega
theorem zbb(p:BQ):sz (p.filter nz)<=sz p:=by
 induction p with
 | nil=>exact Nat.le_refl _
 | cons t p ih=>
  by_cases h:t.2.2=0
  .rw [List.filter_cons_of_neg (by simp [nz,h])]
   simp only [sz];omega
  .rw [List.filter_cons_of_pos (by simp [nz,h])]
   simp only [sz];omega
theorem Xax{p:BQ}(hs:StrM p)(hi:InQ p):Canon (p.filter nz):=
 ⟨List.Pairwise.filter _ hs,λt ht=>hi t (List.mem_filter.1 ht).1,λt ht=>by
  have:=(List.mem_filter.1 ht).2;simpa [nz] using this⟩
theorem Vu{l:BQ}(h:InQ l):Canon (nf l):=Xax (YaV l) (Ja9 h)
theorem kaq(l:BQ):sz (nf l)<=sz l:=Nat.le_trans (zbb _) (kbb l)
theorem zaq:∀{p:BQ} {a N:Nat},StrM p->(∀t∈p,a<=kq t/\kq t<N)->p.length<=N-a
 | [],_,_,_,_=>Nat.zero_le _
 | t::p,a,N,hs,h=>by
  obtain⟨h1,h2⟩:=List.pairwise_cons.1 hs;have ht:=h t (by simp)
  have:=zaq (p:=p) (a:=kq t+1) (N:=N) h2 λu hu=>⟨h1 u hu,(h u (by simp [hu])).2⟩
  simp only [List.length_cons];omega
def Deg(d:Nat)(p:BQ):Prop:=∀t∈p,t.1+t.2.1<=d
theorem Y1{p:BQ}(h:Canon p){d:Nat}(hd:Deg d p):p.length<=tri (d+1):=zaq (a:=0) h.str λt ht=>⟨Nat.zero_le _,by
 have h1:=hd t ht;obtain⟨a1,a2,a3⟩:=h.ins t ht;have h2:=wbg (a:=(t.1+t.2.1).toNat) (b:=d) (by omega)
 show kq t<tri d+(d+1);unfold kq;omega⟩
theorem WaV{t:MQ}{p:BQ}{d:Nat}(ht:t.1+t.2.1<=d)(hp:Deg d p):Deg d (ins t p):=λu hu=>by
 rcases Q0 hu with⟨h1,h2⟩ | ⟨v,hv,h1,h2⟩
 .rw [h1,h2];exact ht
 .rw [h1,h2];exact hp v hv
theorem YV{l:BQ}{d:Nat}(h:Deg d l):Deg d (nf l):=by
 intro t ht;have:Deg d (nfo l):=by
  clear ht
  induction l with
  | nil=>exact h
  | cons u l ih=>exact WaV (h u (by simp)) (ih λv hv=>h v (by simp [hv]))
 exact this t (List.mem_filter.1 ht).1
theorem zJ{l m:BQ}{d:Nat}(hl:Deg d l)(hm:Deg d m):Deg d (l++m):=λt ht=>(List.mem_append.1 ht).elim (hl t) (hm t)
theorem WaH{l:BQ}{d e:Nat}(hl:Deg d l)(h:d<=e):Deg e l:=λt ht=>by have:=hl t ht;omega
def sclL(c:Rat)(p:BQ):BQ:=p.map λt=>(t.1,t.2.1,c*t.2.2)
def mulT(a b:MQ):MQ:=(a.1+b.1,a.2.1+b.2.1,a.2.2*b.2.2)
def mulL(p q:BQ):BQ:=p.flatMap λa=>q.map λb=>mulT a b
theorem Wa3{c:Rat}{p:BQ}(h:InQ p):InQ (sclL c p):=λt ht=>by
 obtain⟨u,hu,rfl⟩:=List.mem_map.1 ht;exact h u hu
theorem jaM{c:Rat}{p:BQ}{d:Nat}(h:Deg d p):Deg d (sclL c p):=λt ht=>by
 obtain⟨u,hu,rfl⟩:=List.mem_map.1 ht;exact h u hu
theorem Qav(a:MQ)(p q:BQ):mulL (a::p) q=(q.map λb=>mulT a b)++mulL p q:=by unfold mulL;rw [List.flatMap_cons]
theorem za3{p q:BQ}{d e:Nat}(hp:InQ p)(hq:InQ q)(hd:Deg d p)(he:Deg e q)(h:d+e<=24):InQ (mulL p q):=λt ht=>by
 obtain⟨a,ha,hb⟩:=List.mem_flatMap.1 ht;obtain⟨b,hb',rfl⟩:=List.mem_map.1 hb;have h1:=hp a ha;have h2:=hq b hb';have h3:=hd a ha;have h4:=he b hb';unfold inQ mulT at *
 simp only;omega
theorem YaG{p q:BQ}{d e:Nat}(hd:Deg d p)(he:Deg e q):Deg (d+e) (mulL p q):=λt ht=>by
 obtain⟨a,ha,hb⟩:=List.mem_flatMap.1 ht;obtain⟨b,hb',rfl⟩:=List.mem_map.1 hb;have h3:=hd a ha;have h4:=he b hb';unfold mulT;simp only;omega
theorem Xa3(a:MQ)(q:BQ):sz (q.map λb=>mulT a b)<=q.length*(rz a.2.2+2)+sz q:=by
 induction q with
 | nil=>exact Nat.zero_le _
 | cons b q ih=>
  have:=XI a.2.2 b.2.2;simp only [List.map_cons,List.length_cons,Nat.add_mul,sz,mulT]at ih ⊢;omega
theorem qa3(p q:BQ):sz (mulL p q)<=q.length*sz p+p.length*sz q:=by
 induction p with
 | nil=>exact Nat.zero_le _
 | cons a p ih=>
  have:=Xa3 a q;rw [Qav,YD];simp only [sz,List.length_cons,Nat.mul_add,Nat.add_mul]at *;omega
def addB(p q:BQ):BQ:=nf (p++q)
def subB(p q:BQ):BQ:=nf (p++sclL (-1) q)
def mulB(p q:BQ):BQ:=nf (mulL p q)
def sclB(c:Rat)(p:BQ):BQ:=nf (sclL c p)
end Go.Num
end
section
namespace Go.Num
instance(t:Mo):Decidable (inM t):=by unfold inM;infer_instance
def badO(o:Option Mo)(t:Mo):Bool:=
 match o with
 | none=>false
 | some s=>decide (kM t<=kM s)
def chkT(o:Option Mo)(t:Mo):Nat:=if ¬inM t then 3 else if vldR t.2.2=false then 2 else if rv t.2.2=0 then 8 else if badO o t=true then 12 else 0
def chkG:Option Mo->List Mo->Nat
 | _,[]=>0
 | o,t::l=>if chkT o t≠0 then chkT o t else chkG (some t) l
def chkB(l:List Mo):Nat:=if 325<l.length then 4 else chkG none l
def mcs(p:BQ):List Mo:=p.map mcan
theorem Jap(p:BQ):(mcs p).map mv=p:=by
 unfold mcs;rw [List.map_map];have:mv ∘ mcan=id:=funext λt=>ja7 t;rw [this,List.map_id]
def degB(p:BQ):Int:=match p.getLast? with
 | none=>-1
 | some t=>t.1+t.2.1
structure PB (d s:Nat) (p:BQ):Prop where
 canon:Canon p
 deg:Deg d p
 size:sz p<=s
theorem PB.mono{d s d' s' : Nat}{p:BQ}(h:PB d s p)(hd:d<=d')(hs:s<=s'):PB d' s' p:=⟨h.canon,WaH h.deg hd,Nat.le_trans h.size hs⟩
theorem PB.add{d s s' : Nat}{p q:BQ}(h:PB d s p)(h' : PB d s' q):PB d (s+s') (addB p q):=
 ⟨Vu (YJ.2 ⟨h.canon.ins,h'.canon.ins⟩),YV (zJ h.deg h'.deg),by
  have:=kaq (p++q);rw [YD]at this;have h1:=h.size;have h2:=h'.size;unfold addB;omega⟩
theorem zal(p:BQ):sz (sclL (-1) p)=sz p:=by
 induction p with
 | nil=>rfl
 | cons t p ih=>
  have e:sclL (-1) (t::p)=(t.1,t.2.1,-1*t.2.2)::sclL (-1) p:=rfl;have e2:(-1:Rat)*t.2.2 = -t.2.2:=by grind
  rw [e];simp only [sz,ih,e2,Uy]
theorem PB.sub{d s s' : Nat}{p q:BQ}(h:PB d s p)(h' : PB d s' q):PB d (s+s') (subB p q):=
 ⟨Vu (YJ.2 ⟨h.canon.ins,Wa3 h'.canon.ins⟩),YV (zJ h.deg (jaM h'.deg)),by
  have:=kaq (p++sclL (-1) q);rw [YD,zal]at this;have h1:=h.size;have h2:=h'.size;unfold subB;omega⟩
theorem PB.len{d s:Nat}{p:BQ}(h:PB d s p):p.length<=tri (d+1):=Y1 h.canon h.deg
theorem PB.mul{d s d' s' : Nat}{p q:BQ}(h:PB d s p)(h' : PB d' s' q)(hd:d+d'<=24):PB (d+d') (tri (d' + 1)*s+tri (d+1)*s') (mulB p q):=
 ⟨Vu (za3 h.canon.ins h'.canon.ins h.deg h'.deg hd),YV (YaG h.deg h'.deg),by
  have h1:=kaq (mulL p q);have h2:=qa3 p q;have h3:=Nat.mul_le_mul h'.len h.size;have h4:=Nat.mul_le_mul h.len h'.size;unfold mulB;omega⟩
def linB(b:Bool)(c:Rat):BQ:=nf [(if b then 0 else 1,if b then 1 else 0,1),(0,0,-c)]
def conB(c:Rat):BQ:=nf [(0,0,c)]
theorem PB.lin(b:Bool)(c:Rat):PB 1 (rz c+6) (linB b c):=by
 refine⟨Vu λt ht=>?_,YV λt ht=>?_,?_⟩
 .simp only [List.mem_cons,List.not_mem_nil,or_false]at ht;rcases ht with rfl | rfl <;> cases b <;> simp [inQ]
 .simp only [List.mem_cons,List.not_mem_nil,or_false]at ht;rcases ht with rfl | rfl <;> cases b <;> simp
 .refine Nat.le_trans (kaq _) ?_;have h1:=rz_1;have h2:=Uy c;simp only [sz];omega
end Go.Num
end
section
namespace Go.Num
open Go.Abs
end Go.Num
namespace Go.Abs
open Go.Num
variable {P:Program} {Γ:Nat->Spec}
def onI2(k:Int->Int->Prop)(a:AV):Prop:=∃x y,a=.one (.slice [[.lit (.int .i64 x)],[.lit (.int .i64 y)]])/\k x y
@[congr] theorem Wbl{k:Int->Int->Prop}{a a'}(h:a=a'):onI2 k a=onI2 k a':=by subst h;rfl
theorem XaN(k:Int->Int->Prop)(x y:Int):onI2 k (.one (.slice [[.lit (.int .i64 x)],[.lit (.int .i64 y)]]))=k x y:=by
 refine propext ⟨λ⟨x',y',h,hk⟩=>?_,λh=>⟨x,y,rfl,h⟩⟩;simp only [AV.one.injEq,C.slice.injEq,List.cons.injEq,C.lit.injEq,Value.int.injEq,true_and,and_true]at h;obtain⟨rfl,rfl⟩:=h;exact hk
attribute [go_sem,go_sem ↓] XaN
def onMs(k:List Mo->Prop)(a:AV):Prop:=∃l,a=.one (ms l)/\(∀x∈l,WLM x)/\k l
@[congr] theorem Jbl{k:List Mo->Prop}{a a'}(h:a=a'):onMs k a=onMs k a':=by subst h;rfl
theorem Xay(k:List Mo->Prop)(l:List Mo):onMs k (.one (.slice (l.map mC)))=((∀x∈l,WLM x)/\k l):=by
 refine propext ⟨λ⟨x,h,h1,h2⟩=>?_,λh=>⟨l,rfl,h⟩⟩;have:=Zaz l x h;subst this;exact⟨h1,h2⟩
theorem yaf(k:List Mo->Prop):onMs k (.one (.slice []))=k []:=by
 have:=Xay k [];simp only [List.map_nil,List.not_mem_nil,false_implies,implies_true,true_and]at this;exact this
def onM2(k:List Mo->List Mo->Prop)(a:AV):Prop:=∃p q,a=.one (.slice [[ms p],[ms q]])/\((∀x∈p,WLM x)/\(∀x∈q,WLM x))/\k p q
@[congr] theorem Ybm{k:List Mo->List Mo->Prop}{a a'}(h:a=a'):onM2 k a=onM2 k a':=by subst h;rfl
theorem XaQ(k:List Mo->List Mo->Prop)(p q:List Mo):onM2 k (.one (.slice [[.slice (p.map mC)],[.slice (q.map mC)]]))=(((∀x∈p,WLM x)/\(∀x∈q,WLM x))/\k p q):=by
 refine propext ⟨λ⟨x,y,h,h1,h2⟩=>?_,λh=>⟨p,q,rfl,h⟩⟩;simp only [ms,AV.one.injEq,C.slice.injEq,List.cons.injEq,and_true]at h;obtain⟨e1,e2⟩:=h;have:=Qi e1;have:=Qi e2
 subst_vars;exact⟨h1,h2⟩
attribute [go_sem,go_sem ↓] Xay yaf XaQ
end Go.Abs
end
section
namespace Go.Num
open Go.Abs
theorem allS{α:Type}{f:α->Bool}{l:List α}{k:Nat}{x:α}(hx:l[k]?=some x)(ha:(l.take k).all f=true)(hz:f x=true):(l.take (k+1)).all f=true:=by
 rw [List.take_add_one,hx,List.all_append,ha];simp [hz]
end Go.Num
namespace Go.Abs
open Go.Num
variable {P:Program} {Γ:Nat->Spec}
end Go.Abs
end
section
namespace Go.Num
def hv:List Rat->Rat->Rat
 | [],_=>0
 | c::l,x=>c+x*hv l x
end Go.Num
end
