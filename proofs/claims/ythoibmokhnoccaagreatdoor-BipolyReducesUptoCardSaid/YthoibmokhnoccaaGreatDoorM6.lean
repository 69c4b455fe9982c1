/-
  Parts of the proof, merged: ArgI, PolyB, PoseA, RatC, RefA, RatD, RatE, PoseP, PolyP, PolyQ, PolyC, PolyD, PolyR, PolyE.
-/
import Derived.Test.YthoibmokhnoccaaGreatDoorM5
import Derived.ChangeSame
import Derived.OpenShut
set_option linter.unusedVariables false
set_option linter.unusedSimpArgs false
set_option maxRecDepth 100000
section
namespace Go.Abs
open Go.Num
section
variable {H:Type} {enc:TypeId×Value->H} {bulk:DataW H->Nat} {P:Program} {w:World}
def okMo(n:Nat)(t:Mo):Prop:=WLM t/\rl t.2.2<=n
theorem zaP(n n' : Nat)(a:Mo)(h:n<=n')(k:okMo n a):okMo n' a:=⟨k.1,Nat.le_trans k.2 h⟩
structure MoT (P:Program) (t:TypeId):Prop where
 ex:∃f0 f1 f2:Field,P.underlying t=some (.struct #[f0,f1,f2])/\f0.offset=0/\f1.offset=1/\f2.offset=2/\P.cellsOf t=5/\P.cellsOf f0.type=1/\P.cellsOf f1.type=1/\P.cellsOf f2.type=3/\
  P.underlying f0.type=some (.int .i64)/\P.underlying f1.type=some (.int .i64)/\RatT P f2.type
theorem XaT{t:TypeId}(B:Bk bulk)(h:MoT P t):Opens enc bulk P w t mC okMo:=by
 obtain⟨f0,f1,f2,ht,o0,o1,o2,hs,c0,c1,c2,t0,t1,r2⟩:=h.ex;have:=JB (enc:=enc) (w:=w) B ht o0 (by omega) (by omega) (by omega) (λ_ _ _ _ h=>h) (λ_ _ _ _ h=>h) xU (W8 (enc:=enc) (bulk:=bulk) (w:=w) t0) (W8 (enc:=enc) (bulk:=bulk) (w:=w) t1) (XH (enc:=enc) (w:=w) B r2)
 refine this.imp λn x h=>⟨⟨?_,?_,h.2.2.2⟩,h.2.2.1⟩
 .have:=h.1;unfold i64r;omega
 .have:=h.2.1;unfold i64r;omega
structure BpT (P:Program) (t:TypeId):Prop where
 ex:∃u,P.underlying t=some (.slice u)/\P.cellsOf u=5/\MoT P u
theorem jah{t:TypeId}(B:Bk bulk)(h:BpT P t):Opens enc bulk P w t (λl:List Mo=>[.slice (l.map mC)]) (okLs okMo):=by
 obtain⟨u,ht,hc,hu⟩:=h.ex;exact xG (enc:=enc) (w:=w) (e:=mC) B ht (by omega) (λa=>by rw [hc];rfl) (λa c hc=>Qao a c hc) zaP (XaT B hu)
structure X2T (P:Program) (t:TypeId):Prop where
 ex:∃u,P.underlying t=some (.array 2 u)/\P.cellsOf u=3/\P.cellsOf t=6/\RatT P u
theorem kaX{t:TypeId}(B:Bk bulk)(h:X2T P t):Opens enc bulk P w t aC okArc:=by
 obtain⟨u,ht,hs,hz,hu⟩:=h.ex;intro fuel cs x hx;obtain⟨xs,m,rfl,rfl,hlen,hxl,hget⟩:=DataW.trod_array ht hx;rw [hs]at hget;match xs,hxl with
 | [x0,x1],_=>
  obtain⟨a0,k0,r0⟩:=XH (enc:=enc) (w:=w) B hu m _ x0 (hget 0 (by omega))
  obtain⟨a1,k1,r1⟩:=XH (enc:=enc) (w:=w) B hu m _ x1 (hget 1 (by omega))
  rw [Nat.zero_mul,List.drop_zero]at r0;rw [Nat.one_mul]at r1;have e0:cs=cs.take 3++(cs.drop 3).take 3:=by
   have h1:(cs.drop 3).take 3=cs.drop 3:=List.take_of_length_le (by rw [List.length_drop,hlen,hz];omega)
   rw [h1,List.take_append_drop]
  have b:∀y∈[x0,x1],bulk y.1<=bulk (.agg ([x0,x1].map (·.1))):=λy hy=>B.ag _ _ (List.mem_map.2 ⟨y,hy,rfl⟩);have k0:=xU _ _ _ (b x0 (by simp)) k0
  have k1:=xU _ _ _ (b x1 (by simp)) k1
  refine⟨(a0,a1),⟨⟨k0.2,k1.2⟩,Nat.max_le.2 ⟨k0.1,k1.1⟩⟩,?_⟩;rw [e0];exact r0.append r1
variable {α:Type}
theorem va6{r:Reach}{b0 n:Nat}{t u:TypeId}{v:Value}{d:DataW H}{ps:List MemPlace}{e:α->List C}{ok:Nat->α->Prop}(ht:P.underlying t=some (.array n u))(hval:Value.okWide P w r b0 t v)
  (hd:DataW.Trod enc P w 0 (λ_=>true) true t v d ps) (ho:Opens enc bulk P w t e ok):∃a,ok (bulk d) a/\RA M0 (Old w) w.heap (.agg (e a)) v:=by
 simp only [Value.okWide,ht]at hval;obtain⟨cs,rfl,_⟩:=hval;obtain⟨fuel,hf⟩:=hd;obtain⟨x,hx,hr⟩:=ho _ _ _ hf;have e:(Value.agg cs).cells.toList=cs.toList:=by simp [Value.cells]
 rw [e]at hr;refine⟨x,hx,?_⟩;have:cs=⟨cs.toList⟩:=by simp
 rw [this];exact .agg _ _ hr
end
end Go.Abs
namespace Go.ChangeShapes
section
variable {H:Type} {enc:TypeId×Value->H} {P:Program}
theorem uT{f:Func}{s:ChangeSpec}{apart fresh handsOn again:Bool}{W W' : World}{args:Array Value}{v:Value}{ds gs:List (DataW H)}{before pa pv:List MemPlace}
  (hW:DataW.Whole enc P f.params.toList s.vars apart W args.toList ds gs before)
  (hres:∀(b:Nat) (sp:Nat->Bool) (hd:Bool),DataW.TrodAll enc P W' b sp hd f.resultTypes.toList (v.resultList f.resultTypes.size) (s.fn H (ds++gs)).results [])
  (hargs:∀sp:Nat->Bool,(∀p∈before,sp p.block=true)->DataW.TrodAll enc P W' 0 sp true f.params.toList args.toList (s.fn H (ds++gs)).args pa)
  (hvars:∀sp:Nat->Bool,(∀p∈before,sp p.block=true)->DataW.TrodVars enc P W' sp s.vars (s.fn H (ds++gs)).vars pv)
  (hps:before=pa++pv) (hk:W.keptBut W' (·∈before)) (hfz:∀a:Addr,a.block<W.heap.size->W'.frozen? a=W.frozen? a)
  (hok:∀(j:Nat) (t:TypeId) (r:Value),f.resultTypes[j]?=some t->(v.resultList f.resultTypes.size)[j]?=some r->Value.okWide P W' .any 0 t r) :
  s.post enc P f apart fresh handsOn again W args v W':=by
 have hlt:=hW.lt;have hold:∀p∈before,(λb=>decide (b<W.heap.size)) p.block=true:=λp hp=>by simpa using hlt p hp
 refine⟨ds,gs,before,[],pa,pv,hW,hres _ _ _,hargs _ hold,hvars _ hold,World.keptBut_mono (λp hp=>⟨hp,?_⟩) hk,λ_=>?_⟩
 .rw [hps,List.mem_append]at hp;exact Or.inr hp
 .obtain⟨_,_,_,_,_,hz,hn⟩:=hW;refine⟨hok,_,_,([]++pa)++pv,⟨[]++pa,pv,trodAll_append (hargs _ (λ_ _=>rfl)) (hres _ _ _),hvars _ (λ_ _=>rfl),rfl,?_,?_⟩,?_⟩
  .intro b off hp;have hp':=hp;rw [List.nil_append,<-hps]at hp';rw [hfz _ (hlt _ hp')];exact hz b off hp'
  .intro ha;have:=hn ha;rw [hps]at this;simpa using this
  .intro p hp _;rw [hps];simpa using hp
end
end Go.ChangeShapes
end
section
namespace Go.Abs
open Go.Num
variable {P:Program} {Γ:Nat->Spec}
def yA(fc:Nat)(d:Option Nat)(args:List AV)(h:Nat->HB)(K:AV->(Nat->HB)->Prop):Prop:=
 match args with
 | [.one (.own r ver 5 0 len),.one (.lit (.int .i64 a)),.one (.lit (.int .i64 b)),c]=>∃(pre seg post:List Mo),c=fnV fc/\a=pre.length/\b=(pre.length+seg.length:Nat)/\len<=pre.length+seg.length+post.length/\pre.length+seg.length<=len/\len<=68719476736/\
   h r=⟨ver,some ⟨(pre++seg++post).map mC,5,true⟩⟩/\okMs seg/\
   ∀seg' : List Mo,seg.Perm seg'->SortM seg'->K (.tup []) (upd h r ⟨ver,some ⟨(pre++seg'++post).map mC,5,true⟩⟩)
 | _=>False
@[congr] theorem Xbr {fc:Nat} {d:Option Nat} {l l' : List AV} {h h' : Nat->HB} {K:AV->(Nat->HB)->Prop} (e1:l=l') (e2:h=h'):yA fc d l h K=yA fc d l' h' K:=by subst e1;subst e2;rfl
def Xr(fc m:Nat)(d:Option Nat)(args:List AV)(h:Nat->HB)(K:AV->(Nat->HB)->Prop):Prop:=
 match args with
 | [.one (.own r ver 5 0 len),c]=>∃(l post:List Mo),c=fnV fc/\len=l.length/\len<=m/\h r=⟨ver,some ⟨(l++post).map mC,5,true⟩⟩/\okMs l/\
   ∀l' : List Mo,l.Perm l'->SortM l'->K (.tup []) (upd h r ⟨ver,some ⟨(l'++post).map mC,5,true⟩⟩)
 | _=>False
@[congr] theorem Vbr {fc m:Nat} {d:Option Nat} {l l' : List AV} {h h' : Nat->HB} {K:AV->(Nat->HB)->Prop} (e1:l=l') (e2:h=h'):Xr fc m d l h K=Xr fc m d l' h' K:=by subst e1;subst e2;rfl
def xw(fc m:Nat)(d:Option Nat)(args:List AV)(h:Nat->HB)(K:AV->(Nat->HB)->Prop):Prop:=
 match args with
 | [.one (.own r ver 5 0 len),.one (.lit (.int .i64 n)),c]=>n=len/\Xr fc m d [.one (.own r ver 5 0 len),c] h K
 | _=>False
@[congr] theorem wbr {fc m:Nat} {d:Option Nat} {l l' : List AV} {h h' : Nat->HB} {K:AV->(Nat->HB)->Prop} (e1:l=l') (e2:h=h'):xw fc m d l h K=xw fc m d l' h' K:=by subst e1;subst e2;rfl
def Wx:q_F:=q_c1 λa K=>onMx (λl=>l.length<=68719476736/\K (l.map mC)) a
theorem Vab:Good Wx:=q_g1 λ_=>(zbp λ_=>(.and λ_=>(.ret _)))
attribute [go_sem] Wx
def Ze:AC:=(.o [.m 2 (.c (.one .emp))] [0] (.f (.o [.M 3 0,.u 4 (.snil false (.t 3))] [0,4] (.cond (.t 4) (.seq (.p [.m 2 (.c (.one .emp))]) .ret) .skip)) [0] (.seq (.p [.m 5 (.c (.one .emp)),.M 6 0,.u 7 (.app0 5 (.t 5) (.t 6)),.M 2 7]) .ret)))
def kd(f0:Nat):AC:=(.p [.M 4 0,.M 5 0,.Z 6 5,.M 7 1,.E 8 f0 4 6 7])
def Ud(f0 f1:Nat):AC:=(.o [.N 6 20] [0,1,2,6] (.o [.M 10 6,.N 7 0,.M 8 10] [0,1,2,6,7,8] (.f (.block 0 (.loop (.f (.o [.M 11 8,.M 12 1,.B 13 .leq 11 12] [0,1,2,6,7,8,13] (.cond (.t 13) .skip (.exit 0))) [0,1,2,6,7,8] (.block 1 (.o [.M 14 0,.M 15 7,.M 16 8,.M 17 2,.u 18 (.call f0 [(.t 14),(.t 15),(.t 16),(.t 17)])] [0,1,2,6,8] (.o [.M 19 8,.M 7 19] [0,1,2,6,7,8] (.p [.M 20 8,.M 21 6,.B 22 .add 20 21,.M 8 22]))))))) [0,1,2,6,7] (.o [.M 23 0,.M 24 7,.M 25 1,.M 26 2,.u 27 (.call f0 [(.t 23),(.t 24),(.t 25),(.t 26)])] [0,1,2,6] (.block 2 (.loop (.f (.o [.M 28 6,.M 29 1,.B 30 .lss 28 29] [0,1,2,6,30] (.cond (.t 30) .skip (.exit 2))) [0,1,2,6] (.block 3 (.o [.M 31 6,.u 32 (.bin .mul (.i 2) (.t 31)),.N 7 0,.M 8 32] [0,1,2,6,7,8] (.f (.block 4 (.loop (.f (.o [.M 33 8,.M 34 1,.B 35 .leq 33 34] [0,1,2,6,7,8,35] (.cond (.t 35) .skip (.exit 4))) [0,1,2,6,7,8] (.block 5 (.o [.M 36 0,.M 37 7,.M 38 7,.M 39 6,.B 40 .add 38 39,.M 41 8,.M 42 2,.u 43 (.call f1 [(.t 36),(.t 37),(.t 40),(.t 41),(.t 42)])] [0,1,2,6,8] (.o [.M 44 8,.M 7 44] [0,1,2,6,7,8] (.p [.M 45 8,.M 46 6,.u 47 (.bin .mul (.i 2) (.t 46)),.B 48 .add 45 47,.M 8 48]))))))) [0,1,2,6,7] (.f (.o [.M 49 7,.M 50 6,.B 51 .add 49 50,.M 9 51] [0,1,2,6,7,9] (.o [.M 52 9,.M 53 1,.B 54 .lss 52 53] [0,1,2,6,7,9,54] (.cond (.t 54) (.p [.M 55 0,.M 56 7,.M 57 9,.M 58 1,.M 59 2,.u 60 (.call f1 [(.t 55),(.t 56),(.t 57),(.t 58),(.t 59)])]) .skip))) [0,1,2,6] (.p [.M 61 6,.I 62 .mul 61 2,.M 6 62]))))))))))))
def Qc:AC:=(.o [.M 10 1,.I 11 .add 10 1,.M 8 11] [0,1,2,3,8] (.block 0 (.loop (.f (.o [.M 12 8,.M 13 2,.B 14 .lss 12 13] [0,1,2,3,8,14] (.cond (.t 14) .skip (.exit 0))) [0,1,2,3,8] (.f (.block 1 (.o [.M 17 8,.M 9 17] [0,1,2,3,8,9] (.block 2 (.loop (.f (.f (.y [.M 18 9,.M 19 1,.B 20 .gtr 18 19,.M 21 20,.V 22 21 true 3,.V 23 21 true 0,.V 24 21 true 9,.w 25 21 true (.idx 5 (.t 23) (.t 24)),.U 26 21 true 5 true 25,.V 27 21 true 0,.V 28 21 true 9,.w 29 21 true (.bin .sub (.t 28) (.i 1)),.w 30 21 true (.idx 5 (.t 27) (.t 29)),.U 31 21 true 5 true 30,.w 32 21 true (.callv (.t 22) [(.t 26),(.t 31)]),.w 33 21 true (.bin .lss (.t 32) (.i 0)),.P 34 21 33]) [0,1,2,3,8,9,34] (.cond (.t 34) .skip (.exit 2))) [0,1,2,3,8,9] (.f (.block 3 (.y [.M 37 0,.M 38 9,.M 39 0,.M 40 9,.I 41 .sub 40 1,.M 42 0,.M 43 9,.I 44 .sub 43 1,.J 45 5 42 44,.L 46 5 45,.M 47 0,.M 48 9,.J 49 5 47 48,.L 50 5 49,.J 51 5 37 38,.S 5 51 46,.J 52 5 39 41,.S 5 52 50])) [0,1,2,3,8,9] (.p [.M 35 9,.I 36 .sub 35 1,.M 9 36]))))))) [0,1,2,3,8] (.p [.M 15 8,.I 16 .add 15 1,.M 8 16]))))))
theorem Z3(hΓ:Holds P Γ){f:Nat}(hc:check P f=some (8,Ze.strip,[.tmp 2])):Sound P f (.fresh 5 Wx):=by
 refine Xt hc Vab hΓ (λargs K hcl hfi hG=>?_);match args,hG with
 | [a],hG=>
  obtain⟨l,ha,hl,hlen,hK⟩:=hG;refine⟨by simp,?_⟩
  rcases ha with rfl | rfl | ⟨rfl,h0⟩
  .simp only [go_sem,Ze,ms];exact⟨λh=>by rw [h]at hK;exact hK,hlen,hK⟩
  .simp only [go_sem,Ze,ms];exact⟨λh=>by rw [h]at hK;exact hK,hlen,hK⟩
  .subst h0;simp only [go_sem,Ze,ms];exact⟨hK,by simp,hK⟩
theorem way(hΓ:Holds P Γ){f fc:Nat}(hcm:Γ fc=.dat true Yy)(hc:check P f=some (53,Qc.strip,[])):Sound P f (.own (yA fc)):=by
 refine xf hc hΓ (λd args h K hG=>?_);unfold yA at hG;split at hG
 case h_2=>exact hG.elim
 rename_i r ver len a b c;obtain⟨pre,seg,post,rfl,rfl,rfl,hlen,hlen2,hroom,hr,hok,hK⟩:=hG;obtain⟨T,hT⟩:∃T,T=pre.length+seg.length+post.length:=⟨_,rfl⟩;refine⟨[r],[⟨(pre++seg++post).map mC,5,true⟩],[.one (.own 1048576 ver 5 0 len),.one (.lit (.int .i64 pre.length)),.one (.lit (.int .i64 (pre.length+seg.length:Nat))),fnV fc],by simp,rfl,?_,?_,?_,λhfi=>⟨by simp,?_⟩⟩
 .intro i r' b h1 h2;cases i with
  | zero=>simp only [List.getElem?_cons_zero,Option.some.injEq]at h1 h2;subst h1 h2;exact⟨by rw [hr],rfl,of_eq_true (Yg _)⟩
  | succ i=>simp at h1
 .simp [exA,exC,exB,nameOf,pinA,fnV]
 .intro a ha;simp only [List.mem_cons,List.not_mem_nil,or_false]at ha;rcases ha with rfl | rfl | rfl | rfl
  .simp [pasA,pasC,pasB,nameOf,pinA]
  .exact .lit _
  .exact .lit _
  .exact .lit _
 simp only [go_sem,Qc,hr,fnV];refine⟨by omega,?_⟩
 refine ja (λp:Nat×List Mo=>⟨mkV [(0,.one (.own 1048576 ver 5 0 len)),(1,.one (.lit (.int .i64 pre.length))),(2,.one (.lit (.int .i64 (pre.length+seg.length:Nat)))),(3,.one (.lit (.func (.func fc) ⟨[]⟩ ⟨[]⟩))),(8,.one (.lit (.int .i64 (pre.length+p.1:Nat))))],mkH [(1048576,⟨ver,some ⟨(pre++p.2++post).map mC,5,true⟩⟩)]⟩)
  (λp=>1<=p.1/\(p.1<=seg.length∨p.1=1)/\seg.Perm p.2/\SortM (p.2.take p.1)) (λp=>seg.length-p.1) (1,seg) ?_ ?_ ?_
 .exact za (by simp [bitvec_to_nat]) (Wi rfl)
 .refine⟨Nat.le_refl _,.inr rfl,List.Perm.refl _,?_⟩;simp only;rcases seg with _ | ⟨x,l⟩
  .exact List.Pairwise.nil
  .simp [SortM]
 .rintro⟨i,s⟩ ⟨hi1,hi,hp,hs⟩;simp only at hi1 hi hp hs;have hsl:=hp.length_eq;simp only [go_sem,hr];refine⟨λhlt=>?_,λhge=>?_⟩
  .have his:i<s.length:=by omega
   refine ja (λp:List Mo×Mo×List Mo×List Mo=>⟨mkV [(0,.one (.own 1048576 ver 5 0 len)),(1,.one (.lit (.int .i64 pre.length))),(2,.one (.lit (.int .i64 (pre.length+seg.length:Nat)))),(3,.one (.lit (.func (.func fc) ⟨[]⟩ ⟨[]⟩))),(8,.one (.lit (.int .i64 (pre.length+i:Nat)))),(9,.one (.lit (.int .i64 (pre.length+p.1.length:Nat))))],mkH [(1048576,⟨ver,some ⟨(pre++(p.1++p.2.1::(p.2.2.1++p.2.2.2))++post).map mC,5,true⟩⟩)]⟩)
    (λp=>p.1.length+p.2.2.1.length=i/\seg.Perm (p.1++p.2.1::(p.2.2.1++p.2.2.2))/\SortM (p.1++p.2.2.1)/\∀y∈p.2.2.1,kM p.2.1<kM y) (λp=>p.1.length) (s.take i,s.getD i mo0,[],s.drop (i+1)) ?_ ?_ ?_
   .have e:s.take i++s.getD i mo0::([]++s.drop (i+1))=s:=by
     rw [List.getD_eq_getElem?_getD,List.getElem?_eq_getElem his,Option.getD_some,List.nil_append,List.getElem_cons_drop,List.take_append_drop]
    exact za (by simp [bitvec_to_nat];omega) (Wi (by simp only [e]))
   .have e:s.take i++s.getD i mo0::([]++s.drop (i+1))=s:=by
     rw [List.getD_eq_getElem?_getD,List.getElem?_eq_getElem his,Option.getD_some,List.nil_append,List.getElem_cons_drop,List.take_append_drop]
    exact⟨by simp;omega,by simp only [e];exact hp,by simpa using hs,by simp⟩
   .rintro⟨u,x,v,w⟩ ⟨hiu,hpu,hsu,hxv⟩;simp only at hiu hpu hsu hxv;have hul:=hpu.length_eq;simp only [List.length_append,List.length_cons]at hul;have hok2:=WH hpu hok;rcases List.eq_nil_or_concat u with rfl | ⟨u',y,rfl⟩
    .simp only [go_sem,hr,hcm,Nat.add_zero,Nat.lt_irrefl];refine⟨by omega,(i+1,x::(v++w)),za (by simp [bitvec_to_nat];omega) (Wi rfl),⟨by simp only;omega,.inl (by simp only;omega),hpu,?_⟩,by simp only;omega⟩
     simp only [List.length_nil,Nat.zero_add]at hiu;simp only [List.take_succ_cons];rw [<-hiu,List.take_left];exact YM hsu hxv
    .rw [List.concat_eq_append]at *
     obtain⟨k,hk⟩:∃k,k=pre.length+u'.length:=⟨_,rfl⟩;have hL:(pre++(u'++[y]++x::(v++w))++post).length=T:=by
      simp only [List.length_append,List.length_cons]at *;omega
     have gx:=gmid pre (u'++[y]) (v++w) post x mo0;have gy:=gmid1 pre u' (v++w) post x y mo0;have sw:=smid pre u' (v++w) post x y;have e0:pre.length+(u'++[y]).length=k+1:=by simp;omega
     have ek:((k+1:Nat):Int)-1=(k:Int):=by omega
     rw [e0]at gx;rw [<-hk]at gy sw;have hkl:k+1<len:=by
      simp only [List.length_append,List.length_cons]at hL hul;simp only [List.length_append]at e0;omega
     have hkT:k+1<T:=by omega
     have ox:=hok2 x (by simp)
     have oy:=hok2 y (by simp)
     have hpk:pre.length<k+1:=by omega
     simp only [go_sem,hr,hcm,e0,ek,hL,gx,gy,sw,List.length_set,hkl,hpk,hkT,Nat.lt_of_succ_lt hkl,Nat.lt_of_succ_lt hkT,ox.1,oy.1,ox.2,oy.2,XJ];refine⟨by omega,λhxy=>⟨by omega,by omega,by omega,(u',x,y::v,w),za (by simp [bitvec_to_nat];omega) (Wi (by simp)),⟨by simp only [List.length_cons];simp at hiu;omega,?_,by simpa using hsu,?_⟩,by simp⟩,λhxy=>⟨by omega,(i+1,u'++[y]++x::(v++w)),za (by simp [bitvec_to_nat];omega) (Wi rfl),⟨by simp only;omega,.inl (by simp only;omega),hpu,?_⟩,by simp only;omega⟩⟩
     .simp only;refine hpu.trans ?_;have e1:u'++[y]++x::(v++w)=u'++(y::x::(v++w)):=by simp
      have e2:u'++x::(y::v++w)=u'++(x::y::(v++w)):=by simp
      rw [e1,e2];exact List.Perm.append_left _ (List.Perm.swap _ _ _)
     .intro z hz;rcases List.mem_cons.1 hz with rfl | hz
      .exact hxy
      .exact hxv z hz
     .simp only;have e:(u'++[y]++x::(v++w)).take (i+1)=u'++[y]++x::v:=by
       have:u'++[y]++x::(v++w)=(u'++[y]++x::v)++w:=by simp
       rw [this,<-hiu];have h2:(u'++[y]).length+v.length+1=(u'++[y]++x::v).length:=by simp;omega
       rw [h2,List.take_left]
      rw [e];exact qaN hsu (Nat.not_lt.1 hxy) hxv
  .have e:s.take i=s:=List.take_of_length_le (by omega)
   rw [e]at hs;exact hK s hp hs
theorem Xad(hΓ:Holds P Γ){f fs fc m:Nat}(hs:Γ fs=.own (xw fc m))(hc:check P f=some (9,(kd fs).strip,[])):Sound P f (.own (Xr fc m)):=by
 refine xf hc hΓ (λd args h K hG=>?_);unfold Xr at hG;split at hG
 case h_2=>exact hG.elim
 rename_i r ver len c;obtain⟨l,post,rfl,rfl,hlen,hr,hok,hK⟩:=hG;refine⟨[r],[⟨(l++post).map mC,5,true⟩],[.one (.own 1048576 ver 5 0 l.length),fnV fc],by simp,rfl,?_,?_,?_,λhfi=>⟨by simp,?_⟩⟩
 .intro i r' b h1 h2;cases i with
  | zero=>simp only [List.getElem?_cons_zero,Option.some.injEq]at h1 h2;subst h1 h2;exact⟨by rw [hr],rfl,of_eq_true (Yg _)⟩
  | succ i=>simp at h1
 .simp [exA,exC,exB,nameOf,pinA,fnV]
 .intro a ha;simp only [List.mem_cons,List.not_mem_nil,or_false]at ha;rcases ha with rfl | rfl
  .simp [pasA,pasC,pasB,nameOf,pinA]
  .exact .lit _
 simp only [go_sem,kd,hr,fnV,hs];refine λ_=>?_;simp only [xw,Xr];refine⟨by simp,l,post,rfl,rfl,hlen,by simp [qa],hok,λl' h1 h2=>?_⟩
 simp only [go_sem,hr];exact hK l' h1 h2
end Go.Abs
end
section
namespace Go.Num
open Go.Abs
abbrev Tn:=R×Bool
abbrev Ps:=Tn×Arc
abbrev Dy:=Arc×Arc×R
abbrev Cp:=Arc×Arc×R×R×R×R×R
def WLP(p:Ps):Prop:=WLR p.1.1/\WLA p.2
def WLD(d:Dy):Prop:=WLA d.1/\WLA d.2.1/\WLR d.2.2
def WLC(c:Cp):Prop:=WLA c.1/\WLA c.2.1/\WLR c.2.2.1/\WLR c.2.2.2.1/\WLR c.2.2.2.2.1/\WLR c.2.2.2.2.2.1/\WLR c.2.2.2.2.2.2
def pl(p:Ps):Nat:=max (rl p.1.1) (al p.2)
def p0:Ps:=(((false,[],[]),false),((false,[],[]),(false,[],[])))
end Go.Num
namespace Go.Abs
open Go.Num
def onO{α:Type}(k:α->Prop):Option α->Prop
 | some x=>k x
 | none=>False
@[congr] theorem vbw{α:Type}{k:α->Prop}{a a' : Option α}(h:a=a'):onO k a=onO k a':=by subst h;rfl
theorem qJ{α:Type}(k:α->Prop)(x:α):onO k (some x)=k x:=rfl
theorem kb{α:Type}{k:α->Prop}{a:Option α}:onO k a↔∃x,a=some x/\k x:=by
 cases a with
 | none=>simp [onO]
 | some x=>simp [onO]
noncomputable def dR(a b c:C):Option R:=@dite _ (∃x,a=cb x/\b=cn x/\c=cd x) (Classical.propDecidable _) (λh=>some h.choose) (λ_=>none)
theorem Wb{a b c:C}{x:R}:dR a b c=some x↔a=cb x/\b=cn x/\c=cd x:=by
 unfold dR;constructor
 .intro h;split at h
  .rename_i hx;simp only [Option.some.injEq]at h;rw [<-h];exact hx.choose_spec
  .simp at h
 .intro h;have hx:∃x,a=cb x/\b=cn x/\c=cd x:=⟨x,h⟩;rw [dif_pos hx];have h2:=hx.choose_spec;have:rA hx.choose=rA x:=by
   simp only [rA];rw [<-h2.1,<-h2.2.1,<-h2.2.2,h.1,h.2.1,h.2.2]
  rw [Yq _ _ this]
theorem dR_e(x:R):dR (cb x) (cn x) (cd x)=some x:=Wb.2 ⟨rfl,rfl,rfl⟩
theorem dR_r(b:Bool)(l m:List Nat):dR (.lit (.bool b)) (.slice (l.map wc)) (.slice (m.map wc))=some (b,l,m):=dR_e (b,l,m)
theorem dR_0:dR (.lit (.bool false)) (.slice []) (.slice [])=some (rcan 0):=by rw [Ye];exact dR_e (false,[],[])
def dB:C->Option Bool
 | .lit (.bool b)=>some b
 | _=>none
theorem dB_e(b:Bool):dB (.lit (.bool b))=some b:=rfl
theorem uaE{c:C}{b:Bool}:dB c=some b↔c=.lit (.bool b):=by
 unfold dB;constructor
 .intro h;split at h
  .simp only [Option.some.injEq]at h;rw [h]
  .simp at h
 .rintro rfl;rfl
def tC(t:Tn):List C:=[cb t.1,cn t.1,cd t.1,.lit (.bool t.2)]
def tA(t:Tn):AV:=.agg (tC t)
def onT(k:Tn->Prop)(a:AV):Prop:=onE tA (λt=>WLR t.1/\k t) a
@[congr] theorem ybw{k:Tn->Prop}{a a'}(h:a=a'):onT k a=onT k a':=by subst h;rfl
theorem Qbk(k:Tn->Prop)(a b c d:C):onT k (.agg [a,b,c,d])=onO (λx=>onO (λh=>WLR x/\k (x,h)) (dB d)) (dR a b c):=by
 refine propext ⟨λ⟨t,h,h1⟩=>?_,λh=>?_⟩
 .simp only [tA,tC,AV.agg.injEq,List.cons.injEq,and_true]at h;obtain⟨rfl,rfl,rfl,rfl⟩:=h;simp only [dR_e,dB_e,qJ];exact h1
 .obtain⟨x,h1,q1⟩:=kb.1 h;obtain⟨e,h2,q2⟩:=kb.1 q1;obtain⟨rfl,rfl,rfl⟩:=Wb.1 h1;rw [uaE]at h2;subst h2;exact⟨(x,e),rfl,q2⟩
theorem kbl(k:Arc->Prop)(a b c d e f:C):onA k (.agg [a,b,c,d,e,f])=onO (λx=>onO (λy=>WLA (x,y)/\k (x,y)) (dR d e f)) (dR a b c):=by
 refine propext ⟨λ⟨t,h,h1⟩=>?_,λh=>?_⟩
 .simp only [aA,aC,AV.agg.injEq,List.cons.injEq,and_true]at h;obtain⟨rfl,rfl,rfl,rfl,rfl,rfl⟩:=h;simp only [dR_e,dB_e,qJ];exact h1
 .obtain⟨x,h1,q1⟩:=kb.1 h;obtain⟨y,h2,q2⟩:=kb.1 q1;obtain⟨rfl,rfl,rfl⟩:=Wb.1 h1;obtain⟨rfl,rfl,rfl⟩:=Wb.1 h2;exact⟨(x,y),rfl,q2⟩
def pC(p:Ps):List C:=[cb p.1.1,cn p.1.1,cd p.1.1,.lit (.bool p.1.2),cb p.2.1,cn p.2.1,cd p.2.1,cb p.2.2,cn p.2.2,cd p.2.2]
def poA(p:Ps):AV:=.agg (pC p)
theorem Va3{x y:Ps}(h:pC x=pC y):x=y:=by
 simp only [pC,List.cons.injEq,C.lit.injEq,Value.bool.injEq,and_true]at h;obtain⟨h1,h2,h3,h4,h5,h6,h7,h8,h9,h10⟩:=h;exact Prod.ext (Prod.ext (Yq _ _ (by simp only [rA];rw [h1,h2,h3])) h4) (Prod.ext (Yq _ _ (by simp only [rA];rw [h5,h6,h7])) (Yq _ _ (by simp only [rA];rw [h8,h9,h10])))
theorem Ya6(x y:Ps)(h:poA x=poA y):x=y:=Va3 (by simpa [poA] using h)
def onPo(k:Ps->Prop)(a:AV):Prop:=onE poA (λp=>WLP p/\k p) a
@[congr] theorem Wbt{k:Ps->Prop}{a a'}(h:a=a'):onPo k a=onPo k a':=by subst h;rfl
theorem Xa2(k:Ps->Prop)(p:Ps):onPo k (.agg (pC p))=(WLP p/\k p):=yf Ya6 (λp=>WLP p/\k p) p
theorem VaZ(k:Ps->Prop)(a b c d e f g h i j:C):onPo k (.agg [a,b,c,d,e,f,g,h,i,j])=onO (λx=>onO (λq=>onO (λy=>onO (λz=>WLP ((x,q),(y,z))/\k ((x,q),(y,z))) (dR h i j)) (dR e f g)) (dB d)) (dR a b c):=by
 refine propext ⟨λ⟨t,h,h1⟩=>?_,λh=>?_⟩
 .simp only [poA,pC,AV.agg.injEq,List.cons.injEq,and_true]at h;obtain⟨rfl,rfl,rfl,rfl,rfl,rfl,rfl,rfl,rfl,rfl⟩:=h;simp only [dR_e,dB_e,qJ];exact h1
 .obtain⟨x,h1,q1⟩:=kb.1 h;obtain⟨q,h2,q2⟩:=kb.1 q1;obtain⟨y,h3,q3⟩:=kb.1 q2;obtain⟨z,h4,q4⟩:=kb.1 q3;obtain⟨rfl,rfl,rfl⟩:=Wb.1 h1;obtain⟨rfl,rfl,rfl⟩:=Wb.1 h3;obtain⟨rfl,rfl,rfl⟩:=Wb.1 h4;rw [uaE]at h2;subst h2;exact⟨((x,q),(y,z)),rfl,q4⟩
def dC(d:Dy):List C:=[cb d.1.1,cn d.1.1,cd d.1.1,cb d.1.2,cn d.1.2,cd d.1.2,cb d.2.1.1,cn d.2.1.1,cd d.2.1.1,cb d.2.1.2,cn d.2.1.2,cd d.2.1.2,cb d.2.2,cn d.2.2,cd d.2.2]
def dA(d:Dy):AV:=.agg (dC d)
def onDy(k:Dy->Prop)(a:AV):Prop:=onE dA (λd=>WLD d/\k d) a
@[congr] theorem Qbt{k:Dy->Prop}{a a'}(h:a=a'):onDy k a=onDy k a':=by subst h;rfl
theorem Va1(k:Dy->Prop)(a b c d e f g h i j l m n o p:C):onDy k (.agg [a,b,c,d,e,f,g,h,i,j,l,m,n,o,p])=onO (λx=>onO (λy=>onO (λz=>onO (λu=>onO (λv=>WLD ((x,y),(z,u),v)/\k ((x,y),(z,u),v)) (dR n o p)) (dR j l m)) (dR g h i)) (dR d e f)) (dR a b c):=by
 refine propext ⟨λ⟨t,h,h1⟩=>?_,λh=>?_⟩
 .simp only [dA,dC,AV.agg.injEq,List.cons.injEq,and_true]at h;obtain⟨rfl,rfl,rfl,rfl,rfl,rfl,rfl,rfl,rfl,rfl,rfl,rfl,rfl,rfl,rfl⟩:=h;simp only [dR_e,dB_e,qJ];exact h1
 .obtain⟨x,h1,q1⟩:=kb.1 h;obtain⟨y,h2,q2⟩:=kb.1 q1;obtain⟨z,h3,q3⟩:=kb.1 q2;obtain⟨u,h4,q4⟩:=kb.1 q3;obtain⟨v,h5,q5⟩:=kb.1 q4;obtain⟨rfl,rfl,rfl⟩:=Wb.1 h1;obtain⟨rfl,rfl,rfl⟩:=Wb.1 h2;obtain⟨rfl,rfl,rfl⟩:=Wb.1 h3;obtain⟨rfl,rfl,rfl⟩:=Wb.1 h4;obtain⟨rfl,rfl,rfl⟩:=Wb.1 h5;exact⟨((x,y),(z,u),v),rfl,q5⟩
def psC(l:List Ps):C:=.slice (l.map pC)
def psA(l:List Ps):AV:=.one (psC l)
theorem vbd(x y:List Ps)(h:psA x=psA y):x=y:=by
 simp only [psA,psC,AV.one.injEq,C.slice.injEq]at h;exact List.map_inj_right (λ_ _=>Va3) |>.1 h
def onPs(k:List Ps->Prop)(a:AV):Prop:=onE psA (λl=>(∀p∈l,WLP p)/\k l) a
@[congr] theorem vbv{k:List Ps->Prop}{a a'}(h:a=a'):onPs k a=onPs k a':=by subst h;rfl
theorem QaM(k:List Ps->Prop)(l:List Ps):onPs k (.one (.slice (l.map pC)))=((∀p∈l,WLP p)/\k l):=yf vbd (λl=>(∀p∈l,WLP p)/\k l) l
theorem Qa2(l:List Ps):psA l=.one (.slice (l.map pC)):=eq_of_heq (HEq.refl _)
theorem qaR(K:List C->Prop)(l:List Ps)(i:Nat):getE K (l.map pC) i=(i<l.length/\K (pC (l.getD i p0))):=by
 simp only [getE,List.length_map,List.getElem?_map];refine propext ⟨λh=>⟨h.1,h.2 _ (by simp [h.1,List.getD_eq_getElem?_getD])⟩,λh=>⟨h.1,λe he=>?_⟩⟩
 simp [h.1]at he;subst he;have:=h.2;simpa [List.getD_eq_getElem?_getD,h.1] using this
theorem zF(p:Ps):CleanL (pC p):=by
 intro c hc;simp only [pC,List.mem_cons,List.not_mem_nil,or_false]at hc;rcases hc with rfl | rfl | rfl | rfl | rfl | rfl | rfl | rfl | rfl | rfl
 .exact of_eq_true (Vj _)
 .exact of_eq_true (Yj _)
 .exact of_eq_true (Wj _)
 .exact .lit _
 .exact of_eq_true (Vj _)
 .exact of_eq_true (Yj _)
 .exact of_eq_true (Wj _)
 .exact of_eq_true (Vj _)
 .exact of_eq_true (Yj _)
 .exact of_eq_true (Wj _)
theorem kR(l:List Ps):CleanR (l.map pC)=True:=eq_true λe he c hc=>by
 obtain⟨x,_,rfl⟩:=List.mem_map.1 he;exact zF x c hc
theorem U2(l:List Ps):Clean (.slice (l.map pC))=True:=eq_true (.slice _ (of_eq_true (kR l)))
theorem wE(p:Ps):(pC p).length=10:=eq_of_heq (HEq.refl _)
theorem qa5(l:List Ps):(∀e∈l.map pC,e.length=10)=True:=eq_true λe he=>by
 obtain⟨x,_,rfl⟩:=List.mem_map.1 he;rfl
theorem Wa2(h:Nat->HB)(p:Ps):(pC p).map (datC h)=pC p:=eq_of_heq (HEq.refl _)
theorem ja5(p:Ps):(pC p).flatMap ownC=[]:=eq_of_heq (HEq.refl _)
attribute [go_sem,go_sem ↓] qJ dR_e dR_r dR_0 dB_e Qbk kbl Xa2 VaZ Va1 QaM Qa2 qaR kR U2 wE qa5 Wa2 ja5
end Go.Abs
end
section
namespace Go.Abs
open Go.Num
variable {P:Program} {Γ:Nat->Spec}
def km(f0 f1 f2 f3:Nat):AC:=(.o [.K 1 3 0,.m 2 .fa] [1] (.f (.o [.A 5 1 1,.F 6 1 5,.Z 7 6,.I 8 .eql 7 0,.M 9 8,.T 10 9 true 2 1,.U 11 9 true 1 false 10,.w 12 9 true (.len (.t 11)),.w 13 9 true (.bin .eql (.t 12) (.i 0)),.P 14 9 13] [1,14] (.cond (.t 14) (.seq (.p [.A 15 0 1,.F 16 1 15,.u 17 (.un .not (.t 16)),.M 2 17]) .ret) .skip)) [1] (.f (.y [.A 18 1 1,.u 19 (.ld (some 1) 1 false (.t 18)),.u 20 (.build [.z [.z],.x 1 (.t 19)]),.A 21 2 1,.u 22 (.ld (some 1) 1 false (.t 21)),.u 23 (.build [.z [.z],.x 1 (.t 22)]),.G 3 [.z,.emp],.G 4 [.z,.emp],.n (.st (some 3) 2 (.t 3) (.t 20)),.n (.st (some 4) 2 (.t 4) (.t 23))]) [1,3,4] (.f (.o [.A 24 1 1,.F 25 1 24,.Z 26 25,.I 27 .eql 26 0,.M 28 27,.T 29 28 false 2 1,.U 30 28 false 1 false 29,.w 31 28 false (.len (.t 30)),.w 32 28 false (.bin .eql (.t 31) (.i 0)),.Q 33 28 32,.M 34 33,.U 35 34 false 2 true 3,.W 36 34 false f0 35,.w 37 34 false (.un .not (.t 36)),.Q 38 34 37,.M 39 38,.U 40 39 false 2 true 4,.W 41 39 false f0 40,.w 42 39 false (.un .not (.t 41)),.Q 43 39 42] [3,4,43] (.cond (.t 43) (.seq (.p [.m 2 .fa]) .ret) .skip)) [3,4] (.seq (.p [.L 44 2 3,.L 45 2 4,.D 46 f1 44 45,.u 47 (.call f2 []),.D 48 f3 46 47,.I 49 .eql 48 0,.M 2 49]) .ret)))))
def Jm(f0 f1:Nat):AC:=(.o [.K 1 3 0,.G 2 [.z,.emp],.G 3 [.z,.emp]] [1,2,3] (.f (.o [.L 4 3 1,.H 5 f0 4,.u 6 (.un .not (.t 5)),.M 7 6,.T 8 7 false 1 1,.U 9 7 false 1 false 8,.w 10 7 false (.len (.t 9)),.w 11 7 false (.bin .eql (.t 10) (.i 0)),.Q 12 7 11] [1,2,3,12] (.cond (.t 12) (.seq (.p [.u 13 (.build [.z [.z,.emp]]),.u 14 (.call f1 []),.S 2 2 13,.S 2 3 14]) .ret) .skip)) [1,2,3] (.f (.y [.A 15 0 1,.F 16 1 15,.m 17 (.c (.one .emp)),.A 18 1 1,.F 19 1 18,.u 20 (.app0 1 (.t 17) (.t 19)),.u 21 (.build [.x 1 (.t 16),.x 1 (.t 20)]),.S 2 2 21]) [1,2,3] (.seq (.y [.L 22 2 2,.m 23 (.c (.one .emp)),.A 24 2 1,.F 25 1 24,.u 26 (.app0 1 (.t 23) (.t 25)),.u 27 (.build [.z [.z],.x 1 (.t 26)]),.S 2 2 22,.S 2 3 27]) .ret))))
def vn(f0 f1 f2 f3:Nat):AC:=(.o [.K 2 2 0,.K 3 2 1,.G 4 [.z,.emp,.emp]] [2,3,4] (.f (.o [.L 7 2 2,.H 8 f0 7,.I 9 .eql 8 0] [2,3,4,9] (.cond (.t 9) (.seq (.p [.u 10 (.build [.z [.z,.emp,.emp]]),.S 3 4 10]) .ret) .skip)) [2,3,4] (.f (.o [.L 11 2 3,.H 12 f0 11,.I 13 .lss 12 0] [2,3,4,13] (.cond (.t 13) (.y [.L 14 2 2,.H 15 f1 14,.L 16 2 3,.H 17 f1 16,.S 2 2 15,.S 2 3 17]) .skip)) [2,3,4] (.o [.L 18 2 2,.L 19 2 3,.D 20 f2 18 19,.G 5 [.z,.emp],.S 2 5 20] [2,3,4,5] (.o [.L 21 2 2,.H 22 f0 21,.I 23 .lss 22 0,.M 6 23] [2,3,4,5,6] (.f (.o [.M 24 6] [2,3,4,5,6,24] (.cond (.t 24) (.p [.L 25 2 2,.H 26 f1 25,.S 2 2 26]) .skip)) [2,3,4,5,6] (.o [.L 28 2 2,.L 29 2 5,.D 30 f3 28 29,.M 27 30,.X 31 0 27,.X 32 1 27,.X 33 2 27,.S 2 2 31] [2,3,4,5,6] (.o [.L 35 2 3,.L 36 2 5,.D 37 f3 35 36,.M 34 37,.X 38 0 34,.X 39 1 34,.X 40 2 34,.S 2 3 38] [2,3,4,6] (.seq (.p [.M 41 6,.A 42 1 2,.F 43 1 42,.A 44 1 3,.F 45 1 44,.u 46 (.build [.x 1 (.t 41),.x 1 (.t 43),.x 1 (.t 45)]),.S 3 4 46]) .ret)))))))))
def Xk(f0:Nat):AC:=(.o [.G 0 [.z,.emp]] [0] (.seq (.p [.u 1 (.call f0 [(.i 1)]),.S 2 0 1]) .ret))
def Um(f0 f1 f2:Nat):AC:=(.o [.G 2 [.z,.emp,.emp]] [0,2] (.seq (.p [.M 3 0,.H 4 f0 3,.u 5 (.call f1 []),.D 6 f2 4 5,.S 3 2 6]) .ret))
def vl(f0 f1 f2:Nat):AC:=(.o [.K 1 3 0,.G 2 [.z,.emp,.emp]] [1,2] (.o [.L 6 3 1,.H 7 f0 6,.M 5 7,.X 8 0 5,.X 9 1 5,.G 3 [.z,.emp],.G 4 [.z,.emp],.S 2 3 8,.S 2 4 9] [2,3,4] (.seq (.y [.L 10 2 3,.H 11 f1 10,.L 12 2 4,.D 13 f2 11 12,.S 3 2 13]) .ret)))
def Xj(f0 f1:Nat):AC:=(.o [.K 1 3 0,.N 2 0] [1] (.o [.L 6 3 1,.H 7 f0 6,.M 5 7,.X 8 0 5,.X 9 1 5,.G 3 [.z,.emp],.G 4 [.z,.emp],.S 2 3 8,.S 2 4 9] [3] (.seq (.p [.L 10 2 3,.H 11 f1 10,.M 2 11]) .ret)))
def vq(f0 f1 f2:Nat):AC:=(.o [.K 2 3 0,.K 3 3 1,.N 4 0] [2,3] (.o [.L 10 3 2,.H 11 f0 10,.M 9 11,.X 12 0 9,.X 13 1 9,.G 5 [.z,.emp],.G 6 [.z,.emp],.S 2 5 12,.S 2 6 13] [3,5,6] (.o [.L 15 3 3,.H 16 f0 15,.M 14 16,.X 17 0 14,.X 18 1 14,.G 7 [.z,.emp],.G 8 [.z,.emp],.S 2 7 17,.S 2 8 18] [5,6,7,8] (.seq (.y [.L 19 2 5,.L 20 2 8,.D 21 f1 19 20,.L 22 2 7,.L 23 2 6,.D 24 f1 22 23,.D 25 f2 21 24,.M 4 25]) .ret))))
def Xl(f0 f1 f2 f3:Nat):AC:=(.o [.K 2 3 0,.K 3 3 1,.G 4 [.z,.emp,.emp]] [2,3,4] (.o [.L 10 3 2,.H 11 f0 10,.M 9 11,.X 12 0 9,.X 13 1 9,.G 5 [.z,.emp],.G 6 [.z,.emp],.S 2 5 12,.S 2 6 13] [3,4,5,6] (.o [.L 15 3 3,.H 16 f0 15,.M 14 16,.X 17 0 14,.X 18 1 14,.G 7 [.z,.emp],.G 8 [.z,.emp],.S 2 7 17,.S 2 8 18] [4,5,6,7,8] (.seq (.y [.L 19 2 5,.L 20 2 8,.D 21 f1 19 20,.L 22 2 7,.L 23 2 6,.D 24 f1 22 23,.D 25 f2 21 24,.L 26 2 6,.L 27 2 8,.D 28 f1 26 27,.D 29 f3 25 28,.S 3 4 29]) .ret))))
def Qp(f0 f1:Nat):AC:=(.o [.K 2 3 0,.K 3 3 1,.G 4 [.z,.emp,.emp]] [2,3,4] (.seq (.y [.L 5 3 2,.L 6 3 3,.H 7 f0 6,.D 8 f1 5 7,.S 3 4 8]) .ret))
def xn(f0 f1 tE:Nat):AC:=(.o [.K 2 2 0,.K 3 2 1,.G 4 [.z,.emp,.emp],.m 5 (.c (.one (.lit .nilIface)))] [2,3,4] (.f (.o [.L 6 2 3,.H 7 f0 6,.I 8 .eql 7 0] [2,3,4,8] (.cond (.t 8) (.seq (.p [.u 9 (.build [.z [.z,.emp,.emp]]),.u 10 (.iface tE (.i 8)),.S 3 4 9,.M 5 10]) .ret) .skip)) [2,3,4] (.seq (.p [.L 11 2 2,.L 12 2 3,.D 13 f1 11 12,.S 3 4 13,.m 5 (.c (.one (.lit .nilIface)))]) .ret)))
theorem jaH{n:Int}:n.sign<0↔n<0:=by
 rcases Int.lt_trichotomy n 0 with h | h | h
 .rw [Int.sign_eq_neg_one_of_neg h];omega
 .subst h;simp
 .rw [Int.sign_eq_one_of_pos h];omega
theorem Jy{n d N D:Int}{g:Nat}{m:Bool}(hd:d≠0)(hn:n≠0)(hN:0<=N)(hD:0<=D)(e1:N.natAbs=n.natAbs)(e2:D.natAbs=d.natAbs)(eg:g=Int.gcd n d)(em:m=decide (d.sign*n<0)) :
  AV.agg [.lit (.bool m),zm (zcan (N / (g:Int))),zm (zcan (D / (g:Int)))]=.agg [cb (rcan (Rat.divInt n d)),cn (rcan (Rat.divInt n d)),cd (rcan (Rat.divInt n d))]:=by
 obtain⟨N',rfl⟩:=Int.eq_ofNat_of_zero_le hN;obtain⟨D',rfl⟩:=Int.eq_ofNat_of_zero_le hD;simp only [Int.natAbs_natCast]at e1 e2;subst e1 e2 eg em;rw [uS,YT,zT,qH hd hn,qav,qav];simp only [zcan];rw [<-Int.natCast_ediv,<-Int.natCast_ediv];simp only [Int.natAbs_natCast]
theorem uaM{v w:Int}{s:Nat}(h:w≠0)(hw:zs w<=s):zs ((Int.gcd v w:Nat):Int)<=s:=by
 refine Nat.le_trans (kad ?_) hw;simp only [Int.natAbs_natCast];exact Nat.le_of_dvd (by omega) (Int.gcd_dvd_natAbs_right _ _)
theorem qW{a b:Int}:ordI a b=0↔a=b:=by unfold ordI;split <;> (try split) <;> omega
theorem zaD{l:List Nat}(h:l≠[]):vldW (false,l)=decide (NZ l):=by unfold vldW;rw [if_neg h]
theorem zv_f{l:List Nat}(h:NZ l):zv (false,l)=(val l:Int):=by
 unfold zv;by_cases e:l=[]
 .subst e;simp [vldW]
 .rw [zaD e];simp [h]
theorem kQ(hΓ:Holds P Γ){f fo:Nat}(ho:Γ fo=.dat false yU)(hc:check P f=some (2,(Xk fo).strip,[.cell 0 2 true])):Sound P f (.dat false Uq):=by
 refine Qa hc JaP hΓ (λargs K hcl hfi hG=>?_);match args,hG with
 | [],hG=>
  have hK:=hG;simp only [Uq]at hK;refine⟨by simp,?_⟩
  simp only [go_sem,Xk,ho];refine⟨by omega,by omega,hK⟩
theorem XX(hΓ:Holds P Γ){f fv fg fo fc:Nat}(hv:Γ fv=.dat true ym)(hg:Γ fg=.dat false Yv)(ho:Γ fo=.dat false Uq)(hc' : Γ fc=.dat true JE)(hc:check P f=some (50,(km fv fg fo fc).strip,[.tmp 2])):Sound P f (.dat true Xg):=by
 refine Qa hc yJ hΓ (λargs K hcl hfi hG=>?_);match args,hG with
 | [a],hG=>
  obtain⟨x,rfl,hx,hl,hK⟩:=hG;refine⟨by simp,?_⟩
  simp only [go_sem,km,hv,hg,ho,hc',uS,YT,zT];have hl1:x.2.1.length<=4294967296:=Nat.le_trans (Nat.le_max_left _ _) hl;have hl2:x.2.2.length<=4294967296:=Nat.le_trans (Nat.le_max_right _ _) hl;have key:x.2.1≠[]->x.2.2≠[]->WL x.2.1/\(vldW (false,x.2.1)=true->WL x.2.2/\(vldW (false,x.2.2)=true->WL x.2.1/\WL x.2.2/\zs (zv (false,x.2.1))<=17179869184/\zs (zv (false,x.2.2))<=17179869184/\
    K (AV.one (C.lit (Value.bool (decide (ordI (((zv (false,x.2.1)).gcd (zv (false,x.2.2)):Nat):Int) 1=0))))))/\(vldW (false,x.2.2)=false->K (AV.one (C.lit (Value.bool false)))))/\(vldW (false,x.2.1)=false->K (AV.one (C.lit (Value.bool false)))):=by
   intro hn hd;unfold vldR at hK;rw [if_neg (λe=>hn e.1)]at hK;rw [zaD hn,zaD hd];refine⟨hx.1,λh1=>⟨hx.2,λh2=>⟨hx.1,hx.2,?_,?_,?_⟩,λh2=>?_⟩,λh1=>?_⟩
   .rw [zv_f (of_decide_eq_true h1),W9,Wd hx.1 (of_decide_eq_true h1)];omega
   .rw [zv_f (of_decide_eq_true h2),W9,Wd hx.2 (of_decide_eq_true h2)];omega
   .rw [zv_f (of_decide_eq_true h1),zv_f (of_decide_eq_true h2)];have e:decide (ordI (((((val x.2.1:Nat):Int)).gcd ((val x.2.2:Nat):Int):Nat):Int) 1=0)=decide (x.2.1≠[]/\x.2.2≠[]/\NZ x.2.1/\NZ x.2.2/\Nat.gcd (val x.2.1) (val x.2.2)=1):=by
     rw [decide_eq_decide,qW,Int.gcd_natCast_natCast];have h1':=of_decide_eq_true h1;have h2':=of_decide_eq_true h2;constructor
     .intro h;exact⟨hn,hd,h1',h2',by omega⟩
     .rintro⟨_,_,_,_,h⟩;omega
    rw [e];exact hK
   .rw [decide_eq_false (λh=>of_decide_eq_false h2 h.2.2.2.1)]at hK;exact hK
   .rw [decide_eq_false (λh=>of_decide_eq_false h1 h.2.2.1)]at hK;exact hK
  have e0:∀{l:List Nat},¬l.length=0->l≠[]:=λh e=>h (by rw [e];rfl)
  have key0:¬(x.2.1=[]/\x.2.2=[])->(x.2.1=[]∨x.2.2=[])->K (AV.one (C.lit (Value.bool false))):=by
   intro h1 h2;unfold vldR at hK;rw [if_neg h1,decide_eq_false (λh=>h2.elim h.1 h.2.1)]at hK;exact hK
  refine λ_=>⟨λhn _=>⟨λhd=>?_,λhd _=>⟨λh=>?_,λh=>absurd hn h⟩⟩,λhn _=>⟨λh=>absurd h hn,λ_ _=>⟨λhd=>?_,λhd=>key (e0 hn) (e0 hd)⟩⟩⟩
  .unfold vldR at hK;rw [if_pos ⟨List.eq_nil_of_length_eq_zero hn,List.eq_nil_of_length_eq_zero hd⟩]at hK;exact hK
  .exact key0 (λh=>e0 hd h.2) (.inl (List.eq_nil_of_length_eq_zero hn))
  .exact key0 (λh=>e0 hn h.1) (.inr (List.eq_nil_of_length_eq_zero hd))
theorem Z7(hΓ:Holds P Γ){f fv fo:Nat}(hv:Γ fv=.dat true Xg)(ho:Γ fo=.dat false Uq)(hc:check P f=some (28,(Jm fv fo).strip,[.cell 2 2 true,.cell 3 2 true])):Sound P f (.dat false vf):=by
 refine Qa hc uJ hΓ (λargs K hcl hfi hG=>?_);match args,hG with
 | [a],hG=>
  obtain⟨x,rfl,hx,hl,hK⟩:=hG;refine⟨by simp,?_⟩
  simp only [go_sem,Jm,hv,ho,uS,YT,zT];have hl1:x.2.1.length<=4294967296:=Nat.le_trans (Nat.le_max_left _ _) hl;have hl2:x.2.2.length<=4294967296:=Nat.le_trans (Nat.le_max_right _ _) hl;have e0:(zcan 0)=(false,[]):=by simp [zcan,Zb]
  have h0:rv x=0->K (AV.tup [AV.agg [C.lit (Value.bool false),C.slice []],AV.agg [zb (zcan 1),zm (zcan 1)]]):=by
   intro h;rw [h]at hK;have e1:((0:Rat).num)=0:=rfl;have e2:((0:Rat).den:Int)=1:=rfl;rw [e1,e2,e0]at hK;exact hK
  refine⟨hx,hl,λhv _=>⟨λhn=>h0 ?_,λhn=>⟨by omega,by omega,?_⟩⟩,λhv=>h0 (uab hv)⟩
  .unfold rv;rw [if_pos hv,List.eq_nil_of_length_eq_zero hn];simp [val,sg]
  .obtain⟨p1,p2,p3,p4,p5,p6⟩:=xR hx hv (λe=>hn (by rw [e];rfl))
   have hn0:=Zc p4 (λe=>hn (by rw [e];rfl))
   rw [p1,p2]at hK;have e1:zcan (sg x.1 (val x.2.1))=(x.1,x.2.1):=by
    rw [<-XL,Wd hx.1 p4];have:decide (0<x.2.1.length)=true:=by simp only [decide_eq_true_eq];omega
    rw [this,Bool.and_true]
   have e2:zcan ((val x.2.2:Nat):Int)=(false,x.2.2):=by
    have:=XL false (val x.2.2);rw [Wd hx.2 p5,Bool.false_and]at this;exact this.symm
   rw [e1,e2]at hK;exact hK
theorem wac(hΓ:Holds P Γ){f fs fn fg fd:Nat}(hs:Γ fs=.dat true Uj)(hn:Γ fn=.dat false Yw)(hg:Γ fg=.dat false Yv)(hd:Γ fd=.dat false vQ)(hc:check P f=some (47,(vn fs fn fg fd).strip,[.cell 4 3 true])):Sound P f (.dat false Vm):=by
 refine Qa hc uM hΓ (λargs K hcl hfi hG=>?_);match args,hG with
 | [a,b],hG=>
  obtain⟨v,rfl,hv,w,rfl,hw,hz,hz',h0,hK⟩:=hG;refine⟨by simp,?_⟩
  simp only [go_sem,vn,hs,hn,hg,hd,hv,hw];generalize zv v=n at *
  generalize zv w=d at *
  have hd0:=h0;refine⟨λh=>?_,λh=>?_⟩
  .rw [Int.sign_eq_zero_iff_zero.1 h,Rat.zero_divInt,Ye]at hK;exact hK
  have hn0:n≠0:=λe=>h (by rw [e];rfl)
  have hg0:((Int.gcd n d:Nat):Int)≠0:=by
   have:=Int.gcd_pos_of_ne_zero_left d hn0;omega
  have hgz:zs ((Int.gcd n d:Nat):Int)<=17179869184:=uaM hd0 hz';simp only [Int.gcd_neg,Int.neg_gcd,zab,jaH];refine⟨λhdn=>⟨by omega,by omega,hz,hz',λhnn=>⟨by omega,hz,hgz,hg0,hz',hgz,hg0,?_⟩,λhnn=>⟨hz,hgz,hg0,hz',hgz,hg0,?_⟩⟩,λhdn=>⟨hz,hz',λhnn=>⟨by omega,hz,hgz,hg0,hz',hgz,hg0,?_⟩,λhnn=>⟨hz,hgz,hg0,hz',hgz,hg0,?_⟩⟩⟩
  .rw [Jy hd0 hn0 (by omega) (by omega) (by omega) (by omega) rfl (by rw [decide_eq_decide,Int.sign_eq_neg_one_of_neg hdn];omega)];exact hK
  .rw [Jy hd0 hn0 (by omega) (by omega) (by omega) (by omega) rfl (by rw [decide_eq_decide,Int.sign_eq_neg_one_of_neg hdn];omega)];exact hK
  .rw [Jy hd0 hn0 (by omega) (by omega) (by omega) (by omega) rfl (by rw [decide_eq_decide,Int.sign_eq_one_of_pos (by omega)];omega)];exact hK
  .rw [Jy hd0 hn0 (by omega) (by omega) (by omega) (by omega) rfl (by rw [decide_eq_decide,Int.sign_eq_one_of_pos (by omega)];omega)];exact hK
theorem Z4(hΓ:Holds P Γ){f fo fn ff:Nat}(ho:Γ fo=.dat false yU)(hn:Γ fn=.dat false Uq)(hf:Γ ff=.dat false Vm)(hc:check P f=some (7,(Um fo fn ff).strip,[.cell 2 3 true])):Sound P f (.dat false vw):=by
 refine Qa hc JaW hΓ (λargs K hcl hfi hG=>?_);match args,hG with
 | [a],hG=>
  obtain⟨k,n,rfl,rfl,hn1,hn2,hK⟩:=Xa hG;refine⟨by simp,?_⟩
  simp only [go_sem,Um,ho,hn,hf];have e:Rat.divInt n 1=(n:Rat):=Rat.num_divInt_den (n:Rat);rw [e];have h1:zs 1<=2:=Jag (by decide)
  have h2:zs n<=2:=Jag (by omega)
  exact⟨hn1,hn2,by omega,by omega,by decide,hK⟩
theorem qN(hΓ:Holds P Γ){f fp fn ff:Nat}(hp:Γ fp=.dat false vf)(hn:Γ fn=.dat false Yw)(hf:Γ ff=.dat false Vm)(hc:check P f=some (14,(vl fp fn ff).strip,[.cell 2 3 true])):Sound P f (.dat false Zx):=by
 refine Qa hc XaD hΓ (λargs K hcl hfi hG=>?_);match args,hG with
 | [a],hG=>
  obtain⟨x,rfl,hx,hl,hK⟩:=hG;refine⟨by simp,?_⟩
  simp only [go_sem,vl,hp,hn,hf,hx];have n1:=uA hx;have d1:=YB hx;rw [qaE,zab];exact⟨hl,by omega,by omega,by omega,Xw _,hK⟩
theorem jK(hΓ:Holds P Γ){f fp fs:Nat}(hp:Γ fp=.dat false vf)(hs:Γ fs=.dat true Uj)(hc:check P f=some (12,(Xj fp fs).strip,[.tmp 2])):Sound P f (.dat true Zk):=by
 refine Qa hc Xav hΓ (λargs K hcl hfi hG=>?_);match args,hG with
 | [a],hG=>
  obtain⟨x,rfl,hx,hl,hK⟩:=hG;refine⟨by simp,?_⟩
  simp only [go_sem,Xj,hp,hs,hx];rw [<-VaC];exact⟨hl,hK⟩
theorem Yaw(hΓ:Holds P Γ){f fp fm fc:Nat}(hp:Γ fp=.dat false vf)(hm:Γ fm=.dat false uw)(hc' : Γ fc=.dat true JE)(hc:check P f=some (26,(vq fp fm fc).strip,[.tmp 4])):Sound P f (.dat true zO):=by
 refine Qa hc yaH hΓ (λargs K hcl hfi hG=>?_);match args,hG with
 | [a,b],hG=>
  obtain⟨x,rfl,hx,y,rfl,hy,hl,hl',hK⟩:=hG;refine⟨by simp,?_⟩
  simp only [go_sem,vq,hp,hm,hc',hx,hy];have n1:=uA hx;have d1:=YB hx;have n2:=uA hy;have d2:=YB hy;rw [<-VaD];exact⟨hl,hl',by omega,by omega,by omega,by omega,hK⟩
theorem wL(hΓ:Holds P Γ){f fp fm fa ff:Nat}(hp:Γ fp=.dat false vf)(hm:Γ fm=.dat false uw)(ha:Γ fa=.dat false Uy)(hf:Γ ff=.dat false Vm)(hc:check P f=some (30,(Xl fp fm fa ff).strip,[.cell 4 3 true])):Sound P f (.dat false kk):=by
 refine Qa hc VaI hΓ (λargs K hcl hfi hG=>?_);match args,hG with
 | [a,b],hG=>
  obtain⟨x,rfl,hx,y,rfl,hy,hl,hl',hK⟩:=hG;refine⟨by simp,?_⟩
  simp only [go_sem,Xl,hp,hm,ha,hf,hx,hy];have n1:=uA hx;have d1:=YB hx;have n2:=uA hy;have d2:=YB hy;rw [Int.natCast_mul,vY];have m1:=jp (rv x).num (rv y).den;have m2:=jp (rv y).num (rv x).den;have m3:=jp ((rv x).den:Int) (rv y).den;have a1:=vK ((rv x).num*(rv y).den) ((rv y).num*(rv x).den);exact⟨hl,hl',by omega,by omega,by omega,by omega,by omega,by omega,by omega,by omega,by omega,by omega,Int.mul_ne_zero (Xw _) (Xw _),hK⟩
theorem Xaw(hΓ:Holds P Γ){f fn fa:Nat}(hn:Γ fn=.dat false Zx)(ha:Γ fa=.dat false kk)(hc:check P f=some (9,(Qp fn fa).strip,[.cell 4 3 true])):Sound P f (.dat false qG):=by
 refine Qa hc jaE hΓ (λargs K hcl hfi hG=>?_);match args,hG with
 | [a,b],hG=>
  obtain⟨x,rfl,hx,y,rfl,hy,hl,hl',hK⟩:=hG;refine⟨by simp,?_⟩
  simp only [go_sem,Qp,hn,ha,hx,hy];rw [<-Rat.sub_eq_add_neg,zC];exact⟨hl',hl,Nat.le_trans (qm hy) hl',hK⟩
end Go.Abs
end
section
namespace Go.Num
def bln(n:Nat):Nat:=if n=0 then 0 else bln (n / 2)+1
termination_by n
decreasing_by omega
theorem YF:bln 0=0:=by rw [bln];rfl
theorem Xag{n:Nat}(h:n≠0):bln n=bln (n / 2)+1:=by rw [bln,if_neg h]
theorem kbm(n:Nat):n<2 ^ bln n:=by
 induction n using Nat.strongRecOn with
 | _ n ih=>
  by_cases h:n=0
  .subst h;rw [YF];decide
  .rw [Xag h,Nat.pow_succ];have:=ih (n / 2) (by omega)
   omega
theorem vaZ{n k:Nat}(h:n<2 ^ k):bln n<=k:=by
  induction k generalizing n with
  | zero => have : n = 0 := by omega
            subst this;rw [YF];exact Nat.le_refl _
  | succ k ih=>
    by_cases h0:n=0
    . subst h0;rw [YF];omega
    . rw [Xag h0]
      have:=ih (n:=n / 2) (by rw [Nat.pow_succ]at h;omega)
      omega
theorem XU(l:List Nat)(m:Nat):val l=val (l.take m)+4294967296 ^ m*val (l.drop m):=by
 by_cases h:m<=l.length
 .conv=>lhs;rw [<-List.take_append_drop m l,Yb,List.length_take,Nat.min_eq_left h]
 .rw [List.take_of_length_le (by omega),List.drop_of_length_le (by omega)];simp [val]
theorem yy(l:List Nat)(m:Nat):val (l.drop m)=l.getD m 0+4294967296*val (l.drop (m+1)):=by
 by_cases h:m<l.length
 .have:=uG l (n:=m+1) (by omega) (by omega)
  exact this
 .rw [List.drop_of_length_le (by omega),List.drop_of_length_le (by omega),List.getD_eq_getElem?_getD,List.getElem?_eq_none (by omega)];simp [val]
theorem Yab{l:List Nat}(h:WL l)(m:Nat):val (l.take m)<4294967296 ^ m:=
 Nat.lt_of_lt_of_le (Yl (vu h m)) (Nat.pow_le_pow_right (by omega) (by rw [List.length_take];omega))
theorem Xa1{x y:List Nat}{m:Nat}(hx:WL x)(hd:val (x.drop (m+1))=val (y.drop (m+1)))(h:x.getD m 0<y.getD m 0):val x<val y:=by
 have h1:=XU x m;have h2:=XU y m;have h3:=Yab hx m;rw [yy,hd]at h1;rw [yy]at h2;generalize 4294967296 ^ m=p at *
 have:p*(x.getD m 0+4294967296*val (y.drop (m+1))+1)<=p*(y.getD m 0+4294967296*val (y.drop (m+1))):=Nat.mul_le_mul_left _ (by omega)
 rw [Nat.mul_add p _ 1]at this;omega
theorem vU{x y c:Nat}(hx:x<4294967296)(hy:y<4294967296)(hc:c<=1):∃s:Nat,((((4294967296+(x:Int)) % 18446744073709551616-(y:Int)) % 18446744073709551616-(c:Int)) % 18446744073709551616)=(s:Int)/\
  (1-(s:Int) / 4294967296) % 18446744073709551616=((1-s / 4294967296:Nat):Int)/\s % 4294967296+y+c=x+4294967296*(1-s / 4294967296)/\1-s / 4294967296<=1:=by
 exact⟨4294967296+x-y-c,by omega,by omega,by omega,by omega⟩
theorem VaX{V Q c xa ya a b u w B:Nat}(h:V+Q*c=xa+ya)(hs:u+B*w=a+b+c):V+Q*u+Q*B*w=xa+Q*a+(ya+Q*b):=by
 have:=congrArg (Q * ·) hs;simp only [Nat.mul_add]at this;rw [Nat.mul_assoc Q B w];omega
theorem xaL{o l post:List Nat}(h:o.length<=l.length):(o++(l.drop o.length++post)).length=l.length+post.length:=by simp;omega
theorem yac{o l post:List Nat}(h:o.length<=l.length):(o++(l.drop o.length++post)).take l.length=o++l.drop o.length:=by
 rw [<-List.append_assoc,List.take_append_of_le_length (by simp;omega),List.take_of_length_le (by simp;omega)]
theorem yal(o l:List Nat)(k:Nat):(o++l.drop o.length).getD (o.length+k) 0=l.getD (o.length+k) 0:=by
 simp only [List.getD_eq_getElem?_getD];rw [List.getElem?_append_right (by omega),List.getElem?_drop,show o.length+(o.length+k-o.length)=o.length+k by omega]
theorem vR(o l:List Nat):(o++l.drop o.length).getD o.length 0=l.getD o.length 0:=yal o l 0
theorem xar{o l post:List Nat}(v:Nat)(h:o.length<l.length):(o++(l.drop o.length++post)).set o.length v=(o++[v])++(l.drop (o++[v]).length++post):=by
 have:=Yaf [] o l post v h;simpa using this
theorem qbe{o l:List Nat}(h:o.length<=l.length):(o++l.drop o.length).length=l.length:=by simp;omega
theorem Jbf{o l:List Nat}(v:Nat)(h:o.length<l.length):(o++l.drop o.length).set o.length v=(o++[v])++l.drop (o++[v]).length:=by
 have:=xar (post:=[]) v h;simpa using this
theorem Wbb{o l:List Nat}(ho:WL o)(hl:WL l):WL (o++l.drop o.length):=Je.2 ⟨ho,Wbc hl _⟩
theorem uaT{a b:Nat}(ha:a<4294967296)(hb:b<4294967296):(a / 2 ||| b*2147483648 % 18446744073709551616) % 4294967296=(a+4294967296*b) / 2 ^ 1 % 4294967296:=by
 have:=Nat.two_pow_add_eq_or_of_lt (i:=31) (b:=a / 2) (by omega) b
 rw [Nat.mod_eq_of_lt (show b*2147483648<18446744073709551616 by omega),Nat.or_comm,show b*2147483648=2 ^ 31*b by omega,<-this]
 omega
theorem yaJ{l post:List Nat}{i:Nat}(h:i<l.length):(l++post).getD i 0=l.getD i 0:=by
 simp only [List.getD_eq_getElem?_getD];rw [List.getElem?_append_left h]
theorem Vk{a:Nat}(h:a≠0):0<(digs a).length:=by rw [xo h];simp
theorem zt{a:Nat}(h:a≠0)(p:List Nat):(digs a++p).getD 0 0=a % 4294967296:=by rw [xo h];rfl
theorem Vt{a:Nat}:(digs a).length=0↔a=0:=by rw [List.length_eq_zero_iff,qf]
theorem Vbg{a b k g:Nat}(ha:a % 2=0)(hb:b % 2=0)(h:Nat.gcd a b*2 ^ k=g):Nat.gcd (a / 2) (b / 2)*2 ^ (k+1)=g:=by
 obtain⟨a',rfl⟩:∃a',a=2*a':=⟨a / 2,by omega⟩
 obtain⟨b',rfl⟩:∃b',b=2*b':=⟨b / 2,by omega⟩
 rw [Nat.gcd_mul_left]at h;rw [Nat.mul_div_cancel_left _ (by omega),Nat.mul_div_cancel_left _ (by omega),Nat.pow_succ,<-h]
 rw [Nat.mul_comm (2 ^ k) 2,<-Nat.mul_assoc,Nat.mul_comm _ 2]
theorem YaC{a b:Nat}(ha:a % 2=0)(hb:b % 2≠0):Nat.gcd (a / 2) b=Nat.gcd a b:=by
 obtain⟨a',rfl⟩:∃a',a=2*a':=⟨a / 2,by omega⟩
 rw [Nat.mul_div_cancel_left _ (by omega)]
 have:Nat.Coprime 2 b:=by
  rw [Nat.coprime_iff_gcd_eq_one,Nat.gcd_rec,show b % 2=1 by omega];rfl
 exact(Nat.Coprime.gcd_mul_left_cancel a' this).symm
theorem Ja1{a b:Nat}(ha:a % 2≠0)(hb:b % 2=0):Nat.gcd a (b / 2)=Nat.gcd a b:=by
 rw [Nat.gcd_comm a,Nat.gcd_comm a];exact YaC hb ha
theorem jU{a b:Nat}(h:b<=a):Nat.gcd (a-b) b=Nat.gcd a b:=Nat.gcd_sub_self_left h
theorem Vbf{k n:Nat}(h:2 ^ k<=n){s:Nat}(hn:n<4294967296 ^ s):k<32*s:=by
 have e:(4294967296:Nat) ^ s=2 ^ (32*s):=by rw [Nat.pow_mul]
 rw [e]at hn;exact(Nat.pow_lt_pow_iff_right (by omega)).1 (Nat.lt_of_le_of_lt h hn)
theorem JF{a b:Nat}:ordN a b<0↔a<b:=by unfold ordN;split <;> (try split) <;> omega
theorem ja9{x:List Nat}(hx:WL x)(h:x.length≠0):val x<2 ^ (32*(x.length-1)+bln (x.getD (x.length-1) 0)):=by
 have h1:=XU x (x.length-1);have h2:=yy x (x.length-1);rw [show x.length-1+1=x.length by omega,List.drop_length]at h2
 have h3:=Yab hx (x.length-1);have h4:=kbm (x.getD (x.length-1) 0);have e:(4294967296:Nat) ^ (x.length-1)=2 ^ (32*(x.length-1)):=by rw [Nat.pow_mul]
 rw [h2,show val []=0 from rfl,Nat.mul_zero,Nat.add_zero]at h1;rw [Nat.pow_add,<-e];generalize 4294967296 ^ (x.length-1)=p at *
 generalize 2 ^ bln (x.getD (x.length-1) 0)=q at *
 have:p*(x.getD (x.length-1) 0+1)<=p*q:=Nat.mul_le_mul_left _ h4;rw [Nat.mul_add,Nat.mul_one]at this;omega
theorem digit(x:List Nat){m:Nat}(hx:WL x):val x / 4294967296 ^ m=x.getD m 0+4294967296*val (x.drop (m+1)):=by
 rw [XU x m,yy,Nat.add_mul_div_left _ _ (Nat.pow_pos (by omega)),Nat.div_eq_of_lt (Yab hx m),Nat.zero_add]
theorem YG(i:Nat):(2:Nat) ^ i=4294967296 ^ (i / 32)*2 ^ (i % 32):=by
 have e:(4294967296:Nat) ^ (i / 32)=2 ^ (32*(i / 32)):=by rw [Nat.pow_mul]
 rw [e,<-Nat.pow_add,Nat.div_add_mod]
theorem xbj{x:List Nat}(hx:WL x)(i:Nat):x.getD (i / 32) 0 / 2 ^ (i % 32) % 2=val x / 2 ^ i % 2:=by
 rw [YG i,<-Nat.div_div_eq_div_mul,digit x hx];have hs:i % 32<32:=Nat.mod_lt _ (by omega)
 generalize i % 32=s at *
 generalize val (x.drop (i / 32+1))=r;have e:(4294967296:Nat)=2 ^ s*(2*2 ^ (31-s)):=by
  rw [Nat.mul_left_comm,<-Nat.pow_add,show s+(31-s)=31 by omega]
 rw [e,Nat.mul_assoc,Nat.add_mul_div_left _ _ (Nat.pow_pos (by omega)),Nat.mul_assoc,Nat.add_mul_mod_self_left]
theorem Xah(v i:Nat):v / 2 ^ i=2*(v / 2 ^ (i+1))+v / 2 ^ i % 2:=by
 rw [Nat.pow_succ,<-Nat.div_div_eq_div_mul];omega
theorem Jbp{a c:Nat}(hc:c<=1):a*2 % 4294967296 ||| c=a*2 % 4294967296+c:=by
 have:=Nat.two_pow_add_eq_or_of_lt (i:=1) (b:=c) (by omega) (a*2 % 4294967296 / 2)
 rw [show 2 ^ 1*(a*2 % 4294967296 / 2)=a*2 % 4294967296 by omega]at this
 exact this.symm
theorem wbf{a s:Nat}(hs:s<32)(h:a % 2 ^ (s+1)=0):a ||| 2 ^ s=a+2 ^ s:=by
 have:=Nat.two_pow_add_eq_or_of_lt (i:=s+1) (b:=2 ^ s) (Nat.pow_lt_pow_right (by omega) (by omega)) (a / 2 ^ (s+1))
 rw [Nat.mul_div_cancel' (Nat.dvd_of_mod_eq_zero h)]at this;exact this.symm
theorem WaT{q:List Nat}(hq:WL q){i Q:Nat}(h:val q=Q*2 ^ (i+1)):q.getD (i / 32) 0 % 2 ^ (i % 32+1)=0:=by
 have hs:i % 32<32:=Nat.mod_lt _ (by omega)
 have h1:=digit q hq (m:=i / 32);have e1:(2:Nat) ^ (i+1)=4294967296 ^ (i / 32)*2 ^ (i % 32+1):=by rw [Nat.pow_succ,YG,Nat.pow_succ,Nat.mul_assoc]
 rw [h,e1,Nat.mul_left_comm,Nat.mul_div_cancel_left _ (Nat.pow_pos (by omega))]at h1
 generalize i % 32=s at *
 generalize val (q.drop (i / 32+1))=r at *
 have e2:(4294967296:Nat)=2 ^ (s+1)*2 ^ (31-s):=by
  rw [<-Nat.pow_add,show s+1+(31-s)=32 by omega]
 have:(q.getD (i / 32) 0+4294967296*r) % 2 ^ (s+1)=0:=by rw [<-h1];exact Nat.mul_mod_left _ _
 rw [e2,Nat.mul_assoc,Nat.add_mul_mod_self_left]at this;exact this
theorem uaU{vo p c tr bit x:Nat}(h:vo+p*c=2*tr+bit)(hx:x<4294967296):vo+p*(x*2 % 4294967296+c)+p*4294967296*(x / 2147483648)=2*(tr+p*x)+bit:=by
 have e:x*2 % 4294967296+4294967296*(x / 2147483648)=2*x:=by omega
 have:=congrArg (p * ·) e;simp only [Nat.mul_add]at this ⊢;rw [Nat.mul_assoc p 4294967296];have e2:p*(2*x)=2*(p*x):=by rw [Nat.mul_left_comm]
 omega
theorem YaB{v y i q r bit:Nat}(hy:0<y)(hb:v / 2 ^ i % 2=bit)(hq:q=v / 2 ^ (i+1) / y*2 ^ (i+1))(hr:r=v / 2 ^ (i+1) % y)(h:y<=2*r+bit):q+2 ^ i=v / 2 ^ i / y*2 ^ i/\2*r+bit-y=v / 2 ^ i % y:=by
 have e:=Xah v i;rw [hb]at e;have d:=Nat.div_add_mod (v / 2 ^ (i+1)) y;have hm:=Nat.mod_lt (v / 2 ^ (i+1)) hy;rw [<-hr]at d hm;generalize hQ:v / 2 ^ (i+1) / y=Q at *
 generalize v / 2 ^ (i+1)=X at *
 have hb1:bit<=1:=by omega
 have key:v / 2 ^ i=y*(2*Q+1)+(2*r+bit-y):=by
  have e2:y*(2*Q+1)=2*(y*Q)+y:=by rw [Nat.mul_add,Nat.mul_one,Nat.mul_left_comm y 2 Q]
  rw [e,<-d,e2];omega
 have hlt:2*r+bit-y<y:=by omega
 constructor
 .rw [key,Nat.mul_add_div hy,Nat.div_eq_of_lt hlt,Nat.add_zero,hq,Nat.pow_succ,Nat.add_mul,Nat.one_mul,Nat.mul_comm 2 Q,Nat.mul_assoc,Nat.mul_comm 2]
 .rw [key,Nat.mul_add_mod,Nat.mod_eq_of_lt hlt]
theorem VaH{v y i q r bit:Nat}(hy:0<y)(hb:v / 2 ^ i % 2=bit)(hq:q=v / 2 ^ (i+1) / y*2 ^ (i+1))(hr:r=v / 2 ^ (i+1) % y)(h:2*r+bit<y):q=v / 2 ^ i / y*2 ^ i/\2*r+bit=v / 2 ^ i % y:=by
 have e:=Xah v i;rw [hb]at e;have d:=Nat.div_add_mod (v / 2 ^ (i+1)) y;rw [<-hr]at d;generalize hQ:v / 2 ^ (i+1) / y=Q at *
 generalize v / 2 ^ (i+1)=X at *
 have key:v / 2 ^ i=y*(2*Q)+(2*r+bit):=by
  have e2:y*(2*Q)=2*(y*Q):=by rw [Nat.mul_left_comm y 2 Q]
  rw [e,<-d,e2];omega
 constructor
 .rw [key,Nat.mul_add_div hy,Nat.div_eq_of_lt h,Nat.add_zero,hq,Nat.pow_succ,Nat.mul_comm 2 Q,Nat.mul_assoc,Nat.mul_comm 2]
 .rw [key,Nat.mul_add_mod,Nat.mod_eq_of_lt h]
end Go.Num
namespace Go.Abs
open Go.Num
theorem share4{c1 c2 c3 p d1 d2 d3 q X L:Prop}(h1:c1)(h2:c2)(h3:c3)(k1:d1)(k2:d2)(k3:d3)(hx:p->q->X)(hl:¬p∨¬q->L):c1/\c2/\c3/\(p->d1/\d2/\d3/\(q->X)/\(¬q->L))/\(¬p->L):=
 ⟨h1,h2,h3,λhp=>⟨k1,k2,k3,hx hp,λhq=>hl (.inr hq)⟩,λhp=>hl (.inl hp)⟩
theorem Jl(K:AV->Prop)(a:Nat):arith K .and .u32 (a:Int) 1=(a<2 ^ IntKind.u32.bits/\intR K .u32 ((a % 2:Nat):Int)):=Zay K .u32 a rfl (by decide)
theorem W1{h' : Nat->HB}{k v v' z:Nat}{b:Bool}{es:List (List C)}{l' : List Nat}{r:List (Nat×HB)}(e:es=l'.map wc):okH (mkH ((k,⟨v,some ⟨es,z,b⟩⟩)::r)) h' [(k,⟨v',some ⟨l'.map wc,z,b⟩⟩)]:=by
 subst e;exact kf rfl
theorem WaN{h h' : Nat->HB}{z:Nat}{b:Bool}{es:List (List C)}{l' : List Nat}(e:es=l'.map wc):okB h h' (some ⟨es,z,b⟩) (some ⟨l'.map wc,z,b⟩):=by
 subst e;exact Ua rfl
theorem yaQ(L:List Nat)(i s:Nat):(L.map wc).set i [C.lit (.int .u32 ((s:Int) % 4294967296))]=(L.set i (s % 4294967296)).map wc:=by
 rw [List.map_set];simp [wc]
def onWx(k:List Nat->Prop)(a:AV):Prop:=∃l,(a=.one (ws l)∨a=.one (.full (l.map wc))∨(a=.one .emp/\l=[]))/\WL l/\k l
@[congr] theorem qbw{k:List Nat->Prop}{a a'}(h:a=a'):onWx k a=onWx k a':=by subst h;rfl
theorem qY(k:List Nat->Prop)(l:List Nat):onWx k (.one (.slice (l.map wc)))=(WL l/\k l):=by
 refine propext ⟨λ⟨x,h,h1,h2⟩=>?_,λh=>⟨l,.inl rfl,h⟩⟩;rcases h with h | h | h
 .have:=Ut l x h;subst this;exact⟨h1,h2⟩
 .simp at h
 .simp at h
theorem jaL(k:List Nat->Prop)(l:List Nat):onWx k (.one (.full (l.map wc)))=(WL l/\k l):=by
 refine propext ⟨λ⟨x,h,h1,h2⟩=>?_,λh=>⟨l,.inr (.inl rfl),h⟩⟩;rcases h with h | h | h
 .simp [ws]at h
 .have:=yL (x:=l) (y:=x) (by simpa using h);subst this;exact⟨h1,h2⟩
 .simp at h
theorem XaP(k:List Nat->Prop):onWx k (.one .emp)=k []:=by
 refine propext ⟨λ⟨x,h,h1,h2⟩=>?_,λh=>⟨[],.inr (.inr ⟨rfl,rfl⟩),Ub,h⟩⟩;rcases h with h | h | h
 .simp [ws]at h
 .simp at h
 .obtain⟨_,rfl⟩:=h;exact h2
attribute [go_sem,go_sem ↓] qY jaL XaP
theorem Ubo{β:Type}{T:List Nat->(β->Prop)->Prop}(h:∀l,GoodT (T l)){a:AV}:GoodT λK=>onWx (λl=>T l K) a:=
 .of λK hx=>by
  obtain⟨l,ha,hw,hk⟩:=hx;rcases ha with ha | ha | ⟨ha,rfl⟩
  .have:(λK=>onWx (λl=>T l K) a)=λK=>WL l/\T l K:=funext λK=>by rw [ha];exact qY _ l
   rw [this];exact .and λ_=>h l
  .have:(λK=>onWx (λl=>T l K) a)=λK=>WL l/\T l K:=funext λK=>by rw [ha];exact jaL _ l
   rw [this];exact .and λ_=>h l
  .have:(λK=>onWx (λl=>T l K) a)=T []:=funext λK=>by rw [ha];exact XaP _
   rw [this];exact h []
def Qw:q_F:=q_c1 λa K=>onWx (λl=>l.length<=68719476736/\K ((digs (val l)).map wc)) a
theorem XaC:Good Qw:=q_g1 λ_=>(Ubo λ_=>(.and λ_=>(.ret _)))
def kw:q_T:=q_c2 λa b K=>onWs (λx=>onWs (λy=>K (.one (.lit (.int .i64 (ordN (val x) (val y)))))) b) a
theorem Vay:Good kw:=q_g2 λ_ _=>(Ue λ_=>(Ue λ_=>(.ret _)))
def vC:q_T:=q_c2 λa b K=>onWs (λx=>onWs (λy=>x.length<=17179869184/\y.length<=17179869184/\K (.one (.slice ((digs (Nat.gcd (val x) (val y))).map wc)))) b) a
theorem yau:Good vC:=q_g2 λ_ _=>(Ue λ_=>(Ue λ_=>(.and λ_=>(.and λ_=>(.ret _)))))
def Zy:q_T:=q_c1 λa K=>onWs (λx=>x.length<=68719476736/\K (.one (.lit (.int .i64 ((if x.length=0 then 0 else 32*(x.length-1)+bln (x.getD (x.length-1) 0):Nat):Int))))) a
theorem Zae:Good Zy:=q_g1 λ_=>(Ue λ_=>(.and λ_=>(.ret _)))
def WP:q_T:=q_c2 λa b K=>onW (λv=>onW (λw=>zs (zv v)<=17179869184/\zs (zv w)<=17179869184/\K (.agg [zb (zcan (zv v-zv w)),zm (zcan (zv v-zv w))])) b) a
theorem VaB:Good WP:=q_g2 λ_ _=>(jn λ_=>(jn λ_=>(.and λ_=>(.and λ_=>(.ret _)))))
def vx:q_T:=q_c2 λa b K=>onW (λv=>onW (λw=>zs (zv v)<=17179869184/\zs (zv w)<=17179869184/\zs (zv v-zv w)<=17179869184/\K (.one (.lit (.int .i64 (ordI (zv v) (zv w)))))) b) a
theorem Yae:Good vx:=q_g2 λ_ _=>(jn λ_=>(jn λ_=>(.and λ_=>(.and λ_=>(.and λ_=>(.ret _))))))
def jx:q_T:=q_c2 λa b K=>onW (λv=>onW (λw=>zs (zv v)<=17179869184/\zs (zv w)<=17179869184/\zv w≠0/\K (.tup [.agg [zb (zcan (zv v / zv w)),zm (zcan (zv v / zv w))],.agg [zb (zcan (zv v % zv w)),zm (zcan (zv v % zv w))],.one (.lit (.int .i64 0))])) b) a
theorem vab:Good jx:=q_g2 λ_ _=>(jn λ_=>(jn λ_=>(.and λ_=>(.and λ_=>(.and λ_=>(.ret _))))))
attribute [go_sem] Qw kw vC Zy WP vx jx
def X9(d:Option Nat)(args:List AV)(h:Nat->HB)(K:AV->(Nat->HB)->Prop):Prop:=
 match args with
 | [.one (.own r ver 1 0 len)]=>∃l post,len=l.length/\h r=⟨ver,some ⟨(l++post).map wc,1,true⟩⟩/\WL l/\len<=68719476736/\
   ∀post',K (.one (.own r ver 1 0 (digs (val l)).length)) (upd h r ⟨ver,some ⟨(digs (val l)++post').map wc,1,true⟩⟩)
 | _=>False
@[congr] theorem xbw {d:Option Nat} {l l' : List AV} {h h' : Nat->HB} {K:AV->(Nat->HB)->Prop} (e1:l=l') (e2:h=h'):X9 d l h K=X9 d l' h' K:=by subst e1;subst e2;rfl
def Un(d:Option Nat)(args:List AV)(h:Nat->HB)(K:AV->(Nat->HB)->Prop):Prop:=
 match args with
 | [.one (.own r ver 1 0 len)]=>∃l post,len=l.length/\h r=⟨ver,some ⟨(l++post).map wc,1,true⟩⟩/\WL l/\len<=68719476736/\
   ∀post',K (.one (.own r ver 1 0 (digs (val l / 2)).length)) (upd h r ⟨ver,some ⟨(digs (val l / 2)++post').map wc,1,true⟩⟩)
 | _=>False
@[congr] theorem jbr {d:Option Nat} {l l' : List AV} {h h' : Nat->HB} {K:AV->(Nat->HB)->Prop} (e1:l=l') (e2:h=h'):Un d l h K=Un d l' h' K:=by subst e1;subst e2;rfl
def Ws(d:Option Nat)(args:List AV)(h:Nat->HB)(K:AV->(Nat->HB)->Prop):Prop:=
 match args with
 | [.one (.own r ver 1 0 len),.one (.own r2 ver2 1 0 len2)]=>∃l post y posty,r≠r2/\len=l.length/\h r=⟨ver,some ⟨(l++post).map wc,1,true⟩⟩/\WL l/\len<=68719476736/\
   len2=y.length/\h r2=⟨ver2,some ⟨(y++posty).map wc,1,true⟩⟩/\WL y/\val y<=val l/\
   K (.tup []) (upd (upd h r2 ⟨ver2,some ⟨(y++posty).map wc,1,true⟩⟩) r ⟨ver,some ⟨(dig l.length (val l-val y)++post).map wc,1,true⟩⟩)
 | [.one (.own r ver 1 0 len),b]=>onWs (λy=>∃l post,len=l.length/\h r=⟨ver,some ⟨(l++post).map wc,1,true⟩⟩/\WL l/\len<=68719476736/\val y<=val l/\
   K (.tup []) (upd h r ⟨ver,some ⟨(dig l.length (val l-val y)++post).map wc,1,true⟩⟩)) b
 | _=>False
@[congr] theorem Xbt {d:Option Nat} {l l' : List AV} {h h' : Nat->HB} {K:AV->(Nat->HB)->Prop} (e1:l=l') (e2:h=h'):Ws d l h K=Ws d l' h' K:=by subst e1;subst e2;rfl
end Go.Abs
end
section
namespace Go.Abs
open Go.Num
variable {P:Program} {Γ:Nat->Spec}
def Jg(f0 f1 f2 f3:Nat):AC:=(.o [.K 1 3 0,.m 2 .fa] [1] (.f (.o [.A 3 1 1,.F 4 1 3,.Z 5 4,.I 6 .eql 5 0,.M 7 6,.T 8 7 true 2 1,.U 9 7 true 1 false 8,.w 10 7 true (.len (.t 9)),.w 11 7 true (.bin .eql (.t 10) (.i 0)),.P 12 7 11] [1,12] (.cond (.t 12) (.seq (.p [.A 13 0 1,.F 14 1 13,.u 15 (.un .not (.t 14)),.M 2 15]) .ret) .skip)) [1] (.seq (.p [.A 16 1 1,.F 17 1 16,.H 18 f0 17,.M 19 18,.T 20 19 true 2 1,.U 21 19 true 1 false 20,.W 22 19 true f0 21,.P 23 19 22,.M 24 23,.T 25 24 true 1 1,.U 26 24 true 1 false 25,.w 27 24 true (.build [.z [.z],.x 1 (.t 26)]),.T 28 24 true 2 1,.U 29 24 true 1 false 28,.w 30 24 true (.build [.z [.z],.x 1 (.t 29)]),.Y 31 24 true f1 27 30,.w 32 24 true (.call f2 []),.Y 33 24 true f3 31 32,.w 34 24 true (.bin .eql (.t 33) (.i 0)),.P 35 24 34,.M 2 35]) .ret)))
def Wg(f0 f1:Nat):AC:=(.o [.K 1 3 0,.G 2 [.z,.emp],.G 3 [.z,.emp]] [1,2,3] (.f (.o [.L 4 3 1,.H 5 f0 4,.u 6 (.un .not (.t 5)),.M 7 6,.T 8 7 false 1 1,.U 9 7 false 1 false 8,.w 10 7 false (.len (.t 9)),.w 11 7 false (.bin .eql (.t 10) (.i 0)),.Q 12 7 11] [1,2,3,12] (.cond (.t 12) (.seq (.p [.u 13 (.build [.z [.z,.emp]]),.u 14 (.call f1 []),.S 2 2 13,.S 2 3 14]) .ret) .skip)) [1,2,3] (.seq (.y [.A 15 0 1,.u 16 (.ld (some 1) 1 false (.t 15)),.A 17 1 1,.u 18 (.ld (some 1) 1 false (.t 17)),.u 19 (.build [.x 1 (.t 16),.x 1 (.t 18)]),.A 20 2 1,.u 21 (.ld (some 1) 1 false (.t 20)),.u 22 (.build [.z [.z],.x 1 (.t 21)]),.n (.st (some 2) 2 (.t 2) (.t 19)),.n (.st (some 3) 2 (.t 3) (.t 22))]) .ret)))
def yh(f0 f1 f2 f3:Nat):AC:=(.o [.K 2 2 0,.K 3 2 1,.G 4 [.z,.emp,.emp]] [2,3,4] (.f (.o [.L 12 2 2,.H 13 f0 12,.I 14 .eql 13 0] [2,3,4,14] (.cond (.t 14) (.seq (.p [.u 15 (.build [.z [.z,.emp,.emp]]),.S 3 4 15]) .ret) .skip)) [2,3,4] (.f (.o [.L 16 2 3,.H 17 f0 16,.I 18 .lss 17 0] [2,3,4,18] (.cond (.t 18) (.y [.L 19 2 2,.H 20 f1 19,.L 21 2 3,.H 22 f1 21,.S 2 2 20,.S 2 3 22]) .skip)) [2,3,4] (.o [.L 23 2 2,.L 24 2 3,.D 25 f2 23 24,.G 5 [.z,.emp],.S 2 5 25] [2,3,4,5] (.o [.L 27 2 2,.L 28 2 5,.D 29 f3 27 28,.M 26 29,.X 30 0 26,.X 31 1 26,.X 32 2 26,.G 6 [.z,.emp],.G 7 [.z,.emp],.S 2 6 30,.S 2 7 31,.M 8 32] [3,4,5,6] (.o [.L 34 2 3,.L 35 2 5,.D 36 f3 34 35,.M 33 36,.X 37 0 33,.X 38 1 33,.X 39 2 33,.G 9 [.z,.emp],.G 10 [.z,.emp],.S 2 9 37,.S 2 10 38,.M 11 39] [4,6,9] (.seq (.p [.A 40 0 6,.F 41 1 40,.A 42 1 6,.F 43 1 42,.A 44 1 9,.F 45 1 44,.u 46 (.build [.x 1 (.t 41),.x 1 (.t 43),.x 1 (.t 45)]),.S 3 4 46]) .ret)))))))
def kg:AC:=(.o [.m 2 .fa] [0] (.seq (.p [.M 3 0,.Z 4 3,.I 5 .gtr 4 0,.M 6 5,.V 7 6 true 0,.V 8 6 true 0,.w 9 6 true (.len (.t 8)),.w 10 6 true (.bin .sub (.t 9) (.i 1)),.w 11 6 true (.idx 1 (.t 7) (.t 10)),.U 12 6 true 1 false 11,.w 13 6 true (.bin .neq (.t 12) (.c (.one (.lit (.int .u32 0))))),.P 14 6 13,.M 2 14]) .ret))
theorem kJ{n d N D:Int}{g:Nat}(hd:d≠0)(hn:n≠0)(hN:N=d.sign*n)(hD:0<=D)(e2:D.natAbs=d.natAbs)(eg:g=Int.gcd n d) :
  AV.agg [zb (zcan (N / (g:Int))),zm (zcan (N / (g:Int))),zm (zcan (D / (g:Int)))]=.agg [cb (rcan (Rat.divInt n d)),cn (rcan (Rat.divInt n d)),cd (rcan (Rat.divInt n d))]:=by
 obtain⟨D',rfl⟩:=Int.eq_ofNat_of_zero_le hD;simp only [Int.natAbs_natCast]at e2;subst e2 eg hN;have hg:0<Int.gcd n d:=Int.gcd_pos_of_ne_zero_left _ hn;rw [uS,YT,zT,qH hd hn,qav,qav,xa6];have hdv:((Int.gcd n d:Nat):Int) ∣ d.sign*n:=Int.dvd_mul_of_dvd_right (Int.gcd_dvd_left _ _);obtain⟨k,hk⟩:=hdv;have hs:(d.sign*n).natAbs=n.natAbs:=by
  rw [Int.natAbs_mul,Int.natAbs_sign_of_ne_zero hd,Nat.one_mul]
 have e:(d.sign*n / ((Int.gcd n d:Nat):Int))=k:=by rw [hk,Int.mul_ediv_cancel_left _ (by omega)]
 rw [e,<-Int.natCast_ediv];simp only [zcan,Int.natAbs_natCast];have hk2:k.natAbs=n.natAbs / Int.gcd n d:=by
  rw [<-hs,hk,Int.natAbs_mul];simp only [Int.natAbs_natCast];rw [Nat.mul_div_cancel_left _ hg]
 have:decide (k<0)=decide (d.sign*n<0):=by
  rw [decide_eq_decide,hk];constructor
  .intro h;exact Int.mul_neg_of_pos_of_neg (by omega) h
  .intro h;rcases Int.lt_or_le k 0 with h' | h'
   .exact h'
   .have:=Int.mul_nonneg (show(0:Int)<=((Int.gcd n d:Nat):Int) by omega) h';omega
 rw [hk2,this]
theorem YK(hΓ:Holds P Γ){f:Nat}(hc:check P f=some (15,kg.strip,[.tmp 2])):Sound P f (.dat true kx):=by
 refine Qa hc wag hΓ (λargs K hcl hfi hG=>?_);match args,hG with
 | [a],hG=>
  obtain⟨l,rfl,hl,hK⟩:=hG;refine⟨by simp,?_⟩
  simp only [go_sem,kg];intro _;refine⟨λh _=>⟨by omega,by omega,by omega,?_⟩,λh=>?_⟩
  .have hne:l≠[]:=λe=>by rw [e]at h;simp at h
   rw [show((l.length:Int)-1).toNat=l.length-1 by omega]
   have e:(!decide (l.getD (l.length-1) 0=0))=decide (l≠[]/\NZ l):=by
    rw [<-decide_not,decide_eq_decide];unfold NZ;rw [List.getLast?_eq_getElem?,List.getElem?_eq_getElem (by omega),List.getD_eq_getElem?_getD,List.getElem?_eq_getElem (by omega)]
    simp [hne]
   rw [e];exact hK
  .have hne:l=[]:=List.eq_nil_of_length_eq_zero (by omega)
   rw [decide_eq_false (λe=>e.1 hne)]at hK;exact hK
theorem wK(hΓ:Holds P Γ){f fv fg fo fc:Nat}(hv:Γ fv=.dat true kx)(hg:Γ fg=.dat false Yv)(ho:Γ fo=.dat false Uq)(hc' : Γ fc=.dat true vx)(hc:check P f=some (36,(Jg fv fg fo fc).strip,[.tmp 2])):Sound P f (.dat true Xg):=by
 refine Qa hc yJ hΓ (λargs K hcl hfi hG=>?_);match args,hG with
 | [a],hG=>
  obtain⟨x,rfl,hx,hl,hK⟩:=hG;refine⟨by simp,?_⟩
  simp only [go_sem,Jg,hv,hg,ho,hc',uS,YT,zT];have hl1:x.2.1.length<=4294967296:=Nat.le_trans (Nat.le_max_left _ _) hl;have hl2:x.2.2.length<=4294967296:=Nat.le_trans (Nat.le_max_right _ _) hl;have e0:∀{l:List Nat},¬l.length=0->l≠[]:=λh e=>h (by rw [e];rfl)
  have key:¬(x.2.1=[]/\x.2.2=[])->WL x.2.1/\(x.2.1≠[]/\NZ x.2.1->WL x.2.2/\(x.2.2≠[]/\NZ x.2.2->WL x.2.1/\WL x.2.2/\zs (zv (false,x.2.1))<=17179869184/\zs (zv (false,x.2.2))<=17179869184/\
    zs (((zv (false,x.2.1)).gcd (zv (false,x.2.2)):Nat):Int)<=17179869184/\zs 1<=17179869184/\zs ((((zv (false,x.2.1)).gcd (zv (false,x.2.2)):Nat):Int)-1)<=17179869184/\
    K (AV.one (C.lit (Value.bool (decide (ordI (((zv (false,x.2.1)).gcd (zv (false,x.2.2)):Nat):Int) 1=0))))))/\(¬(x.2.2≠[]/\NZ x.2.2)->K (AV.one (C.lit (Value.bool false)))))/\(¬(x.2.1≠[]/\NZ x.2.1)->K (AV.one (C.lit (Value.bool false)))):=by
   intro hnd;unfold vldR at hK;rw [if_neg hnd]at hK;refine⟨hx.1,λh1=>⟨hx.2,λh2=>?_,λh2=>?_⟩,λh1=>?_⟩
   .have s2:zs (zv (false,x.2.2))<=4294967296:=by rw [zv_f h2.2,W9,Wd hx.2 h2.2];exact hl2
    have hne:zv (false,x.2.2)≠0:=by
     rw [zv_f h2.2];have:=Zc h2.2 h2.1;omega
    have s3:=uaM (v:=zv (false,x.2.1)) hne s2;have s4:zs 1<=2:=Jag (by decide)
    have s5:=vK ((((zv (false,x.2.1)).gcd (zv (false,x.2.2)):Nat):Int)) (-1);rw [zab,<-Int.sub_eq_add_neg]at s5;refine⟨hx.1,hx.2,?_,by omega,by omega,by omega,by omega,?_⟩
    .rw [zv_f h1.2,W9,Wd hx.1 h1.2];omega
    .rw [zv_f h1.2,zv_f h2.2];have e:decide (ordI (((((val x.2.1:Nat):Int)).gcd ((val x.2.2:Nat):Int):Nat):Int) 1=0)=decide (x.2.1≠[]/\x.2.2≠[]/\NZ x.2.1/\NZ x.2.2/\Nat.gcd (val x.2.1) (val x.2.2)=1):=by
      rw [decide_eq_decide,qW,Int.gcd_natCast_natCast];constructor
      .intro h;exact⟨h1.1,h2.1,h1.2,h2.2,by omega⟩
      .rintro⟨_,_,_,_,h⟩;omega
     rw [e];exact hK
   .rw [decide_eq_false (λh=>h2 ⟨h.2.1,h.2.2.2.1⟩)]at hK;exact hK
   .rw [decide_eq_false (λh=>h1 ⟨h.1,h.2.2.1⟩)]at hK;exact hK
  refine λ_=>⟨λhn _=>⟨λhd=>?_,λhd=>key (λh=>e0 hd h.2)⟩,λhn=>key (λh=>e0 hn h.1)⟩;unfold vldR at hK;rw [if_pos ⟨List.eq_nil_of_length_eq_zero hn,List.eq_nil_of_length_eq_zero hd⟩]at hK;exact hK
theorem kK(hΓ:Holds P Γ){f fv fo:Nat}(hv:Γ fv=.dat true Xg)(ho:Γ fo=.dat false Uq)(hc:check P f=some (23,(Wg fv fo).strip,[.cell 2 2 true,.cell 3 2 true])):Sound P f (.dat false vf):=by
 refine Qa hc uJ hΓ (λargs K hcl hfi hG=>?_);match args,hG with
 | [a],hG=>
  obtain⟨x,rfl,hx,hl,hK⟩:=hG;refine⟨by simp,?_⟩
  simp only [go_sem,Wg,hv,ho,uS,YT,zT];have hl1:x.2.1.length<=4294967296:=Nat.le_trans (Nat.le_max_left _ _) hl;have hl2:x.2.2.length<=4294967296:=Nat.le_trans (Nat.le_max_right _ _) hl;have e0:(zcan 0)=(false,[]):=by simp [zcan,Zb]
  have h0:rv x=0->K (AV.tup [AV.agg [C.lit (Value.bool false),C.slice []],AV.agg [zb (zcan 1),zm (zcan 1)]]):=by
   intro h;rw [h]at hK;have e1:((0:Rat).num)=0:=rfl;have e2:((0:Rat).den:Int)=1:=rfl;rw [e1,e2,e0]at hK;exact hK
  refine⟨hx,hl,λhv _=>⟨λhn=>h0 ?_,λhn=>?_⟩,λhv=>h0 (uab hv)⟩
  .unfold rv;rw [if_pos hv,List.eq_nil_of_length_eq_zero hn];simp [val,sg]
  .obtain⟨p1,p2,p3,p4,p5,p6⟩:=xR hx hv (λe=>hn (by rw [e];rfl))
   have hn0:=Zc p4 (λe=>hn (by rw [e];rfl))
   rw [p1,p2]at hK;have e1:zcan (sg x.1 (val x.2.1))=(x.1,x.2.1):=by
    rw [<-XL,Wd hx.1 p4];have:decide (0<x.2.1.length)=true:=by simp only [decide_eq_true_eq];omega
    rw [this,Bool.and_true]
   have e2:zcan ((val x.2.2:Nat):Int)=(false,x.2.2):=by
    have:=XL false (val x.2.2);rw [Wd hx.2 p5,Bool.false_and]at this;exact this.symm
   rw [e1,e2]at hK;exact hK
theorem ZV(hΓ:Holds P Γ){f fs fn fg fd:Nat}(hs:Γ fs=.dat true Uj)(hn:Γ fn=.dat false Yw)(hg:Γ fg=.dat false Yv)(hd:Γ fd=.dat false jx)(hc:check P f=some (47,(yh fs fn fg fd).strip,[.cell 4 3 true])):Sound P f (.dat false Vm):=by
 refine Qa hc uM hΓ (λargs K hcl hfi hG=>?_);match args,hG with
 | [a,b],hG=>
  obtain⟨v,rfl,hv,w,rfl,hw,hz,hz',h0,hK⟩:=hG;refine⟨by simp,?_⟩
  simp only [go_sem,yh,hs,hn,hg,hd,hv,hw];generalize zv v=n at *
  generalize zv w=d at *
  have hd0:=h0;refine⟨λh=>?_,λh=>?_⟩
  .rw [Int.sign_eq_zero_iff_zero.1 h,Rat.zero_divInt,Ye]at hK;exact hK
  have hn0:n≠0:=λe=>h (by rw [e];rfl)
  have hg0:((Int.gcd n d:Nat):Int)≠0:=by
   have:=Int.gcd_pos_of_ne_zero_left d hn0;omega
  have hgz:zs ((Int.gcd n d:Nat):Int)<=17179869184:=uaM hd0 hz';simp only [Int.gcd_neg,Int.neg_gcd,zab,jaH];refine⟨λhdn=>⟨by omega,by omega,hz,hz',hz,hgz,hg0,hz',hgz,hg0,?_⟩,λhdn=>⟨hz,hz',hz,hgz,hg0,hz',hgz,hg0,?_⟩⟩
  .rw [kJ hd0 hn0 (by rw [Int.sign_eq_neg_one_of_neg hdn];omega) (by omega) (by omega) rfl];exact hK
  .rw [kJ hd0 hn0 (by rw [Int.sign_eq_one_of_pos (by omega)];omega) (by omega) (by omega) rfl];exact hK
end Go.Abs
end
section
namespace Go.Num
open Go.Abs
theorem rz_0:rz 0=0:=by unfold rz;rw [Ye];rfl
theorem rz_1:rz 1<=2:=by
 have:=wa3 1;have h1:zs 1<=2:=Jag (by decide)
 have e:((1:Int):Rat)=1:=rfl;rw [e]at this;omega
theorem ve(p q:Rat):rz (p*q)<=rz p+rz q+2:=by
 rw [<-yZ];have n1:=yG p;have n2:=yG q;have d1:=yI p;have d2:=yI q;have m1:=jp p.num q.num;have m2:=jp (p.den:Int) (q.den:Int);refine VA (by exact Int.mul_ne_zero (Xw _) (Xw _)) (by omega) (by omega)
theorem jY{p q:Rat}(hq:q≠0):Rat.divInt (p.num*q.den) (p.den*q.num)=p / q:=by
 have hn:q.num≠0:=XaF hq;have e1:(p.num:Rat) / (p.den:Rat)=p:=by have:=Rat.num_divInt_den p;rw [Rat.divInt_eq_div]at this;exact this
 have e2:(q.num:Rat) / (q.den:Rat)=q:=by have:=Rat.num_divInt_den q;rw [Rat.divInt_eq_div]at this;exact this
 have d1:(p.den:Rat)≠0:=by exact_mod_cast p.den_nz
 have d2:(q.den:Rat)≠0:=by exact_mod_cast q.den_nz
 have d3:(q.num:Rat)≠0:=by exact_mod_cast hn
 rw [Rat.divInt_eq_div];simp only [Rat.intCast_mul,Rat.intCast_natCast];have f1:(p.num:Rat)=p*(p.den:Rat):=by grind
 have f2:(q.num:Rat)=q*(q.den:Rat):=by grind
 rw [f1,f2];grind
theorem zaH(p q:Rat):rz (p / q)<=rz p+rz q+2:=by
 by_cases hq:q=0
 .subst hq;rw [Rat.div_def,Rat.inv_zero,Rat.mul_zero,rz_0];omega
 .rw [<-jY hq];have n1:=yG p;have n2:=yG q;have d1:=yI p;have d2:=yI q;have m1:=jp p.num (q.den:Int);have m2:=jp (p.den:Int) q.num;refine VA (by exact Int.mul_ne_zero (Xw _) (XaF hq)) (by omega) (by omega)
theorem qbo(p q:Rat):Rat.divInt (p.num*q.den) (p.den*q.num)=p / q:=by
 by_cases hq:q=0
 .subst hq;rw [show(0:Rat).num=0 from rfl,Int.mul_zero,Rat.divInt_zero,Rat.div_def,Rat.inv_zero,Rat.mul_zero]
 .exact jY hq
end Go.Num
namespace Go.Abs
open Go.Num
variable {P:Program} {Γ:Nat->Spec}
def rQ(q:Rat):AV:=.agg [cb (rcan q),cn (rcan q),cd (rcan q)]
theorem ubd(q:Rat):rQ q=.agg [cb (rcan q),cn (rcan q),cd (rcan q)]:=eq_of_heq (HEq.refl _)
attribute [go_sem,go_sem ↓] ubd
def Zj:q_T:=q_c2 λa b K=>onR (λx=>onR (λy=>rl x<=4294967296/\rl y<=4294967296/\K (rQ (rv x*rv y))) b) a
theorem XaO:Good Zj:=q_g2 λ_ _=>(xk λ_=>(xk λ_=>(.and λ_=>(.and λ_=>(.ret _)))))
def xx(tE:Nat):q_T:=q_c2 λa b K=>onW (λv=>onW (λw=>zs (zv v)<=17179869184/\zs (zv w)<=17179869184/\K (.tup [rQ (Rat.divInt (zv v) (zv w)),errV tE (if zv w=0 then 8 else 0)])) b) a
theorem Uae(tE:Nat):Good (xx tE):=q_g2 λ_ _=>(jn λ_=>(jn λ_=>(.and λ_=>(.and λ_=>(.ret _)))))
def Yz(tE:Nat):q_T:=q_c2 λa b K=>onR (λx=>onR (λy=>rl x<=4294967296/\rl y<=4294967296/\K (.tup [rQ (rv x / rv y),errV tE (if rv y=0 then 8 else 0)])) b) a
theorem Yau(tE:Nat):Good (Yz tE):=q_g2 λ_ _=>(xk λ_=>(xk λ_=>(.and λ_=>(.and λ_=>(.ret _)))))
attribute [go_sem] Zj xx Yz
def Wl(f0 f1 f2:Nat):AC:=(.o [.K 2 3 0,.K 3 3 1,.G 4 [.z,.emp,.emp]] [2,3,4] (.o [.L 10 3 2,.H 11 f0 10,.M 9 11,.X 12 0 9,.X 13 1 9,.G 5 [.z,.emp],.G 6 [.z,.emp],.S 2 5 12,.S 2 6 13] [3,4,5,6] (.o [.L 15 3 3,.H 16 f0 15,.M 14 16,.X 17 0 14,.X 18 1 14,.G 7 [.z,.emp],.G 8 [.z,.emp],.S 2 7 17,.S 2 8 18] [4,5,6,7,8] (.seq (.y [.L 19 2 5,.L 20 2 7,.D 21 f1 19 20,.L 22 2 6,.L 23 2 8,.D 24 f1 22 23,.D 25 f2 21 24,.S 3 4 25]) .ret))))
def Zq(f0 f1 f2:Nat):AC:=(.o [.K 2 3 0,.K 3 3 1,.G 4 [.z,.emp,.emp],.m 5 (.c (.one (.lit .nilIface)))] [2,3,4] (.o [.L 11 3 2,.H 12 f0 11,.M 10 12,.X 13 0 10,.X 14 1 10,.G 6 [.z,.emp],.G 7 [.z,.emp],.S 2 6 13,.S 2 7 14] [3,4,6,7] (.o [.L 16 3 3,.H 17 f0 16,.M 15 17,.X 18 0 15,.X 19 1 15,.G 8 [.z,.emp],.G 9 [.z,.emp],.S 2 8 18,.S 2 9 19] [4,6,7,8,9] (.seq (.y [.L 20 2 6,.L 21 2 9,.D 22 f1 20 21,.L 23 2 7,.L 24 2 8,.D 25 f1 23 24,.D 26 f2 22 25,.X 27 0 26,.X 28 1 26,.S 3 4 27,.M 5 28]) .ret))))
theorem ZN(hΓ:Holds P Γ){f fp fm ff:Nat}(hp:Γ fp=.dat false vf)(hm:Γ fm=.dat false uw)(hf:Γ ff=.dat false Vm)(hc:check P f=some (26,(Wl fp fm ff).strip,[.cell 4 3 true])):Sound P f (.dat false Zj):=by
 refine Qa hc XaO hΓ (λargs K hcl hfi hG=>?_);match args,hG with
 | [a,b],hG=>
  obtain⟨x,rfl,hx,y,rfl,hy,hl,hl',hK⟩:=hG;refine⟨by simp,?_⟩
  simp only [go_sem,Wl,hp,hm,hf,hx,hy];have n1:=uA hx;have d1:=YB hx;have n2:=uA hy;have d2:=YB hy;have m1:=jp (rv x).num (rv y).num;have m3:=jp ((rv x).den:Int) (rv y).den;rw [Int.natCast_mul,yZ];exact⟨hl,hl',by omega,by omega,by omega,by omega,by omega,by omega,Int.mul_ne_zero (Xw _) (Xw _),hK⟩
theorem zY(hΓ:Holds P Γ){f fs ff tE:Nat}(hs:Γ fs=.dat true Uj)(hf:Γ ff=.dat false Vm)(hc:check P f=some (14,(xn fs ff tE).strip,[.cell 4 3 true,.tmp 5])):Sound P f (.dat false (xx tE)):=by
 refine Qa hc (Uae tE) hΓ (λargs K hcl hfi hG=>?_);match args,hG with
 | [a,b],hG=>
  obtain⟨v,rfl,hv,w,rfl,hw,hz,hz',hK⟩:=hG;refine⟨by simp,?_⟩
  simp only [go_sem,xn,hs,hf,hv,hw];refine⟨λe=>?_,λe=>?_⟩
  .have h0:=Int.sign_eq_zero_iff_zero.1 e;rw [if_pos h0,h0,Rat.divInt_zero,ue tE (by decide),ubd,Ye]at hK
   exact hK
  .have h0:zv w≠0:=λh=>e (by rw [h];rfl)
   rw [if_neg h0,Xd]at hK;exact⟨hz,hz',h0,hK⟩
theorem yaf(hΓ:Holds P Γ){f fp fm ff tE:Nat}(hp:Γ fp=.dat false vf)(hm:Γ fm=.dat false uw)(hf:Γ ff=.dat false (xx tE))(hc:check P f=some (29,(Zq fp fm ff).strip,[.cell 4 3 true,.tmp 5])):Sound P f (.dat false (Yz tE)):=by
 refine Qa hc (Yau tE) hΓ (λargs K hcl hfi hG=>?_);match args,hG with
 | [a,b],hG=>
  obtain⟨x,rfl,hx,y,rfl,hy,hl,hl',hK⟩:=hG;refine⟨by simp,?_⟩
  simp only [go_sem,Zq,hp,hm,hf,hx,hy];have n1:=uA hx;have d1:=YB hx;have n2:=uA hy;have d2:=YB hy;have m1:=jp (rv x).num ((rv y).den:Int);have m3:=jp ((rv x).den:Int) (rv y).num;have e:((((rv x).den:Int)*(rv y).num=0))=(rv y=0):=propext ⟨λh=>by
   rcases Int.mul_eq_zero.1 h with h | h
   .exact absurd h (Xw _)
   .exact Rat.num_eq_zero.1 h,λh=>by rw [h];exact Int.mul_zero _⟩
  simp only [e];rw [qbo];exact⟨hl,hl',by omega,by omega,by omega,by omega,by omega,by omega,hK⟩
end Go.Abs
end
section
namespace Go.Num
open Go.Abs
abbrev V2:=Rat×Rat
abbrev TnQ:=Rat×Bool
abbrev PsQ:=TnQ×V2
def tv(t:Tn):TnQ:=(rv t.1,t.2)
def pv(p:Ps):PsQ:=(tv p.1,av p.2)
def subQ(a b:V2):V2:=(a.1-b.1,a.2-b.2)
def sqQ(a:V2):Rat:=a.1*a.1+a.2*a.2
end Go.Num
end
section
namespace Go.Num
abbrev MQ:=Int×Int×Rat
abbrev BQ:=List MQ
def mv(t:Mo):MQ:=(t.1,t.2.1,rv t.2.2)
def mcan(t:MQ):Mo:=(t.1,t.2.1,rcan t.2.2)
theorem xbn(t:MQ):mv (mcan t)=t:=by unfold mv mcan;simp only [qc]
def kq(t:MQ):Nat:=tri (t.1+t.2.1).toNat+t.1.toNat
def inQ(t:MQ):Prop:=0<=t.1/\0<=t.2.1/\t.1+t.2.1<=24
theorem yaF{t:Mo}(h:inM t):inQ (mv t):=h
theorem vbt{s t:MQ}(hs:inQ s)(ht:inQ t):kq s<kq t↔s.1+s.2.1<t.1+t.2.1∨(s.1+s.2.1=t.1+t.2.1/\s.1<t.1):=Vaz (s:=mcan s) (t:=mcan t) hs ht
theorem vaL{s t:MQ}(hs:inQ s)(ht:inQ t):kq s=kq t↔s.1=t.1/\s.2.1=t.2.1:=xbr (s:=mcan s) (t:=mcan t) hs ht
theorem kbv{s:MQ}(hs:inQ s):kq s<325:=ubu (s:=mcan s) hs
def pw(x:Rat):Nat->Rat
 | 0=>1
 | n+1=>pw x n*x
theorem wC(x:Rat)(n:Nat):rz (pw x n)<=n*(rz x+2)+2:=by
 induction n with
 | zero=>have:=rz_1;simp only [pw];omega
 | succ n ih=>have:=ve (pw x n) x;simp only [pw];rw [Nat.add_mul];omega
def cf:BQ->Int->Int->Rat
 | [],_,_=>0
 | t::l,i,j=>(if t.1=i/\t.2.1=j then t.2.2 else 0)+cf l i j
def mev(t:MQ)(x y:Rat):Rat:=t.2.2*(pw x t.1.toNat*pw y t.2.1.toNat)
def ev:BQ->Rat->Rat->Rat
 | [],_,_=>0
 | t::l,x,y=>mev t x y+ev l x y
def sz:BQ->Nat
 | []=>0
 | t::l=>rz t.2.2+2+sz l
theorem Ql(l m:BQ)(i j:Int):cf (l++m) i j=cf l i j+cf m i j:=by
 induction l with
 | nil=>simp only [List.nil_append,cf,Rat.zero_add]
 | cons t l ih=>simp only [List.cons_append,cf,ih,Rat.add_assoc]
theorem vaK(l m:BQ)(x y:Rat):ev (l++m) x y=ev l x y+ev m x y:=by
 induction l with
 | nil=>simp only [List.nil_append,ev,Rat.zero_add]
 | cons t l ih=>simp only [List.cons_append,ev,ih,Rat.add_assoc]
theorem zl(l m:BQ):sz (l++m)=sz l+sz m:=by
 induction l with
 | nil=>simp only [List.nil_append,sz,Nat.zero_add]
 | cons t l ih=>simp only [List.cons_append,sz,ih,Nat.add_assoc]
theorem XaG{l m:BQ}(p:l.Perm m)(i j:Int):cf l i j=cf m i j:=by
 induction p with
 | nil=>rfl
 | cons t _ ih=>simp only [cf,ih]
 | swap s t l=>simp only [cf];grind
 | trans _ _ h1 h2=>rw [h1,h2]
theorem VaR{l m:BQ}(p:l.Perm m):sz l=sz m:=by
 induction p with
 | nil=>rfl
 | cons t _ ih=>simp only [sz,ih]
 | swap s t l=>simp only [sz];omega
 | trans _ _ h1 h2=>rw [h1,h2]
theorem jbn(l:BQ):2*l.length<=sz l:=by
 induction l with
 | nil=>exact Nat.zero_le _
 | cons t l ih=>simp only [List.length_cons,sz];omega
theorem WR{l:BQ}{i j:Int}(h:∀t∈l,¬(t.1=i/\t.2.1=j)):cf l i j=0:=by
 induction l with
 | nil=>rfl
 | cons t l ih=>
  simp only [cf];rw [if_neg (h t (by simp)),ih λu hu=>h u (by simp [hu]),Rat.zero_add]
def ins(t:MQ):BQ->BQ
 | []=>[t]
 | u::p=>if kq t<kq u then t::u::p else if kq t=kq u then (u.1,u.2.1,u.2.2+t.2.2)::p else u::ins t p
def nfo(l:BQ):BQ:=l.foldr ins []
def nz(t:MQ):Bool:=decide (t.2.2≠0)
def nf(l:BQ):BQ:=(nfo l).filter nz
def StrM(l:BQ):Prop:=l.Pairwise λx y=>kq x<kq y
def InQ(l:BQ):Prop:=∀t∈l,inQ t
structure Canon (p:BQ):Prop where
 str:StrM p
 ins:InQ p
 nz:∀t∈p,t.2.2≠0
theorem Qe{t:MQ}{l:BQ}:InQ (t::l)↔inQ t/\InQ l:=by unfold InQ;simp only [List.mem_cons,forall_eq_or_imp]
theorem zp{l m:BQ}:InQ (l++m)↔InQ l/\InQ m:=by
 unfold InQ;simp only [List.mem_append];exact⟨λh=>⟨λx hx=>h x (.inl hx),λx hx=>h x (.inr hx)⟩,λh x hx=>hx.elim (h.1 x) (h.2 x)⟩
theorem Uao{l m:BQ}(p:l.Perm m)(h:InQ l):InQ m:=λx hx=>h x (p.mem_iff.2 hx)
theorem Vac{t u:MQ}{p:BQ}(h:u∈ins t p):(u.1=t.1/\u.2.1=t.2.1)∨∃v∈p,u.1=v.1/\u.2.1=v.2.1:=by
 induction p with
 | nil=>simp only [ins,List.mem_singleton]at h;subst h;exact .inl ⟨rfl,rfl⟩
 | cons w p ih=>
  simp only [ins]at h;split at h
  .rcases List.mem_cons.1 h with rfl | h
   .exact .inl ⟨rfl,rfl⟩
   .exact .inr ⟨u,h,rfl,rfl⟩
  .split at h
   .rcases List.mem_cons.1 h with rfl | h
    .exact .inr ⟨w,by simp,rfl,rfl⟩
    .exact .inr ⟨u,by simp [h],rfl,rfl⟩
   .rcases List.mem_cons.1 h with rfl | h
    .exact .inr ⟨u,by simp,rfl,rfl⟩
    .rcases ih h with h | ⟨v,hv,h⟩
     .exact .inl h
     .exact .inr ⟨v,by simp [hv],h⟩
theorem kq_c{s t:MQ}(h:s.1=t.1/\s.2.1=t.2.1):kq s=kq t:=by unfold kq;rw [h.1,h.2]
theorem Ubk{s t:MQ}(h:s.1=t.1/\s.2.1=t.2.1)(ht:inQ t):inQ s:=by unfold inQ at *;rw [h.1,h.2];exact ht
theorem Ybo{t:MQ}{p:BQ}(ht:inQ t)(hp:InQ p):InQ (ins t p):=λu hu=>by
 rcases Vac hu with h | ⟨v,hv,h⟩
 .exact Ubk h ht
 .exact Ubk h (hp v hv)
theorem za9{t:MQ}{p:BQ}(hp:StrM p):StrM (ins t p):=by
 induction p with
 | nil=>simp only [ins];exact List.pairwise_singleton _ _
 | cons w p ih=>
  obtain⟨h1,h2⟩:=List.pairwise_cons.1 hp;simp only [ins];split
  .rename_i hlt;refine List.pairwise_cons.2 ⟨λu hu=>?_,hp⟩;rcases List.mem_cons.1 hu with rfl | hu
   .exact hlt
   .exact Nat.lt_trans hlt (h1 u hu)
  .split
   .exact List.pairwise_cons.2 ⟨λu hu=>h1 u hu,h2⟩
   .rename_i hlt hne;refine List.pairwise_cons.2 ⟨λu hu=>?_,ih h2⟩;rcases Vac hu with h | ⟨v,hv,h⟩
    .rw [kq_c h];omega
    .rw [kq_c h];exact h1 v hv
theorem wbm{t:MQ}{p:BQ}(ht:inQ t)(hp:InQ p)(i j:Int):cf (ins t p) i j=cf (t::p) i j:=by
 induction p with
 | nil=>rfl
 | cons w p ih=>
  obtain⟨hw,hp⟩:=Qe.1 hp;simp only [ins];split
  .rfl
  .split
   .rename_i _ e;obtain⟨e1,e2⟩:=(vaL ht hw).1 e;simp only [cf,e1,e2];split
    .grind
    .grind
   .simp only [cf,ih hp];grind
theorem zbl(t:MQ)(p:BQ):sz (ins t p)<=sz (t::p):=by
 induction p with
 | nil=>exact Nat.le_refl _
 | cons w p ih=>
  simp only [ins];split
  .exact Nat.le_refl _
  .split
   .have:=qB w.2.2 t.2.2;simp only [sz];omega
   .simp only [sz]at ih ⊢;omega
theorem qa9(t:MQ)(p:BQ):(ins t p).length<=p.length+1:=by
 induction p with
 | nil=>exact Nat.le_refl _
 | cons w p ih=>
  simp only [ins];split
  .exact Nat.le_refl _
  .split
   .simp
   .simp only [List.length_cons];omega
theorem uaN{l:BQ}(h:InQ l):InQ (nfo l):=by
 induction l with
 | nil=>exact h
 | cons t l ih=>obtain⟨h1,h2⟩:=Qe.1 h;exact Ybo h1 (ih h2)
theorem Uba(l:BQ):StrM (nfo l):=by
 induction l with
 | nil=>exact List.Pairwise.nil
 | cons t l ih=>exact za9 ih
theorem jbl{l:BQ}(h:InQ l)(i j:Int):cf (nfo l) i j=cf l i j:=by
 induction l with
 | nil=>rfl
 | cons t l ih=>
  obtain⟨h1,h2⟩:=Qe.1 h;show cf (ins t (nfo l)) i j=_;rw [wbm h1 (uaN h2)];simp only [cf,ih h2]
theorem qa6(l:BQ):sz (nfo l)<=sz l:=by
 induction l with
 | nil=>exact Nat.le_refl _
 | cons t l ih=>
  have:=zbl t (nfo l);show sz (ins t (nfo l))<=_;simp only [sz]at this ⊢;omega
theorem xbc(l:BQ):(nfo l).length<=l.length:=by
 induction l with
 | nil=>exact Nat.le_refl _
 | cons t l ih=>
  have:=qa9 t (nfo l);show(ins t (nfo l)).length<=_;simp only [List.length_cons];omega
theorem ya5(p:BQ)(i j:Int):cf (p.filter nz) i j=cf p i j:=by
 induction p with
 | nil=>rfl
 | cons t p ih=>
  by_cases h:t.2.2=0
  .rw [List.filter_cons_of_neg (by simp [nz,h]),ih]
   simp only [cf,h];grind
  .rw [List.filter_cons_of_pos (by simp [nz,h])]
   simp only [cf,ih]
theorem Wbq(p:BQ):sz (p.filter nz)<=sz p:=by
 induction p with
 | nil=>exact Nat.le_refl _
 | cons t p ih=>
  by_cases h:t.2.2=0
  .rw [List.filter_cons_of_neg (by simp [nz,h])]
   simp only [sz];omega
  .rw [List.filter_cons_of_pos (by simp [nz,h])]
   simp only [sz];omega
theorem WY{p:BQ}(hs:StrM p)(hi:InQ p):Canon (p.filter nz):=
 ⟨List.Pairwise.filter _ hs,λt ht=>hi t (List.mem_filter.1 ht).1,λt ht=>by
  have:=(List.mem_filter.1 ht).2;simpa [nz] using this⟩
theorem Zr{l:BQ}(h:InQ l):Canon (nf l):=WY (Uba l) (uaN h)
theorem Ubh{l:BQ}(h:InQ l)(i j:Int):cf (nf l) i j=cf l i j:=by unfold nf;rw [ya5,jbl h]
theorem Uax(l:BQ):sz (nf l)<=sz l:=Nat.le_trans (Wbq _) (qa6 l)
theorem um{p:BQ}(hp:InQ p){t:MQ}(ht:inQ t)(h:∀u∈p,kq t<kq u):cf p t.1 t.2.1=0:=WR λu hu e=>by
 have:=h u hu;rw [kq_c e]at this;omega
theorem U1:∀{p q:BQ},Canon p->Canon q->(∀i j,cf p i j=cf q i j)->p=q
 | [],[],_,_,_=>rfl
 | [],t::q,_,hq,h=>by
  obtain⟨h1,h2⟩:=List.pairwise_cons.1 hq.str;obtain⟨h3,h4⟩:=Qe.1 hq.ins;have:=h t.1 t.2.1;simp only [cf,and_self,if_true]at this;rw [um h4 h3 h1,Rat.add_zero]at this;exact absurd this.symm (hq.nz t (by simp))
 | t::p,[],hp,_,h=>by
  obtain⟨h1,h2⟩:=List.pairwise_cons.1 hp.str;obtain⟨h3,h4⟩:=Qe.1 hp.ins;have:=h t.1 t.2.1;simp only [cf,and_self,if_true]at this;rw [um h4 h3 h1,Rat.add_zero]at this;exact absurd this (hp.nz t (by simp))
 | s::p,t::q,hp,hq,h=>by
  obtain⟨a1,a2⟩:=List.pairwise_cons.1 hp.str;obtain⟨a3,a4⟩:=Qe.1 hp.ins;obtain⟨b1,b2⟩:=List.pairwise_cons.1 hq.str;obtain⟨b3,b4⟩:=Qe.1 hq.ins;have hs:=h s.1 s.2.1;have ht:=h t.1 t.2.1;rcases Nat.lt_trichotomy (kq s) (kq t) with hk | hk | hk
  .exfalso;have e:cf (t::q) s.1 s.2.1=0:=um hq.ins a3 λu hu=>by
    rcases List.mem_cons.1 hu with rfl | hu
    .exact hk
    .exact Nat.lt_trans hk (b1 u hu)
   rw [e]at hs;simp only [cf,and_self,if_true]at hs;rw [um a4 a3 a1,Rat.add_zero]at hs;exact hp.nz s (by simp) hs
  .obtain⟨e1,e2⟩:=(vaL a3 b3).1 hk;simp only [cf,and_self,if_true,e1,e2]at ht;have z1:cf p t.1 t.2.1=0:=by rw [<-e1,<-e2];exact um a4 a3 a1
   rw [um b4 b3 b1,z1,Rat.add_zero,Rat.add_zero]at ht;have est:s=t:=Prod.ext e1 (Prod.ext e2 ht);subst est;rw [U1 (p:=p) (q:=q) ⟨a2,a4,λu hu=>hp.nz u (by simp [hu])⟩ ⟨b2,b4,λu hu=>hq.nz u (by simp [hu])⟩ λi j=>by
    have:=h i j;simp only [cf]at this;grind]
  .exfalso;have e:cf (s::p) t.1 t.2.1=0:=um hp.ins b3 λu hu=>by
    rcases List.mem_cons.1 hu with rfl | hu
    .exact hk
    .exact Nat.lt_trans hk (a1 u hu)
   rw [e]at ht;simp only [cf,and_self,if_true]at ht;rw [um b4 b3 b1,Rat.add_zero]at ht;exact hq.nz t (by simp) ht.symm
theorem kbq{p l:BQ}(hp:Canon p)(hl:InQ l)(h:∀i j,cf p i j=cf l i j):p=nf l:=
 U1 hp (Zr hl) λi j=>by rw [Ubh hl];exact h i j
theorem wbd{l m:BQ}(p:l.Perm m)(h:InQ l):nf l=nf m:=
 kbq (Zr h) (Uao p h) λi j=>by rw [Ubh h,XaG p]
theorem Jae:∀{p:BQ} {a N:Nat},StrM p->(∀t∈p,a<=kq t/\kq t<N)->p.length<=N-a
 | [],_,_,_,_=>Nat.zero_le _
 | t::p,a,N,hs,h=>by
  obtain⟨h1,h2⟩:=List.pairwise_cons.1 hs;have ht:=h t (by simp)
  have:=Jae (p:=p) (a:=kq t+1) (N:=N) h2 λu hu=>⟨h1 u hu,(h u (by simp [hu])).2⟩
  simp only [List.length_cons];omega
theorem yaG{p:BQ}(h:Canon p):p.length<=325:=Jae (a:=0) h.str λt ht=>⟨Nat.zero_le _,kbv (h.ins t ht)⟩
def Deg(d:Nat)(p:BQ):Prop:=∀t∈p,t.1+t.2.1<=d
theorem Uz{p:BQ}(h:Canon p){d:Nat}(hd:Deg d p):p.length<=tri (d+1):=Jae (a:=0) h.str λt ht=>⟨Nat.zero_le _,by
 have h1:=hd t ht;obtain⟨a1,a2,a3⟩:=h.ins t ht;have h2:=waK (a:=(t.1+t.2.1).toNat) (b:=d) (by omega)
 show kq t<tri d+(d+1);unfold kq;omega⟩
theorem kbb{t:MQ}{p:BQ}{d:Nat}(ht:t.1+t.2.1<=d)(hp:Deg d p):Deg d (ins t p):=λu hu=>by
 rcases Vac hu with⟨h1,h2⟩ | ⟨v,hv,h1,h2⟩
 .rw [h1,h2];exact ht
 .rw [h1,h2];exact hp v hv
theorem Q0{l:BQ}{d:Nat}(h:Deg d l):Deg d (nf l):=by
 intro t ht;have:Deg d (nfo l):=by
  clear ht
  induction l with
  | nil=>exact h
  | cons u l ih=>exact kbb (h u (by simp)) (ih λv hv=>h v (by simp [hv]))
 exact this t (List.mem_filter.1 ht).1
theorem zQ{l m:BQ}{d:Nat}(hl:Deg d l)(hm:Deg d m):Deg d (l++m):=λt ht=>(List.mem_append.1 ht).elim (hl t) (hm t)
theorem xaW{l:BQ}{d e:Nat}(hl:Deg d l)(h:d<=e):Deg e l:=λt ht=>by have:=hl t ht;omega
def sclL(c:Rat)(p:BQ):BQ:=p.map λt=>(t.1,t.2.1,c*t.2.2)
def mulT(a b:MQ):MQ:=(a.1+b.1,a.2.1+b.2.1,a.2.2*b.2.2)
def mulL(p q:BQ):BQ:=p.flatMap λa=>q.map λb=>mulT a b
theorem Ybf{c:Rat}{p:BQ}(h:InQ p):InQ (sclL c p):=λt ht=>by
 obtain⟨u,hu,rfl⟩:=List.mem_map.1 ht;exact h u hu
theorem JaU{c:Rat}{p:BQ}{d:Nat}(h:Deg d p):Deg d (sclL c p):=λt ht=>by
 obtain⟨u,hu,rfl⟩:=List.mem_map.1 ht;exact h u hu
theorem Xai(q:BQ):mulL [] q=[]:=rfl
theorem vH(a:MQ)(p q:BQ):mulL (a::p) q=(q.map λb=>mulT a b)++mulL p q:=by unfold mulL;rw [List.flatMap_cons]
theorem WaB{p q:BQ}{d e:Nat}(hp:InQ p)(hq:InQ q)(hd:Deg d p)(he:Deg e q)(h:d+e<=24):InQ (mulL p q):=λt ht=>by
 obtain⟨a,ha,hb⟩:=List.mem_flatMap.1 ht;obtain⟨b,hb',rfl⟩:=List.mem_map.1 hb;have h1:=hp a ha;have h2:=hq b hb';have h3:=hd a ha;have h4:=he b hb';unfold inQ mulT at *
 simp only;omega
theorem zaS{p q:BQ}{d e:Nat}(hd:Deg d p)(he:Deg e q):Deg (d+e) (mulL p q):=λt ht=>by
 obtain⟨a,ha,hb⟩:=List.mem_flatMap.1 ht;obtain⟨b,hb',rfl⟩:=List.mem_map.1 hb;have h3:=hd a ha;have h4:=he b hb';unfold mulT;simp only;omega
theorem Xbe(a:MQ)(q:BQ):sz (q.map λb=>mulT a b)<=q.length*(rz a.2.2+2)+sz q:=by
 induction q with
 | nil=>exact Nat.zero_le _
 | cons b q ih=>
  have:=ve a.2.2 b.2.2;simp only [List.map_cons,List.length_cons,Nat.add_mul,sz,mulT]at ih ⊢;omega
theorem WaE(p q:BQ):sz (mulL p q)<=q.length*sz p+p.length*sz q:=by
 induction p with
 | nil=>exact Nat.zero_le _
 | cons a p ih=>
  have:=Xbe a q;rw [vH,zl];simp only [sz,List.length_cons,Nat.mul_add,Nat.add_mul]at *;omega
theorem waW(p q:BQ):(mulL p q).length=p.length*q.length:=by
 induction p with
 | nil=>simp [Xai]
 | cons a p ih=>rw [vH,List.length_append,ih,List.length_map,List.length_cons,Nat.add_mul,Nat.one_mul,Nat.add_comm]
def addB(p q:BQ):BQ:=nf (p++q)
def subB(p q:BQ):BQ:=nf (p++sclL (-1) q)
def mulB(p q:BQ):BQ:=nf (mulL p q)
end Go.Num
end
section
namespace Go.Num
instance(t:Mo):Decidable (inM t):=by unfold inM;infer_instance
def badO(o:Option Mo)(t:Mo):Bool:=
 match o with
 | none=>false
 | some s=>decide (kM t<=kM s)
def chkT(o:Option Mo)(t:Mo):Nat:=if ¬inM t then 3 else if vldR t.2.2=false then 2 else if rv t.2.2=0 then 8 else if badO o t=true then 12 else 0
def chkG:Option Mo->List Mo->Nat
 | _,[]=>0
 | o,t::l=>if chkT o t≠0 then chkT o t else chkG (some t) l
def chkB(l:List Mo):Nat:=if 325<l.length then 4 else chkG none l
def mcs(p:BQ):List Mo:=p.map mcan
theorem kr(p:BQ):(mcs p).map mv=p:=by
 unfold mcs;rw [List.map_map];have:mv ∘ mcan=id:=funext λt=>xbn t;rw [this,List.map_id]
theorem jbf{t:MQ}(h:inQ t):inM (mcan t):=h
theorem VI{t:MQ}(h:inQ t):WLM (mcan t):=by
 obtain⟨h1,h2,h3⟩:=h;refine⟨?_,?_,xj _⟩
 .unfold i64r mcan;simp only;omega
 .unfold i64r mcan;simp only;omega
theorem XaS{p:BQ}(h:InQ p):okMs (mcs p):=λt ht=>by
 obtain⟨u,hu,rfl⟩:=List.mem_map.1 ht;exact⟨VI (h u hu),jbf (h u hu)⟩
theorem xag{p:BQ}(h:InQ p):∀t∈mcs p,WLM t:=λt ht=>(XaS h t ht).1
theorem UK:∀{p:BQ} (o:Option Mo),(∀s,o=some s->∀t∈p,kM s<kq t)->Canon p->chkG o (mcs p)=0
 | [],_,_,_=>rfl
 | t::p,o,ho,h=>by
  obtain⟨a1,a2⟩:=List.pairwise_cons.1 h.str;obtain⟨a3,a4⟩:=Qe.1 h.ins;have e:chkT o (mcan t)=0:=by
   unfold chkT;have n1:inM (mcan t):=a3;have n2:vldR (mcan t).2.2=true:=UQ _;have n3:rv (mcan t).2.2≠0:=by
    have:rv (mcan t).2.2=t.2.2:=qc _;rw [this];exact h.nz t (by simp)
   rw [if_neg (by simp [n1]),if_neg (by simp [n2]),if_neg n3]
   have:badO o (mcan t)=false:=by
    unfold badO;cases o with
    | none=>rfl
    | some s=>
     have:=ho s rfl t (by simp)
     have e:kM (mcan t)=kq t:=rfl;simp only [e,decide_eq_false_iff_not];omega
   rw [if_neg (by simp [this])]
  have e2:mcs (t::p)=mcan t::mcs p:=rfl;rw [e2,chkG,if_neg (by simp [e])]
  refine UK (some (mcan t)) (λs hs u hu=>?_) ⟨a2,a4,λu hu=>h.nz u (by simp [hu])⟩
  obtain rfl:mcan t=s:=by simpa using hs
  exact a1 u hu
theorem J7{p:BQ}(h:Canon p):chkB (mcs p)=0:=by
 unfold chkB;have:=yaG h;rw [if_neg (by unfold mcs;rw [List.length_map];omega)]
 exact UK none (λs hs=>by simp at hs) h
theorem vbj{o:Option Mo}{t:Mo}(h:chkT o t=0):inM t/\vldR t.2.2=true/\rv t.2.2≠0/\badO o t=false:=by
 unfold chkT at h;split at h
 .contradiction
 .rename_i h1;split at h
  .contradiction
  .rename_i h2;split at h
   .contradiction
   .rename_i h3;split at h
    .contradiction
    .rename_i h4;exact⟨by simpa using h1,by simpa using h2,h3,by simpa using h4⟩
theorem QaK{o:Option Mo}{t:Mo}{l:List Mo}(h:chkG o (t::l)=0):chkT o t=0/\chkG (some t) l=0:=by
 rw [chkG]at h;split at h
 .rename_i h1;exact absurd h h1
 .rename_i h1;exact⟨by simpa using h1,h⟩
theorem Ubd{t:Mo}(hw:WLR t.2.2)(hv:vldR t.2.2=true):mcan (mv t)=t:=by
 have:=YH hw hv;unfold mcan mv;simp only [this]
theorem jaR:∀{l:List Mo} {o:Option Mo},chkG o l=0->(∀t∈l,WLM t)->Canon (l.map mv)/\mcs (l.map mv)=l/\∀s,o=some s->∀t∈l,kM s<kM t
 | [],o,_,_=>⟨⟨List.Pairwise.nil,λt ht=>by simp at ht,λt ht=>by simp at ht⟩,rfl,λs _ t ht=>by simp at ht⟩
 | t::l,o,h,hw=>by
  obtain⟨h1,h2⟩:=QaK h;obtain⟨a1,a2,a3,a4⟩:=vbj h1;obtain⟨b1,b2,b3⟩:=jaR h2 λu hu=>hw u (by simp [hu])
  have b4:=b3 t rfl;refine⟨⟨List.pairwise_cons.2 ⟨λu hu=>?_,b1.str⟩,Qe.2 ⟨a1,b1.ins⟩,λu hu=>?_⟩,?_,λs hs u hu=>?_⟩
  .obtain⟨v,hv,rfl⟩:=List.mem_map.1 hu;exact b4 v hv
  .rcases List.mem_cons.1 hu with rfl | hu
   .exact a3
   .exact b1.nz u hu
  .have e:mcs ((t::l).map mv)=mcan (mv t)::mcs (l.map mv):=rfl;rw [e,b2,Ubd (hw t (by simp)).2.2 a2]
  .subst hs;have hst:kM s<kM t:=by
    unfold badO at a4;simp only [decide_eq_false_iff_not]at a4;omega
   rcases List.mem_cons.1 hu with rfl | hu
   .exact hst
   .exact Nat.lt_trans hst (b4 u hu)
theorem YaZ{l:List Mo}(h:chkB l=0):l.length<=325/\chkG none l=0:=by
 unfold chkB at h;split at h
 .contradiction
 .exact⟨by omega,h⟩
theorem We{l:List Mo}(h:chkB l=0)(hw:∀t∈l,WLM t):Canon (l.map mv)/\mcs (l.map mv)=l:=by
 obtain⟨h1,h2,_⟩:=jaR (YaZ h).2 hw;exact⟨h1,h2⟩
def degB(p:BQ):Int:=match p.getLast? with
 | none=>-1
 | some t=>t.1+t.2.1
structure PB (d s:Nat) (p:BQ):Prop where
 canon:Canon p
 deg:Deg d p
 size:sz p<=s
theorem PB.mono{d s d' s' : Nat}{p:BQ}(h:PB d s p)(hd:d<=d')(hs:s<=s'):PB d' s' p:=⟨h.canon,xaW h.deg hd,Nat.le_trans h.size hs⟩
theorem PB.add{d s s' : Nat}{p q:BQ}(h:PB d s p)(h' : PB d s' q):PB d (s+s') (addB p q):=
 ⟨Zr (zp.2 ⟨h.canon.ins,h'.canon.ins⟩),Q0 (zQ h.deg h'.deg),by
  have:=Uax (p++q);rw [zl]at this;have h1:=h.size;have h2:=h'.size;unfold addB;omega⟩
theorem Waw(p:BQ):sz (sclL (-1) p)=sz p:=by
 induction p with
 | nil=>rfl
 | cons t p ih=>
  have e:sclL (-1) (t::p)=(t.1,t.2.1,-1*t.2.2)::sclL (-1) p:=rfl;have e2:(-1:Rat)*t.2.2 = -t.2.2:=by grind
  rw [e];simp only [sz,ih,e2,zC]
theorem PB.sub{d s s' : Nat}{p q:BQ}(h:PB d s p)(h' : PB d s' q):PB d (s+s') (subB p q):=
 ⟨Zr (zp.2 ⟨h.canon.ins,Ybf h'.canon.ins⟩),Q0 (zQ h.deg (JaU h'.deg)),by
  have:=Uax (p++sclL (-1) q);rw [zl,Waw]at this;have h1:=h.size;have h2:=h'.size;unfold subB;omega⟩
theorem PB.len{d s:Nat}{p:BQ}(h:PB d s p):p.length<=tri (d+1):=Uz h.canon h.deg
theorem PB.mul{d s d' s' : Nat}{p q:BQ}(h:PB d s p)(h' : PB d' s' q)(hd:d+d'<=24):PB (d+d') (tri (d' + 1)*s+tri (d+1)*s') (mulB p q):=
 ⟨Zr (WaB h.canon.ins h'.canon.ins h.deg h'.deg hd),Q0 (zaS h.deg h'.deg),by
  have h1:=Uax (mulL p q);have h2:=WaE p q;have h3:=Nat.mul_le_mul h'.len h.size;have h4:=Nat.mul_le_mul h.len h'.size;unfold mulB;omega⟩
def linB(b:Bool)(c:Rat):BQ:=nf [(if b then 0 else 1,if b then 1 else 0,1),(0,0,-c)]
theorem PB.lin(b:Bool)(c:Rat):PB 1 (rz c+6) (linB b c):=by
 refine⟨Zr λt ht=>?_,Q0 λt ht=>?_,?_⟩
 .simp only [List.mem_cons,List.not_mem_nil,or_false]at ht;rcases ht with rfl | rfl <;> cases b <;> simp [inQ]
 .simp only [List.mem_cons,List.not_mem_nil,or_false]at ht;rcases ht with rfl | rfl <;> cases b <;> simp
 .refine Nat.le_trans (Uax _) ?_;have h1:=rz_1;have h2:=zC c;simp only [sz];omega
end Go.Num
end
section
namespace Go.Num
open Go.Abs
def ordZ(x y:Int):Int:=if x<y then -1 else if y<x then 1 else 0
theorem Jbn{s t:Mo}(hs:inM s)(ht:inM t):(if ordZ (s.1+s.2.1) (t.1+t.2.1)≠0 then ordZ (s.1+s.2.1) (t.1+t.2.1) else ordZ s.1 t.1)=ordK (kM s) (kM t):=by
 have h1:=Vaz hs ht;have h2:=Vaz ht hs;unfold ordZ ordK;by_cases a1:s.1+s.2.1<t.1+t.2.1
 .rw [if_pos a1,if_pos (by decide),if_pos (h1.2 (.inl a1))]
 .rw [if_neg a1];by_cases a2:t.1+t.2.1<s.1+s.2.1
  .rw [if_pos a2,if_pos (by decide),if_neg (by rw [h1];omega),if_pos (h2.2 (.inl a2))]
  .rw [if_neg a2,if_neg (by decide)]
   by_cases a3:s.1<t.1
   .rw [if_pos a3,if_pos (h1.2 (.inr ⟨by omega,a3⟩))]
   .rw [if_neg a3];by_cases a4:t.1<s.1
    .rw [if_pos a4,if_neg (by rw [h1];omega),if_pos (h2.2 (.inr ⟨by omega,a4⟩))]
    .rw [if_neg a4,if_neg (by rw [h1];omega),if_neg (by rw [h2];omega)]
def nzM(t:Mo):Bool:=decide (rv t.2.2≠0)
theorem getDm{l:List Mo}{i:Nat}{x:Mo}(hi:i<l.length)(h:l.getD i mo0=x):l[i]?=some x:=by
 rw [List.getD_eq_getElem?_getD,List.getElem?_eq_getElem hi]at h;rw [List.getElem?_eq_getElem hi];simpa using h
end Go.Num
namespace Go.Abs
open Go.Num
variable {P:Program} {Γ:Nat->Spec}
def onI2(k:Int->Int->Prop)(a:AV):Prop:=∃x y,a=.one (.slice [[.lit (.int .i64 x)],[.lit (.int .i64 y)]])/\k x y
@[congr] theorem ubr{k:Int->Int->Prop}{a a'}(h:a=a'):onI2 k a=onI2 k a':=by subst h;rfl
theorem YaL(k:Int->Int->Prop)(x y:Int):onI2 k (.one (.slice [[.lit (.int .i64 x)],[.lit (.int .i64 y)]]))=k x y:=by
 refine propext ⟨λ⟨x',y',h,hk⟩=>?_,λh=>⟨x,y,rfl,h⟩⟩;simp only [AV.one.injEq,C.slice.injEq,List.cons.injEq,C.lit.injEq,Value.int.injEq,true_and,and_true]at h;obtain⟨rfl,rfl⟩:=h;exact hk
theorem za5{β:Type}{T:Int->Int->(β->Prop)->Prop}(h:∀x y,GoodT (T x y)){a:AV}:GoodT λK=>onI2 (λx y=>T x y K) a:=
 .of λK hx=>by
  obtain⟨x,y,rfl,hk⟩:=hx;have:(λK=>onI2 (λx y=>T x y K) (.one (.slice [[.lit (.int .i64 x)],[.lit (.int .i64 y)]])))=T x y:=funext λK=>YaL _ x y;rw [this];exact h x y
attribute [go_sem,go_sem ↓] YaL
def onMs(k:List Mo->Prop)(a:AV):Prop:=∃l,a=.one (ms l)/\(∀x∈l,WLM x)/\k l
@[congr] theorem Zbv{k:List Mo->Prop}{a a'}(h:a=a'):onMs k a=onMs k a':=by subst h;rfl
theorem YZ(k:List Mo->Prop)(l:List Mo):onMs k (.one (.slice (l.map mC)))=((∀x∈l,WLM x)/\k l):=by
 refine propext ⟨λ⟨x,h,h1,h2⟩=>?_,λh=>⟨l,rfl,h⟩⟩;have:=xaf l x h;subst this;exact⟨h1,h2⟩
theorem yan(k:List Mo->Prop):onMs k (.one (.slice []))=k []:=by
 have:=YZ k [];simp only [List.map_nil,List.not_mem_nil,false_implies,implies_true,true_and]at this;exact this
theorem Ve{β:Type}{T:List Mo->(β->Prop)->Prop}(h:∀l,GoodT (T l)){a:AV}:GoodT λK=>onMs (λl=>T l K) a:=
 .of λK hx=>by
  obtain⟨l,rfl,hw,hk⟩:=hx;have:(λK=>onMs (λl=>T l K) (.one (ms l)))=λK=>(∀x∈l,WLM x)/\T l K:=funext λK=>YZ _ l;rw [this];exact .and λ_=>h l
def onM2(k:List Mo->List Mo->Prop)(a:AV):Prop:=∃p q,a=.one (.slice [[ms p],[ms q]])/\((∀x∈p,WLM x)/\(∀x∈q,WLM x))/\k p q
@[congr] theorem zbt{k:List Mo->List Mo->Prop}{a a'}(h:a=a'):onM2 k a=onM2 k a':=by subst h;rfl
theorem YaI(k:List Mo->List Mo->Prop)(p q:List Mo):onM2 k (.one (.slice [[.slice (p.map mC)],[.slice (q.map mC)]]))=(((∀x∈p,WLM x)/\(∀x∈q,WLM x))/\k p q):=by
 refine propext ⟨λ⟨x,y,h,h1,h2⟩=>?_,λh=>⟨p,q,rfl,h⟩⟩;simp only [ms,AV.one.injEq,C.slice.injEq,List.cons.injEq,and_true]at h;obtain⟨e1,e2⟩:=h;have:=jm e1;have:=jm e2
 subst_vars;exact⟨h1,h2⟩
theorem Qal{β:Type}{T:List Mo->List Mo->(β->Prop)->Prop}(h:∀p q,GoodT (T p q)){a:AV}:GoodT λK=>onM2 (λp q=>T p q K) a:=
 .of λK hx=>by
  obtain⟨p,q,rfl,hw,hk⟩:=hx;have:(λK=>onM2 (λp q=>T p q K) (.one (.slice [[ms p],[ms q]])))=λK=>((∀x∈p,WLM x)/\(∀x∈q,WLM x))/\T p q K:=funext λK=>YaI _ p q;rw [this];exact .and λ_=>h p q
attribute [go_sem,go_sem ↓] YZ yan YaI
def xN:q_T:=q_c1 λa K=>asInt (λk n=>k=.i64/\K (.one (.lit (.bool false)))) a
theorem qaP:Good xN:=q_g1 λ_=>(Jc (λ_ _=>(.and λ_=>(.ret _))) _)
def wO:q_T:=q_c2 λa b K=>asInt (λk x=>asInt (λk' y=>k=.i64/\k' = .i64/\K (.one (.lit (.int .i64 (ordZ x y))))) b) a
theorem yaB:Good wO:=q_g2 λ_ _=>(by repeat (first | exact .ret _ | exact .of (λK hk=>hk.elim) | (refine .and λ_=>?_) | (refine Ue λ_=>?_) | (refine za5 λ_=>?_) | (refine Ve λ_=>?_) | (refine Qal λ_=>?_) | (refine xk λ_=>?_) | (refine WV λ_=>?_) | (refine Jc (λ_ _=>?_) _) | (refine Qo (λ_=>?_) _) | (refine xz ?_ ?_) | (intro _) | assumption))
def Vav:q_T:=q_c1 λa K=>onI2 (λx y=>K (.one (.lit (.int .i64 (if x≠0 then x else y))))) a
theorem VaV:Good Vav:=q_g1 λ_=>za5 λ_ _=>.ret _
def qt:q_T:=q_c1 λa K=>onM (λt=>K (.one (.lit (.bool (decide (inM t)))))) a
theorem X8:Good qt:=q_g1 λ_=>(WV λ_=>(.ret _))
def wG:q_T:=q_c1 λa K=>onM (λt=>rl t.2.2<=4294967296/\K (.one (.lit (.bool (!nzM t))))) a
theorem uaD:Good wG:=q_g1 λ_=>(WV λ_=>(.and λ_=>(.ret _)))
attribute [go_sem] xN wO Vav qt wG
def js:AC:=(.o [.m 2 .fa] [0] (.seq (.p [.M 3 0,.M 4 0,.B 5 .neq 3 4,.M 2 5]) .ret))
def Yf(f0:Nat):AC:=(.o [.N 4 0] [0,1] (.o [.M 7 0,.H 8 f0 7,.M 5 8] [0,1,5] (.o [.M 9 1,.H 10 f0 9,.M 6 10] [0,1,5,6] (.f (.o [.M 11 5] [0,1,6,11] (.cond (.t 11) (.f (.o [.M 12 6] [12] (.cond (.t 12) (.seq (.p [.N 4 0]) .ret) .skip)) [] (.seq (.p [.N 4 (-1)]) .ret)) .skip)) [0,1,6] (.f (.o [.M 13 6] [0,1,13] (.cond (.t 13) (.seq (.p [.N 4 1]) .ret) .skip)) [0,1] (.f (.o [.M 14 0,.M 15 1,.B 16 .lss 14 15] [0,1,16] (.cond (.t 16) (.seq (.p [.N 4 (-1)]) .ret) .skip)) [0,1] (.f (.o [.M 17 0,.M 18 1,.B 19 .gtr 17 18] [19] (.cond (.t 19) (.seq (.p [.N 4 1]) .ret) .skip)) [] (.seq (.p [.N 4 0]) .ret))))))))
def wz:AC:=(.o [.N 2 0] [0] (.o [.N 3 0] [0,3] (.f (.o [.M 6 0,.Z 7 6,.N 8 0] [3,6,7,8] (.block 0 (.loop (.o [.B 9 .lss 8 7] [3,6,7,8,9] (.f (.cond (.t 9) .skip (.exit 0)) [3,6,7,8] (.f (.block 1 (.o [.J 10 1 6 8,.F 11 1 10,.M 5 11] [3,5,6,7,8] (.o [.M 12 5,.M 13 3,.B 14 .neq 12 13] [3,5,6,7,8,14] (.cond (.t 14) (.seq (.p [.M 15 5,.M 2 15]) .ret) .skip)))) [3,6,7,8] (.p [.I 16 .add 8 1,.M 8 16]))))))) [3] (.seq (.p [.M 17 3,.M 2 17]) .ret))))
def wn:AC:=(.o [.K 1 5 0,.m 2 .fa] [1] (.seq (.p [.A 3 0 1,.F 4 1 3,.I 5 .geq 4 0,.M 6 5,.T 7 6 true 1 1,.U 8 6 true 1 false 7,.w 9 6 true (.bin .geq (.t 8) (.i 0)),.P 10 6 9,.M 11 10,.T 12 11 true 0 1,.U 13 11 true 1 false 12,.w 14 11 true (.bin .leq (.t 13) (.i 24)),.P 15 11 14,.M 16 15,.T 17 16 true 1 1,.U 18 16 true 1 false 17,.w 19 16 true (.bin .leq (.t 18) (.i 24)),.P 20 16 19,.M 21 20,.T 22 21 true 0 1,.U 23 21 true 1 false 22,.T 24 21 true 1 1,.U 25 21 true 1 false 24,.w 26 21 true (.bin .add (.t 23) (.t 25)),.w 27 21 true (.bin .leq (.t 26) (.i 24)),.P 28 21 27,.M 2 28]) .ret))
def vp(f0 f1:Nat):AC:=(.o [.K 2 5 0,.K 3 5 1,.N 4 0] [2,3] (.seq (.y [.A 5 0 2,.F 6 1 5,.A 7 1 2,.F 8 1 7,.B 9 .add 6 8,.A 10 0 3,.F 11 1 10,.A 12 1 3,.F 13 1 12,.B 14 .add 11 13,.D 15 f0 9 14,.A 16 0 2,.F 17 1 16,.A 18 0 3,.F 19 1 18,.D 20 f0 17 19,.u 21 (.row 1 [[.x 1 (.t 15)],[.x 1 (.t 20)]]),.H 22 f1 21,.M 4 22]) .ret))
def Yp(f0:Nat):AC:=(.o [.K 1 5 0,.m 2 .fa] [1] (.seq (.p [.A 3 2 1,.L 4 3 3,.H 5 f0 4,.I 6 .eql 5 0,.M 2 6]) .ret))
theorem zM(K:List C->Prop)(a b:List C)(r:List (List C)):getE K (a::b::r) 1=K b:=by
 unfold getE;refine propext ⟨λh=>h.2 b rfl,λh=>⟨by simp,λe he=>?_⟩⟩
 simp only [List.getElem?_cons_succ,List.getElem?_cons_zero,Option.some.injEq]at he;subst he;exact h
theorem c02:(((0:Nat):Int)<2)=True:=eq_true (by decide)
theorem c12:(((1:Nat):Int)<2)=True:=eq_true (by decide)
theorem c22:(((2:Nat):Int)<2)=False:=eq_false (by decide)
theorem kav(hΓ:Holds P Γ){f:Nat}(hc:check P f=some (6,js.strip,[.tmp 2])):Sound P f (.dat true xN):=by
 refine Qa hc qaP hΓ (λargs K hcl hfi hG=>?_);match args,hG with
 | [a],hG=>
  obtain⟨k,n,rfl,rfl,hK⟩:=Xa hG;refine⟨by simp,?_⟩
  simp only [go_sem,js];simpa using hK
theorem qaw(hΓ:Holds P Γ){f fn:Nat}(hn:Γ fn=.dat true xN)(hc:check P f=some (20,(Yf fn).strip,[.tmp 4])):Sound P f (.dat true wO):=by
 refine Qa hc yaB hΓ (λargs K hcl hfi hG=>?_);match args,hG with
 | [a,b],hG=>
  obtain⟨k,x,rfl,hG⟩:=Xa hG;obtain⟨k',y,rfl,rfl,rfl,hK⟩:=Xa hG;refine⟨by simp,?_⟩
  unfold ordZ at hK;by_cases h1:x<y
  .rw [if_pos h1]at hK;simp only [go_sem,Yf,hn,h1];exact hK
  .rw [if_neg h1]at hK;by_cases h2:y<x
   .rw [if_pos h2]at hK;simp only [go_sem,Yf,hn,h1,h2];exact hK
   .rw [if_neg h2]at hK;simp only [go_sem,Yf,hn,h1,h2];exact hK
theorem JaF(hΓ:Holds P Γ){f:Nat}(hc:check P f=some (18,wz.strip,[.tmp 2])):Sound P f (.dat true Vav):=by
 refine Qa hc VaV hΓ (λargs K hcl hfi hG=>?_);match args,hG with
 | [a],hG=>
  obtain⟨x,y,rfl,hK⟩:=hG;refine⟨by simp,?_⟩
  simp only [go_sem,wz];refine ja (λk:Nat=>⟨mkV [(3,.one (.lit (.int .i64 0))),(6,.one (.slice [[.lit (.int .i64 x)],[.lit (.int .i64 y)]])),(7,.one (.lit (.int .i64 2))),(8,.one (.lit (.int .i64 k)))],mkH []⟩) (λk=>k<=2/\(0<k->x=0)/\(1<k->y=0)) (λk=>2-k) 0 ?_ ?_ ?_
  .exact za (by simp [bitvec_to_nat]) trivial
  .exact⟨by decide,by omega,by omega⟩
  .rintro k ⟨hk,h1,h2⟩;have hk3:k=0∨k=1∨k=2:=by omega
   rcases hk3 with rfl | rfl | rfl
   .by_cases hx:x=0
    .subst hx;simp only [go_sem,c02];refine⟨by decide,1,za (by simp [bitvec_to_nat]) trivial,⟨by omega,by omega⟩,by omega⟩
    .rw [if_pos hx]at hK;simp only [go_sem,c02,hx];exact hK
   .have hx:=h1 (by omega)
    subst hx;rw [if_neg (by simp)]at hK
    by_cases hy:y=0
    .subst hy;simp only [go_sem,c12,zM];refine⟨by decide,2,za (by simp [bitvec_to_nat]) trivial,by omega,by omega⟩
    .simp only [go_sem,c12,zM,hy];exact hK
   .have hx:=h1 (by omega)
    have hy:=h2 (by omega)
    subst hx hy;simp only [go_sem,c22];simpa using hK
theorem vV(hΓ:Holds P Γ){f:Nat}(hc:check P f=some (29,wn.strip,[.tmp 2])):Sound P f (.dat true qt):=by
 refine Qa hc X8 hΓ (λargs K hcl hfi hG=>?_);match args,hG with
 | [a],hG=>
  obtain⟨t,rfl,⟨hw1,hw2,hw3⟩,hK⟩:=hG;refine⟨by simp,?_⟩
  unfold i64r at hw1 hw2;simp only [go_sem,wn,mC];have no:¬inM t->K (.one (.lit (.bool false))):=λh=>by rw [decide_eq_false h]at hK;exact hK
  refine⟨λa=>⟨λb=>⟨λc=>⟨λd=>⟨⟨by omega,by omega⟩,?_⟩,λd=>no ?_⟩,λc=>no ?_⟩,λb=>no ?_⟩,λa=>no ?_⟩
  .have e:decide (inM t)=decide (t.1+t.2.1<=24):=by
    unfold inM;simp [a,b]
   rw [e]at hK;exact hK
  all_goals
   unfold inM;omega
theorem Y6(hΓ:Holds P Γ){f fo fc:Nat}(ho:Γ fo=.dat true Vav)(hcm:Γ fc=.dat true wO)(hc:check P f=some (23,(vp fc fo).strip,[.tmp 4])):Sound P f (.dat true Yy):=by
 refine Qa hc zaF hΓ (λargs K hcl hfi hG=>?_);match args,hG with
 | [a,b],hG=>
  obtain⟨s,rfl,hws,t,rfl,hwt,hs,ht,hK⟩:=hG;refine⟨by simp,?_⟩
  rw [<-Jbn hs ht]at hK;obtain⟨s1,s2,s3⟩:=hs;obtain⟨t1,t2,t3⟩:=ht;simp only [go_sem,vp,ho,hcm,mC];repeat first | refine q_Wk ?_ | intro _
  exact hK
theorem Zav(hΓ:Holds P Γ){f fs:Nat}(hs:Γ fs=.dat true Zk)(hc:check P f=some (7,(Yp fs).strip,[.tmp 2])):Sound P f (.dat true wG):=by
 refine Qa hc uaD hΓ (λargs K hcl hfi hG=>?_);match args,hG with
 | [a],hG=>
  obtain⟨t,rfl,hw,hl,hK⟩:=hG;refine⟨by simp,?_⟩
  have e:(!nzM t)=decide (ordQ (rv t.2.2) 0=0):=by
   unfold nzM;by_cases h:rv t.2.2=0
   .rw [decide_eq_true (Jj.2 h)];simp [h]
   .rw [decide_eq_false (λh'=>h (Jj.1 h'))];simp [h]
  rw [e]at hK;simp only [go_sem,Yp,hs,mC];exact⟨hw.2.2,hl,hK⟩
end Go.Abs
end
section
namespace Go.Num
open Go.Abs
theorem Xbn{l:List Mo}{k:Nat}{x:Mo}(hx:l[k]?=some x)(ha:(l.take k).all nzM=true)(hn:nzM x=false):(l.takeWhile nzM).length=k/\l.all nzM=false:=by
 induction l generalizing k with
 | nil=>simp at hx
 | cons y l ih=>
  cases k with
  | zero=>
   simp only [List.getElem?_cons_zero,Option.some.injEq]at hx;subst hx;simp [List.takeWhile_cons,hn]
  | succ k=>
   simp only [List.getElem?_cons_succ]at hx;simp only [List.take_succ_cons,List.all_cons,Bool.and_eq_true]at ha;obtain⟨h1,h2⟩:=ih hx ha.2;simp [List.takeWhile_cons,ha.1,h1,h2]
theorem qac{l:List Mo}(h:l.all nzM=true):l.filter nzM=l:=List.filter_eq_self.2 λx hx=>List.all_eq_true.1 h x hx
theorem qV{l:List Mo}{k:Nat}{x:Mo}(hx:l[k]?=some x):(l.take (k+1)).filter nzM=(l.take k).filter nzM++if nzM x=true then [x] else []:=by
 rw [List.take_add_one,hx,List.filter_append];cases h:nzM x <;> simp [h]
theorem allS{α:Type}{f:α->Bool}{l:List α}{k:Nat}{x:α}(hx:l[k]?=some x)(ha:(l.take k).all f=true)(hz:f x=true):(l.take (k+1)).all f=true:=by
 rw [List.take_add_one,hx,List.all_append,ha];simp [hz]
theorem Xba{l:List Mo}(h:l.all nzM≠true):(l.takeWhile nzM).length<l.length/\(l.take (l.takeWhile nzM).length).all nzM=true/\∃x,l[(l.takeWhile nzM).length]?=some x/\nzM x=false:=by
 induction l with
 | nil=>simp at h
 | cons y l ih=>
  cases hy:nzM y with
  | false=>simp [List.takeWhile_cons,hy]
  | true=>
   have h' : l.all nzM≠true:=by simpa [hy] using h
   obtain⟨h1,h2,x,h3,h4⟩:=ih h';simp only [List.takeWhile_cons,hy,if_true,List.length_cons,List.take_succ_cons,List.all_cons,Bool.true_and,List.getElem?_cons_succ];exact⟨by omega,h2,x,h3,h4⟩
end Go.Num
namespace Go.Abs
open Go.Num
variable {P:Program} {Γ:Nat->Spec}
def qM(fd:Nat):q_T:=q_c2 λa c K=>onMs (λl=>c=fnV fd/\(∀t∈l,rl t.2.2<=4294967296)/\l.length<=68719476736/\K (.one (.lit (.int .i64 (if l.all nzM=true then -1 else ((l.takeWhile nzM).length:Nat)))))) a
theorem QaA(fd:Nat):Good (qM fd):=q_g2 λ_ _=>(Ve λ_=>(.and λ_=>(.and λ_=>(.and λ_=>(.ret _)))))
attribute [go_sem] qM
def JA(fd:Nat)(d:Option Nat)(args:List AV)(h:Nat->HB)(K:AV->(Nat->HB)->Prop):Prop:=
 match args with
 | [.one (.own r ver 5 0 len),c]=>∃l:List Mo,c=fnV fd/\len=l.length/\len<=1000000000/\h r=⟨ver,some ⟨l.map mC,5,true⟩⟩/\(∀t∈l,WLM t/\rl t.2.2<=4294967296)/\
   ∀es,K (.one (.own r ver 5 0 (l.filter nzM).length)) (upd h r ⟨ver,some ⟨(l.filter nzM).map mC++es,5,true⟩⟩)
 | [.one .emp,c]=>c=fnV fd/\K (.one (.slice [])) h
 | _=>False
@[congr] theorem Ubv {fd:Nat} {d:Option Nat} {l l' : List AV} {h h' : Nat->HB} {K:AV->(Nat->HB)->Prop} (e1:l=l') (e2:h=h'):JA fd d l h K=JA fd d l' h' K:=by subst e1;subst e2;rfl
def yg:AC:=(.o [.N 4 0] [0,1] (.f (.o [.M 6 0,.Z 7 6,.N 8 0] [0,1,7,8] (.block 0 (.loop (.o [.B 9 .lss 8 7] [0,1,7,8,9] (.f (.cond (.t 9) .skip (.exit 0)) [0,1,7,8] (.f (.block 1 (.o [.M 10 8,.M 5 10] [0,1,5,7,8] (.o [.M 11 1,.M 12 0,.M 13 5,.J 14 5 12 13,.L 15 5 14,.u 16 (.callv (.t 11) [(.t 15)])] [0,1,5,7,8,16] (.cond (.t 16) (.seq (.p [.M 17 5,.M 4 17]) .ret) .skip)))) [0,1,7,8] (.p [.I 18 .add 8 1,.M 8 18]))))))) [] (.seq (.p [.N 4 (-1)]) .ret)))
def jc(f0:Nat):AC:=(.o [.m 4 (.c (.one .emp))] [0,1] (.o [.M 8 0,.M 9 1,.D 10 f0 8 9,.M 5 10] [0,1,5] (.f (.o [.M 11 5,.I 12 .eql 11 (-1)] [0,1,5,12] (.cond (.t 12) (.seq (.p [.M 13 0,.M 4 13]) .ret) .skip)) [0,1,5] (.f (.o [.M 14 5,.I 15 .add 14 1,.M 6 15] [0,1,5,6] (.block 0 (.loop (.f (.o [.M 16 6,.M 17 0,.Z 18 17,.B 19 .lss 16 18] [0,1,5,6,19] (.cond (.t 19) .skip (.exit 0))) [0,1,5,6] (.f (.block 1 (.o [.M 22 0,.M 23 6,.J 24 5 22 23,.L 25 5 24,.G 7 [(.lit (.int .i64 0)),(.lit (.int .i64 0)),.z,.emp,.emp],.S 5 7 25] [0,1,5,6,7] (.o [.M 26 1,.L 27 5 7,.u 28 (.callv (.t 26) [(.t 27)]),.u 29 (.un .not (.t 28))] [0,1,5,6,7,29] (.cond (.t 29) (.o [.M 30 0,.M 31 5,.L 32 5 7,.J 33 5 30 31,.S 5 33 32] [0,1,5,6] (.p [.M 34 5,.I 35 .add 34 1,.M 5 35])) .skip)))) [0,1,5,6] (.p [.M 20 6,.I 21 .add 20 1,.M 6 21])))))) [0,5] (.o [.M 36 0,.M 37 5,.u 38 (.sl 5 (.t 36) (some (.t 37)) none),.n (.copy 5 (.t 38) (.c (.agg [(.lit (.int .i64 0)),(.lit (.int .i64 0)),.z,.emp,.emp])))] [0,5] (.seq (.p [.M 39 0,.M 40 5,.u 41 (.sl 5 (.t 39) none (some (.t 40))),.M 4 41]) .ret))))))
theorem uay(hΓ:Holds P Γ){f fd:Nat}(hd:Γ fd=.dat true wG)(hc:check P f=some (19,yg.strip,[.tmp 4])):Sound P f (.dat true (qM fd)):=by
 refine Qa hc (QaA fd) hΓ (λargs K hcl hfi hG=>?_);match args,hG with
 | [a,c],hG=>
  obtain⟨l,rfl,hw,rfl,hl,hln,hK⟩:=hG;refine⟨by simp,?_⟩
  simp only [go_sem,yg,fnV];intro _;refine ja (λk:Nat=>⟨mkV [(0,.one (ms l)),(1,.one (.lit (.func (.func fd) ⟨[]⟩ ⟨[]⟩))),(7,.one (.lit (.int .i64 l.length))),(8,.one (.lit (.int .i64 k)))],mkH []⟩) (λk=>k<=l.length/\(l.take k).all nzM=true) (λk=>l.length-k) 0 ?_ ?_ ?_
  .exact za (by simp [bitvec_to_nat,ms]) trivial
  .exact⟨Nat.zero_le _,rfl⟩
  .rintro k ⟨hk,hall⟩;by_cases hlt:k<l.length
   .obtain⟨x,hx⟩:∃x,l.getD k mo0=x:=⟨_,rfl⟩;have hx0:=getDm hlt hx;have hxm:=List.mem_of_getElem? hx0;cases hz:nzM x with
    | true=>
     simp only [go_sem,hlt,hx,hd,fnV,hz];refine⟨hw x hxm,hl x hxm,by omega,k+1,za (by simp [bitvec_to_nat,ms]) trivial,⟨by omega,allS hx0 hall hz⟩,by omega⟩
    | false=>
     obtain⟨e1,e2⟩:=Xbn hx0 hall hz;rw [e1,e2]at hK;simp only [go_sem,hlt,hx,hd,fnV,hz];exact⟨hw x hxm,hl x hxm,by simpa using hK⟩
   .rw [List.take_of_length_le (by omega)]at hall
    rw [if_pos hall]at hK;simp only [go_sem,hlt];exact hK
theorem yav(hΓ:Holds P Γ){f fi fd:Nat}(hi:Γ fi=.dat true (qM fd))(hd:Γ fd=.dat true wG)(hc:check P f=some (42,(jc fi).strip,[.tmp 4])):Sound P f (.own (JA fd)):=by
 refine xf hc hΓ (λd args h K hG=>?_);unfold JA at hG;split at hG
 .rename_i r ver len c;obtain⟨l,rfl,rfl,hlen,hr,hok,hK⟩:=hG;refine⟨[r],[⟨l.map mC,5,true⟩],[.one (.own 1048576 ver 5 0 l.length),fnV fd],by simp,rfl,?_,?_,?_,λhfi=>⟨by simp,?_⟩⟩
  .intro i r' b h1 h2;cases i with
   | zero=>simp only [List.getElem?_cons_zero,Option.some.injEq]at h1 h2;subst h1 h2;exact⟨by rw [hr],rfl,of_eq_true (Yg _)⟩
   | succ i=>simp at h1
  .simp [exA,exC,exB,nameOf,pinA,fnV]
  .intro a ha;simp only [List.mem_cons,List.not_mem_nil,or_false]at ha;rcases ha with rfl | rfl
   .simp [pasA,pasC,pasB,nameOf,pinA]
   .exact .lit _
  have hW:∀x∈l,WLM x:=λx hx=>(hok x hx).1;have hL:∀x∈l,rl x.2.2<=4294967296:=λx hx=>(hok x hx).2;by_cases hall:l.all nzM=true
  .have hK':=hK [];rw [List.append_nil,qac hall]at hK';simp only [go_sem,jc,hr,fnV,hi,hall];exact⟨hW,hL,by omega,hK'⟩
  .obtain⟨g1,g2,x,g3,g4⟩:=Xba hall;obtain⟨i0,hi0⟩:∃i0,(l.takeWhile nzM).length=i0:=⟨_,rfl⟩;rw [hi0]at g1 g2 g3;simp only [go_sem,jc,hr,fnV,hi,hall,hi0];refine⟨hW,hL,by omega,by omega,?_⟩
   refine ja (λp:Nat×List Mo=>⟨mkV [(0,.one (.own 1048576 ver 5 0 l.length)),(1,.one (.lit (.func (.func fd) ⟨[]⟩ ⟨[]⟩))),(5,.one (.lit (.int .i64 (((l.take p.1).filter nzM).length:Nat)))),(6,.one (.lit (.int .i64 p.1)))],mkH [(1048576,⟨ver,some ⟨p.2.map mC,5,true⟩⟩)]⟩)
    (λp=>i0<p.1/\p.1<=l.length/\((l.take p.1).filter nzM).length<p.1/\p.2.length=l.length/\p.2.take ((l.take p.1).filter nzM).length=(l.take p.1).filter nzM/\p.2.drop p.1=l.drop p.1) (λp=>l.length-p.1) (i0+1,l) ?_ ?_ ?_
   .have e:((l.take (i0+1)).filter nzM).length=i0:=by rw [qV g3,qac g2,g4];simp;omega
    exact za (by simp only [bitvec_to_nat,e];simp) (Wi rfl)
   .have e:(l.take (i0+1)).filter nzM=l.take i0:=by rw [qV g3,qac g2,g4];simp
    have e2:(l.take i0).length=i0:=by rw [List.length_take];omega
    refine⟨by simp,by simp;omega,?_,rfl,?_,rfl⟩
    .simp only [e,e2];omega
    .simp only [e,e2]
   .rintro⟨j,B⟩ ⟨q1,q2,q3,q4,q5,q6⟩;simp only at q1 q2 q3 q4 q5 q6;obtain⟨n,hn⟩:∃n,((l.take j).filter nzM).length=n:=⟨_,rfl⟩;rw [hn]at q3 q5;by_cases hlt:j<l.length
    .obtain⟨y,hy⟩:∃y,l[j]?=some y:=⟨_,List.getElem?_eq_getElem hlt⟩;have hym:=List.mem_of_getElem? hy;have hBy:B[j]?=some y:=by
      have:=congrArg (λL=>L[0]?) q6;simp only [List.getElem?_drop,Nat.add_zero]at this;rw [this,hy]
     have hBy' : B.getD j mo0=y:=by rw [List.getD_eq_getElem?_getD,hBy];rfl
     have hjB:j<B.length:=by omega
     have hnB:n<B.length:=by omega
     have hft:=qV hy;have hdr:B.drop (j+1)=l.drop (j+1):=by
      have:=congrArg (λL=>L.drop 1) q6;simpa [List.drop_drop] using this
     cases hz:nzM y with
     | true=>
      rw [hz,if_pos rfl]at hft;have hfl:((l.take (j+1)).filter nzM).length=n+1:=by rw [hft,List.length_append,hn];rfl
      simp only [go_sem,hlt,hn,hBy',hd,fnV,hz,hjB,hnB,q4];refine λ_=>⟨hW y hym,hL y hym,by omega,by omega,by omega,by omega,(j+1,B.set n y),za (by simp only [bitvec_to_nat,hfl];simp) (Wi rfl),⟨by simp only;omega,by simp only;omega,by simp only;omega,by simp only;rw [List.length_set];exact q4,?_,?_⟩,by simp only;omega⟩
      .simp only;rw [hfl,hft,<-q5];rw [List.take_add_one,List.getElem?_set_self hnB,List.take_set_of_le (Nat.le_refl _)];rfl
      .simp only;rw [List.drop_set_of_lt (by omega),hdr]
     | false=>
      rw [hz,if_neg (by decide),List.append_nil]at hft
      simp only [go_sem,hlt,hn,hBy',hd,fnV,hz,hjB,q4];refine λ_=>⟨hW y hym,hL y hym,by omega,(j+1,B),za (by simp only [bitvec_to_nat,hft,hn];simp) ⟨xc rfl,trivial⟩,⟨by simp only;omega,by simp only;omega,by simp only [hft,hn];omega,q4,?_,hdr⟩,by simp only;omega⟩
      simp only [hft,hn];exact q5
    .have ej:j=l.length:=by omega
     have et:l.take j=l:=by rw [ej];exact List.take_length
     rw [et]at hn q5;simp only [go_sem,hlt,et,hn,q4,hr];refine λ_=>⟨by omega,by omega,⟨by omega,by omega⟩,?_⟩
     rw [q5,<-hn];exact hK _
 .obtain⟨rfl,hK⟩:=hG;refine⟨[],[],[.one .emp,fnV fd],by simp,rfl,by simp,?_,?_,λhfi=>⟨by simp,?_⟩⟩
  .simp [exA,exC,exB,nameOf,pinA,fnV]
  .intro a ha;simp only [List.mem_cons,List.not_mem_nil,or_false]at ha;rcases ha with rfl | rfl
   .exact .emp
   .exact .lit _
  have e0:(if ([]:List Mo).all nzM=true then (-1:Int) else ↑(List.takeWhile nzM ([]:List Mo)).length) = -1:=rfl
  simp only [go_sem,jc,fnV,hi,e0];exact⟨by simp,hK⟩
 .exact hG.elim
end Go.Abs
end
section
namespace Go.Num
def hv:List Rat->Rat->Rat
 | [],_=>0
 | c::l,x=>c+x*hv l x
def dv(a:Rat):List Rat->List Rat
 | []=>[]
 | [_]=>[]
 | _::c::l=>hv (c::l) a::dv a (c::l)
theorem qaZ(a:Rat):∀f:List Rat,(dv a f).length=f.length-1
 | []=>rfl
 | [_]=>rfl
 | _::c::l=>by
  have:=qaZ a (c::l);simp only [dv,List.length_cons]at this ⊢;omega
theorem jbp(a x:Rat):∀f:List Rat,hv f x=hv f a+(x-a)*hv (dv a f) x
 | []=>by simp only [hv,dv];grind
 | [c]=>by simp only [hv,dv];grind
 | b::c::l=>by
  have:=jbp a x (c::l);have e1:hv (b::c::l) x=b+x*hv (c::l) x:=rfl;have e2:hv (b::c::l) a=b+a*hv (c::l) a:=rfl;have e3:hv (dv a (b::c::l)) x=hv (c::l) a+x*hv (dv a (c::l)) x:=rfl;rw [e1,e2,e3,this];generalize hv (c::l) a=u;generalize hv (dv a (c::l)) x=v;grind
theorem xaO(a:Rat):∀f:List Rat,hv f a=0->(∀c∈dv a f,c=0)->∀c∈f,c=0
 | [],_,_,c,hc=>by simp at hc
 | [b],h,_,c,hc=>by
  simp only [hv]at h;rw [List.mem_singleton]at hc;subst hc;grind
 | b::d::l,h,hz,c,hc=>by
  have h1:hv (d::l) a=0:=hz _ (by simp [dv])
  have h2:hv (b::d::l) a=b+a*hv (d::l) a:=rfl;rw [h2,h1]at h;rcases List.mem_cons.1 hc with rfl | hc
  .grind
  .exact xaO a (d::l) h1 (λc hc=>hz c (by simp [dv,hc])) c hc
def rowN(f:Nat->Rat):Nat->Nat->List Rat
 | _,0=>[]
 | s,n+1=>f s::rowN f (s+1) n
theorem Wan{f:Nat->Rat}{k:Nat}:∀{s n:Nat},s<=k->k<s+n->f k∈rowN f s n
 | s,0,h1,h2=>by omega
 | s,n+1,h1,h2=>by
  by_cases h:s=k
  .subst h;simp [rowN]
  .simp only [rowN,List.mem_cons];exact .inr (Wan (by omega) (by omega))
theorem JaR(f g:Nat->Rat)(x:Rat):∀s n:Nat,hv (rowN (λi=>f i+g i) s n) x=hv (rowN f s n) x+hv (rowN g s n) x
 | s,0=>by simp only [rowN,hv];grind
 | s,n+1=>by
  have:=JaR f g x (s+1) n;simp only [rowN,hv,this];grind
theorem uaC(x:Rat):∀s n:Nat,hv (rowN (λ_=>0) s n) x=0
 | s,0=>rfl
 | s,n+1=>by
  have:=uaC x (s+1) n;simp only [rowN,hv,this];grind
theorem XaX(x:Rat)(n:Nat):pw x (n+1)=x*pw x n:=by simp only [pw];grind
end Go.Num
end
section
namespace Go.Num
open Go.Abs
structure OutM (l:List Mo) (k:Nat) (o:BQ):Prop where
 str:StrM o
 ins:InQ o
 cf:∀i j,cf o i j=cf ((l.take k).map mv) i j
 sz:sz o<=sz ((l.take k).map mv)
 len:o.length<=k
 le:∀t∈o,∀x∈l.drop k,kq t<=kM x
theorem Uo(l:BQ)(k:Nat):sz (l.take k)<=sz l:=by
 have:=congrArg sz (List.take_append_drop k l);rw [zl]at this;omega
theorem ybr(l:List Mo):OutM l 0 []:=⟨List.Pairwise.nil,λt ht=>by simp at ht,λi j=>rfl,Nat.le_refl _,Nat.le_refl _,λt ht=>by simp at ht⟩
theorem QK(t:MQ)(i j:Int):cf [t] i j=if t.1=i/\t.2.1=j then t.2.2 else 0:=by simp only [cf,Rat.add_zero]
theorem jD{l:List Mo}{k:Nat}{x:Mo}(hx:l[k]?=some x):(l.take (k+1)).map mv=(l.take k).map mv++[mv x]:=by
 rw [List.take_add_one,hx];simp
theorem ZF{l:List Mo}{k:Nat}{x:Mo}(hx:l[k]?=some x):l.drop k=x::l.drop (k+1):=by
 obtain⟨h,rfl⟩:=List.getElem?_eq_some_iff.1 hx;exact List.drop_eq_getElem_cons h
theorem zaG{l:List Mo}{k:Nat}{o:BQ}{x:Mo}(h:OutM l k o)(hs:SortM l)(hx:l[k]?=some x)(hi:inM x)(hn:∀t∈o,kq t<kM x):OutM l (k+1) (o++[mv x]):=by
 have hd:=ZF hx;have hsd:SortM (x::l.drop (k+1)):=by rw [<-hd];exact List.Pairwise.drop hs
 obtain⟨s1,s2⟩:=List.pairwise_cons.1 hsd;refine⟨?_,zp.2 ⟨h.ins,λt ht=>by rw [List.mem_singleton.1 ht];exact hi⟩,λi j=>?_,?_,?_,?_⟩
 .refine List.pairwise_append.2 ⟨h.str,List.pairwise_singleton _ _,λa ha b hb=>?_⟩;rw [List.mem_singleton.1 hb];exact hn a ha
 .rw [jD hx,Ql,Ql,h.cf]
 .rw [jD hx,zl,zl];have:=h.sz;omega
 .rw [List.length_append];have:=h.len;simp;omega
 .intro t ht y hy;rcases List.mem_append.1 ht with ht | ht
  .exact h.le t ht y (by rw [hd];simp [hy])
  .rw [List.mem_singleton.1 ht];exact s1 y hy
theorem Jba{l:List Mo}{k:Nat}{o:BQ}{u:MQ}{x:Mo}(h:OutM l k (o++[u]))(hs:SortM l)(hx:l[k]?=some x)(hi:inM x)(hu:kq u=kM x):OutM l (k+1) (o++[(u.1,u.2.1,u.2.2+rv x.2.2)]):=by
 have hd:=ZF hx;obtain⟨i1,i2⟩:=zp.1 h.ins;have hui:inQ u:=i2 u (by simp)
 obtain⟨e1,e2⟩:=(vaL hui (yaF hi)).1 hu;obtain⟨p1,p2,p3⟩:=List.pairwise_append.1 h.str;refine⟨?_,zp.2 ⟨i1,λt ht=>by rw [List.mem_singleton.1 ht];exact hui⟩,λi j=>?_,?_,?_,?_⟩
 .refine List.pairwise_append.2 ⟨p1,List.pairwise_singleton _ _,λa ha b hb=>?_⟩;rw [List.mem_singleton.1 hb];exact p3 a ha u (by simp)
 .have:=h.cf i j;rw [Ql,QK]at this;rw [jD hx,Ql,Ql,QK,QK,<-this];simp only [e1,e2];have e3:(mv x).2.2=rv x.2.2:=rfl;rw [e3];split <;> grind
 .rw [jD hx,zl,zl];have h1:=h.sz;rw [zl]at h1;have h2:=qB u.2.2 (rv x.2.2);have e3:(mv x).2.2=rv x.2.2:=rfl;simp only [sz,e3]at h1 ⊢;omega
 .have:=h.len;rw [List.length_append]at this ⊢;simp at this ⊢;omega
 .intro t ht y hy;rcases List.mem_append.1 ht with ht | ht
  .exact h.le t (by simp [ht]) y (by rw [hd];simp [hy])
  .rw [List.mem_singleton.1 ht];exact h.le u (by simp) y (by rw [hd];simp [hy])
theorem Xo(p q:BQ):mcs (p++q)=mcs p++mcs q:=by unfold mcs;rw [List.map_append]
theorem Vba(o:BQ)(u:MQ)(c:Rat):(mcs (o++[u])).set o.length ((mcan u).1,(mcan u).2.1,rcan (rv (mcan u).2.2+c))=mcs (o++[(u.1,u.2.1,u.2.2+c)]):=by
 have e:rv (mcan u).2.2=u.2.2:=qc _;rw [e,Xo,Xo,List.set_append_right _ _ (by unfold mcs;simp)]
 congr 1;unfold mcs;simp only [List.length_map,Nat.sub_self];rfl
theorem vL(p:BQ):(mcs p).filter nzM=mcs (p.filter nz):=by
 unfold mcs;rw [List.filter_map];congr 1;refine List.filter_congr λt _=>?_;have e:rv (mcan t).2.2=t.2.2:=qc _;simp only [Function.comp,nzM,nz,e]
theorem wV:∀{p:BQ} {t:MQ},t∈p->rz t.2.2<=sz p
 | u::p,t,h=>by
  simp only [sz];rcases List.mem_cons.1 h with rfl | h
  .omega
  .have:=wV h;omega
theorem ua7{l l' : List Mo}{o:BQ}(h:OutM l' l'.length o)(hp:l.Perm l')(hi:∀x∈l,inM x):o.filter nz=nf (l.map mv):=by
 have hin:InQ (l.map mv):=λt ht=>by
  obtain⟨x,hx,rfl⟩:=List.mem_map.1 ht;exact hi x hx
 have hin' : InQ (l'.map mv):=Uao (hp.map _) hin;have e:=h.cf;rw [List.take_length]at e;refine kbq (WY h.str h.ins) hin λi j=>?_;rw [ya5,e,XaG (hp.map _)]
end Go.Num
namespace Go.Abs
open Go.Num
variable {P:Program} {Γ:Nat->Spec}
def Uv(m:Nat):q_T:=q_c1 λa K=>onMs (λl=>(∀t∈l,inM t/\rl t.2.2<=4294967296)/\l.length<=m/\sz (l.map mv)<=1000000000/\K (.one (.slice ((mcs (nf (l.map mv))).map mC)))) a
theorem xX(m:Nat):Good (Uv m):=q_g1 λ_=>(Ve λ_=>(.and λ_=>(.and λ_=>(.and λ_=>(.ret _)))))
attribute [go_sem] Uv
def Uu(f0 f1 f2 f3 f4 f5:Nat):AC:=(.o [.m 2 (.c (.one .emp))] [0] (.o [.M 7 0,.u 8 (.callf f0 [(.t 7)]),.M 0 8] [0] (.o [.M 9 0,.u 10 (.call f1 [(.t 9),(.c (.one (.lit (.func (.func f2) #[] #[]))))])] [0] (.o [.m 3 (.c (.one .emp))] [0,3] (.f (.o [.M 11 0,.Z 12 11,.N 13 0] [3,11,12,13] (.block 0 (.loop (.o [.B 14 .lss 13 12] [3,11,12,13,14] (.f (.cond (.t 14) .skip (.exit 0)) [3,11,12,13] (.f (.block 1 (.o [.J 15 5 11 13,.L 16 5 15,.G 5 [(.lit (.int .i64 0)),(.lit (.int .i64 0)),.z,.emp,.emp],.S 5 5 16] [3,5,11,12,13] (.f (.o [.M 17 3,.Z 18 17,.M 6 18] [3,5,6,11,12,13] (.f (.y [.M 19 6,.I 20 .gtr 19 0,.M 21 20,.V 22 21 true 3,.V 23 21 true 6,.w 24 21 true (.bin .sub (.t 23) (.i 1)),.w 25 21 true (.idx 5 (.t 22) (.t 24)),.U 26 21 true 5 true 25,.U 27 21 true 5 true 5,.Y 28 21 true f2 26 27,.w 29 21 true (.bin .eql (.t 28) (.i 0)),.P 30 21 29]) [3,5,6,11,12,13,30] (.cond (.t 30) (.seq (.y [.M 31 3,.M 32 6,.I 33 .sub 32 1,.M 34 3,.M 35 6,.I 36 .sub 35 1,.J 37 5 34 36,.A 38 2 37,.L 39 3 38,.A 40 2 5,.L 41 3 40,.D 42 f3 39 41,.J 43 5 31 33,.A 44 2 43,.S 3 44 42]) (.exit 1)) .skip))) [3,5,11,12,13] (.y [.M 45 3,.A 46 0 5,.F 47 1 46,.A 48 1 5,.F 49 1 48,.A 50 2 5,.L 51 3 50,.u 52 (.build [.z [.z,.emp,.emp]]),.D 53 f3 51 52,.u 54 (.build [.x 1 (.t 47),.x 1 (.t 49),.x 3 (.t 53)]),.u 55 (.row 5 [[.x 5 (.t 54)]]),.u 56 (.app 5 (.t 45) (.t 55)),.M 3 56])))) [3,11,12,13] (.p [.I 57 .add 13 1,.M 13 57]))))))) [3] (.seq (.p [.M 58 3,.u 59 (.call f4 [(.t 58),(.c (.one (.lit (.func (.func f5) #[] #[]))))]),.M 2 59]) .ret))))))
theorem Xau(hΓ:Holds P Γ){f fc fs fd fo fz fa m:Nat}(hm:m<=1000000000)(hcl:Γ fc=.fresh 5 Wx)(hs:Γ fs=.own (Xr fo m))(hd:Γ fd=.own (JA fz))(ho:Γ fo=.dat true Yy)(ha:Γ fa=.dat false kk)(hc:check P f=some (60,(Uu fc fs fo fa fd fz).strip,[.tmp 2])):Sound P f (.dat false (Uv m)):=by
 refine Qa hc (xX m) hΓ (λargs K hcl' hfi hG=>?_);match args,hG with
 | [a],hG=>
  obtain⟨l,rfl,hw,hok,hlm,hsz,hK⟩:=hG;refine⟨by simp,?_⟩
  have hin:∀x∈l,inM x:=λx hx=>(hok x hx).1;simp only [go_sem,Uu,hcl,hs,fnV];refine⟨hw,by omega,?_⟩
  unfold Xr;refine⟨l,[],rfl,rfl,hlm,by rw [List.append_nil];simp [qa],λx hx=>⟨hw x hx,hin x hx⟩,λl' hp hs'=>?_⟩
  have hll:=hp.length_eq;have hw' : ∀x∈l',WLM x:=λx hx=>hw x (hp.mem_iff.2 hx);have hin' : ∀x∈l',inM x:=λx hx=>hin x (hp.mem_iff.2 hx);have hrl' : ∀x∈l',rl x.2.2<=4294967296:=λx hx=>(hok x (hp.mem_iff.2 hx)).2;have hsz' : ∀k,sz ((l'.take k).map mv)<=1000000000:=λk=>by
   have h1:=Uo (l'.map mv) k;have h2:sz (l'.map mv)=sz (l.map mv):=by
    have:(l.map mv).Perm (l'.map mv):=hp.map _;exact(VaR this).symm
   rw [List.map_take];omega
  rw [List.append_nil];simp only [go_sem];intro _;refine ja (λp:Nat×BQ×MQ=>if p.1=0 then ⟨mkV [(3,.one .emp),(11,.one (.own 8 1 5 0 l.length)),(12,.one (.lit (.int .i64 l.length))),(13,.one (.lit (.int .i64 p.1)))],mkH [(8,⟨1,some ⟨l'.map mC,5,true⟩⟩)]⟩
    else ⟨mkV [(3,.one (.own 56 1 5 0 (p.2.1.length+1))),(11,.one (.own 8 1 5 0 l.length)),(12,.one (.lit (.int .i64 l.length))),(13,.one (.lit (.int .i64 p.1)))],mkH [(8,⟨1,some ⟨l'.map mC,5,true⟩⟩),(56,⟨1,some ⟨(mcs (p.2.1++[p.2.2])).map mC,5,true⟩⟩)]⟩)
   (λp=>p.1<=l.length/\(p.1≠0->OutM l' p.1 (p.2.1++[p.2.2]))) (λp=>l.length-p.1) (0,[],(0,0,0)) ?_ ?_ ?_
  .exact za (by simp [bitvec_to_nat]) ⟨xc rfl,trivial⟩
  .exact⟨Nat.zero_le _,λh=>absurd rfl h⟩
  .rintro⟨k,o,u⟩ ⟨hk,hinv⟩;simp only at hk hinv;by_cases hlt:k<l.length
   .obtain⟨x,hx⟩:∃x,l'.getD k mo0=x:=⟨_,rfl⟩;have hx0:=getDm (by omega) hx
    have hxm:=List.mem_of_getElem? hx0;have hlt' : k<l'.length:=by omega
    have rz0:=rz_0;by_cases hk0:k=0
    .subst hk0;have hO:=zaG (ybr l') hs' hx0 (hin' x hxm) (λt ht=>by simp at ht)
     simp only [go_sem,hlt,hlt',hx,ha,mC,Int.lt_irrefl];refine⟨(hw' x hxm).2.2,hrl' x hxm,by omega,λe he=>by rw [List.mem_singleton.1 he];rfl,by omega,(1,[],mv x),?_,⟨by simp only;omega,λ_=>hO⟩,by simp only;omega⟩
     rw [if_neg (by simp)]
     refine za (by simp [bitvec_to_nat]) ⟨xc rfl,xc ?_,trivial⟩
     simp [mcs,mcan,mv,mC,Rat.add_zero]
    .have hO:=hinv hk0;have hui:inM (mcan u):=hO.ins u (by simp)
     have hwu:WLM (mcan u):=VI hui;have hwu2:=hwu.2.2;have hwx:=hw' x hxm;have hwx2:=hwx.2.2;have hix:=hin' x hxm;have hrx:=hrl' x hxm;have hru:rl (mcan u).2.2<=4294967296:=by
      have h1:=hO.sz;have h2:=hsz' k;have h3:=wV (p:=o++[u]) (t:=u) (by simp)
      have h4:rl (mcan u).2.2=rz u.2.2:=rfl;omega
     have hol:(mcs (o++[u])).length=o.length+1:=by unfold mcs;simp
     have hgd:(mcs (o++[u])).getD o.length mo0=mcan u:=by
      rw [Xo,List.getD_eq_getElem?_getD,List.getElem?_append_right (by unfold mcs;simp)]
      unfold mcs;simp
     have hn1:((o.length+1:Nat):Int)-1=(o.length:Int):=by omega
     have hn2:(0:Int)<((o.length+1:Nat):Int):=by omega
     by_cases hq:kq u=kM x
     .have hku:ordK (kM (mcan u)) (kM x)=0:=by rw [zaA];exact hq
      have hO':=Jba hO hs' hx0 (hin' x hxm) hq;simp only [go_sem,hlt,hlt',hx,ha,ho,hk0,mC,hol,hgd,hn1,hn2];repeat first | refine q_Wk ?_ | intro _
      refine⟨λ_=>?_,λh=>absurd hku h⟩;repeat first | refine q_Wk ?_ | intro _
      refine⟨(k+1,o,(u.1,u.2.1,u.2.2+rv x.2.2)),?_,⟨by simp only;omega,λ_=>hO'⟩,by simp only;omega⟩
      rw [if_neg (by simp)]
      exact za (by simp [bitvec_to_nat]) ⟨xc rfl,xc (by rw [Vba]),trivial⟩
     .have hku:¬ordK (kM (mcan u)) (kM x)=0:=by rw [zaA];exact hq
      have hO':=zaG hO hs' hx0 (hin' x hxm) (λt ht=>by
       obtain⟨p1,p2,p3⟩:=List.pairwise_append.1 hO.str;have h1:=hO.le u (by simp) x (by rw [ZF hx0];simp)
       rcases List.mem_append.1 ht with ht | ht
       .have:=p3 t ht u (by simp)
        omega
       .rw [List.mem_singleton.1 ht];omega)
      simp only [go_sem,hlt,hlt',hx,ha,ho,hk0,mC,hol,hgd,hn1,hn2];repeat first | refine q_Wk ?_ | intro _
      refine⟨λh=>absurd h hku,λ_=>?_⟩;have hln:=hO.len;rw [List.length_append]at hln;simp only [List.length_cons,List.length_nil]at hln;refine⟨hwx2,hrx,by omega,λe he=>by rw [List.mem_singleton.1 he];rfl,by omega,by omega,(k+1,o++[u],mv x),?_,⟨by simp only;omega,λ_=>hO'⟩,by simp only;omega⟩
      rw [if_neg (by simp)]
      refine za (by simp [bitvec_to_nat]) ⟨xc rfl,xc ?_,trivial⟩
      rw [Xo (o++[u])];simp [mcs,mcan,mv,mC,Rat.add_zero]
   .have ek:k=l'.length:=by omega
    by_cases hk0:k=0
    .subst hk0;have hl0:l=[]:=List.length_eq_zero_iff.1 (by omega)
     subst hl0;have e0:nf (([]:List Mo).map mv)=[]:=rfl;rw [e0]at hK;simp only [go_sem,hlt,hd,fnV];unfold JA;exact⟨rfl,hK⟩
    .have hO:=hinv hk0;have hend:=ua7 (by rw [<-ek];exact hO) hp hin
     have hin2:=hO.ins;have h1:=hO.sz;have h2:=hsz' k;have hol:(mcs (o++[u])).length=o.length+1:=by unfold mcs;simp
     have hln:=hO.len;rw [List.length_append]at hln;simp only [List.length_cons,List.length_nil]at hln;simp only [go_sem,hlt,hk0,hd,fnV];unfold JA;refine⟨mcs (o++[u]),rfl,hol.symm,by omega,by simp [qa],λt ht=>?_,λes=>?_⟩
     .obtain⟨v,hv,rfl⟩:=List.mem_map.1 ht;refine⟨VI (hin2 v hv),?_⟩;have h3:=wV hv;have h4:rl (mcan v).2.2=rz v.2.2:=rfl;omega
     .rw [vL,hend];simp only [go_sem];rw [if_pos (by simp),List.take_left' (by simp),xe _ (of_eq_true (Yg _))]
      exact hK
end Go.Abs
end
