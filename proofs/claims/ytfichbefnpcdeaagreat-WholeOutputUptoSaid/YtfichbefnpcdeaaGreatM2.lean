/-
  Parts of the proof, merged: AbsN, AbsO, AbsP, AbsQ, AbsR, AbsT, AbsU, AbsV, AbsW.
-/
import Derived.Test.YtfichbefnpcdeaaGreatM1
import Derived.Orders
set_option linter.unusedVariables false
set_option linter.unusedSimpArgs false
set_option linter.unnecessarySimpa false
section
namespace Go.Abs
variable {P:Program} {E:Env} {s:S} {a:Act} {w:World} {m:M} {I:Nat->Prop} {o:Oper} {K:S->Prop}
def M0:M:=⟨λ_=>0,λ_=>none⟩
structure Ret (w:World) (I:Nat->Prop) (w' : World) (I' : Nat->Prop):Prop where
 grow:w.heap.size<=w'.heap.size
 keep:∀b,b<w.heap.size->w'.heap[b]?=w.heap[b]?
 sub:∀b,I b->I' b
 new:∀b,I' b->I b∨w.heap.size<=b
 imb:∀b,I' b->b<w'.heap.size
 os:w'.os=w.os
 tape:w'.tape=w.tape
 out:w'.output=w.output
def RAs(m:M)(I:Nat->Prop)(H:Array Obj)(as:List AV)(vs:List Value):Prop:=
 as.length=vs.length/\∀(i:Nat) a v,as[i]?=some a->vs[i]?=some v->RA m I H a v
def Enters(P:Program)(f:FuncId):Prop:=∀args w,(callFunc f args).run P w=.ok (.enter f args) w
def DSound(P:Program)(f:FuncId)(G:List AV->(AV->Prop)->Prop):Prop:=
 ∀(args:List AV) (vals:List Value) (w:World) (I:Nat->Prop) (K:AV->Prop),(∀b,I b->b<w.heap.size)->RAs M0 I w.heap args vals->(∀a∈args,CleanV a)->G args K->
  Calls P f ⟨vals⟩ w λe w'=>∃v r I',e=.returned v/\K r/\RA M0 I' w'.heap r v/\CleanA r/\Ret w I w' I'
def OSound(P:Program)(f:FuncId)(G:Option Nat->List AV->(Nat->HB)->(AV->(Nat->HB)->Prop)->Prop):Prop:=
 ∀(E:Env) (args:List AV) (vals:List Value) (w:World) (I:Nat->Prop) (m:M) (h:Nat->HB) (d:Option Nat) (K:AV->(Nat->HB)->Prop),HR E m I w h->RAs m I w.heap args vals->G d args h K->
  Calls P f ⟨vals⟩ w λe w'=>∃v r h' m' I',e=.returned v/\K r h'/\RA m' I' w'.heap r v/\HR E m' I' w' h'/\Ext m I w.heap m' I' w'.heap
structure Good {β:Type} (G:List AV->(β->Prop)->Prop):Prop where
 mono:∀{as:List AV} {K K' : β->Prop},(∀r,K r->K' r)->G as K->G as K'
 some:∀{as:List AV} {K:β->Prop},G as K->∃r,K r
 all:∀{as:List AV} {K:β->Prop},G as K->G as λr=>∀K,G as K->K r
def NewRow(w w' : World)(I' : Nat->Prop)(z:Nat)(es:List (List C))(A:Option Addr)(cap:Nat):Prop:=
 es.length<=cap/\es.length<=maxLenA/\(A=none->es.length=0)/\(∀e∈es,e.length=z)/\
 (cap=0∨∃k arr ty,A=some ⟨k,0,none⟩/\w.heap.size<=k/\¬I' k/\w'.heap[k]?=some (.cells arr ty (0,0))/\cap*z<=arr.size/\
  ∀(i j:Nat) (e:List C) (c:C),es[i]?=some e->e[j]?=some c->∃v,arr[i*z+j]?=some v/\RC M0 I' w'.heap c v)
def FSound(P:Program)(f:FuncId)(z:Nat)(G:List AV->(List (List C)->Prop)->Prop):Prop:=
 ∀(args:List AV) (vals:List Value) (w:World) (I:Nat->Prop) (K:List (List C)->Prop),(∀b,I b->b<w.heap.size)->RAs M0 I w.heap args vals->(∀a∈args,CleanV a)->G args K->
  Calls P f ⟨vals⟩ w λe w'=>∃A cap es I',e=.returned (.slice A es.length cap)/\K es/\CleanR es/\NewRow w w' I' z es A cap/\Ret w I w' I'
def redG(G:List AV->(AV->Prop)->Prop)(d:Option Nat)(args:List AV)(h:Nat->HB)(K:AV->(Nat->HB)->Prop):Prop:=
 ∃r ver rest,args=.one (.ptr r ver 0 0)::rest/\h r=⟨ver,some mk0⟩/\(∀a∈rest,CleanV a)/\G rest λx=>K x h
def ISound(P:Program)(f:FuncId)(G:Option Nat->List AV->S->(AV->S->Prop)->Prop):Prop:=
 ∀(E:Env) (args:List AV) (vals:List Value) (s:S) (a:Act) (w:World) (m:M) (I:Nat->Prop) (d:Option Nat) (K:AV->S->Prop),Sim E s a w m I->RAs m I w.heap args vals->G d args s K->
  Calls P f ⟨vals⟩ w λe w'=>∃v r s' m' I',e=.returned v/\K r s'/\RA m' I' w'.heap r v/\Sim E s' a w' m' I'
def lookG(G:List (List C)->List AV->(AV->Prop)->Prop)(d:Option Nat)(args:List AV)(h:Nat->HB)(K:AV->(Nat->HB)->Prop):Prop:=
 ∃r ver es z rest,args=.one (.ptr r ver 0 0)::rest/\h r=⟨ver,some ⟨es,z,true⟩⟩/\CleanR es/\(∀a∈rest,CleanV a)/\G es rest λx=>K x h
def Sound(P:Program)(f:FuncId):Spec->Prop
 | .none=>True
 | .dat _ G=>Enters P f/\Good G/\DSound P f G
 | .own G=>Enters P f/\OSound P f G
 | .fresh z G=>Enters P f/\Good G/\FSound P f z G
 | .red G=>Enters P f/\Good G/\OSound P f (redG G)
 | .look G=>Enters P f/\(∀es,Good (G es))/\OSound P f (lookG G)
 | .inl G=>Enters P f/\(∀{d:Option Nat} {args:List AV} {s:S} {K K' : AV->S->Prop},(∀r s,K r s->K' r s)->G d args s K->G d args s K')/\ISound P f G
def Holds(P:Program)(Γ:Nat->Spec):Prop:=∀f,Sound P f (Γ f)
theorem Xa {f : FuncId} {fn : Func} (h1 : P.funcs[f]? = some fn) (h2 : (fn.name == "runtime.NumGoroutine") = false) (h3 : fn.body.isNone = false) : Enters P f := by
 intro args w;have h2' : ¬ (fn.name = "runtime.NumGoroutine") := by simpa using h2
 have h3' : ¬(fn.body=none):=λe=>by simp [e]at h3
 simp [callFunc,h1,h2',h3']
theorem RA.any_mapV{H:Array Obj}{x:AV}{v:Value}(h:RA m I H x v)(hc:CleanV x)(m' : M):RA m' I H x v:=by
 cases h with
 | any v=>exact .any v
 | one c v h=>exact .one c v (h.any_map hc m')
 | agg cs vs h=>exact .agg cs vs ⟨h.1,λi c v hi hv=>(h.2 i c v hi hv).any_map (hc c (List.mem_of_getElem? hi)) m'⟩
 | tup=>exact hc.elim
theorem RA.any_map{H:Array Obj}{x:AV}{v:Value}(h:RA m I H x v)(hc:CleanA x)(m' : M):RA m' I H x v:=by
 cases x with
 | tup l=>
  cases h with
  | tup _ vs h1 h2=>exact .tup l vs h1 (λi a v ha hv=>(h2 i a v ha hv).any_mapV (hc a (List.mem_of_getElem? ha)) m')
 | one c=>exact h.any_mapV hc m'
 | agg cs=>exact h.any_mapV hc m'
 | any=>cases h;exact .any _
theorem jt{h:Nat->HB}(hr:HR E m I w h){I' : Nat->Prop}(x:Ext m I w.heap m I' w.heap){c:AV}{v:Value}(hc:RA m I w.heap c v)(hf:∀r∈ownA c,∀b k z,(h r).blk=some b->m.blk r=some (k,z)->I' k) :
  RA m I' w.heap (datA h c) v/\CleanV (datA h c):=by
 cases hc with
 | any v=>exact⟨.any v,trivial⟩
 | one c v hc=>exact⟨.one _ _ (jaB hr x hc hf),Vw hc⟩
 | agg cs vs hc=>
  refine⟨.agg _ _ ⟨by simp [hc.1],λi c v hi hv=>?_⟩,λc hc'=>?_⟩
  .simp only [List.getElem?_map,zOM]at hi;obtain⟨c0,hc0,rfl⟩:=hi;exact jaB hr x (hc.2 i c0 v hc0 hv) (λr hr'=>hf r (List.mem_flatMap.2 ⟨c0,List.mem_of_getElem? hc0,hr'⟩))
  .simp only [List.mem_map]at hc';obtain⟨c0,hc0,rfl⟩:=hc';obtain⟨i,hi⟩:=List.getElem?_of_mem hc0;have hlt:i<vs.length:=by rw [<-hc.1];exact(List.getElem?_eq_some_iff.1 hi).1
   exact Vw (hc.2 i c0 _ hi (List.getElem?_eq_getElem hlt))
 | tup l vs _ _=>exact⟨.any _,trivial⟩
theorem HR.ret{h:Nat->HB}(hr:HR E m I w h){w' : World}{I' : Nat->Prop}(grow:w.heap.size<=w'.heap.size)(keep:∀b,b<w.heap.size->w'.heap[b]?=w.heap[b]?)
    (sub:∀b,I b->I' b) (new:∀b,I' b->I b∨w.heap.size<=b) (imb:∀b,I' b->b<w'.heap.size)
    (os:w'.os=w.os) (tape:w'.tape=w.tape) (out:w'.output=w.output):HR E m I' w' h/\Ext m I w.heap m I' w'.heap:=by
  have ext:Ext m I w.heap m I' w'.heap:=
    ⟨λr=>.inl ⟨rfl,rfl,λb z hb=>by simp only [bsize,keep b (hr.lt _ _ _ hb)]⟩,sub,λb hb=>keep b (hr.imb b hb)⟩
  refine⟨{ ver := hr.ver, blk := λr b hb => ?_, inj := hr.inj, lt := λr k z hm => Nat.lt_of_lt_of_le (hr.lt _ _ _ hm) grow, imb := imb, grow := Nat.le_trans hr.grow grow, keep := λb hb ho => ?_, imm := λb hb => ?_, sup := λb hb => sub b (hr.sup b hb), i0 := hr.i0,
            liv:=hr.liv,np:=hr.np,fx:=λr b hp hb=>⟨(hr.fx r b hp hb).1,λk z hF=>by rw [<-(hr.fx r b hp hb).2 k z hF];simp only [bsize,keep k (hr.lt r k z (by rw [(hr.fx r b hp hb).1];exact hF))]⟩,os:=os.trans hr.os,tape:=tape.trans hr.tape,out:=out.trans hr.out },ext⟩
  . have hrb:=hr.blk r b hb
    refine⟨hrb.sz,hrb.virt,λk z hm=>?_⟩;obtain⟨g1,g2,g3,arr',ty',g4,g5⟩:=hrb.real k z hm;have hlt:=hr.lt _ _ _ hm;refine⟨g1,λhl hi=>?_,λhl=>sub k (g3 hl),arr',ty',by rw [keep k hlt];exact g4,λi j e c he hc=>let ⟨v,q1,q2⟩:=g5 i j e c he hc;⟨v,q1,q2.ext ext⟩⟩
    rcases new k hi with hi | hi
    . exact g2 hl hi
    . omega
  . rw [keep b (Nat.lt_of_lt_of_le hb hr.grow)];exact hr.keep b hb ho
  . rcases new b hb with hb | hb
    . exact hr.imm b hb
    . exact .inr (.inl (Nat.le_trans hr.grow hb))
theorem Wk{f:FuncId}{vals:List Value}{Q' : Value->World->Prop}(hr:(execOp a.eval o).run P w=.ok (.enter f ⟨vals⟩) w)
  (hc:Calls P f ⟨vals⟩ w λe w'=>∃v,e=.returned v/\Q' v w') (hq:∀v w',Q' v w'->∃s' m' I',K s'/\Sim E s' (a.put o.dst v) w' m' I'):Lands P E o a w K:=by
 intro next Q hn
 unfold Oper.wp;rw [hr];refine Calls.mono hc (λe w' he=>?_);obtain⟨v,rfl,hv⟩:=he;obtain⟨s',m',I',h1,h2⟩:=hq v w' hv;exact hn _ _ _ _ _ h1 h2
theorem uE{f:FuncId}{vals:List Value}{r ver:Nat}{rest:List AV}{OG:Option Nat->List AV->(Nat->HB)->(AV->(Nat->HB)->Prop)->Prop}(h:Sim E s a w m I)(hd:∀k,o.dst=some k->k<E.N)
  (hr:(execOp a.eval o).run P w=.ok (.enter f ⟨vals⟩) w) (hsound:OSound P f OG) (hargs:RAs m I w.heap (.one (.ptr r ver 0 0)::rest) vals) (hfree:rest.flatMap ownA=[])
  (hG:(∀x∈rest.map (datA s.h),CleanV x)->OG o.dst (.one (.ptr r ver 0 0)::rest.map (datA s.h)) s.h (λx h'=>h' = s.h/\K (s.put o.dst x))):Lands P E o a w K:=by
 obtain⟨_,hx1⟩:=h.heap.ret (w':=w) (I':=I) (Nat.le_refl _) (λ_ _=>rfl) (λ_ h=>h) (λ_ h=>.inl h) h.heap.imb rfl rfl rfl;have free:∀x∈rest,ownA x=[]:=by simpa only [List.flatMap_eq_nil_iff] using hfree
 have each:∀x v,x∈rest->RA m I w.heap x v->RA m I w.heap (datA s.h x) v/\CleanV (datA s.h x):=λx v hx hv=>
  jt h.heap hx1 hv (λr hr'=>by rw [free x hx]at hr';simp at hr')
 have hargs2:RAs m I w.heap (.one (.ptr r ver 0 0)::rest.map (datA s.h)) vals:=by
  refine⟨by rw [<-hargs.1];simp,λi x v hx hv=>?_⟩
  cases i with
  | zero=>simp only [List.getElem?_cons_zero,zOI]at hx;subst hx;exact hargs.2 0 _ v rfl hv
  | succ i=>
   simp only [List.getElem?_cons_succ,List.getElem?_map,zOM]at hx;obtain⟨x0,hx0,rfl⟩:=hx;exact(each x0 v (List.mem_of_getElem? hx0) (hargs.2 (i+1) x0 v (by simpa using hx0) hv)).1
 have hclean:∀x∈rest.map (datA s.h),CleanV x:=by
  intro x hx;simp only [List.mem_map]at hx;obtain⟨x0,hx0,rfl⟩:=hx;obtain⟨i,hi⟩:=List.getElem?_of_mem hx0;have hlt:i+1<vals.length:=by
   rw [<-hargs.1];have:=(List.getElem?_eq_some_iff.1 hi).1;simp only [List.length_cons];omega
  exact(each x0 _ hx0 (hargs.2 (i+1) x0 _ (by simpa using hi) (List.getElem?_eq_getElem hlt))).2
 have key:=hsound E _ vals w I m s.h o.dst (λx h'=>h' = s.h/\K (s.put o.dst x)) h.heap hargs2 (hG hclean);refine Wk (Q':=λv w'=>∃r h' m' I',(h' = s.h/\K (s.put o.dst r))/\RA m' I' w'.heap r v/\HR E m' I' w' h'/\Ext m I w.heap m' I' w'.heap) hr
  (Calls.mono key λe w' ⟨v,r,h',m',I',h1,h2⟩=>⟨v,h1,r,h',m',I',h2⟩) (λv w' ⟨r,h',m',I',⟨hh',hk⟩,hv,hh,hx⟩=>?_)
 subst hh';exact⟨_,m',I',hk,(h.move hx hh).put hv hd⟩
theorem Jz{Γ:Nat->Spec}(hΓ:Holds P Γ){dr:Bool}{f:FuncId}{args:List AV}{vals:List Value}(h:Sim E s a w m I)(hd:∀k,o.dst=some k->k<E.N)
  (hr:Enters P f->(execOp a.eval o).run P w=.ok (.enter f ⟨vals⟩) w) (hargs:RAs m I w.heap args vals) (hk:callS K dr o.dst args s (Γ f)):Lands P E o a w K:=by
 have hs:=hΓ f;cases hsp:Γ f with
 | none=>rw [hsp]at hk;exact hk.elim
 | dat sc G=>
  rw [hsp]at hk hs;obtain⟨hent,hgood,hsound⟩:=hs;obtain⟨I1,hh1,hx1,hfz⟩:=h.heap.frz (args.flatMap ownA);have key:∀{K' : AV->Prop},G (args.map (datA s.h)) K'->Calls P f ⟨vals⟩ w λe w'=>∃v r I',e=.returned v/\K' r/\RA M0 I' w'.heap r v/\CleanA r/\Ret w I1 w' I':=by
   intro K' hG;have each:∀(i:Nat) x v,args[i]?=some x->vals[i]?=some v->RA m I1 w.heap (datA s.h x) v/\CleanV (datA s.h x):=λi x v hx hv=>
    jt h.heap hx1 (hargs.2 i x v hx hv) (λr hr'=>hfz r (List.mem_flatMap.2 ⟨x,List.mem_of_getElem? hx,hr'⟩))
   refine hsound _ vals w I1 K' hh1.imb ⟨by simp [hargs.1],λi x v hx hv=>?_⟩ (λx hx=>?_) hG
   .simp only [List.getElem?_map,zOM]at hx;obtain⟨x0,hx0,rfl⟩:=hx;exact(each i x0 v hx0 hv).1.any_mapV (each i x0 v hx0 hv).2 _
   .simp only [List.mem_map]at hx;obtain⟨x0,hx0,rfl⟩:=hx;obtain⟨i,hi⟩:=List.getElem?_of_mem hx0;have hlt:i<vals.length:=by rw [<-hargs.1];exact(List.getElem?_eq_some_iff.1 hi).1
    exact(each i x0 _ hi (List.getElem?_eq_getElem hlt)).2
  cases sc with
  | true=>
   obtain⟨_,hk⟩:=hk;refine Wk (Q':=λv w'=>∃r I',(isLit r/\K (s.put o.dst r))/\RA M0 I' w'.heap r v/\CleanA r/\Ret w I1 w' I') (hr hent) (Calls.mono (key hk) λe w' ⟨v,r,I',h1,h2⟩=>⟨v,h1,r,I',h2⟩) (λv w' ⟨r,I',⟨hl,hk⟩,hv,hc,ht⟩=>?_);obtain⟨hh2,hx2⟩:=h.heap.ret (w':=w') (I':=I) ht.grow ht.keep (λ_ h=>h) (λ_ h=>.inl h) (λb hb=>Nat.lt_of_lt_of_le (h.heap.imb b hb) ht.grow) ht.os ht.tape ht.out;have hv' : RA m I w'.heap r v:=by
    unfold isLit at hl;split at hl
    .obtain⟨rfl,hcell⟩:=hv.lit_inv;exact .one _ _ (.lit _ hcell)
    .exact hl.elim
   exact⟨_,m,I,hk,(h.move hx2 hh2).put hv' hd⟩
  | false=>
   obtain⟨_,hk⟩:=hk;refine Wk (Q':=λv w'=>∃r I',K ((s.setH (frz (args.flatMap ownA) s.h)).put o.dst r)/\RA M0 I' w'.heap r v/\CleanA r/\Ret w I1 w' I') (hr hent) (Calls.mono (key hk) λe w' ⟨v,r,I',h1,h2⟩=>⟨v,h1,r,I',h2⟩) (λv w' ⟨r,I',hk,hv,hc,ht⟩=>?_);obtain⟨hh2,hx2⟩:=hh1.ret (w':=w') (I':=I') ht.grow ht.keep ht.sub ht.new ht.imb ht.os ht.tape ht.out;exact⟨_,m,I',hk,(h.move (hx1.trans hx2) hh2).put (hv.any_map hc m) hd⟩
 | fresh z G=>rw [hsp]at hk;exact hk.elim
 | red G=>rw [hsp]at hk;exact hk.elim
 | look G=>
  rw [hsp]at hk hs;obtain⟨_,hk⟩:=hk;obtain⟨hent,hgood,hsound⟩:=hs;unfold callR at hk;simp only at hk;split at hk
  rotate_left
  .exact hk.elim
  rename_i r ver rest;obtain⟨b,e1,e2,⟨b1,b2⟩,hfree,hG⟩:=Vh hk;have hb:s.h r=⟨ver,some ⟨b.es,b.z,true⟩⟩:=by
   have eta:s.h r=⟨(s.h r).ver,(s.h r).blk⟩:=rfl;rw [eta,e1,e2];cases b
   simp only at b1;subst b1;rfl
  exact uE h hd (hr hent) hsound hargs hfree λhc=>⟨r,ver,b.es,b.z,_,rfl,hb,b2,hc,(hgood _).mono (λx hx=>⟨rfl,hx⟩) hG⟩
 | own G=>
  rw [hsp]at hk hs;obtain⟨hent,hsound⟩:=hs;obtain⟨_,hk⟩:=hk;refine Wk (Q':=λv w'=>∃r h' m' I',K ((s.setH h').put o.dst r)/\RA m' I' w'.heap r v/\HR E m' I' w' h'/\Ext m I w.heap m' I' w'.heap) (hr hent)
   (Calls.mono (hsound E args vals w I m s.h o.dst _ h.heap hargs hk) λe w' ⟨v,r,h',m',I',h1,h2⟩=>⟨v,h1,r,h',m',I',h2⟩) (λv w' ⟨r,h',m',I',hk,hv,hh,hx⟩=>?_)
  exact⟨_,m',I',hk,(h.move hx hh).put hv hd⟩
 | inl G=>
  rw [hsp]at hk hs;obtain⟨hent,_,hsound⟩:=hs;obtain⟨_,hk⟩:=hk;refine Wk (Q':=λv w'=>∃r s' m' I',K (s'.put o.dst r)/\RA m' I' w'.heap r v/\Sim E s' a w' m' I') (hr hent)
   (Calls.mono (hsound E args vals s a w m I o.dst _ h hargs hk) λe w' ⟨v,r,s',m',I',h1,h2⟩=>⟨v,h1,r,s',m',I',h2⟩) (λv w' ⟨r,s',m',I',hk,hv,hs⟩=>?_)
  exact⟨_,m',I',hk,hs.put hv hd⟩
theorem wa4{h:Nat->HB}(hr:HR E m I w h){I' : Nat->Prop}(x:Ext m I w.heap m I' w.heap){c:AV}{v:Value}(hc:RA m I w.heap c v)(hf:∀r∈ownA c,∀b k z,(h r).blk=some b->m.blk r=some (k,z)->I' k) :
  RA m I' w.heap (datE h c) v/\CleanV (datE h c):=by
 unfold datE;split
 .exact⟨hc.ext x,.emp⟩
 .refine⟨hc.ext x,?_⟩;cases hc.one_inv with
  | full _ _ hin=>cases hin with | snil=>exact .full _ (λe he=>by simp at he) | slice _ _ _ _ _ _ _ _ _ h0=>exact .full _ h0
 .exact jt hr x hc hf
theorem VaH{Γ:Nat->Spec}(hΓ:Holds P Γ){dr:Bool}{f:FuncId}{args:List AV}{vals:List Value}(h:Sim E s a w m I)(hd:∀k,o.dst=some k->k<E.N)
  (hr:Enters P f->(execOp a.eval o).run P w=.ok (.enter f ⟨vals⟩) w) (hargs:RAs m I w.heap args vals) (hk:callF K dr o.dst args s (Γ f)):Lands P E o a w K:=by
 have hs:=hΓ f;cases hsp:Γ f with
 | none=>rw [hsp]at hk;exact hk.elim
 | dat sc G=>rw [hsp]at hk;exact hk.elim
 | own G=>rw [hsp]at hk;exact hk.elim
 | inl G=>rw [hsp]at hk;exact hk.elim
 | red G=>rw [hsp]at hk;exact hk.elim
 | look G=>rw [hsp]at hk;exact hk.elim
 | fresh z G=>
  rw [hsp]at hk hs;obtain⟨hent,hgood,hsound⟩:=hs;obtain⟨I1,hh1,hx1,hfz⟩:=h.heap.frz (args.flatMap ownA);obtain⟨_,hk⟩:=hk;have each:∀(i:Nat) x v,args[i]?=some x->vals[i]?=some v->RA m I1 w.heap (datE s.h x) v/\CleanV (datE s.h x):=λi x v hx hv=>
   wa4 h.heap hx1 (hargs.2 i x v hx hv) (λr hr'=>hfz r (List.mem_flatMap.2 ⟨x,List.mem_of_getElem? hx,hr'⟩))
  have key:=hsound _ vals w I1 _ hh1.imb ⟨by simp [hargs.1],λi x v hx hv=>by
    simp only [List.getElem?_map,zOM]at hx;obtain⟨x0,hx0,rfl⟩:=hx;exact(each i x0 v hx0 hv).1.any_mapV (each i x0 v hx0 hv).2 _⟩ (λx hx=>by
    simp only [List.mem_map]at hx;obtain⟨x0,hx0,rfl⟩:=hx;obtain⟨i,hi⟩:=List.getElem?_of_mem hx0;have hlt:i<vals.length:=by rw [<-hargs.1];exact(List.getElem?_eq_some_iff.1 hi).1
    exact(each i x0 _ hi (List.getElem?_eq_getElem hlt)).2) hk
  refine Wk (Q':=λv w'=>∃A cap es I',v=.slice A es.length cap/\newA K (s.setH (frz (args.flatMap ownA) s.h)) ⟨es,z,true⟩ (λd ver=>.one (.own d ver z 0 es.length)) o.dst/\CleanR es/\NewRow w w' I' z es A cap/\Ret w I1 w' I') (hr hent)
   (Calls.mono key λe w' ⟨A,cap,es,I',h1,h2⟩=>⟨_,h1,A,cap,es,I',rfl,h2⟩) (λv w' ⟨A,cap,es,I',hv,hk,hcl,⟨n1,n2,n3,n4,n5⟩,ht⟩=>?_)
  subst hv;obtain⟨d,hdst,hnone,hk⟩:=uu hk;obtain⟨hh2,hx2⟩:=hh1.ret (w':=w') (I':=I') ht.grow ht.keep ht.sub ht.new ht.imb ht.os ht.tape ht.out;have hver:m.ver d<(((s.setH (frz (args.flatMap ownA) s.h)).h d).ver+1):=by
   have:=hh2.ver d;show m.ver d<(frz (args.flatMap ownA) s.h d).ver+1;omega
  have hpin:d<pinA:=Nat.lt_of_lt_of_le (hd d hdst) h.heap.np;rcases n5 with n5 | ⟨k,arr,ty,rfl,m1,m2,m3,m4,m5⟩
  .have hes:es=[]:=List.length_eq_zero_iff.1 (by omega)
   subst hes;obtain⟨hh3,hx3⟩:=hh2.virt (r:=d) (z:=z) hver hpin;refine⟨_,⟨upd m.ver d (((s.setH (frz (args.flatMap ownA) s.h)).h d).ver+1),upd m.blk d none⟩,I',hk,?_⟩;have h1:=(h.move ((hx1.trans hx2).trans hx3) hh3).put (d:=o.dst) (x:=.one (.own d (((s.setH (frz (args.flatMap ownA) s.h)).h d).ver+1) z 0 0)) (v:=.slice A 0 cap)
    (.one _ _ (.own _ _ _ _ _ _ _ (by simp [upd]) (by simp) (λ_ b z' hb=>by simp [upd]at hb) (λ_ _=>n5) (λ_=>rfl) (Nat.zero_le _))) hd
   rw [hdst]at h1 ⊢;exact h1
  .obtain⟨hh3,hx3⟩:=hh2.set (w':=w') (r:=d) (ver:=(((s.setH (frz (args.flatMap ownA) s.h)).h d).ver+1)) (k:=k) (z:=z) (es:=es) (arr:=arr) (ty:=ty) rfl rfl rfl (Nat.le_refl _) (λ_ _ _=>rfl) m3
    (.inr (.inl ⟨hver,m2,Nat.le_trans h.heap.grow m1,λr' z' hm=>by have:=h.heap.lt _ _ _ hm;omega⟩)) (.inl hpin) n4
    (λi j e c he hc=>let ⟨v,q1,q2⟩:=m5 i j e c he hc;⟨v,q1,q2.any_map (hcl e (List.mem_of_getElem? he) c (List.mem_of_getElem? hc)) m⟩)
   refine⟨_,m.set d (((s.setH (frz (args.flatMap ownA) s.h)).h d).ver+1) k z,I',hk,?_⟩;have h1:=(h.move ((hx1.trans hx2).trans hx3) hh3).put (d:=o.dst) (x:=.one (.own d (((s.setH (frz (args.flatMap ownA) s.h)).h d).ver+1) z 0 es.length)) (v:=.slice (some ⟨k,0,none⟩) es.length cap)
    (Zw (by simp [M.set,upd]) (by simp [M.set,upd]) n2 n1 (by simp only [bsize,m3];exact m4)) hd
   rw [hdst]at h1 ⊢;exact h1
theorem Ux(h:Sim E s a w m I):∀(l:List Operand) (l' : List Opd),cOpds l=some l'->RAs m I w.heap (l'.map s.ev) (l.map a.eval)
 | [],l',hl=>by simp [cOpds]at hl;subst hl;exact⟨rfl,λi a v h=>by simp at h⟩
 | x::l,l',hl=>by
  simp only [cOpds,List.mapM_cons,Option.bind_eq_bind,zOB,Option.pure_def,zOI]at hl;obtain⟨y,hy,l2,hl2,rfl⟩:=hl;have ih:=Ux h l l2 hl2;refine⟨by simp [ih.1],λi a' v ha hv=>?_⟩
  cases i with
  | zero=>simp at ha hv;subst ha hv;exact h.ev hy
  | succ i=>simp only [List.map_cons,List.getElem?_cons_succ]at ha hv;exact ih.2 i a' v ha hv
theorem yay{Γ:Nat->Spec}(hΓ:Holds P Γ){dr:Bool}{f:FuncId}{c:Call}{l' : List Opd}(h:Sim E s a w m I)(hd:∀k,o.dst=some k->k<E.N)(ho:o.op=.call c)(hcal:c.callee=.value (.func f))(hl:cOpds c.args.toList=some l')
  (hk:callS K dr o.dst (l'.map s.ev) s (Γ f)):Lands P E o a w K:=by
 refine Jz hΓ h hd (λhent=>?_) (Ux h _ _ hl) hk;have:(⟨c.args.toList.map a.eval⟩:Array Value)=c.args.map a.eval:=by apply Array.ext';simp
 rw [this];simp [execOp,ho,resolve,hcal,Act.eval,Deferred.ofValue,invoke,hent (c.args.map a.eval) w]
theorem JaI{Γ:Nat->Spec}(hΓ:Holds P Γ){f:FuncId}{c:Call}{l' : List Opd}(h:Sim E s a w m I)(hd:∀k,o.dst=some k->k<E.N)(ho:o.op=.call c)(hcal:c.callee=.value (.func f))(hl:cOpds c.args.toList=some l')
  (hk:callI K o.dst (l'.map s.ev) s (Γ f)):Lands P E o a w K:=by
 refine yay (dr:=false) hΓ h hd ho hcal hl ?_;unfold callI at hk;split at hk
 .rename_i G e;rw [e];exact⟨rfl,hk⟩
 .exact hk.elim
theorem waH{Γ:Nat->Spec}(hΓ:Holds P Γ){dr:Bool}{f:FuncId}{c:Call}{l' : List Opd}(h:Sim E s a w m I)(hd:∀k,o.dst=some k->k<E.N)(ho:o.op=.call c)(hcal:c.callee=.value (.func f))(hl:cOpds c.args.toList=some l')
  (hk:callF K dr o.dst (l'.map s.ev) s (Γ f)):Lands P E o a w K:=by
 refine VaH hΓ h hd (λhent=>?_) (Ux h _ _ hl) hk;have:(⟨c.args.toList.map a.eval⟩:Array Value)=c.args.map a.eval:=by apply Array.ext';simp
 rw [this];simp [execOp,ho,resolve,hcal,Act.eval,Deferred.ofValue,invoke,hent (c.args.map a.eval) w]
theorem UaG{Γ:Nat->Spec}(hΓ:Holds P Γ){f:FuncId}{args:List AV}{vals:List Value}(h:Sim E s a w m I)(hd:∀k,o.dst=some k->k<E.N)
  (hr:Enters P f->(execOp a.eval o).run P w=.ok (.enter f ⟨vals⟩) w) (hargs:RAs m I w.heap args vals) (hk:callR (λr=>K (s.put o.dst r)) args s.h (Γ f)):Lands P E o a w K:=by
 have hs:=hΓ f;have eta:∀r,s.h r=⟨(s.h r).ver,(s.h r).blk⟩:=λr=>rfl;cases hsp:Γ f with
 | none=>rw [hsp]at hk;exact hk.elim
 | dat sc G=>rw [hsp]at hk;exact hk.elim
 | own G=>rw [hsp]at hk;exact hk.elim
 | inl G=>rw [hsp]at hk;exact hk.elim
 | fresh z G=>rw [hsp]at hk;exact hk.elim
 | red G=>
  rw [hsp]at hk hs;obtain⟨hent,hgood,hsound⟩:=hs;unfold callR at hk;simp only at hk;split at hk
  rotate_left
  .exact hk.elim
  rename_i r ver rest;obtain⟨b,e1,e2,⟨b1,b2,b3⟩,hfree,hG⟩:=Vh hk;have hb:s.h r=⟨ver,some mk0⟩:=by
   rw [eta r,e1,e2];unfold mk0;cases b
   simp only at b1 b2 b3;subst b1 b2 b3;rfl
  exact uE h hd (hr hent) hsound hargs hfree λhc=>⟨r,ver,_,rfl,hb,hc,hgood.mono (λx hx=>⟨rfl,hx⟩) hG⟩
 | look G=>
  rw [hsp]at hk hs;obtain⟨hent,hgood,hsound⟩:=hs;unfold callR at hk;simp only at hk;split at hk
  rotate_left
  .exact hk.elim
  rename_i r ver rest;obtain⟨b,e1,e2,⟨b1,b2⟩,hfree,hG⟩:=Vh hk;have hb:s.h r=⟨ver,some ⟨b.es,b.z,true⟩⟩:=by
   rw [eta r,e1,e2];cases b
   simp only at b1;subst b1;rfl
  exact uE h hd (hr hent) hsound hargs hfree λhc=>⟨r,ver,b.es,b.z,_,rfl,hb,b2,hc,(hgood _).mono (λx hx=>⟨rfl,hx⟩) hG⟩
theorem kaJ{Γ:Nat->Spec}(hΓ:Holds P Γ){f:FuncId}{c:Call}{l' : List Opd}(h:Sim E s a w m I)(hd:∀k,o.dst=some k->k<E.N)(ho:o.op=.call c)(hcal:c.callee=.value (.func f))(hl:cOpds c.args.toList=some l')
  (hk:callR (λr=>K (s.put o.dst r)) (l'.map s.ev) s.h (Γ f)):Lands P E o a w K:=by
 refine UaG hΓ h hd (λhent=>?_) (Ux h _ _ hl) hk;have:(⟨c.args.toList.map a.eval⟩:Array Value)=c.args.map a.eval:=by apply Array.ext';simp
 rw [this];simp [execOp,ho,resolve,hcal,Act.eval,Deferred.ofValue,invoke,hent (c.args.map a.eval) w]
theorem ZaH{Γ:Nat->Spec}(hΓ:Holds P Γ){dr:Bool}{f:Operand}{f' : Opd}{c:Call}{l' : List Opd}(h:Sim E s a w m I)(hd:∀k,o.dst=some k->k<E.N)(ho:o.op=.call c)(hcal:c.callee=.value f)(hf:cOpd f=some f')(hl:cOpds c.args.toList=some l')
  (hk:callVA (λf args=>callS K dr o.dst args s (Γ f)) (l'.map s.ev) (s.ev f')):Lands P E o a w K:=by
 have hv:=h.ev hf;have hargs:=Ux h _ _ hl;have this:(⟨c.args.toList.map a.eval⟩:Array Value)=c.args.map a.eval:=by apply Array.ext';simp
 unfold callVA at hk;split at hk
 .rename_i g e1;rw [e1]at hv;obtain⟨hv,_⟩:=hv.lit_inv;refine Jz hΓ h hd (λhent=>?_) hargs hk;rw [this];simp [execOp,ho,resolve,hcal,hv,Deferred.ofValue,invoke,hent (c.args.map a.eval) w]
 .rename_i g caps e1;rw [e1]at hv;have hrc:=hv.one_inv;generalize hp:a.eval f=u at hrc;have mk:∀{cs:List C} {cv:List Value},cv.length=cs.length->(∀(i:Nat) (c:C) (v:Value),cs[i]?=some c->cv[i]?=some v->RC m I w.heap c v)->RAs m I w.heap (cs.map .one) cv:=λhlen hcells=>⟨by simp [hlen],λi x v hx hu=>by
   simp only [List.getElem?_map,zOM]at hx;obtain⟨c0,hc0,rfl⟩:=hx;exact .one _ _ (hcells _ c0 v hc0 hu)⟩
  have app:∀{as bs:List AV} {us vs:List Value},RAs m I w.heap as us->RAs m I w.heap bs vs->RAs m I w.heap (as++bs) (us++vs):=by
   intro as bs us vs h1 h2;refine⟨by simp [h1.1,h2.1],λi x v hx hu=>?_⟩
   rcases Nat.lt_or_ge i as.length with hi | hi
   .rw [List.getElem?_append_left hi]at hx;rw [List.getElem?_append_left (by rw [<-h1.1];exact hi)]at hu
    exact h1.2 i x v hx hu
   .rw [List.getElem?_append_right hi]at hx;rw [List.getElem?_append_right (by rw [<-h1.1];exact hi),<-h1.1]at hu
    exact h2.2 _ x v hx hu
  cases hrc with
  | clo _ _ cv hlen hcells=>
   unfold cloA at hk;split at hk
   .rename_i l;exfalso;have hlt:0<cv.length:=by rw [hlen];simp
    have:=hcells 0 _ _ rfl (List.getElem?_eq_getElem hlt);have hc:=(RA.one _ _ this).lit_inv.2;exact Bool.noConfusion (show false=true from hc)
   .refine Jz (vals:=c.args.toList.map a.eval++cv) hΓ h hd (λhent=>?_) (app hargs (mk hlen hcells)) hk;have e3:(⟨c.args.toList.map a.eval++cv⟩:Array Value)=c.args.map a.eval++(⟨cv⟩:Array Value):=by apply Array.ext';simp
    rw [e3];simp [execOp,ho,resolve,hcal,hp,Deferred.ofValue,invoke,hent (c.args.map a.eval++(⟨cv⟩:Array Value)) w]
  | bnd _ cs cv hlen hcells=>
   refine Jz (vals:=cv++c.args.toList.map a.eval) hΓ h hd (λhent=>?_) (app (mk hlen hcells) hargs) hk;have e3:(⟨cv++c.args.toList.map a.eval⟩:Array Value)=(⟨cv⟩:Array Value)++c.args.map a.eval:=by apply Array.ext';simp
   rw [e3];simp [execOp,ho,resolve,hcal,hp,Deferred.ofValue,invoke,hent ((⟨cv⟩:Array Value)++c.args.map a.eval) w]
 .exact hk.elim
end Go.Abs
end
section
namespace Go.Abs
variable {P:Program} {E:Env} {s:S} {a:Act} {w:World} {m:M} {I:Nat->Prop} {o:Oper} {K:S->Prop}
def plainOp:AOp->AOp
 | .ld _ n g a=>.ld none n g a
 | .st _ n a x=>.st none n a x
 | .app0 z x y=>.app z x y
 | .appb _ z x y=>.app z x y
 | .rowf z x=>.row z [[.x z x]]
 | .rowd z l=>.row z l
 | o=>o
theorem xbk{Γ:Nat->Spec}(hΓ:Holds P Γ){dr:Bool}{op:AOp}(h:Sim E s a w m I)(hd:∀k,o.dst=some k->k<E.N)(hc:cOp P o=some op)(hk:wpO Γ dr o.dst s K (plainOp op)):Lands P E o a w K:=by
 unfold cOp at hc;split at hc
 .rename_i x ho;simp only [zOM]at hc;obtain⟨y,hy,rfl⟩:=hc;exact Wbd h hd (.inl ho) hy hk
 .rename_i x ho;simp only [zOM]at hc;obtain⟨y,hy,rfl⟩:=hc;exact Wbd h hd (.inr ho) hy hk
 .rename_i c x y ho;simp only [Option.bind_eq_bind,zOB,Option.pure_def,zOI]at hc;obtain⟨c',h1,x',h2,y',h3,rfl⟩:=hc;exact YaW h hd ho h1 h2 h3 hk
 .rename_i e ho;simp only [zOM]at hc;obtain⟨y,hy,rfl⟩:=hc;exact qaG h hd ho hy hk
 .rename_i e x ho;simp only [Option.bind_eq_bind,zOB,Option.pure_def,zOI]at hc;obtain⟨n,h1,x',h2,rfl⟩:=hc;exact xbh h hd ho h2 h1 hk
 .rename_i t ps ho;simp only [zOM]at hc;obtain⟨y,hy,rfl⟩:=hc;exact qaI h hd ho hy hk
 .rename_i t len ps ho;split at hc
  .rename_i e ht;simp only [Option.bind_eq_bind,zOB]at hc;obtain⟨z,hz,hc⟩:=hc;split at hc
   .simp at hc
   .rename_i hne;simp only [Bool.or_eq_true,decide_eq_true_eq,not_or]at hne;split at hc
    .rename_i hl0;subst hl0;split at hc
     .rename_i hemp;simp only [Option.pure_def,zOI]at hc;subst hc;exact ZaY h hd ho ht hz (by simpa using hemp) hk
     .simp at hc
    .rename_i hl0;simp only [zOB,Option.pure_def,zOI]at hc;obtain⟨zs,hzs,l,hl,hc⟩:=hc;split at hc
     .subst hc;exact yav h hd ho ht hz hne.1 (by omega) hl0 hzs hl hk.2
     subst hc;have hk' : rowA s.ev z l λes=>K ((s.setH (frz (es.flatMap (·.flatMap ownC)) s.h)).put o.dst (.one (.full (es.map (·.map (datC s.h)))))):=by
      have mono:∀(l:List (List Seg)) {K K' : List (List C)->Prop},(∀es,K es->K' es)->rowA s.ev z l K->rowA s.ev z l K':=by
       have segm:∀(l:List Seg) {K K' : List C->Prop},(∀es,K es->K' es)->segA s.ev l K->segA s.ev l K':=by
        intro l
        induction l with
        | nil=>intro K K' hm hk;exact hm _ hk
        | cons x l ih=>
         intro K K' hm hk;cases x with
         | z cs=>exact ih (λ_=>hm _) hk
         | x n o=>
          simp only [segA]at hk ⊢;unfold asCells at hk ⊢;split
          .rename_i e1;rw [e1]at hk;exact⟨hk.1,ih (λ_=>hm _) hk.2⟩
          .rename_i e1;rw [e1]at hk;exact⟨hk.1,ih (λ_=>hm _) hk.2⟩
          .rename_i e1 e2;split at hk <;> first | exact(e1 _ ‹_›).elim | exact(e2 _ ‹_›).elim | exact hk
       intro l
       induction l with
       | nil=>intro K K' hm hk;exact hm _ hk
       | cons x l ih=>intro K K' hm hk;exact segm x (λcs hc=>⟨hc.1,ih (λ_=>hm _) hc.2⟩) hk
      exact mono l (λes he=>he.2) hk
     exact qbh h hd ho ht hz hne.1 (by omega) hl0 hzs hl hk'
  .simp at hc
 .rename_i t x ho;simp only [Option.bind_eq_bind,zOB]at hc;obtain⟨n,h1,g,h2,hc⟩:=hc;split at hc
  .simp at hc
  .simp only [zOB,Option.pure_def,zOI]at hc;obtain⟨y,hy,rfl⟩:=hc;exact zbj (bb:=none) h hd ho hy h1 h2 hk.2
 .rename_i t x z ho;simp only [Option.bind_eq_bind,zOB,Option.pure_def,zOI]at hc;obtain⟨n,h1,x',h2,z',h3,rfl⟩:=hc;exact Wbj h hd ho h2 h3 h1 hk.2
 .rename_i x ho;simp only [zOM]at hc;obtain⟨y,hy,rfl⟩:=hc;exact ZaL h hd ho hy hk
 .rename_i op t x y t' ho;split at hc
  .rename_i k ht;simp only [Option.bind_eq_bind,zOB,Option.pure_def,zOI]at hc;obtain⟨x',h1,y',h2,rfl⟩:=hc;exact ubb h hd ho h1 h2 hk
  .rename_i ht;simp only [Option.bind_eq_bind,zOB,Option.pure_def,zOI]at hc;obtain⟨x',h1,y',h2,rfl⟩:=hc;exact yaY h hd ho ht h1 h2 hk
  .rename_i ms ht;simp only [Option.bind_eq_bind,zOB,Option.pure_def,zOI]at hc;obtain⟨x',h1,y',h2,rfl⟩:=hc;exact ka4 h hd ho ht h1 h2 hk
  .rename_i e ht;split at hc
   .simp only [zOM]at hc;obtain⟨x',h1,rfl⟩:=hc;exact zaw h hd ho ht h1 (.inl ⟨rfl,rfl⟩) hk
   .simp only [zOM]at hc;obtain⟨x',h1,rfl⟩:=hc;exact zaw h hd ho ht h1 (.inr ⟨rfl,rfl⟩) hk
   .simp at hc
  .split at hc
   .simp only [Option.bind_eq_bind,zOB,Option.pure_def,zOI]at hc;obtain⟨x',h1,y',h2,rfl⟩:=hc;exact qap h hd ho (.inl ⟨rfl,rfl⟩) h1 h2 hk
   .simp only [Option.bind_eq_bind,zOB,Option.pure_def,zOI]at hc;obtain⟨x',h1,y',h2,rfl⟩:=hc;exact qap h hd ho (.inr ⟨rfl,rfl⟩) h1 h2 hk
   .simp at hc
  .rename_i fs ht;split at hc
   .rename_i f1 f2 hfs;split at hc
    .rename_i h2i;simp only [Option.bind_eq_bind,zOB,Option.pure_def,zOI]at hc;obtain⟨x',h1,y',h2,rfl⟩:=hc;exact waZ h hd ho ht hfs h2i h1 h2 hk
    .simp at hc
   .simp at hc
  .simp at hc
 .rename_i op t x ho;simp only [zOM]at hc;obtain⟨y,hy,rfl⟩:=hc;exact zbl h hd ho hy hk
 .rename_i src dst x ho;split at hc
  .rename_i k k' hs ht;simp only [zOM]at hc;obtain⟨y,hy,rfl⟩:=hc;exact VaX h hd ho hs ht hy hk
  .simp at hc
  .simp at hc
 .rename_i t x ho;split at hc
  .rename_i k ht;simp only [zOM]at hc;obtain⟨y,hy,rfl⟩:=hc;exact jaJ h hd ho ht hy hk
  .simp at hc
 .rename_i f first caps ho
  split at hc
  .rename_i hemp;simp only [zOM]at hc;obtain⟨y,hy,rfl⟩:=hc;have:first = #[]:=by simpa using hemp
   subst this;exact xa8 h hd ho hy hk
  .split at hc
   .rename_i hemp;simp only [zOM]at hc;obtain⟨y,hy,rfl⟩:=hc;have:caps = #[]:=by simpa using hemp
    subst this;exact xa1 h hd ho hy hk
   .simp at hc
 .rename_i t l c ho;split at hc
  .rename_i e ht;simp only [Option.bind_eq_bind,zOB]at hc;obtain⟨z,hz,hc⟩:=hc;split at hc
   .simp at hc
   .rename_i hne;simp only [Bool.or_eq_true,decide_eq_true_eq,not_or]at hne;simp only [zOB,Option.pure_def,zOI]at hc;obtain⟨zs,h1,l',h2,c',h3,rfl⟩:=hc;exact jbm h hd ho ht hz h1 (by omega) h2 h3 hk
  .simp at hc
 .rename_i t x lo hi ho;split at hc
  .rename_i e ht;simp only [Option.bind_eq_bind,zOB]at hc;obtain⟨z,hz,x',hx,hc⟩:=hc;have fin:∀{lo' hi' : Option Opd},wpO Γ dr o.dst s K (plainOp (.sl z x' lo' hi'))->((lo=none/\lo' = none)∨∃p q,lo=some p/\lo' = some q/\cOpd p=some q)->((hi=none/\hi' = none)∨∃p q,hi=some p/\hi' = some q/\cOpd p=some q)->Lands P E o a w K:=
    λhk h1 h2=>Wbm h hd ho ht hz hx h1 h2 hk
   cases lo with
   | none=>
    cases hi with
    | none=>
     simp only [Option.pure_def,Option.bind_some,zOI]at hc;subst hc;exact fin hk (.inl ⟨rfl,rfl⟩) (.inl ⟨rfl,rfl⟩)
    | some q=>
     simp only [Option.pure_def,Option.bind_some,zOB,zOM,zOI]at hc;obtain⟨_,⟨q',hq,rfl⟩,rfl⟩:=hc;exact fin hk (.inl ⟨rfl,rfl⟩) (.inr ⟨q,q',rfl,rfl,hq⟩)
   | some p=>
    cases hi with
    | none=>
     simp only [Option.pure_def,Option.bind_some,zOB,zOM,zOI]at hc;obtain⟨_,⟨p',hp,rfl⟩,rfl⟩:=hc;exact fin hk (.inr ⟨p,p',rfl,rfl,hp⟩) (.inl ⟨rfl,rfl⟩)
    | some q=>
     simp only [Option.pure_def,zOB,zOM,zOI]at hc;obtain⟨_,⟨p',hp,rfl⟩,_,⟨q',hq,rfl⟩,rfl⟩:=hc;exact fin hk (.inr ⟨p,p',rfl,rfl,hp⟩) (.inr ⟨q,q',rfl,rfl,hq⟩)
  .rename_i ht;split at hc
   .simp only [Option.bind_eq_bind,zOB,Option.pure_def,zOI]at hc;obtain⟨x',h1,y',h2,z',h3,rfl⟩:=hc;exact Va1 h hd ho ht h1 h2 h3 hk
   .simp at hc
  .rename_i n e ht;split at hc
   .simp only [Option.bind_eq_bind,zOB]at hc;obtain⟨z,hz,hc⟩:=hc;split at hc
    .simp at hc
    .simp only [zOB,Option.pure_def,zOI]at hc;obtain⟨x',hx,rfl⟩:=hc;exact Jbg h hd ho ht hz hx hk
   .simp only [Option.bind_eq_bind,zOB]at hc;obtain⟨z,hz,hc⟩:=hc;split at hc
    .simp at hc
    .simp only [zOB]at hc;obtain⟨x',hx,hc⟩:=hc;have fin:∀{lo' hi' : Option Opd},wpO Γ dr o.dst s K (plainOp (.rsb z n x' lo' hi'))->((lo=none/\lo' = none)∨∃p q,lo=some p/\lo' = some q/\cOpd p=some q)->((hi=none/\hi' = none)∨∃p q,hi=some p/\hi' = some q/\cOpd p=some q)->Lands P E o a w K:=
      λhk h1 h2=>xbb h hd ho ht hz hx h1 h2 hk
     cases lo with
     | none=>
      cases hi with
      | none=>
       simp only [Option.pure_def,Option.bind_some,zOI]at hc;subst hc;exact fin hk (.inl ⟨rfl,rfl⟩) (.inl ⟨rfl,rfl⟩)
      | some q=>
       simp only [Option.pure_def,Option.bind_some,zOB,zOM,zOI]at hc;obtain⟨_,⟨q',hq,rfl⟩,rfl⟩:=hc;exact fin hk (.inl ⟨rfl,rfl⟩) (.inr ⟨q,q',rfl,rfl,hq⟩)
     | some p=>
      cases hi with
      | none=>
       simp only [Option.pure_def,Option.bind_some,zOB,zOM,zOI]at hc;obtain⟨_,⟨p',hp,rfl⟩,rfl⟩:=hc;exact fin hk (.inr ⟨p,p',rfl,rfl,hp⟩) (.inl ⟨rfl,rfl⟩)
      | some q=>
       simp only [Option.pure_def,zOB,zOM,zOI]at hc;obtain⟨_,⟨p',hp,rfl⟩,_,⟨q',hq,rfl⟩,rfl⟩:=hc;exact fin hk (.inr ⟨p,p',rfl,rfl,hp⟩) (.inr ⟨q,q',rfl,rfl,hq⟩)
  .simp at hc
 .rename_i t x lo k1 k2 ho;split at hc
  .rename_i e ht;simp only [Option.bind_eq_bind,zOB,zOM]at hc;obtain⟨z,hz,y,hy,rfl⟩:=hc;exact za9 h hd ho ht hz hy hk
  .simp at hc
 .rename_i t x f ho;split at hc
  .rename_i fs ht;simp only [Option.bind_eq_bind,zOB]at hc;obtain⟨fd,hf,n,hn,hc⟩:=hc;split at hc
   .simp at hc
   .rename_i hn0;simp only [zOB,Option.pure_def,zOI]at hc;obtain⟨y,hy,rfl⟩:=hc;exact Ybi h hd ho ht hf hn hn0 hy hk
  .simp at hc
 .rename_i t x f ho;split at hc
  .rename_i fs ht;simp only [Option.bind_eq_bind,zOB]at hc;obtain⟨fd,hf,n,hn,g,hg,hc⟩:=hc;split at hc
   .simp at hc
   .simp only [zOB,Option.pure_def,zOI]at hc;obtain⟨y,hy,rfl⟩:=hc;exact Qbc h hd ho ht hf hn hg hy hk
  .simp at hc
 .rename_i t x i ho;split at hc
  .rename_i e ht;simp only [Option.bind_eq_bind,zOB]at hc;obtain⟨z,hz,hc⟩:=hc;split at hc
   .simp at hc
   .simp only [zOB,Option.pure_def,zOI]at hc;obtain⟨x',hx,i',hi,rfl⟩:=hc;exact jbg h hd ho ht hz hx hi hk
  .rename_i n e ht;simp only [Option.bind_eq_bind,zOB]at hc;obtain⟨z,hz,hc⟩:=hc;split at hc
   .simp at hc
   .simp only [zOB,Option.pure_def,zOI]at hc;obtain⟨x',hx,i',hi,rfl⟩:=hc;exact Vbj h hd ho ht hz hx hi hk
  .simp at hc
 .rename_i t x i ho;split at hc
  .rename_i n e ht;simp only [Option.bind_eq_bind,zOB]at hc;obtain⟨z,hz,g,hg,hc⟩:=hc;split at hc
   .simp at hc
   .simp only [zOB,Option.pure_def,zOI]at hc;obtain⟨x',hx,i',hi,rfl⟩:=hc;exact Za8 h hd ho ht hz hg hx hi hk
  .rename_i ht;simp only [Option.bind_eq_bind,zOB,Option.pure_def,zOI]at hc;obtain⟨x',hx,i',hi,rfl⟩:=hc;exact xaV h hd ho ht hx hi hk
  .simp at hc
 .rename_i x t' t ho;split at hc
  .rename_i k z ht hz;simp only [zOM]at hc;obtain⟨y,hy,rfl⟩:=hc;simp only [zOB]at hz;obtain⟨zi,hi,hz⟩:=hz;exact Za2 h hd ho ht hi hz hy hk
  .simp at hc
 .rename_i x i ho;simp only [zOM]at hc;obtain⟨y,hy,rfl⟩:=hc;exact Ubh h hd ho hy hk
 .rename_i c ho;split at hc
  .rename_i f hcal;simp only [Option.bind_eq_bind,zOB]at hc;obtain⟨fn,hf,hc⟩:=hc;split at hc
   .simp at hc
   .split at hc
    .simp only [zOB,Option.pure_def,zOI]at hc;obtain⟨l,hl,rfl⟩:=hc;exact waH hΓ h hd ho hcal hl hk
    .split at hc
     .simp only [zOB,Option.pure_def,zOI]at hc;obtain⟨l,hl,rfl⟩:=hc;exact kaJ hΓ h hd ho hcal hl hk
     .split at hc
      .simp only [zOB,Option.pure_def,zOI]at hc;obtain⟨l,hl,rfl⟩:=hc;exact JaI hΓ h hd ho hcal hl hk
      .simp only [zOB,Option.pure_def,zOI]at hc;obtain⟨l,hl,rfl⟩:=hc;exact yay hΓ h hd ho hcal hl hk
  .rename_i f hnf hcal;simp only [Option.bind_eq_bind,zOB,Option.pure_def,zOI]at hc;obtain⟨f',hf',l,hl,rfl⟩:=hc;exact ZaH hΓ h hd ho hcal hf' hl hk
  .rename_i hcal;split at hc
   .rename_i e ht;simp only [Option.bind_eq_bind,zOB,zOM]at hc;obtain⟨x,hx,y,hy,rfl⟩:=hc;simp only [zOB]at ht;obtain⟨t,ht0,ht⟩:=ht;exact ya8 (ty:=t) h hd ho hcal hx ht0 ht hy hk
   .rename_i ht;simp only [Option.bind_eq_bind,zOB,zOM]at hc;obtain⟨x,hx,y,hy,rfl⟩:=hc;simp only [zOB]at ht;obtain⟨t,ht0,ht⟩:=ht;exact UaY (ty:=t) h hd ho hcal hx ht0 ht hy hk
   .simp at hc
  .rename_i hcal;split at hc
   .rename_i e ht;simp only [Option.bind_eq_bind,zOB,zOM]at hc;obtain⟨x,hx,y,hy,rfl⟩:=hc;simp only [zOB]at ht;obtain⟨t,ht0,ht⟩:=ht;exact Wbe (ty:=t) h hd ho hcal hx ht0 ht hy hk
   .simp at hc
  .rename_i hcal;split at hc
   .rename_i e e2 ht ht2;simp only [Option.bind_eq_bind,zOB]at hc;obtain⟨z,hz,zs,hzs,hc⟩:=hc;split at hc
    .simp at hc
    .rename_i hne;simp only [Bool.or_eq_true,decide_eq_true_eq,not_or]at hne;simp only [zOB,Option.pure_def,zOI]at hc;obtain⟨x,hx,y,hy,x',hx',y',hy',rfl⟩:=hc;simp only [zOB]at ht ht2;obtain⟨t,ht0,ht⟩:=ht;obtain⟨t2,ht20,ht2⟩:=ht2;exact Ya7 h hd ho hcal hx hy ht0 ht20 ht ht2 hz hne.1.1 hzs (by omega) hx' hy' hk
   .rename_i e k2 ht ht2;simp only [Option.bind_eq_bind,zOB]at hc;obtain⟨z,hz,zs,hzs,hc⟩:=hc;split at hc
    .simp at hc
    .rename_i hne;simp only [Bool.or_eq_true,decide_eq_true_eq,not_or]at hne;simp only [zOB,Option.pure_def,zOI]at hc;obtain⟨x,hx,y,hy,x',hx',y',hy',rfl⟩:=hc;simp only [zOB]at ht ht2;obtain⟨t,ht0,ht⟩:=ht;obtain⟨t2,ht20,ht2⟩:=ht2;exact ua0 h hd ho hcal hx hy ht0 ht20 ht ht2 hz hne.1 hzs (by omega) hx' hy' hk
   .simp at hc
  .rename_i hcal;split at hc
   .rename_i e ht;simp only [Option.bind_eq_bind,zOB]at hc;obtain⟨z,hz,zs,hzs,hc⟩:=hc;split at hc
    .simp at hc
    .rename_i hne;simp only [zOB,Option.pure_def,zOI]at hc;obtain⟨x,hx,x',hx',rfl⟩:=hc;simp only [zOB]at ht;obtain⟨t,ht0,ht⟩:=ht;exact qbi h hd ho hcal hx ht0 ht hz hne hzs hx' hk.2
   .simp at hc
  .rename_i hcal;split at hc
   .rename_i e ht;simp only [Option.bind_eq_bind,zOB]at hc;obtain⟨z,hz,hc⟩:=hc;split at hc
    .simp at hc
    .rename_i hne;simp only [zOB,Option.pure_def,zOI]at hc;obtain⟨x,hx,y,hy,x',hx',y',hy',rfl⟩:=hc;simp only [zOB]at ht;obtain⟨t,ht0,ht⟩:=ht;exact kbg h hd ho hcal hx hy ht0 ht hz hne hx' hy' hk.2
   .simp at hc
  .rename_i hcal;simp only [zOM]at hc;obtain⟨l,hl,rfl⟩:=hc;exact wbc h hd ho hcal hl hk
  .rename_i hcal;simp only [zOM]at hc;obtain⟨l,hl,rfl⟩:=hc;exact Jbf h hd ho hcal hl hk
  .simp at hc
 .simp at hc
end Go.Abs
end
section
namespace Go.Abs
variable {P:Program} {E:Env} {s:S} {a:Act} {w:World} {m:M} {I:Nat->Prop} {o:Oper} {K:S->Prop}
theorem Yaw{Γ:Nat->Spec}{dr:Bool}{d:Option Nat}{op:AOp}(hne:∀z l,op≠.rowd z l)(h:wpO Γ dr d s K op):∃dr',wpO Γ dr' d s K (plainOp op):=by
 cases op <;> try exact⟨dr,h⟩
 case ld b n g a=>exact⟨dr,trivial,h.2⟩
 case st b n a x=>exact⟨dr,trivial,h.2⟩
 case appb b z x y=>exact⟨dr,h.2⟩
 case app0 z x y=>
  simp only [wpO,isEmp]at h;split at h
  .rename_i e;refine⟨dr,?_⟩;simp only [plainOp,wpO,e];exact h
  .exact h.elim
 case rowd z l=>exact(hne z l rfl).elim
 case rowf z x=>
  simp only [wpO,rowfA]at h;split at h
  .rename_i r ver z' off len e;obtain⟨rfl,b,hb,⟨h1,h2⟩,h3⟩:=h;obtain⟨hv,hbk⟩:=wn hb;refine⟨false,?_⟩;simp only [plainOp,wpO,rowA,segA,e,asCells,List.append_nil,List.length_singleton,true_and];refine⟨λh=>by simp at h,?_⟩
   have e1:datC s.h (.own r ver z' off len)=.slice ((b.es.drop off).take len):=by
    show datV s.h r ver off len=_;unfold datV viewOf;rw [hb];simp only [if_pos h1,if_pos h2]
   have e2:frz [r] s.h=upd s.h r ⟨ver,some ⟨b.es,b.z,false⟩⟩:=by
    show upd s.h r (s.h r).dead=_;congr 1;unfold HB.dead;rw [hbk];simp only [Option.map_some,hv]
   have e3:List.flatMap (λx=>List.flatMap ownC x) [[C.own r ver z' off len]]=[r]:=rfl;rw [e3,e2];simp only [List.map_cons,List.map_nil,e1];exact h3
  .exact h.elim
theorem yaI{z:Nat}{x:Opd}(hc:cOp P o=some (.rowf z x)):False:=by
 unfold cOp at hc;split at hc;all_goals repeat' (first
  | (simp only [zOM]at hc;obtain⟨_,_,h⟩:=hc;simp at h;done)
  | (simp only [Option.pure_def,zOI,reduceCtorEq]at hc;done)
  | (obtain⟨_,_,hc⟩:=hc)
  | (simp only [Option.bind_eq_bind,zOB]at hc;obtain⟨_,_,hc⟩:=hc)
  | split at hc)
theorem Qa4{op:AOp}{z:Nat}{l:List (List Seg)}(hc:cOp P o=some op)(hp:plainOp op=.row z l)(hn:∀x,op≠.rowf z x) :
  ∃t len ps e zs,o.op=.buildSlice t len ps/\P.underlying t=some (.slice e)/\sizeT P e=some z/\z≠0/\len*z<=2 ^ 24/\len≠0/\zeroCells P e=some zs/\cRow z len ps.toList=some l:=by
 unfold cOp at hc;split at hc
 case h_7 t len ps ho=>
  split at hc
  .rename_i e ht;simp only [Option.bind_eq_bind,zOB]at hc;obtain⟨z',hz,hc⟩:=hc;split at hc
   .simp at hc
   .rename_i hne;simp only [Bool.or_eq_true,decide_eq_true_eq,not_or]at hne;split at hc
    .split at hc
     .simp only [Option.pure_def,zOI]at hc;subst hc;simp [plainOp]at hp
     .simp at hc
    .rename_i hl0;simp only [zOB,Option.pure_def,zOI]at hc;obtain⟨zs,hzs,l',hl,hc⟩:=hc;split at hc
     .subst hc;simp [plainOp]at hp
     .subst hc;simp only [plainOp,AOp.row.injEq]at hp;obtain⟨rfl,rfl⟩:=hp;exact⟨t,len,ps,e,zs,ho,ht,hz,hne.1,by omega,hl0,hzs,hl⟩
  .simp at hc
 all_goals repeat' (first
  | (simp only [plainOp,reduceCtorEq]at hp;done)
  | (simp only [zOM]at hc;obtain⟨_,_,rfl⟩:=hc;simp [plainOp]at hp;done)
  | (simp only [Option.pure_def,zOI]at hc;subst hc;simp [plainOp]at hp;done)
  | (simp only [Option.pure_def,reduceCtorEq]at hc;done)
  | (obtain⟨_,_,hc⟩:=hc)
  | (simp only [Option.bind_eq_bind,zOB]at hc;obtain⟨_,_,hc⟩:=hc)
  | split at hc)
structure Does (P:Program) (ops:Array Oper) (o:Oper) (ao:AO):Prop where
 d:ao.d=o.dst
 op:ao.o=.bad∨∃op,cOp P o=some op/\plainOp ao.o=plainOp op
 g:(o.guard=none/\ao.g=none)∨∃j w oj t,o.guard=some (j,w)/\ops[j]?=some oj/\oj.dst=some t/\t<pinA/\ao.g=some (t,w)
theorem W5(ops:Array Oper)(op:AOp):plainOp (freshApp ops op)=plainOp op:=by
 unfold freshApp;split
 .split <;> rfl
 .rfl
theorem xg(l:List AO)(ao:AO):plainOp (claim l ao).o=plainOp ao.o/\(claim l ao).d=ao.d/\(claim l ao).g=ao.g:=by
 obtain⟨d,g,op⟩:=ao;cases op <;> exact⟨rfl,rfl,rfl⟩
theorem xW(l:List AO)(ao:AO):plainOp (claim2 l ao).o=plainOp ao.o/\(claim2 l ao).d=ao.d/\(claim2 l ao).g=ao.g:=by
 unfold claim2;split
 .rename_i b n g m e;split
  .obtain⟨d,g',op⟩:=ao;simp only at e;subst e;exact⟨rfl,rfl,rfl⟩
  .exact xg l ao
 .exact xg l ao
theorem QT(l:List AO)(ao:AO):plainOp (claim3 l ao).o=plainOp ao.o/\(claim3 l ao).d=ao.d/\(claim3 l ao).g=ao.g:=by
 unfold claim3;split
 .rename_i z x y d e e2;obtain⟨d',g',op⟩:=ao;simp only at e;subst e;exact⟨rfl,rfl,rfl⟩
 .exact xg l ao
theorem WS(l:List AO)(ao:AO):plainOp (claim4 l ao).o=plainOp ao.o/\(claim4 l ao).d=ao.d/\(claim4 l ao).g=ao.g:=by
 unfold claim4;split
 .rename_i z n m e;split
  .rename_i hn;obtain⟨d',g',op⟩:=ao;simp only at e;subst e;refine⟨?_,rfl,rfl⟩;simp only [plainOp,hn.1]
  .exact⟨rfl,rfl,rfl⟩
 .exact⟨rfl,rfl,rfl⟩
theorem jV(l:List AO)(ao:AO):plainOp (Abs.claim5 l ao).o=plainOp ao.o/\(Abs.claim5 l ao).d=ao.d/\(Abs.claim5 l ao).g=ao.g:=by
 unfold Abs.claim5;split
 .split
  .rename_i z n y hop _;exact⟨by rw [hop];rfl,rfl,rfl⟩
  .exact xg l ao
 .exact xg l ao
theorem xat{o:Oper}{ops:Array Oper}{ao:AO}(h:ao.o=freshApp ops ((cOp P o).getD .bad)):ao.o=.bad∨∃op,cOp P o=some op/\plainOp ao.o=plainOp op:=by
 cases hc:cOp P o with
 | none=>rw [hc]at h;exact .inl (by rw [h];rfl)
 | some op=>rw [hc]at h;exact .inr ⟨op,rfl,by rw [h];exact W5 ops op⟩
theorem vaF{ops:Array Oper}{ao:AO}(h:cAO P ops o=some ao):Does P ops o ao:=by
 unfold cAO at h;cases hg:o.guard with
 | none=>
  simp only [hg,Option.bind_eq_bind,Option.bind_some,Option.pure_def,zOI]at h;subst h;exact⟨rfl,xat rfl,.inl ⟨hg,rfl⟩⟩
 | some jw=>
  obtain⟨j,w⟩:=jw;cases hj:ops[j]? with
  | none=>simp [hg,hj]at h
  | some oj=>
   cases ht:oj.dst with
   | none=>simp [hg,hj,ht]at h
   | some t=>
    simp only [hg,hj,ht,Option.bind_eq_bind,Option.bind_some,Option.pure_def]at h;split at h
    .rename_i htp;simp only [Option.bind_some,zOI]at h;subst h;exact⟨rfl,xat rfl,.inr ⟨j,w,oj,t,hg,hj,ht,htp,rfl⟩⟩
    .simp at h
theorem Does.claim2{ops:Array Oper}{ao:AO}(h:Does P ops o ao)(l:List AO):Does P ops o (claim2 l ao):=by
 obtain⟨h1,h2,h3⟩:=xW l ao;refine⟨h2.trans h.d,?_,by rw [h3];exact h.g⟩
 rcases h.op with hb | hop
 .obtain⟨d,g,op⟩:=ao;simp only at hb;subst hb;exact .inl rfl
 .rw [h1];exact .inr hop
theorem Does.claim3{ops:Array Oper}{ao:AO}(h:Does P ops o ao)(l:List AO):Does P ops o (claim3 l ao):=by
 obtain⟨h1,h2,h3⟩:=QT l ao;refine⟨h2.trans h.d,?_,by rw [h3];exact h.g⟩
 rcases h.op with hb | hop
 .obtain⟨d,g,op⟩:=ao;simp only at hb;subst hb;exact .inl rfl
 .rw [h1];exact .inr hop
theorem Does.claim5{ops:Array Oper}{ao:AO}(h:Does P ops o ao)(l:List AO):Does P ops o (claim5 l ao):=by
 obtain⟨h1,h2,h3⟩:=jV l ao;refine⟨h2.trans h.d,?_,by rw [h3];exact h.g⟩
 rcases h.op with hb | hop
 .obtain⟨d,g,op⟩:=ao;simp only at hb;subst hb;exact .inl rfl
 .rw [h1];exact .inr hop
theorem Does.claim4{ops:Array Oper}{ao:AO}(h:Does P ops o ao)(l:List AO):Does P ops o (claim4 l ao):=by
 obtain⟨h1,h2,h3⟩:=WS l ao;refine⟨h2.trans h.d,?_,by rw [h3];exact h.g⟩
 rcases h.op with hb | hop
 .obtain⟨d,g,op⟩:=ao;simp only at hb;subst hb;exact .inl rfl
 .rw [h1];exact .inr hop
theorem WR(l:List AO)(ao:AO):plainOp (Abs.claim6 l ao).o=plainOp ao.o/\(Abs.claim6 l ao).d=ao.d/\(Abs.claim6 l ao).g=ao.g:=by
 unfold Abs.claim6;split
 .split
  .rename_i z es hop _;exact⟨by rw [hop];rfl,rfl,rfl⟩
  .exact⟨rfl,rfl,rfl⟩
 .exact xg l ao
theorem Does.claim6{ops:Array Oper}{ao:AO}(h:Does P ops o ao)(l:List AO):Does P ops o (claim6 l ao):=by
 obtain⟨h1,h2,h3⟩:=WR l ao;refine⟨h2.trans h.d,?_,by rw [h3];exact h.g⟩
 rcases h.op with hb | hop
 .obtain⟨d,g,op⟩:=ao;simp only at hb;subst hb;exact .inl rfl
 .rw [h1];exact .inr hop
theorem Does.claim{ops:Array Oper}{ao:AO}(h:Does P ops o ao)(l:List AO):Does P ops o (claim l ao):=by
 obtain⟨h1,h2,h3⟩:=xg l ao;refine⟨h2.trans h.d,?_,by rw [h3];exact h.g⟩
 rw [h1];rcases h.op with hb | hop
 .obtain⟨d,g,op⟩:=ao;simp only at hb;subst hb;exact .inl rfl
 .exact .inr hop
theorem Uu{α:Type}{f:Nat->α}{d:Nat}{x:α}(h:f d=x):upd f d x=f:=by
 funext t
 by_cases e:t=d
 .subst e;simp [upd,h]
 .simp [upd,e]
theorem waf:RA m I w.heap (.tup []) undef:=.tup [] [] rfl (λi a v h=>by simp at h)
theorem vbk{Γ:Nat->Spec}(hΓ:Holds P Γ){dr:Bool}{ops:Array Oper}{ao:AO}(hc:Does P ops o ao)(h:Sim E s a w m I)(hd:∀k,o.dst=some k->k<E.N)(hk:wpG Γ dr s K ao)
  {next:Act->World->Prop} {Q:Exit->Act->World->Prop} (hn:∀s' a' w' m' I',K s'->Sim E s' a' w' m' I'->next a' w') :
  if Region.wanted o (yielded ops a.tmps) then o.wp P a w next Q∨(o.asks P a w/\LetsOut Q) else next (a.put o.dst undef) w:=by
 obtain⟨d,g,op⟩:=ao;obtain⟨hd1,hop,hg⟩:=hc;simp only at hd1 hg hop;subst hd1;have run:wpO Γ dr o.dst s K op->o.wp P a w next Q:=by
  intro hk;rcases hop with hop | ⟨op0,hop,hpl⟩
  .rw [hop]at hk;exact hk.elim
  .by_cases hrd:∃z l,op=.rowd z l
   .obtain⟨z,l,rfl⟩:=hrd;obtain⟨t,len,ps,e,zs,q1,q2,q3,q4,q5,q6,q7,q8⟩:=Qa4 hop hpl.symm (λx e=>by subst e;exact(yaI hop).elim)
    exact yav h hd q1 q2 q3 q4 q5 q6 q7 q8 hk next Q hn
   .obtain⟨dr',hk'⟩:=Yaw (λz l e=>hrd ⟨z,l,e⟩) hk;exact xbk hΓ h hd hop (hpl▸hk') next Q hn
 rcases hg with⟨hg,rfl⟩ | ⟨j,want,oj,t,hg,hj,ht,htp,rfl⟩
 .have:Region.wanted o (yielded ops a.tmps)=true:=by simp [Region.wanted,hg]
  rw [if_pos this];exact .inl (run hk)
 .have hw:Region.wanted o (yielded ops a.tmps)=(yielded ops a.tmps j == some want):=by simp [Region.wanted,hg]
  have hy:yielded ops a.tmps j=match a.tmps[t]? with | some (.bool b)=>some b | _=>none:=by
   simp only [yielded,hj,ht,Option.bind_some];rfl
  have hs:=h.at htp;simp only [wpG,grd]at hk;split at hk
  .rename_i b e;rw [e]at hs;obtain⟨hv,_⟩:=hs.lit_inv;have hb:a.tmps[t]?=some (.bool b):=by
    rw [Array.getD_eq_getD_getElem?]at hv;cases hx:a.tmps[t]? with
    | none=>rw [hx]at hv;simp [undef]at hv
    | some v=>rw [hx]at hv;simp at hv;rw [hv]
   rw [hy,hb]at hw;by_cases hbw:b=want
   .subst hbw;rw [if_pos (by rw [hw];simp)]
    have:=hk.1 rfl;rw [Uu e]at this;exact .inl (run this)
   .have hbn:b = !want:=by cases b <;> cases want <;> simp_all
    rw [if_neg (by rw [hw];simpa using hbw)]
    have:=hk.2 hbn;rw [Uu (by rw [e,hbn])]at this
    exact hn _ _ _ _ _ this (h.put waf hd)
  .rename_i e;rw [e]at hs;obtain⟨vs,hv,hl,_⟩:=hs.tup_inv;have hv0:vs=[]:=List.length_eq_zero_iff.1 (by rw [<-hl];rfl)
   subst hv0;have hb:(match a.tmps[t]? with | some (.bool b)=>some b | _=>none)=none:=by
    rw [Array.getD_eq_getD_getElem?]at hv;cases hx:a.tmps[t]? with
    | none=>rfl
    | some v=>rw [hx]at hv;simp at hv;rw [hv]
   rw [hy,hb]at hw;rw [if_neg (by rw [hw];simp)]
   exact hn _ _ _ _ _ hk (h.put waf hd)
  .exact hk.elim
inductive Stands (P:Program) (ops:Array Oper) (N:Nat):List Nat->List AO->Prop
 | nil:Stands P ops N [] []
 | cons {i:Nat} {L:List Nat} {o:Oper} {ao:AO} {l:List AO}:ops[i]?=some o->Does P ops o ao->(∀k,o.dst=some k->k<N)->Stands P ops N L l->Stands P ops N (i::L) (ao::l)
theorem XX{Γ:Nat->Spec}(hΓ:Holds P Γ){dr:Bool}{ops:Array Oper}{L:List Nat}{l:List AO}(hl:Stands P ops E.N L l){Q:Exit->Act->World->Prop}(hq:∀s' a' w' m' I',K s'->Sim E s' a' w' m' I'->Q .normal a' w') :
  ∀{s:S} {a:Act} {w:World} {m:M} {I:Nat->Prop},Sim E s a w m I->wpL Γ dr K l s->wpOps P ops Q L a w:=by
 induction hl with
 | nil=>intro s a w m I h hk;exact hq _ _ _ _ _ hk h
 | @cons i L o ao l hi hdo hd _ ih=>
  intro s a w m I h hk;simp only [wpOps,hi];exact vbk hΓ hdo h hd hk (λs' a' w' m' I' hk hs=>ih hs hk)
theorem wZ{ρ:Nat->Nat}{h h' : Nat->HB}{c c' : C}(x:WC ρ h h' c c'):∀{H:Array Obj} {v:Value} {m:M},(∀r,m.ver r=(h r).ver)->RC m I H c v->RC ⟨λr=>(h' r).ver,λr=>if (h' r).blk=none then none else m.blk (ρ r)⟩ I H c' v:=by
 induction x with
 | any c=>exact λ_ hc=>.any _ hc.cell
 | lit v=>exact λ_ hc=>hc.any_map (.lit v) _
 | slice es=>exact λ_ hc=>hc.any_map (by cases hc with | snil=>exact .slice _ (λe he=>by simp at he) | slice _ _ _ _ _ _ _ _ _ h0=>exact .slice _ h0) _
 | full es=>
  exact λ_ hc=>hc.any_map (by
   cases hc with
   | full _ _ hin=>cases hin with | snil=>exact .full _ (λe he=>by simp at he) | slice _ _ _ _ _ _ _ _ _ h0=>exact .full _ h0) _
 | emp=>exact λ_ hc=>hc.any_map .emp _
 | es=>exact λ_ hc=>by cases hc with | emp a=>exact .snil a 0
 | fs es=>
  exact λ_ hc=>by
   cases hc with
   | full _ _ hin=>exact hin.any_map (by cases hin with | snil=>exact .slice _ (λe he=>by simp at he) | slice _ _ _ _ _ _ _ _ _ h0=>exact .slice _ h0) _
 | ref cs=>exact λ_ hc=>hc.any_map (by cases hc with | ref _ _ _ _ _ _ _ h0=>exact .ref _ h0) _
 | own r z off len hne=>
  intro H v m hv hc;cases hc with
  | own _ _ _ _ _ cap A h1 h2 h3 h4 h5 h6=>
   exact .own r _ z off len cap A (Nat.le_refl _) h2 (λ_ b z' hb=>h3 (hv (ρ r)).symm b z' (by simpa [hne] using hb)) (λ_ hb=>h4 (hv (ρ r)).symm (by simpa [hne] using hb)) h5 h6
 | ptr r i off hne=>
  intro H v m hv hc;cases hc with
  | ptr _ _ _ _ A h1 h2=>exact .ptr r _ i off A (Nat.le_refl _) (λ_ b z hb=>h2 (hv (ρ r)).symm b z (by simpa [hne] using hb))
 | clo f l l' hm hl _ ih=>
  intro H v m hv hc;cases hc with
  | clo _ _ cv hlen hcells=>
   refine .clo f l' cv (by rw [hlen,hl]) (λi c u hi hu=>?_)
   have hlt:i<l.length:=by rw [hl];exact(List.getElem?_eq_some_iff.1 hi).1
   exact ih i _ c (List.getElem?_eq_getElem hlt) hi hv (hcells i _ u (List.getElem?_eq_getElem hlt) hu)
  | bnd _ cs cv hlen hcells=>
   have h1:=hm rfl;match l',h1,hl,ih with
   | c0::cs',h1,hl,ih=>
    simp only [List.head?_cons,zOI]at h1;subst h1;have hl' : cs.length=cs'.length:=by simpa using hl
    refine .bnd f cs' cv (by rw [hlen,hl']) (λi c u hi hu=>?_)
    have hlt:i<cs.length:=by rw [hl'];exact(List.getElem?_eq_some_iff.1 hi).1
    exact ih (i+1) _ c (by simpa using List.getElem?_eq_getElem hlt) (by simpa using hi) hv (hcells i _ u (List.getElem?_eq_getElem hlt) hu)
theorem Sim.weak{s' : S}(h:Sim E s a w m I)(x:Weak s s'):∃m',Sim E s' a w m' I:=by
 obtain⟨ρ,x⟩:=x;refine⟨⟨λr=>(s'.h r).ver,λr=>if (s'.h r).blk=none then none else m.blk (ρ r)⟩,?_⟩
 have key:∀r k z,(if (s'.h r).blk=none then none else m.blk (ρ r))=some (k,z)->(s'.h r).blk≠none/\m.blk (ρ r)=some (k,z):=by
  intro r k z hb;split at hb
  .simp at hb
  .rename_i hne;exact⟨hne,hb⟩
 refine⟨h.dfr,h.siz,λt=>?_,{ h.heap with ver:=λr=>rfl,blk:=λr b hb=>?_,inj:=λr r' k z z' h1 h2=>x.inj _ _ (h.heap.inj _ _ k z z' (key _ _ _ h1).2 (key _ _ _ h2).2),lt:=λr k z hm=>h.heap.lt _ k z (key _ _ _ hm).2,liv:=λr b k z hb hm=>?_,fx:=λr b hp hb=>?_ }⟩
 .have hs:=h.slot t;have hx:=x.v t;generalize s.v t=av at hs hx;generalize s'.v t=av' at hx;cases hx with
  | any=>exact .any _
  | one c c' hc=>exact .one _ _ (wZ hc h.heap.ver hs.one_inv)
  | agg l l' hl hc=>
   obtain⟨vs,hv,hrl⟩:=hs.agg_inv;rw [hv];refine .agg _ _ ⟨by rw [<-hl,hrl.1],λi c v hi hv=>?_⟩
   have hlt:i<l.length:=by rw [hl];exact(List.getElem?_eq_some_iff.1 hi).1
   exact wZ (hc i _ c (List.getElem?_eq_getElem hlt) hi) h.heap.ver (hrl.2 i _ v (List.getElem?_eq_getElem hlt) hv)
 .rcases x.h r with hn | ⟨b0,b',h0,h0',hz,hl,hlen,hcells⟩
  .rw [hn]at hb;simp at hb
  .rw [h0']at hb;simp only [zOI]at hb;subst hb;have hne:(s'.h r).blk≠none:=by rw [h0'];simp
   have hrb:=h.heap.blk _ b0 h0;refine⟨λe' he'=>?_,λhm=>?_,λk z hm=>?_⟩
   .obtain⟨i,hi⟩:=List.getElem?_of_mem he';have hlt:i<b0.es.length:=by rw [hlen];exact(List.getElem?_eq_some_iff.1 hi).1
    have he:=List.getElem?_eq_getElem hlt;rw [<-(hcells i _ e' he hi).1,hz];exact hrb.sz _ (List.mem_of_getElem? he)
   .simp only [hne,if_false]at hm;have:=hrb.virt hm;rw [this]at hlen;exact List.length_eq_zero_iff.1 hlen.symm
   .obtain⟨g1,g2,g3,arr,ty,g4,g5⟩:=hrb.real k z (key _ _ _ hm).2;refine⟨by rw [hz];exact g1,λhlive=>g2 (by rw [<-hl];exact hlive),λhlive=>g3 (by rw [<-hl];exact hlive),arr,ty,g4,λi j e' c' hi hj=>?_⟩
    have hlt:i<b0.es.length:=by rw [hlen];exact(List.getElem?_eq_some_iff.1 hi).1
    have he:=List.getElem?_eq_getElem hlt;obtain⟨hl2,hc2⟩:=hcells i _ e' he hi;have hlt2:j<(b0.es[i]).length:=by rw [hl2];exact(List.getElem?_eq_some_iff.1 hj).1
    obtain⟨v,q1,q2⟩:=g5 i j _ _ he (List.getElem?_eq_getElem hlt2);exact⟨v,q1,wZ (hc2 j _ c' (List.getElem?_eq_getElem hlt2) hj) h.heap.ver q2⟩
 .obtain⟨hne,hm'⟩:=key _ _ _ hm;rcases x.h r with hn | ⟨b0,b',h0,h0',_⟩
  .exact(hne hn).elim
  .exact h.heap.liv _ b0 k z h0 hm'
 .rcases x.h r with hn | ⟨b0,b',h0,h0',_⟩
  .rw [hn]at hb;simp at hb
  .have hne:(s'.h r).blk≠none:=by rw [h0'];simp
   simp only [hne,if_false];rw [x.pin r hp]at h0 ⊢;exact h.heap.fx r b0 hp h0
end Go.Abs
end
section
namespace Go.Abs
structure GoodT {α:Type} (T:(α->Prop)->Prop):Prop where
 mono:∀{K K' : α->Prop},(∀r,K r->K' r)->T K->T K'
 some:∀{K:α->Prop},T K->∃r,K r
 all:∀{K:α->Prop},T K->T λr=>∀K,T K->K r
section
variable {α β γ:Type}
theorem GoodT.of{T:(α->Prop)->Prop}(h:∀K,T K->GoodT T):GoodT T:=by
 by_cases h' : ∃K,T K
 .obtain⟨K,hk⟩:=h';exact h K hk
 .exact⟨λ_ hk=>(h' ⟨_,hk⟩).elim,λhk=>(h' ⟨_,hk⟩).elim,λhk=>(h' ⟨_,hk⟩).elim⟩
theorem GoodT.ret(x:α):GoodT λK:α->Prop=>K x:=⟨λh hk=>h _ hk,λhk=>⟨_,hk⟩,λ_ _ hk=>hk⟩
theorem GoodT.and{c:Prop}{T:(α->Prop)->Prop}(h:c->GoodT T):GoodT λK=>c/\T K:=
 .of λK hk=>by
  have g:=h hk.1;exact⟨λhm h=>⟨h.1,g.mono hm h.2⟩,λh=>g.some h.2,λh=>⟨h.1,g.mono (λr hr K hK=>hr K hK.2) (g.all h.2)⟩⟩
theorem GoodT.map{T:(α->Prop)->Prop}(g:GoodT T)(f:α->β):GoodT λK:β->Prop=>T λa=>K (f a):=
 ⟨λhm h=>g.mono (λr=>hm _) h,λh=>let ⟨r,hr⟩:=g.some h;⟨_,hr⟩,λh=>g.mono (λr hr K hK=>hr _ hK) (g.all h)⟩
theorem GoodT.both{b c:Prop}{T U:(α->Prop)->Prop}(hb:b->¬c)(hbc:¬b->c)(h1:b->GoodT T)(h2:c->GoodT U):GoodT λK=>(b->T K)/\(c->U K):=by
 by_cases h:b
 .have g:=h1 h;exact⟨λhm hk=>⟨λ_=>g.mono hm (hk.1 h),λhc=>(hb h hc).elim⟩,λhk=>g.some (hk.1 h),λhk=>⟨λ_=>g.mono (λr hr K hK=>hr K (hK.1 h)) (g.all (hk.1 h)),λhc=>(hb h hc).elim⟩⟩
 .have g:=h2 (hbc h);exact⟨λhm hk=>⟨λhb=>(h hb).elim,λ_=>g.mono hm (hk.2 (hbc h))⟩,λhk=>g.some (hk.2 (hbc h)),λhk=>⟨λhb=>(h hb).elim,λ_=>g.mono (λr hr K hK=>hr K (hK.2 (hbc h))) (g.all (hk.2 (hbc h)))⟩⟩
variable {T:β->(α->Prop)->Prop}
theorem ke{T:IntKind->Int->(α->Prop)->Prop}(h:∀k n,GoodT (T k n))(a:AV):GoodT λK=>asInt (λk n=>T k n K) a:=
 .of λK hk=>by unfold asInt at hk;split at hk <;> first | exact h _ _ | exact hk.elim
theorem Q8{T:Bool->(α->Prop)->Prop}(h:∀b,GoodT (T b))(a:AV):GoodT λK=>asBool (λb=>T b K) a:=
 .of λK hk=>by unfold asBool at hk;split at hk <;> first | exact h _ | exact hk.elim
theorem WF{T:List C->(α->Prop)->Prop}(h:∀b,GoodT (T b))(a:AV):GoodT λK=>asCells (λb=>T b K) a:=
 .of λK hk=>by unfold asCells at hk;split at hk <;> first | exact h _ | exact hk.elim
theorem jaW{T:C->(α->Prop)->Prop}(h:∀b,GoodT (T b))(a:AV):GoodT λK=>asOne (λb=>T b K) a:=
 .of λK hk=>by unfold asOne at hk;split at hk <;> first | exact h _ | exact hk.elim
theorem uai{ev:Opd->AV}:∀(l:List Seg) {T:List C->(α->Prop)->Prop},(∀b,GoodT (T b))->GoodT λK=>segA ev l (λb=>T b K)
 | [],T,h=>h _
 | .z cs::l,T,h=>uai l (T:=λb=>T (cs++b)) λ_=>h _
 | .x n o::l,T,h=>WF (T:=λcs (K:α->Prop)=>cs.length=n/\segA ev l λb=>T (cs++b) K) (λcs=>.and λ_=>uai l (T:=λb=>T (cs++b)) λ_=>h _) _
theorem jaF{ev:Opd->AV}{z:Nat}:∀(l:List (List Seg)) {T:List (List C)->(α->Prop)->Prop},(∀b,GoodT (T b))->GoodT λK=>rowA ev z l (λb=>T b K)
 | [],T,h=>h _
 | sg::l,T,h=>uai sg (T:=λcs (K:α->Prop)=>cs.length=z/\rowA ev z l λb=>T (cs::b) K) λcs=>.and λ_=>jaF l (T:=λb=>T (cs::b)) λ_=>h _
theorem zaR{ev:Opd->AV}:∀(l:List Opd) {T:List C->(α->Prop)->Prop},(∀b,GoodT (T b))->GoodT λK=>capA ev l (λb=>T b K)
 | [],T,h=>h _
 | o::l,T,h=>jaW (T:=λc (K:α->Prop)=>capA ev l λb=>T (c::b) K) (λc=>zaR l (T:=λb=>T (c::b)) λ_=>h _) _
theorem vQ{ev:Opd->AV}{T:Nat->(α->Prop)->Prop}(h:∀b,GoodT (T b))(n:Nat)(o:Option Opd):GoodT λK=>bnd (λb=>T b K) ev n o:=by
 cases o with
 | none=>exact h _
 | some a=>exact ke (T:=λ_ i (K:α->Prop)=>0<=i/\T i.toNat K) (λ_ i=>.and λ_=>h _) _
theorem wab{T:List C->(α->Prop)->Prop}(h:∀b,GoodT (T b))(es:List (List C))(i:Nat):GoodT λK=>getE (λb=>T b K) es i:=
 .of λK hk=>by
  have hi:=hk.1;have he:es[i]?=some es[i]:=List.getElem?_eq_getElem hi;have g:=h es[i];exact⟨λhm h=>⟨hi,λe he'=>by rw [he]at he';cases he';exact g.mono hm (h.2 _ he)⟩,λh=>g.some (h.2 _ he),
   λh=>⟨hi,λe he'=>by rw [he]at he';cases he';exact g.mono (λr hr K hK=>hr K (hK.2 _ he)) (g.all (h.2 _ he))⟩⟩
theorem XF{T:List (List C)->Nat->Bool->(α->Prop)->Prop}(h:∀a b c,GoodT (T a b c))(H:Nat->HB)(r ver:Nat):GoodT λK=>blkA (λa b c=>T a b c K) H r ver:=
 .of λK hk=>by
  obtain⟨b,hb,_⟩:=hk;have g:=h b.es b.z b.live;have inv:∀{K:α->Prop},blkA (λa b c=>T a b c K) H r ver->T b.es b.z b.live K:=λ⟨b',hb',hk⟩=>by rw [hb]at hb';cases hb';exact hk
  exact⟨λhm h=>⟨b,hb,g.mono hm (inv h)⟩,λh=>g.some (inv h),λh=>⟨b,hb,g.mono (λr hr K hK=>hr K (inv hK)) (g.all (inv h))⟩⟩
theorem Ua6{T:Nat->(α->Prop)->Prop}(h:∀b,GoodT (T b))(b:HB):GoodT λK=>newB (λv=>T v K) b:=
 .of λK hk=>by
  obtain⟨v,blk⟩:=b;cases blk with
  | none=>exact h _
  | some _=>exact hk.elim
end
variable {K:AV->Prop}
theorem XV(k:IntKind)(n:Int):GoodT λK=>numR K k n:=
 .of λK hk=>by cases k <;> simp only [numR]at hk <;> first | exact .and λ_=>.ret _ | exact .ret _
theorem za1(op:BinOp)(k:IntKind)(a b:Int):GoodT λK=>arith K op k a b:=
 .of λK hk=>by
  cases op <;> simp only [arith]at hk <;> first | exact XV _ _ | exact .and λ_=>XV _ _ | exact .and λ_=>.ret _ | exact .ret _
theorem za8(op:BinOp)(x y:AV):GoodT λK=>binA K op x y:=
 .of λK hk=>by
  unfold binA at hk;split at hk
  .cases op <;> first | exact .and λ_=>XV _ _ | exact .and λ_=>.ret _ | exact .and λ_=>za1 _ _ _ _
  .exact hk.elim
theorem za6(op:BinOp)(x y:AV):GoodT λK=>binbA K op x y:=
 .of λK hk=>by unfold binbA at hk;split at hk <;> first | exact .ret _ | exact hk.elim
theorem xa2(op:BinOp)(b:Bool)(x y:AV):GoodT λK=>binnA K op b x y:=
 .of λK hk=>by
  unfold binnA at hk;split at hk
  .rename_i a;cases h:isNilV a with
   | none=>rw [h]at hk;exact hk.elim
   | some b=>have:GoodT λK=>nilR (λb=>boolR K b) (some b):=.ret _;rw [<-h]at this;exact this
  .rename_i a;cases h:isNilV a with
   | none=>rw [h]at hk;exact hk.elim
   | some b=>have:GoodT λK=>nilR (λb=>boolR K (!b)) (some b):=.ret _;rw [<-h]at this;exact this
  .exact hk.elim
theorem Wbk(op:UnOp)(x:AV):GoodT λK=>unA K op x:=
 .of λK hk=>by unfold unA at hk;split at hk <;> first | exact .ret _ | exact XV _ _ | exact hk.elim
theorem XaV(k:IntKind)(x:AV):GoodT λK=>convA K k x:=
 .of λK hk=>by unfold convA at hk;split at hk <;> first | exact XV _ _ | exact hk.elim
theorem UaJ(t:TypeId)(x:AV):GoodT λK=>ifaceA K t x:=
 .of λK hk=>by unfold ifaceA at hk;split at hk <;> first | exact .ret _ | exact hk.elim
theorem UaI(x:AV):GoodT λK=>nilckA K x:=
 .of λK hk=>by unfold nilckA at hk;split at hk <;> first | exact .ret _ | exact hk.elim
theorem zbi(off:Nat)(x:AV):GoodT λK=>faA K off x:=
 .of λK hk=>by unfold faA at hk;split at hk <;> first | exact .ret _ | exact .and λ_=>.ret _ | exact hk.elim
theorem JaV(n:Nat)(g:Bool)(cs:List C):GoodT λK=>ldK K n g cs:=
 .of λK hk=>by
  cases g with
  | true=>exact .and λ_=>.ret _
  | false=>cases cs with
   | nil=>exact hk.elim
   | cons c r=>exact .ret _
theorem WaT(n:Nat)(g:Bool)(off:Nat)(x:AV):GoodT λK=>fldA K n g off x:=
 .of λK hk=>by unfold fldA at hk;split at hk <;> first | exact .and λ_=>JaV _ _ _ | exact hk.elim
theorem ua9(z:Nat)(i x:AV):GoodT λK=>idxA K z i x:=
 .of λK hk=>by
  unfold idxA at hk;split at hk
  .rename_i es;exact ke (T:=λ_ i (K:AV->Prop)=>0<=i/\getE (λe=>e.length=z/\K (.one (.ref e))) es i.toNat) (λ_ i=>.and λ_=>wab (T:=λe (K:AV->Prop)=>e.length=z/\K (.one (.ref e))) (λ_=>.and λ_=>.ret _) _ _) _
  .rename_i es;exact ke (T:=λ_ i (K:AV->Prop)=>0<=i/\getE (λe=>e.length=z/\K (.one (.ref e))) es i.toNat) (λ_ i=>.and λ_=>wab (T:=λe (K:AV->Prop)=>e.length=z/\K (.one (.ref e))) (λ_=>.and λ_=>.ret _) _ _) _
  .rename_i r ver z' off len;exact ke (T:=λ_ i (K:AV->Prop)=>(0<=i/\i<len/\z=z')/\K (.one (.ptr r ver (off+i.toNat) 0))) (λ_ i=>.and λ_=>.ret _) _
  .exact hk.elim
theorem Zbb(i:Nat)(x:AV):GoodT λK=>extA K i x:=
 .of λK hk=>by
  unfold extA at hk;split at hk
  .rename_i l;have hi:=hk.1;have he:l[i]?=some l[i]:=List.getElem?_eq_getElem hi;exact⟨λhm h=>⟨hi,λa ha=>hm _ (h.2 a ha)⟩,λh=>⟨_,h.2 _ he⟩,λh=>⟨hi,λa ha K hK=>hK.2 a ha⟩⟩
  .exact hk.elim
theorem xa5(t:TypeId)(zero x:AV):GoodT λK=>tassA K t zero x:=
 .of λK hk=>by
  unfold tassA at hk;split at hk
  .rename_i t' u;exact .both (λh h'=>h' h) (λh=>h) (λ_=>.and λ_=>.ret _) (λ_=>.ret _)
  .exact .ret _
  .exact hk.elim
theorem Xbe(n:Nat){T:(AV->Prop)->Prop}(h:GoodT T):GoodT λK=>bndK true n (T K):=
 .of λK hk=>by
  have hn:=hk.1 rfl;exact⟨λhm hk=>⟨λ_=>hn,λ_=>h.mono hm (hk.2 hn)⟩,λhk=>h.some (hk.2 hn),λhk=>⟨λ_=>hn,λ_=>h.mono (λr hr K hK=>hr K (hK.2 hn)) (h.all (hk.2 hn))⟩⟩
theorem zbf(x:AV):GoodT λK=>lenA K true x:=
 .of λK hk=>by unfold lenA at hk;split at hk <;> first | exact Xbe _ (.ret _) | exact .ret _ | exact hk.elim
theorem Ja5(neg:Bool)(x:AV):GoodT λK=>snilA K neg x:=by
 have key:∀e:Prop,GoodT λK=>snilK K neg e:=by
  intro e;by_cases he:e
  .exact⟨λhm hk=>⟨λ_=>hm _ (hk.1 he),hm _ hk.2⟩,λhk=>⟨_,hk.2⟩,λhk=>⟨λ_ K h=>h.1 he,λK h=>h.2⟩⟩
  .exact⟨λhm hk=>⟨λh=>(he h).elim,hm _ hk.2⟩,λhk=>⟨_,hk.2⟩,λhk=>⟨λh=>(he h).elim,λK h=>h.2⟩⟩
 exact .of λK hk=>by unfold snilA at hk;split at hk <;> first | exact key _ | exact hk.elim
theorem za7(x:AV):GoodT λK=>capZ K x:=
 .of λK hk=>by unfold capZ at hk;split at hk <;> first | exact .ret _ | exact hk.elim
theorem kbi(z:Nat)(ev:Opd->AV)(lo hi:Option Opd)(x:AV):GoodT λK=>slA K z ev lo hi x:=
 .of λK hk=>by
  unfold slA at hk;split at hk
  .rename_i es;exact vQ (T:=λh (K:AV->Prop)=>bnd (λl=>(l<=h/\h<=es.length/\∀e∈es,e.length=z)/\K (.one (.slice ((es.drop l).take (h-l))))) ev 0 lo) (λh=>vQ (T:=λl (K:AV->Prop)=>(l<=h/\h<=es.length/\∀e∈es,e.length=z)/\K (.one (.slice ((es.drop l).take (h-l))))) (λ_=>.and λ_=>.ret _) _ _) _ _
  .rename_i es;exact vQ (T:=λh (K:AV->Prop)=>bnd (λl=>(l<=h/\h<=es.length/\∀e∈es,e.length=z)/\K (.one (.slice ((es.drop l).take (h-l))))) ev 0 lo) (λh=>vQ (T:=λl (K:AV->Prop)=>(l<=h/\h<=es.length/\∀e∈es,e.length=z)/\K (.one (.slice ((es.drop l).take (h-l))))) (λ_=>.and λ_=>.ret _) _ _) _ _
  .rename_i r ver z' off len;exact vQ (T:=λh (K:AV->Prop)=>bnd (λl=>(l<=h/\h<=len/\z=z')/\K (.one (.own r ver z (off+l) (h-l)))) ev 0 lo) (λh=>vQ (T:=λl (K:AV->Prop)=>(l<=h/\h<=len/\z=z')/\K (.one (.own r ver z (off+l) (h-l)))) (λ_=>.and λ_=>.ret _) _ _) _ _
  .exact vQ (T:=λh (K:AV->Prop)=>bnd (λl=>(l=0/\h=0)/\K (.one .emp)) ev 0 lo) (λh=>vQ (T:=λl (K:AV->Prop)=>(l=0/\h=0)/\K (.one .emp)) (λ_=>.and λ_=>.ret _) _ _) _ _
  .exact hk.elim
theorem jaP(pick:Int->Int->Int)(ev:Opd->AV):∀(l:List Opd) (k:IntKind) (a:Int),GoodT λK=>maxK pick ev K l k a
 | [],k,a=>.ret _
 | y::l,k,a=>ke (T:=λk' b (K:AV->Prop)=>k=k'/\maxK pick ev K l k (pick a b)) (λk' b=>.and λ_=>jaP pick ev l k _) _
theorem qaQ(pick:Int->Int->Int)(ev:Opd->AV)(l:List Opd):GoodT λK=>maxA pick ev K l:=by
 cases l with
 | nil=>exact .of λK hk=>hk.elim
 | cons x l=>exact ke (T:=λk a (K:AV->Prop)=>maxK pick ev K l k a) (λk a=>jaP pick ev l k a) _
def h0:Nat->HB:=λ_=>⟨0,none⟩
theorem Yao{h:Nat->HB}{c:C}(hc:ownB c=[]):datB h c=datB h0 c:=by
 cases c <;> first | rfl | simp [ownB]at hc
theorem Xu{h:Nat->HB}{c:C}(hc:ownC c=[]):datC h c=datC h0 c:=by
 cases c <;> first | rfl | (simp [ownC,ownB]at hc;done) | skip
 rename_i f caps;simp only [datC];refine congrArg (C.clo f) (List.map_congr_left (λc hc'=>Yao ?_));simp only [ownC,List.flatMap_eq_nil_iff]at hc;exact hc c hc'
theorem wW{h:Nat->HB}{a:AV}(hc:ownA a=[]):datA h a=datA h0 a:=by
 cases a with
 | one c=>simp only [datA];rw [Xu hc]
 | agg cs=>
  simp only [datA];refine congrArg AV.agg (List.map_congr_left (λc hc'=>Xu ?_));simp only [ownA,List.flatMap_eq_nil_iff]at hc;exact hc c hc'
 | tup l=>rfl
 | any=>rfl
def callQ(K:AV->Prop)(args:List AV):Spec->Prop
 | .dat true G=>args.flatMap ownA=[]/\G (args.map (datA h0)) λr=>isLit r/\K r
 | .dat false G=>args.flatMap ownA=[]/\G (args.map (datA h0)) K
 | _=>False
theorem Vn{h:Nat->HB}{args:List AV}(hc:args.flatMap ownA=[]):args.map (datA h)=args.map (datA h0):=by
 simp only [List.flatMap_eq_nil_iff]at hc;exact List.map_congr_left (λa ha=>wW (hc a ha))
theorem kJ{K:S->Prop}{d:Option Nat}{args:List AV}{s:S}{sp:Spec}:callS K true d args s sp↔callQ (λr=>K (s.put d r)) args sp:=by
 cases sp with
 | none=>exact Iff.rfl
 | own G=>simp [callS,callQ]
 | inl G=>simp [callS,callQ]
 | fresh z G=>exact Iff.rfl
 | red G=>exact Iff.rfl
 | look G=>simp [callS,callQ]
 | dat sc G=>
  cases sc with
  | true=>
   simp only [callS,callQ,true_implies];constructor
   .rintro⟨h1,h2⟩;exact⟨h1,by rw [Vn h1]at h2;exact h2⟩
   .rintro⟨h1,h2⟩;exact⟨h1,by rw [Vn h1];exact h2⟩
  | false=>
   simp only [callS,callQ,true_implies];constructor
   .rintro⟨h1,h2⟩;exact⟨h1,by rw [Vn h1,h1]at h2;exact h2⟩
   .rintro⟨h1,h2⟩;exact⟨h1,by rw [Vn h1,h1];exact h2⟩
def quiet:AOp->Bool
 | .alloc _ | .box .. | .ld .. | .st .. | .mk .. | .sl0 _ | .app .. | .app0 .. | .appb .. | .copy .. | .cpy .. | .rowo .. | .callf .. | .appz .. | .callr .. | .rowf .. | .calli .. | .rowd ..=>false
 | _=>true
def Qk(Γ:Nat->Spec)(ev:Opd->AV)(K:AV->Prop):AOp->Prop
 | .mv x=>K (ev x)
 | .pick c x y=>asBool (λb=>(b=true->K (ev x))/\(b=false->K (ev y))) (ev c)
 | .build sg=>segA ev sg λcs=>K (.agg cs)
 | .row z l=>rowA ev z l λes=>es.flatMap (·.flatMap ownC)=[]/\K (.one (.full (es.map (·.map (datC h0)))))
 | .nilck x=>nilckA K (ev x)
 | .bin op x y=>binA K op (ev x) (ev y)
 | .binb op x y=>binbA K op (ev x) (ev y)
 | .binn op x y=>binnA K op (isConst y) (ev x) (ev y)
 | .un op x=>unA K op (ev x)
 | .conv k x=>convA K k (ev x)
 | .iface t x=>ifaceA K t (ev x)
 | .clo f l=>capA ev l λcs=>K (.one (.clo f cs))
 | .sl z x lo hi=>slA K z ev lo hi (ev x)
 | .fa off x=>faA K off (ev x)
 | .fld n g off x=>fldA K n g off (ev x)
 | .idx z x i=>idxA K z (ev i) (ev x)
 | .ext i x=>extA K i (ev x)
 | .tass t zero x=>tassA K t zero (ev x)
 | .len x=>lenA K true (ev x)
 | .snil neg x=>snilA K neg (ev x)
 | .cap x=>capZ K (ev x)
 | .sop k l=>sopA K k (l.map ev)
 | .ai z n x i=>aiA K z n (ev i) (ev x)
 | .aix z g n x i=>aixA K z g n (ev i) (ev x)
 | .rsl z n x=>rslA K z n (ev x)
 | .rsb z n x lo hi=>rslA (λr=>slA K z ev lo hi r) z n (ev x)
 | .max l=>maxA mx ev K l
 | .min l=>maxA mn ev K l
 | .call f l=>callQ K (l.map ev) (Γ f)
 | .callv f l=>callVA (λf args=>callQ K args (Γ f)) (l.map ev) (ev f)
 | _=>False
theorem yaL{ev:Opd->AV}{z:Nat}(l:List (List Seg)){K K' : List (List C)->Prop}(h:∀es,K es↔K' es):rowA ev z l K↔rowA ev z l K':=by
 have:K=K':=funext λes=>propext (h es);rw [this]
theorem yar{Γ:Nat->Spec}{d:Option Nat}{s:S}{K:S->Prop}{op:AOp}(hq:quiet op=true):wpO Γ true d s K op↔Qk Γ s.ev (λr=>K (s.put d r)) op:=by
 cases op <;> first | exact Iff.rfl | exact kJ | (simp [quiet]at hq;done) | skip
 .rename_i z l;refine yaL l (λes=>?_);simp only [true_implies];constructor
  .rintro⟨h1,h2⟩;refine⟨h1,?_⟩;rw [h1]at h2;have:es.map (·.map (datC s.h))=es.map (·.map (datC h0)):=List.map_congr_left λe he=>List.map_congr_left λc hc=>Xu (by
    simp only [List.flatMap_eq_nil_iff]at h1;exact h1 e he c hc)
   rw [this]at h2;exact h2
  .rintro⟨h1,h2⟩;refine⟨h1,?_⟩;rw [h1];have:es.map (·.map (datC s.h))=es.map (·.map (datC h0)):=List.map_congr_left λe he=>List.map_congr_left λc hc=>Xu (by
    simp only [List.flatMap_eq_nil_iff]at h1;exact h1 e he c hc)
   rw [this];exact h2
 .rename_i f l;simp only [wpO,Qk];have:(λf args=>callS K true d args s (Γ f))=λf args=>callQ (λr=>K (s.put d r)) args (Γ f):=funext λf=>funext λargs=>propext kJ;rw [this]
def Goods(Γ:Nat->Spec):Prop:=(∀f sc G,Γ f=.dat sc G->Good G)/\(∀f z G,Γ f=.fresh z G->Good G)/\(∀f G,Γ f=.red G->Good G)/\(∀f G,Γ f=.look G->∀es,Good (G es))/\∀f G,Γ f=.inl G->∀{d:Option Nat} {args:List AV} {s:S} {K K' : AV->S->Prop},(∀r s,K r s->K' r s)->G d args s K->G d args s K'
theorem J0{Γ:Nat->Spec}(hΓ:Goods Γ)(f:Nat)(args:List AV):GoodT λK=>callQ K args (Γ f):=
 .of λK hk=>by
  have hg:=hΓ.1 f;generalize Γ f=sp at hk hg ⊢;cases sp with
  | none=>exact hk.elim
  | own G=>exact hk.elim
  | inl G=>exact hk.elim
  | fresh z G=>exact hk.elim
  | red G=>exact hk.elim
  | look G=>exact hk.elim
  | dat sc G=>
   have g:=hg sc G rfl;cases sc with
   | true=>
    refine .and λ_=>?_;exact⟨λhm h=>g.mono (λr hr=>⟨hr.1,hm r hr.2⟩) h,λh=>let ⟨r,hr⟩:=g.some h;⟨r,hr.2⟩,
     λh=>g.mono (λr hr=>⟨(hr _ h).1,λK hK=>(hr _ hK).2⟩) (g.all h)⟩
   | false=>exact .and λ_=>⟨λhm h=>g.mono hm h,λh=>g.some h,λh=>g.all h⟩
theorem Wa9(k:Nat)(l:List AV):GoodT λK=>sopA K k l:=
 .of λK hk=>by unfold sopA at hk ⊢;split at hk <;> first | exact .ret _ | exact hk.elim
theorem Xbl(z n:Nat)(i x:AV):GoodT λK=>aiA K z n i x:=
 ke (T:=λ_ j (K:AV->Prop)=>(0<=j/\j<(n:Int))/\faA K (j.toNat*z) x) (λ_ _=>.and λ_=>zbi _ _) _
theorem Ja6(z:Nat)(g:Bool)(n:Nat)(i x:AV):GoodT λK=>aixA K z g n i x:=
 ke (T:=λ_ j (K:AV->Prop)=>(0<=j/\j<(n:Int))/\fldA K z g (j.toNat*z) x) (λ_ _=>.and λ_=>WaT _ _ _ _) _
theorem Ubc(z n:Nat)(x:AV):GoodT λK=>rslA K z n x:=
 .of λK hk=>by
  unfold rslA at hk ⊢;split at hk
  .exact .and λ_=>.ret _
  .exact hk.elim
theorem Qbf(z n:Nat)(ev:Opd->AV)(lo hi:Option Opd)(x:AV):GoodT λK=>rslA (λr=>slA K z ev lo hi r) z n x:=
 .of λK hk=>by
  unfold rslA at hk ⊢;split at hk
  .exact .and λ_=>kbi _ _ _ _ _
  .exact hk.elim
theorem g_Qk{Γ:Nat->Spec}(hΓ:Goods Γ)(ev:Opd->AV)(op:AOp):GoodT λK=>Qk Γ ev K op:=by
 cases op
 case mv x=>exact .ret _
 case pick c x y=>exact Q8 (T:=λb (K:AV->Prop)=>(b=true->K (ev x))/\(b=false->K (ev y))) (λb=>.both (by cases b <;> simp) (by cases b <;> simp) (λ_=>.ret _) (λ_=>.ret _)) _
 case build sg=>exact uai sg (T:=λcs (K:AV->Prop)=>K (.agg cs)) (λ_=>.ret _)
 case row z l=>exact jaF l (T:=λes (K:AV->Prop)=>es.flatMap (·.flatMap ownC)=[]/\K (.one (.full (es.map (·.map (datC h0)))))) (λ_=>.and λ_=>.ret _)
 case nilck x=>exact UaI _
 case bin op x y=>exact za8 _ _ _
 case binb op x y=>exact za6 _ _ _
 case binn op x y=>exact xa2 _ _ _ _
 case un op x=>exact Wbk _ _
 case conv k x=>exact XaV _ _
 case iface t x=>exact UaJ _ _
 case clo f l=>exact zaR l (T:=λcs (K:AV->Prop)=>K (.one (.clo f cs))) (λ_=>.ret _)
 case sl z x lo hi=>exact kbi _ _ _ _ _
 case fa off x=>exact zbi _ _
 case fld n g off x=>exact WaT _ _ _ _
 case idx z x i=>exact ua9 _ _ _
 case ext i x=>exact Zbb _ _
 case tass t zero x=>exact xa5 _ _ _
 case len x=>exact zbf _
 case snil neg x=>exact Ja5 _ _
 case cap x=>exact za7 _
 case sop k l=>exact Wa9 _ _
 case ai z n x i=>exact Xbl _ _ _ _
 case aix z g n x i=>exact Ja6 _ _ _ _ _
 case rsl z n x=>exact Ubc _ _ _
 case rsb z n x lo hi=>exact Qbf _ _ _ _ _ _
 case max l=>exact qaQ _ _ _
 case min l=>exact qaQ _ _ _
 case call f l=>exact J0 hΓ f _
 case callv f l=>
  refine .of λK hk=>?_;simp only [Qk]at hk ⊢;generalize ev f=x at hk ⊢;unfold callVA at hk;split at hk
  .exact J0 hΓ _ _
  .rename_i g caps;show GoodT λK=>cloA (λf args=>callQ K args (Γ f)) g (l.map ev) caps;unfold cloA;split <;> exact J0 hΓ _ _
  .exact hk.elim
 all_goals exact .of λK hk=>hk.elim
end Go.Abs
end
section
namespace Go.Abs
abbrev Eff:=AV×Option (Nat×HB)
variable {Γ:Nat->Spec}
def S.fin(s:S)(d:Option Nat)(p:Eff):S:=
 match p.2 with
 | none=>s.put d p.1
 | some (r,b)=>(s.setH (upd s.h r b)).put d p.1
def newU(K:Eff->Prop)(h:Nat->HB)(b:Blk)(a:Nat->Nat->AV):Option Nat->Prop
 | some d=>newB (λver=>K (a d ver,some (d,⟨ver,some b⟩))) (h d)
 | none=>False
def stU(K:Eff->Prop)(n:Nat)(h:Nat->HB)(x:AV):AV->Prop
 | .one (.ptr r ver i off)=>asCells (λxs=>blkA (λes z live=>(live=true/\xs.length=n)/\getE (λe=>off+n<=e.length/\
   K (.tup [],some (r,⟨ver,some ⟨es.set i (splice e off n xs),z,live⟩⟩))) es i) h r ver) x
 | _=>False
def appFU(K:Eff->Prop)(z:Nat)(d:Option Nat)(h:Nat->HB)(es:List (List C)):List (List C)->Prop
 | []=>newU K h ⟨[],z,true⟩ (λ_ _=>.one (.full es)) d
 | y::ys=>(es.length+(y::ys).length<=roomA/\∀e∈es,e.length=z)/\
   newU K h ⟨es++y::ys,z,true⟩ (λd ver=>.one (.own d ver z 0 (es.length+(y::ys).length))) d
def appU(K:Eff->Prop)(z:Nat)(d:Option Nat)(h:Nat->HB)(ys:List (List C)):AV->Prop
 | .one .emp=>ys.length<=roomA/\newU K h ⟨ys,z,true⟩ (λd ver=>.one (.own d ver z 0 ys.length)) d
 | .one (.full es)=>appFU K z d h es ys
 | .one (.own r ver z' 0 len)=>blkA (λes zb live=>(live=true/\z=z'/\z=zb/\len<=es.length/\len+ys.length<=roomA/\r<pinA)/\
   K (.one (.own r (ver+1) z 0 (len+ys.length)),some (r,⟨ver+1,some ⟨es.take len++ys,z,true⟩⟩))) h r ver
 | _=>False
def appW(K:Eff->Prop)(z:Nat)(d:Option Nat)(h:Nat->HB)(x y:AV):Prop:=
 elemsA (λys=>(∀e∈ys,e.length=z)/\appU K z d h ys x) h y
def callFU(K:Eff->Prop)(d:Option Nat)(h:Nat->HB)(args:List AV):Spec->Prop
 | .fresh z G=>args.flatMap ownA=[]/\G (args.map (datE h0)) λes=>newU K h ⟨es,z,true⟩ (λd ver=>.one (.own d ver z 0 es.length)) d
 | _=>False
def rowfU(K:Eff->Prop)(z:Nat)(h:Nat->HB):AV->Prop
 | .one (.own r ver _ off len)=>z=1/\blkA (λes zb _=>(off+len<=es.length/\CleanR ((es.drop off).take len))/\K (.one (.full [[.slice ((es.drop off).take len)]]),some (r,⟨ver,some ⟨es,zb,false⟩⟩))) h r ver
 | _=>False
def Hk(Γ:Nat->Spec)(d:Option Nat)(ev:Opd->AV)(h:Nat->HB)(K:Eff->Prop):AOp->Prop
  | .ld b n g a=>baseIs b (ev a)/\ldA (λx=>K (x,none)) n g h (ev a)
  | .sl0 x=>elemsA (λ_=>K (.one .emp,none)) h (ev x)
  | .alloc zs=>newU K h ⟨[zs],zs.length,true⟩ (λd ver=>.one (.ptr d ver 0 0)) d
  | .box n x=>asCells (λcs=>cs.length=n/\newU K h ⟨[cs],n,true⟩ (λd ver=>.one (.ptr d ver 0 0)) d) (ev x)
  | .mk z zs l c => asInt (λ_ l => asInt (λ_ c => (0 <= l /\ l <= c /\ c <= roomA /\ zs.length = z) /\
        newU K h ⟨List.replicate l.toNat zs,z,true⟩ (λd ver=>.one (.own d ver z 0 l.toNat)) d) (ev c)) (ev l)
  | .st b n a x=>baseIs b (ev a)/\stU K n h (ev x) (ev a)
  | .app z x y=>appW K z d h (ev x) (ev y)
  | .appb b z x y=>appIs b d (ev x) (ev y)/\appW K z d h (ev x) (ev y)
  | .app0 z x y=>isEmp (appW K z d h (.one .emp) (ev y)) (ev x)
  | .callf f l=>callFU K d h (l.map ev) (Γ f)
  | .rowf z x=>rowfU K z h (ev x)
  | .rowd z l=>rowA ev z l λes=>newU K h ⟨es,z,true⟩ (λd ver=>.one (.own d ver z 0 es.length)) d
  | .callr f l=>callR (λr=>K (r,none)) (l.map ev) h (Γ f)
  | .appz z zs x n=>isEmp (asInt (λ_ l=>(0<=l/\l<=roomA/\zs.length=z)/\newU K h ⟨List.replicate l.toNat zs,z,true⟩ (λd ver=>.one (.own d ver z 0 l.toNat)) d) (ev n)) (ev x)
  | _=>False
theorem xao{h:Nat->HB}{a:AV}(hc:ownA a=[]):datE h a=datE h0 a:=by
 unfold datE;split
 .rfl
 .rfl
 .exact wW hc
theorem kK{h:Nat->HB}{args:List AV}(hc:args.flatMap ownA=[]):args.map (datE h)=args.map (datE h0):=by
 simp only [List.flatMap_eq_nil_iff]at hc;exact List.map_congr_left (λa ha=>xao (hc a ha))
theorem WT{K:S->Prop}{s:S}{b:Blk}{a:Nat->Nat->AV}{d:Option Nat}:newA K s b a d=newU (λp=>K (s.fin d p)) s.h b a d:=by
 cases d with
 | none=>rfl
 | some d=>rfl
theorem JaS{K:S->Prop}{s:S}{z:Nat}{d:Option Nat}{x y:AV}:appA K z d s x y=appW (λp=>K (s.fin d p)) z d s.h x y:=by
 have:∀ys,appK K z d s ys x=appU (λp=>K (s.fin d p)) z d s.h ys x:=by
  intro ys;unfold appK;split
  .simp only [WT,appU]
  .cases ys <;> simp only [WT,appU,appF,appFU]
  .rfl
  .rename_i h1 h2 h3;unfold appU;split
   .exact(h1 rfl).elim
   .exact(h2 _ rfl).elim
   .exact(h3 _ _ _ _ rfl).elim
   .rfl
 simp only [appA,appW,this]
theorem zaX{K:S->Prop}{s:S}{d:Option Nat}{args:List AV}{sp:Spec}:callF K true d args s sp↔callFU (λp=>K (s.fin d p)) d s.h args sp:=by
 cases sp with
 | none=>exact Iff.rfl
 | own G=>exact Iff.rfl
 | inl G=>exact Iff.rfl
 | red G=>exact Iff.rfl
 | look G=>exact Iff.rfl
 | dat sc G=>exact Iff.rfl
 | fresh z G=>
  simp only [callF,callFU,true_implies,WT];constructor
  .rintro⟨h1,h2⟩;exact⟨h1,by rw [kK h1,h1]at h2;exact h2⟩
  .rintro⟨h1,h2⟩;exact⟨h1,by rw [kK h1,h1];exact h2⟩
theorem Xa7{K:S->Prop}{s:S}{d:Option Nat}{z:Nat}{x:AV}:rowfA (λa h=>K ((s.setH h).put d a)) z s.h x↔rowfU (λp=>K (s.fin d p)) z s.h x:=by
 cases x <;> exact Iff.rfl
theorem UaL{d:Option Nat}{s:S}{K:S->Prop}{op:AOp}(hq:quiet op=false)(h6:op.cls≠6):wpO Γ true d s K op↔Hk Γ d s.ev s.h (λp=>K (s.fin d p)) op:=by
 cases op <;> first | exact Iff.rfl | (simp [quiet]at hq;done) | (simp [AOp.cls]at h6;done) | exact zaX | exact Xa7 | (simp only [wpO,Hk,WT,JaS];done) | (simp [wpO,Hk];done) | simp only [wpO,Hk,WT,JaS]
 all_goals
  rename_i b n a x;simp only [stA,stU];exact Iff.rfl
section good
theorem Vp(h:Nat->HB)(b:Blk)(a:Nat->Nat->AV)(d:Option Nat):GoodT λK=>newU K h b a d:=by
 cases d with
 | none=>exact .of λK hk=>hk.elim
 | some d=>exact Ua6 (T:=λver (K:Eff->Prop)=>K (a d ver,some (d,⟨ver,some b⟩))) (λ_=>.ret _) _
theorem qaj{α:Type}{T:List (List C)->(α->Prop)->Prop}(g:∀b,GoodT (T b))(h:Nat->HB)(x:AV):GoodT λK=>elemsA (λb=>T b K) h x:=
 .of λK hk=>by
  unfold elemsA at hk;split at hk
  .exact g _
  .exact g _
  .exact g _
  .rename_i r ver z off len;exact XF (T:=λes _ _ (K:α->Prop)=>off+len<=es.length/\T ((es.drop off).take len) K) (λ_ _ _=>.and λ_=>g _) _ _ _
  .exact hk.elim
theorem Vbk(n:Nat)(h:Nat->HB)(x a:AV):GoodT λK=>stU K n h x a:=
 .of λK hk=>by
  unfold stU at hk;split at hk
  .rename_i r ver i off;exact WF (T:=λxs (K:Eff->Prop)=>blkA (λes z live=>(live=true/\xs.length=n)/\getE (λe=>off+n<=e.length/\
     K (.tup [],some (r,⟨ver,some ⟨es.set i (splice e off n xs),z,live⟩⟩))) es i) h r ver)
    (λxs=>XF (T:=λes z live (K:Eff->Prop)=>(live=true/\xs.length=n)/\getE (λe=>off+n<=e.length/\
     K (.tup [],some (r,⟨ver,some ⟨es.set i (splice e off n xs),z,live⟩⟩))) es i)
     (λes z live=>.and λ_=>wab (T:=λe (K:Eff->Prop)=>off+n<=e.length/\K (.tup [],some (r,⟨ver,some ⟨es.set i (splice e off n xs),z,live⟩⟩))) (λ_=>.and λ_=>.ret _) _ _) _ _ _) _
  .exact hk.elim
theorem Wbc(z:Nat)(d:Option Nat)(h:Nat->HB)(ys:List (List C))(x:AV):GoodT λK=>appU K z d h ys x:=
 .of λK hk=>by
  unfold appU at hk;split at hk
  .exact .and λ_=>Vp _ _ _ _
  .cases ys with
   | nil=>exact Vp _ _ _ _
   | cons y ys=>exact .and λ_=>Vp _ _ _ _
  .rename_i r ver z' len;exact XF (T:=λes zb live (K:Eff->Prop)=>(live=true/\z=z'/\z=zb/\len<=es.length/\len+ys.length<=roomA/\r<pinA)/\
    K (.one (.own r (ver+1) z 0 (len+ys.length)),some (r,⟨ver+1,some ⟨es.take len++ys,z,true⟩⟩))) (λ_ _ _=>.and λ_=>.ret _) _ _ _
  .exact hk.elim
theorem kV(z:Nat)(d:Option Nat)(h:Nat->HB)(x y:AV):GoodT λK=>appW K z d h x y:=
 qaj (T:=λys (K:Eff->Prop)=>(∀e∈ys,e.length=z)/\appU K z d h ys x) (λ_=>.and λ_=>Wbc _ _ _ _ _) _ _
theorem Va9(n:Nat)(g:Bool)(h:Nat->HB)(a:AV):GoodT λK=>ldA K n g h a:=
 .of λK hk=>by
  unfold ldA at hk;split at hk
  .exact JaV _ _ _
  .rename_i r ver i off;exact XF (T:=λes _ _ (K:AV->Prop)=>getE (λe=>ldK K n g (e.drop off)) es i) (λes _ _=>wab (T:=λe (K:AV->Prop)=>ldK K n g (e.drop off)) (λ_=>JaV _ _ _) _ _) _ _ _
  .exact hk.elim
theorem YaI(hΓ:Goods Γ)(d:Option Nat)(h:Nat->HB)(args:List AV)(f:Nat):GoodT λK=>callFU K d h args (Γ f):=
 .of λK hk=>by
  have hg:=hΓ.2.1 f;generalize Γ f=sp at hk hg ⊢;cases sp with
  | none=>exact hk.elim
  | own G=>exact hk.elim
  | inl G=>exact hk.elim
  | red G=>exact hk.elim
  | look G=>exact hk.elim
  | dat sc G=>exact hk.elim
  | fresh z G=>
   have g:=hg z G rfl;refine .and λ_=>?_;have gn:=λes=>Vp h ⟨es,z,true⟩ (λd ver=>.one (.own d ver z 0 es.length)) d;exact⟨λhm h=>g.mono (λes he=>(gn es).mono hm he) h,λh=>let ⟨es,he⟩:=g.some h;(gn es).some he,
    λh=>g.mono (λes hes=>(gn es).mono (λp hp K hK=>hp K (hes _ hK)) ((gn es).all (hes _ h))) (g.all h)⟩
theorem WaA(hΓ:Goods Γ)(h:Nat->HB)(args:List AV)(f:Nat):GoodT λK=>callR K args h (Γ f):=
 .of λK hk=>by
  have hg:=hΓ.2.2.1 f;have hl:=hΓ.2.2.2.1 f;generalize Γ f=sp at hk hg hl ⊢;cases sp with
  | none=>exact hk.elim
  | own G=>exact hk.elim
  | inl G=>exact hk.elim
  | dat sc G=>exact hk.elim
  | fresh z G=>exact hk.elim
  | look G=>
   have g:=hl G rfl;unfold callR at hk ⊢;simp only at hk ⊢;split at hk
   .exact XF (T:=λes z live (K:AV->Prop)=>(live=true/\CleanR es)/\_/\G es _ K) (λes _ _=>.and λ_=>.and λ_=>⟨λhm h=>(g es).mono hm h,λh=>(g es).some h,λh=>(g es).all h⟩) _ _ _
   .exact hk.elim
  | red G=>
   have g:=hg G rfl;unfold callR at hk ⊢;simp only at hk ⊢;split at hk
   .exact XF (T:=λes z live (K:AV->Prop)=>(es=[[.lit .nilIface]]/\z=1/\live=true)/\_/\G _ K) (λ_ _ _=>.and λ_=>.and λ_=>⟨λhm h=>g.mono hm h,λh=>g.some h,λh=>g.all h⟩) _ _ _
   .exact hk.elim
theorem g_Hk(hΓ:Goods Γ)(d:Option Nat)(ev:Opd->AV)(h:Nat->HB)(op:AOp):GoodT λK=>Hk Γ d ev h K op:=by
 cases op
 case ld b n g a=>exact .and λ_=>(Va9 n g h (ev a)).map λx=>(x,none)
 case sl0 x=>exact qaj (T:=λ_ (K:Eff->Prop)=>K (.one .emp,none)) (λ_=>.ret _) _ _
 case alloc zs=>exact Vp _ _ _ _
 case box n x=>exact WF (T:=λcs (K:Eff->Prop)=>cs.length=n/\newU K h ⟨[cs],n,true⟩ (λd ver=>.one (.ptr d ver 0 0)) d) (λ_=>.and λ_=>Vp _ _ _ _) _
 case mk z zs l c=>
  exact ke (T:=λ_ l (K:Eff->Prop)=>asInt (λ_ c=>(0<=l/\l<=c/\c<=roomA/\zs.length=z)/\
    newU K h ⟨List.replicate l.toNat zs,z,true⟩ (λd ver=>.one (.own d ver z 0 l.toNat)) d) (ev c))
   (λ_ l=>ke (T:=λ_ c (K:Eff->Prop)=>(0<=l/\l<=c/\c<=roomA/\zs.length=z)/\
    newU K h ⟨List.replicate l.toNat zs,z,true⟩ (λd ver=>.one (.own d ver z 0 l.toNat)) d) (λ_ _=>.and λ_=>Vp _ _ _ _) _) _
 case st b n a x=>exact .and λ_=>Vbk _ _ _ _
 case app z x y=>exact kV _ _ _ _ _
 case appb b z x y=>exact .and λ_=>kV _ _ _ _ _
 case app0 z x y=>
  refine .of λK hk=>?_;simp only [Hk]at hk ⊢;generalize ev x=v at hk ⊢;unfold isEmp at hk;split at hk
  .exact kV _ _ _ _ _
  .exact hk.elim
 case appz z zs x n=>
  refine .of λK hk=>?_;simp only [Hk]at hk ⊢;generalize ev x=v at hk ⊢;unfold isEmp at hk;split at hk
  .exact ke (T:=λ_ l (K:Eff->Prop)=>(0<=l/\l<=roomA/\zs.length=z)/\
    newU K h ⟨List.replicate l.toNat zs,z,true⟩ (λd ver=>.one (.own d ver z 0 l.toNat)) d) (λ_ _=>.and λ_=>Vp _ _ _ _) _
  .exact hk.elim
 case callf f l=>exact YaI hΓ _ _ _ _
 case rowf z x=>
  refine .of λK hk=>?_;simp only [Hk]at hk ⊢;unfold rowfU at hk ⊢;split at hk
  .rename_i r ver z' off len e;exact .and λ_=>XF (T:=λes zb _ (K:Eff->Prop)=>(off+len<=es.length/\CleanR ((es.drop off).take len))/\K (.one (.full [[.slice ((es.drop off).take len)]]),some (r,⟨ver,some ⟨es,zb,false⟩⟩))) (λ_ _ _=>.and λ_=>.ret _) _ _ _
  .exact hk.elim
 case callr f l=>exact(WaA hΓ h _ f).map λx=>(x,none)
 case rowd z l=>exact jaF l (T:=λes (K:Eff->Prop)=>newU K h ⟨es,z,true⟩ (λd ver=>.one (.own d ver z 0 es.length)) d) (λ_=>Vp _ _ _ _)
 all_goals exact .of λK hk=>hk.elim
end good
section loc
variable {h h' : Nat->HB}
theorem jm{K:List (List C)->Nat->Bool->Prop}{r ver:Nat}(hk:blkA K h r ver)(e:(h r).blk≠none->h' r=h r):blkA K h' r ver:=by
 obtain⟨b,hb,hk⟩:=hk;have hne:(h r).blk≠none:=by rw [(wn hb).2];simp
 exact⟨b,by rw [e hne];exact hb,hk⟩
theorem ud{K:Eff->Prop}{b:Blk}{a:Nat->Nat->AV}{d:Option Nat}(hk:newU K h b a d)(e:∀r,d=some r->h' r=h r):newU K h' b a d:=by
 cases d with
 | none=>exact hk
 | some d=>simp only [newU]at hk ⊢;rw [e d rfl];exact hk
theorem xn{K K' : List (List C)->Prop}{x:AV}(hk:elemsA K h x)(e:∀r,(h r).blk≠none->h' r=h r)(hm:∀es,K es->K' es):elemsA K' h' x:=by
 unfold elemsA at hk;split at hk
 .exact hm _ hk
 .exact hm _ hk
 .exact hm _ hk
 .simp only [elemsA]at hk ⊢;refine jm (h:=h) ?_ (e _);obtain⟨b,hb,hk⟩:=hk;exact⟨b,hb,hk.1,hm _ hk.2⟩
 .exact hk.elim
theorem vP{K:Eff->Prop}{z:Nat}{d:Option Nat}{x y:AV}(hk:appW K z d h x y)(e:∀r,(h r).blk≠none∨d=some r->h' r=h r):appW K z d h' x y:=by
 refine xn hk (λr hr=>e r (.inl hr)) (λys hk=>⟨hk.1,?_⟩);have hk:=hk.2;unfold appU at hk;split at hk
 .exact⟨hk.1,ud hk.2 λr hr=>e r (.inr hr)⟩
 .cases ys with
  | nil=>exact ud hk λr hr=>e r (.inr hr)
  | cons y ys=>exact⟨hk.1,ud hk.2 λr hr=>e r (.inr hr)⟩
 .exact jm hk λhr=>e _ (.inl hr)
 .exact hk.elim
theorem Xe{K K' : List C->Prop}{x:AV}(hk:asCells K x)(hm:∀cs,K cs->K' cs):asCells K' x:=by
 unfold asCells at hk;split at hk
 .exact hm _ hk
 .exact hm _ hk
 .exact hk.elim
theorem Vf{K K' : IntKind->Int->Prop}{x:AV}(hk:asInt K x)(hm:∀k n,K k n->K' k n):asInt K' x:=by
 unfold asInt at hk;split at hk
 .exact hm _ _ hk
 .exact hk.elim
theorem kC{ev:Opd->AV}:∀(l:List Seg) {K K' : List C->Prop},(∀es,K es->K' es)->segA ev l K->segA ev l K'
 | [],K,K',hm,hk=>hm _ hk
 | .z cs::l,K,K',hm,hk=>kC l (λ_=>hm _) hk
 | .x n o::l,K,K',hm,hk=>Xe (K':=λcs=>cs.length=n/\segA ev l λl=>K' (cs++l)) hk λcs hk=>⟨hk.1,kC l (λ_=>hm _) hk.2⟩
theorem Qv{ev:Opd->AV}{z:Nat}:∀(l:List (List Seg)) {K K' : List (List C)->Prop},(∀es,K es->K' es)->rowA ev z l K->rowA ev z l K'
 | [],K,K',hm,hk=>hm _ hk
 | sg::l,K,K',hm,hk=>kC sg (K':=λcs=>cs.length=z/\rowA ev z l λl=>K' (cs::l)) (λcs hk=>⟨hk.1,Qv l (λ_=>hm _) hk.2⟩) hk
theorem vL(hΓ:Goods Γ){K:Eff->Prop}{d:Option Nat}{args:List AV}{f:Nat}(hk:callFU K d h args (Γ f))(e:∀r,d=some r->h' r=h r):callFU K d h' args (Γ f):=by
 have hg:=hΓ.2.1 f;generalize Γ f=sp at hk hg ⊢;cases sp with
 | none=>exact hk.elim
 | own G=>exact hk.elim
 | inl G=>exact hk.elim
 | red G=>exact hk.elim
 | look G=>exact hk.elim
 | dat sc G=>exact hk.elim
 | fresh z G=>exact⟨hk.1,(hg z G rfl).mono (λes he=>ud he e) hk.2⟩
theorem yaE(hΓ:Goods Γ){K:AV->Prop}{args:List AV}{f:Nat}(hk:callR K args h (Γ f))(e:∀r,(h r).blk≠none->h' r=h r):callR K args h' (Γ f):=by
 generalize Γ f=sp at hk ⊢;cases sp with
 | none=>exact hk.elim
 | own G=>exact hk.elim
 | inl G=>exact hk.elim
 | dat sc G=>exact hk.elim
 | fresh z G=>exact hk.elim
 | red G=>
  unfold callR at hk ⊢;simp only at hk ⊢;split at hk
  .rename_i r ver rest;obtain⟨b,hb,h1,h2,h3⟩:=hk;have hne:(h r).blk≠none:=by rw [(wn hb).2];simp
   refine⟨b,by rw [e r hne];exact hb,h1,h2,?_⟩
   rw [Vn h2]at h3 ⊢;exact h3
  .exact hk.elim
 | look G=>
  unfold callR at hk ⊢;simp only at hk ⊢;split at hk
  .rename_i r ver rest;obtain⟨b,hb,h1,h2,h3⟩:=hk;have hne:(h r).blk≠none:=by rw [(wn hb).2];simp
   refine⟨b,by rw [e r hne];exact hb,h1,h2,?_⟩
   rw [Vn h2]at h3 ⊢;exact h3
  .exact hk.elim
theorem Zap(hΓ:Goods Γ){d:Option Nat}{ev:Opd->AV}{K:Eff->Prop}{op:AOp}(hk:Hk Γ d ev h K op)(e:∀r,(h r).blk≠none∨d=some r->h' r=h r):Hk Γ d ev h' K op:=by
 cases op <;> try exact hk
 case ld b n g a=>
  refine⟨hk.1,?_⟩;have hk:=hk.2;unfold ldA at hk;split at hk
  .rename_i e1;rw [e1];exact hk
  .rename_i e1;rw [e1];exact jm hk λhr=>e _ (.inl hr)
  .exact hk.elim
 case sl0 x=>exact xn hk (λr hr=>e r (.inl hr)) (λ_ h=>h)
 case alloc zs=>exact ud hk λr hr=>e r (.inr hr)
 case box n x=>
  simp only [Hk]at hk ⊢;exact Xe hk λcs hk=>⟨hk.1,ud hk.2 λr hr=>e r (.inr hr)⟩
 case mk z zs l c=>exact Vf hk λ_ _ hk=>Vf hk λ_ _ hk=>⟨hk.1,ud hk.2 λr hr=>e r (.inr hr)⟩
 case st b n a x=>
  refine⟨hk.1,?_⟩;have hk:=hk.2;unfold stU at hk;split at hk
  .rename_i e1;rw [e1];exact Xe hk λcs hk=>jm hk λhr=>e _ (.inl hr)
  .exact hk.elim
 case app z x y=>exact vP hk e
 case appb b z x y=>exact⟨hk.1,vP hk.2 e⟩
 case app0 z x y=>
  simp only [Hk]at hk ⊢;unfold isEmp at hk;split at hk
  .rename_i e1;rw [e1];exact vP hk e
  .exact hk.elim
 case appz z zs x n=>
  simp only [Hk]at hk ⊢;unfold isEmp at hk;split at hk
  .rename_i e1;rw [e1];exact Vf hk λ_ _ hk=>⟨hk.1,ud hk.2 λr hr=>e r (.inr hr)⟩
  .exact hk.elim
 case callf f l=>exact vL hΓ hk λr hr=>e r (.inr hr)
 case rowf z x=>
  simp only [Hk]at hk ⊢;unfold rowfU at hk ⊢;split at hk
  .exact⟨hk.1,jm hk.2 λhr=>e _ (.inl hr)⟩
  .exact hk.elim
 case callr f l=>exact yaE hΓ hk λr hr=>e r (.inl hr)
 case rowd z l=>exact Qv l (λes hk=>ud hk λr hr=>e r (.inr hr)) hk
theorem uap(hΓ:Goods Γ){d:Option Nat}{ev:Opd->AV}{K:Eff->Prop}{op:AOp}(hc:op.cls=2)(hk:Hk Γ d ev h K op)(e:∀r,d=some r->h' r=h r):Hk Γ d ev h' K op:=by
 cases op <;> first | (simp [AOp.cls]at hc;done) | skip
 case alloc zs=>exact ud hk e
 case box n x=>
  simp only [Hk]at hk ⊢;exact Xe hk λcs hk=>⟨hk.1,ud hk.2 e⟩
 case mk z zs l c=>exact Vf hk λ_ _ hk=>Vf hk λ_ _ hk=>⟨hk.1,ud hk.2 e⟩
 case appz z zs x n=>
  simp only [Hk]at hk ⊢;unfold isEmp at hk;split at hk
  .rename_i e1;rw [e1];exact Vf hk λ_ _ hk=>⟨hk.1,ud hk.2 e⟩
  .exact hk.elim
 case callf f l=>exact vL hΓ hk e
 case rowd z l=>exact Qv l (λes hk=>ud hk e) hk
theorem XC{d:Option Nat}{ev:Opd->AV}{K:Eff->Prop}{op:AOp}{b:Nat}(hb:op.base=some b)(hk:Hk Γ d ev h K op)(e:h' b=h b):Hk Γ d ev h' K op:=by
 cases op <;> first | (simp [AOp.base]at hb;done) | skip
 case ld b' n g a=>
  simp only [AOp.base]at hb;subst hb;refine⟨hk.1,?_⟩;obtain⟨hbase,hk⟩:=hk;unfold baseIs at hbase;split at hbase
  .rename_i e1;simp at e1
  .rename_i e1 e2;simp only [zOI]at e1;rw [e2]at hk ⊢;subst hbase;subst e1;simp only [ldA]at hk ⊢;exact jm hk λ_=>e
  .rename_i e1 e2;rw [e2]at hk ⊢;simp only [ldA]at hk ⊢;exact hk
  .exact hbase.elim
 case st b' n a x=>
  simp only [AOp.base]at hb;subst hb;refine⟨hk.1,?_⟩;obtain⟨hbase,hk⟩:=hk;unfold baseIs at hbase;split at hbase
  .rename_i e1;simp at e1
  .rename_i e1 e2;simp only [zOI]at e1;rw [e2]at hk ⊢;subst hbase;subst e1;simp only [stU]at hk ⊢;exact Xe hk λcs hk=>jm hk λ_=>e
  .rename_i e1 e2;rw [e2]at hk;exact hk.elim
  .exact hbase.elim
 case appb b' z x y=>
  simp only [AOp.base,zOI]at hb;subst hb;refine⟨hk.1,?_⟩;obtain⟨hbase,hk⟩:=hk;unfold appIs at hbase;split at hbase
  .rename_i r ver z' off len es e1 e2;subst hbase;rw [e1,e2]at hk ⊢;refine⟨hk.1,?_⟩;have hk:=hk.2;unfold appU at hk;split at hk
   .rename_i e3;simp at e3
   .rename_i e3;simp at e3
   .rename_i e3;simp only [AV.one.injEq,C.own.injEq]at e3;obtain⟨rfl,rfl,rfl,rfl,rfl⟩:=e3;exact jm hk λ_=>e
   .exact hk.elim
  .rename_i es e1 e2;rw [e1,e2]at hk ⊢;exact⟨hk.1,hk.2.1,ud hk.2.2 λr hr=>by
    rw [hbase]at hr;simp only [zOI]at hr;subst hr;exact e⟩
  .exact hbase.elim
def Out(op:AOp)(d:Option Nat)(h:Nat->HB)(p:Eff):Prop:=
 match op.cls with
 | 1=>p.2=none
 | 2=>∃r B,d=some r/\p.2=some (r,B)/\(h r).blk=none/\B.blk≠none
 | 5=>∃r B,d=some r/\p.2=some (r,B)/\(h r).blk=none/\B.blk≠none
 | 3=>∃r B,p.2=some (r,B)/\B.blk≠none/\((h r).blk≠none∨d=some r)/\∀b,op.base=some b->r=b
 | _=>True
theorem Xi{K:Eff->Prop}{b:Blk}{a:Nat->Nat->AV}{d:Option Nat}(hk:newU K h b a d):newU (λp=>K p/\∃r B,d=some r/\p.2=some (r,B)/\(h r).blk=none/\B.blk≠none) h b a d:=by
 cases d with
 | none=>exact hk
 | some d=>
  simp only [newU]at hk ⊢;cases hh:h d with
  | mk ver blk=>
   rw [hh]at hk;cases blk with
   | none=>exact⟨hk,d,_,rfl,rfl,by rw [hh],by simp⟩
   | some _=>exact hk.elim
theorem QaI{K:Eff->Prop}{z:Nat}{d:Option Nat}{x y:AV}(hk:appW K z d h x y):appW (λp=>K p/\∃r B,p.2=some (r,B)/\B.blk≠none/\((h r).blk≠none∨d=some r)) z d h x y:=by
 refine xn hk (λ_ _=>rfl) (λys hk=>⟨hk.1,?_⟩);have hk:=hk.2;unfold appU at hk;split at hk
 .exact⟨hk.1,(Vp _ _ _ _).mono (λp hp=>⟨hp.1,let ⟨r,B,h1,h2,_,h4⟩:=hp.2;⟨r,B,h2,h4,.inr h1⟩⟩) (Xi hk.2)⟩
 .cases ys with
  | nil=>
   show newU (λp=>K p/\∃r B,p.2=some (r,B)/\B.blk≠none/\((h r).blk≠none∨d=some r)) h _ _ d;exact(Vp _ _ _ _).mono (λp hp=>⟨hp.1,let ⟨r,B,h1,h2,_,h4⟩:=hp.2;⟨r,B,h2,h4,.inr h1⟩⟩) (Xi hk)
  | cons y ys=>exact⟨hk.1,(Vp _ _ _ _).mono (λp hp=>⟨hp.1,let ⟨r,B,h1,h2,_,h4⟩:=hp.2;⟨r,B,h2,h4,.inr h1⟩⟩) (Xi hk.2)⟩
 .obtain⟨b,hb,hk1,hk2⟩:=hk;exact⟨b,hb,hk1,hk2,_,_,rfl,by simp,.inl (by rw [(wn hb).2];simp)⟩
 .exact hk.elim
theorem UW{K:Eff->Prop}{z:Nat}{d:Option Nat}{y:AV}(hk:appW K z d h (.one .emp) y):appW (λp=>K p/\∃r B,d=some r/\p.2=some (r,B)/\(h r).blk=none/\B.blk≠none) z d h (.one .emp) y:=by
 refine xn hk (λ_ _=>rfl) (λys hk=>⟨hk.1,?_⟩);exact⟨hk.2.1,Xi hk.2.2⟩
theorem kan(hΓ:Goods Γ){K:Eff->Prop}{d:Option Nat}{args:List AV}{f:Nat}(hk:callFU K d h args (Γ f)):callFU (λp=>K p/\∃r B,d=some r/\p.2=some (r,B)/\(h r).blk=none/\B.blk≠none) d h args (Γ f):=by
 have hg:=hΓ.2.1 f;generalize Γ f=sp at hk hg ⊢;cases sp with
 | none=>exact hk.elim
 | own G=>exact hk.elim
 | inl G=>exact hk.elim
 | red G=>exact hk.elim
 | look G=>exact hk.elim
 | dat sc G=>exact hk.elim
 | fresh z G=>exact⟨hk.1,(hg z G rfl).mono (λes he=>Xi he) hk.2⟩
theorem xaN(hΓ:Goods Γ){d:Option Nat}{ev:Opd->AV}{K:Eff->Prop}{op:AOp}(hk:Hk Γ d ev h K op):Hk Γ d ev h (λp=>K p/\Out op d h p) op:=by
 cases op <;> try exact hk
 case ld b n g a=>exact⟨hk.1,(Va9 n g h (ev a)).mono (λx hx=>⟨hx,rfl⟩) hk.2⟩
 case sl0 x=>exact xn hk (λ_ _=>rfl) (λ_ hk=>⟨hk,rfl⟩)
 case alloc zs=>exact Xi hk
 case box n x=>
  simp only [Hk]at hk ⊢;exact Xe hk λcs hk=>⟨hk.1,Xi hk.2⟩
 case mk z zs l c=>exact Vf hk λ_ _ hk=>Vf hk λ_ _ hk=>⟨hk.1,Xi hk.2⟩
 case st b n a x=>
  obtain⟨hbase,hk⟩:=hk;refine⟨hbase,?_⟩;unfold stU at hk ⊢;split at hk
  .rename_i r ver i off e1;refine Xe hk λcs hk=>?_;obtain⟨b',hb,hk1,hk2,hk3⟩:=hk;refine⟨b',hb,hk1,hk2,λe he=>⟨(hk3 e he).1,(hk3 e he).2,r,_,rfl,by simp,.inl (by rw [(wn hb).2];simp),λc hc=>?_⟩⟩
   simp only [AOp.base]at hc;subst hc;rw [e1]at hbase;exact hbase
  .exact hk.elim
 case app z x y=>exact(kV _ _ _ _ _).mono (λp hp=>⟨hp.1,let ⟨r,B,h1,h2,h3⟩:=hp.2;⟨r,B,h1,h2,h3,λb hb=>by simp [AOp.base]at hb⟩⟩) (QaI hk)
 case appb b z x y=>
  obtain⟨hbase,hk⟩:=hk;refine⟨hbase,?_⟩;unfold appIs at hbase;split at hbase
  .rename_i r ver z' off len es e1 e2;rw [e1,e2]at hk ⊢;refine⟨hk.1,?_⟩;have hk:=hk.2;unfold appU at hk;split at hk
   .rename_i e3;simp at e3
   .rename_i e3;simp at e3
   .rename_i e3;simp only [AV.one.injEq,C.own.injEq]at e3;obtain⟨rfl,rfl,rfl,rfl,rfl⟩:=e3;obtain⟨b',hb,hk1,hk2⟩:=hk;exact⟨b',hb,hk1,hk2,_,_,rfl,by simp,.inl (by rw [(wn hb).2];simp),λc hc=>by
     simp only [AOp.base,zOI]at hc;rw [<-hc];exact hbase⟩
   .exact hk.elim
  .rename_i es e1 e2;rw [e1,e2]at hk ⊢;refine(kV _ _ _ _ _).mono (λp hp=>⟨hp.1,let ⟨r,B,h1,h2,h3,h4⟩:=hp.2;⟨r,B,h2,h4,.inr h1,λc hc=>?_⟩⟩) (UW hk);simp only [AOp.base,zOI]at hc;rw [hbase]at h1;simp only [zOI]at h1;rw [<-hc,h1]
  .exact hbase.elim
 case app0 z x y=>
  simp only [Hk]at hk ⊢;unfold isEmp at hk ⊢;split at hk
  .exact UW hk
  .exact hk.elim
 case appz z zs x n=>
  simp only [Hk]at hk ⊢;unfold isEmp at hk ⊢;split at hk
  .exact Vf hk λ_ _ hk=>⟨hk.1,Xi hk.2⟩
  .exact hk.elim
 case callf f l=>exact kan hΓ hk
 case rowf z x=>
  simp only [Hk]at hk ⊢;unfold rowfU at hk ⊢;split at hk
  .obtain⟨hz,b,hb,hk1,hk2⟩:=hk;exact⟨hz,b,hb,hk1,hk2,_,_,rfl,by simp,.inl (by rw [(wn hb).2];simp),λc hc=>by simp [AOp.base]at hc⟩
  .exact hk.elim
 case callr f l=>exact(WaA hΓ h _ f).mono (λx hx=>⟨hx,rfl⟩) hk
 case rowd z l=>exact Qv l (λes hk=>Xi hk) hk
end loc
end Go.Abs
end
section
namespace Go.Abs
def Agree(l:List Nat)(ev ev' : Opd->AV):Prop:=(∀t∈l,ev (.t t)=ev' (.t t))/\∀a,ev (.c a)=ev' (.c a)
section ev
variable {ev ev' : Opd->AV}
theorem Agree.sub{l l' : List Nat}(h:Agree l ev ev')(hs:∀t∈l',t∈l):Agree l' ev ev':=⟨λt ht=>h.1 t (hs t ht),h.2⟩
theorem Agree.opd{x:Opd}(h:Agree (opdT x) ev ev'):ev x=ev' x:=by
 cases x with
 | t n=>exact h.1 n (by simp [opdT])
 | c a=>exact h.2 a
theorem Agree.left{l l' : List Nat}(h:Agree (l++l') ev ev'):Agree l ev ev':=h.sub λt ht=>List.mem_append.2 (.inl ht)
theorem Agree.right{l l' : List Nat}(h:Agree (l++l') ev ev'):Agree l' ev ev':=h.sub λt ht=>List.mem_append.2 (.inr ht)
theorem yM:∀(l:List Seg) {K:List C->Prop},Agree (l.flatMap segT) ev ev'->segA ev l K=segA ev' l K
 | [],K,h=>rfl
 | .z cs::l,K,h=>by
  simp only [List.flatMap_cons]at h;simp only [segA];exact yM l h.right
 | .x n o::l,K,h=>by
  simp only [List.flatMap_cons,segT]at h;simp only [segA];rw [h.left.opd];congr 1
  funext cs
  rw [yM l h.right]
theorem Q3{z:Nat}:∀(l:List (List Seg)) {K:List (List C)->Prop},Agree (l.flatMap (·.flatMap segT)) ev ev'->rowA ev z l K=rowA ev' z l K
 | [],K,h=>rfl
 | sg::l,K,h=>by
  simp only [List.flatMap_cons]at h;simp only [rowA];rw [yM sg h.left];congr 1
  funext cs
  rw [Q3 l h.right]
theorem QaF:∀(l:List Opd) {K:List C->Prop},Agree (l.flatMap opdT) ev ev'->capA ev l K=capA ev' l K
 | [],K,h=>rfl
 | o::l,K,h=>by
  simp only [List.flatMap_cons]at h;simp only [capA];rw [h.left.opd];congr 1
  funext cs
  rw [QaF l h.right]
theorem yI:∀(l:List Opd),Agree (l.flatMap opdT) ev ev'->l.map ev=l.map ev'
 | [],h=>rfl
 | o::l,h=>by
  simp only [List.flatMap_cons]at h;simp only [List.map_cons];rw [h.left.opd,yI l h.right]
theorem UaD{pick:Int->Int->Int}{K:AV->Prop}:∀(l:List Opd) (k:IntKind) (a:Int),Agree (l.flatMap opdT) ev ev'->maxK pick ev K l k a=maxK pick ev' K l k a
 | [],k,a,h=>rfl
 | o::l,k,a,h=>by
  simp only [List.flatMap_cons]at h;simp only [maxK];rw [h.left.opd];congr 1
  funext k' b
  rw [UaD l _ _ h.right]
theorem Zaw{pick:Int->Int->Int}{K:AV->Prop}(l:List Opd)(h:Agree (l.flatMap opdT) ev ev'):maxA pick ev K l=maxA pick ev' K l:=by
 cases l with
 | nil=>rfl
 | cons o l=>
  simp only [List.flatMap_cons]at h;simp only [maxA];rw [h.left.opd];congr 1
  funext k b
  rw [UaD l _ _ h.right]
theorem waU{K:Nat->Prop}{n:Nat}{lo:Option Opd}(h:Agree ((lo.map opdT).getD []) ev ev'):bnd K ev n lo=bnd K ev' n lo:=by
 cases lo with
 | none=>rfl
 | some a=>
  simp only [bnd];rw [Agree.opd (x:=a) h]
theorem QaR{K:AV->Prop}{z:Nat}{lo hi:Option Opd}{x:AV}(h1:Agree ((lo.map opdT).getD []) ev ev')(h2:Agree ((hi.map opdT).getD []) ev ev'):slA K z ev lo hi x=slA K z ev' lo hi x:=by
 have b1:∀K n,bnd K ev n lo=bnd K ev' n lo:=λK n=>waU h1;have b2:∀K n,bnd K ev n hi=bnd K ev' n hi:=λK n=>waU h2;unfold slA;simp only [b1,b2]
theorem qbj{Γ:Nat->Spec}{K:AV->Prop}{op:AOp}(h:Agree op.looks ev ev'):Qk Γ ev K op=Qk Γ ev' K op:=by
 cases op <;> first | rfl | skip
 case mv x=>simp only [Qk];rw [Agree.opd (x:=x) h]
 case pick c x y=>simp only [Qk];rw [Agree.opd (x:=c) h.left.left,Agree.opd (x:=x) h.left.right,Agree.opd (x:=y) h.right]
 case build sg=>exact yM sg h
 case row z l=>exact Q3 l h
 case nilck x=>simp only [Qk];rw [Agree.opd (x:=x) h]
 case bin op x y=>simp only [Qk];rw [Agree.opd (x:=x) h.left,Agree.opd (x:=y) h.right]
 case binb op x y=>simp only [Qk];rw [Agree.opd (x:=x) h.left,Agree.opd (x:=y) h.right]
 case binn op x y=>simp only [Qk];rw [Agree.opd (x:=x) h.left,Agree.opd (x:=y) h.right]
 case un op x=>simp only [Qk];rw [Agree.opd (x:=x) h]
 case conv k x=>simp only [Qk];rw [Agree.opd (x:=x) h]
 case iface t x=>simp only [Qk];rw [Agree.opd (x:=x) h]
 case clo f l=>exact QaF l h
 case sl z x lo hi=>simp only [Qk];rw [Agree.opd (x:=x) h.left.left];exact QaR h.left.right h.right
 case fa off x=>simp only [Qk];rw [Agree.opd (x:=x) h]
 case fld n g off x=>simp only [Qk];rw [Agree.opd (x:=x) h]
 case idx z x i=>simp only [Qk];rw [Agree.opd (x:=x) h.left,Agree.opd (x:=i) h.right]
 case ext i x=>simp only [Qk];rw [Agree.opd (x:=x) h]
 case tass t zero x=>simp only [Qk];rw [Agree.opd (x:=x) h]
 case len x=>simp only [Qk];rw [Agree.opd (x:=x) h]
 case max l=>exact Zaw l h
 case min l=>exact Zaw l h
 case snil neg x=>simp only [Qk];rw [Agree.opd (x:=x) h]
 case cap x=>simp only [Qk];rw [Agree.opd (x:=x) h]
 case sop k l=>simp only [Qk];rw [yI l h]
 case ai z n x i=>simp only [Qk];rw [Agree.opd (x:=x) h.left,Agree.opd (x:=i) h.right]
 case aix z g n x i=>simp only [Qk];rw [Agree.opd (x:=x) h.left,Agree.opd (x:=i) h.right]
 case rsl z n x=>simp only [Qk];rw [Agree.opd (x:=x) h]
 case rsb z n x lo hi=>
  simp only [Qk];rw [Agree.opd (x:=x) h.left.left];have e:(λr=>slA K z ev lo hi r)=λr=>slA K z ev' lo hi r:=funext λr=>QaR h.left.right h.right;rw [e]
 case call f l=>simp only [Qk];rw [yI l h]
 case callv f l=>simp only [Qk];rw [Agree.opd (x:=f) h.left,yI l h.right]
theorem kbk{Γ:Nat->Spec}{d:Option Nat}{H:Nat->HB}{K:Eff->Prop}{op:AOp}(h:Agree op.looks ev ev'):Hk Γ d ev H K op=Hk Γ d ev' H K op:=by
 cases op <;> first | rfl | skip
 case box n x=>simp only [Hk];rw [Agree.opd (x:=x) h]
 case ld b n g a=>simp only [Hk];rw [Agree.opd (x:=a) h]
 case st b n a x=>simp only [Hk];rw [Agree.opd (x:=a) h.left,Agree.opd (x:=x) h.right]
 case mk z zs l c=>simp only [Hk];rw [Agree.opd (x:=l) h.left,Agree.opd (x:=c) h.right]
 case sl0 x=>simp only [Hk];rw [Agree.opd (x:=x) h]
 case app z x y=>simp only [Hk];rw [Agree.opd (x:=x) h.left,Agree.opd (x:=y) h.right]
 case appb b z x y=>simp only [Hk];rw [Agree.opd (x:=x) h.left,Agree.opd (x:=y) h.right]
 case app0 z x y=>simp only [Hk];rw [Agree.opd (x:=x) h.left,Agree.opd (x:=y) h.right]
 case appz z zs x n=>simp only [Hk];rw [Agree.opd (x:=x) h.left,Agree.opd (x:=n) h.right]
 case callf f l=>simp only [Hk];rw [yI l h]
 case rowf z x=>simp only [Hk];rw [Agree.opd (x:=x) h]
 case rowd z l=>exact Q3 l h
 case callr f l=>simp only [Hk];rw [yI l h]
end ev
def Ok(Γ:Nat->Spec)(d:Option Nat)(ev:Opd->AV)(h:Nat->HB)(K:Eff->Prop)(op:AOp):Prop:=
 if quiet op=true then Qk Γ ev (λr=>K (r,none)) op else Hk Γ d ev h K op
def gk(A B:Prop)(want:Bool):AV->Prop
 | .one (.lit (.bool b))=>(b=want->A)/\(b=(!want)->B)
 | .tup []=>B
 | _=>False
def Ak(Γ:Nat->Spec)(ao:AO)(ev:Opd->AV)(h:Nat->HB)(K:Eff->Prop):Prop:=
 match ao.g with
 | none=>Ok Γ ao.d ev h K ao.o
 | some (g,want)=>gk (Ok Γ ao.d ev h K ao.o) (K (.tup [],none)) want (ev (.t g))
theorem Qay{Γ:Nat->Spec}{d:Option Nat}{s:S}{K:S->Prop}{op:AOp}(h6:op.cls≠6):wpO Γ true d s K op↔Ok Γ d s.ev s.h (λp=>K (s.fin d p)) op:=by
 unfold Ok;split
 .rename_i hq;exact yar hq
 .rename_i hq;exact UaL (by simpa using hq) h6
theorem YX{Γ:Nat->Spec}{s:S}{K:S->Prop}{ao:AO}(h6:ao.o.cls≠6):wpG Γ true s K ao↔Ak Γ ao s.ev s.h (λp=>K (s.fin ao.d p)):=by
 obtain⟨d,g,op⟩:=ao;cases g with
 | none=>exact Qay h6
 | some gw=>
  obtain⟨g,want⟩:=gw;simp only [wpG,Ak];show grd _ _ s g want (s.v g)↔gk _ _ want (s.v g);have same:∀x,s.v g=x->(⟨upd s.v g x,s.h⟩:S)=s:=λx hx=>by rw [Uu hx]
  generalize hx:s.v g=x at same ⊢;unfold grd;split
  .rename_i b;simp only [gk];constructor
   .rintro⟨h1,h2⟩;refine⟨λe=>?_,λe=>?_⟩
    .have:=h1 e;rw [same _ (by rw [e])]at this;exact(Qay h6).1 this
    .have:=h2 e;rw [same _ (by rw [e])]at this;exact this
   .rintro⟨h1,h2⟩;refine⟨λe=>?_,λe=>?_⟩
    .rw [same _ (by rw [e])];exact(Qay h6).2 (h1 e)
    .rw [same _ (by rw [e])];exact h2 e
  .exact Iff.rfl
  .rename_i h1 h2;unfold gk;split
   .exact(h1 _ rfl).elim
   .exact(h2 rfl).elim
   .exact Iff.rfl
theorem g_Ok{Γ:Nat->Spec}(hΓ:Goods Γ)(d:Option Nat)(ev:Opd->AV)(h:Nat->HB)(op:AOp):GoodT λK=>Ok Γ d ev h K op:=by
 unfold Ok;by_cases hq:quiet op=true
 .simp only [hq,if_true];exact(g_Qk hΓ ev op).map λr=>(r,none)
 .simp only [hq,if_false,Bool.false_eq_true];exact g_Hk hΓ d ev h op
theorem g_Ak{Γ:Nat->Spec}(hΓ:Goods Γ)(ao:AO)(ev:Opd->AV)(h:Nat->HB):GoodT λK=>Ak Γ ao ev h K:=by
 unfold Ak;cases ao.g with
 | none=>exact g_Ok hΓ _ _ _ _
 | some gw=>
  obtain⟨g,want⟩:=gw;simp only;generalize ev (.t g)=x;refine .of λK hk=>?_;unfold gk at hk;split at hk
  .rename_i b;exact .both (by cases b <;> cases want <;> simp) (by cases b <;> cases want <;> simp) (λ_=>g_Ok hΓ _ _ _ _) (λ_=>.ret _)
  .exact .ret _
  .exact hk.elim
theorem ZaO{Γ:Nat->Spec}{ao:AO}{ev ev' : Opd->AV}{h h' : Nat->HB}(ha:Agree ao.looks ev ev')(hm:∀K,Ok Γ ao.d ev h K ao.o->Ok Γ ao.d ev' h' K ao.o){K:Eff->Prop}(hk:Ak Γ ao ev h K):Ak Γ ao ev' h' K:=by
 unfold Ak at hk ⊢;cases hg:ao.g with
 | none=>rw [hg]at hk;exact hm _ hk
 | some gw=>
  obtain⟨g,want⟩:=gw;rw [hg]at hk;have:ev (.t g)=ev' (.t g):=ha.1 g (by simp [AO.looks,hg])
  simp only at hk ⊢;rw [<-this];unfold gk at hk;split at hk
  .rename_i b e1;rw [e1];exact⟨λe=>hm _ (hk.1 e),hk.2⟩
  .rename_i e1;rw [e1];exact hk
  .exact hk.elim
def OutA(ao:AO)(h:Nat->HB)(p:Eff):Prop:=p.2=none∨(quiet ao.o=false/\Out ao.o ao.d h p)
theorem kaP{Γ:Nat->Spec}{d:Option Nat}{ev:Opd->AV}{h:Nat->HB}{K:Eff->Prop}{op:AOp}(hΓ:Goods Γ)(hk:Ok Γ d ev h K op):Ok Γ d ev h (λp=>K p/\(p.2=none∨(quiet op=false/\Out op d h p))) op:=by
 unfold Ok at hk ⊢;by_cases hq:quiet op=true
 .rw [if_pos hq]at hk ⊢;exact(g_Qk hΓ ev op).mono (λr hr=>⟨hr,.inl rfl⟩) hk
 .rw [if_neg hq]at hk ⊢;exact(g_Hk hΓ d ev h op).mono (λr hr=>⟨hr.1,.inr ⟨by simpa using hq,hr.2⟩⟩) (xaN hΓ hk)
theorem jaT{Γ:Nat->Spec}(hΓ:Goods Γ){ao:AO}{ev:Opd->AV}{h:Nat->HB}{K:Eff->Prop}(hk:Ak Γ ao ev h K):Ak Γ ao ev h (λp=>K p/\OutA ao h p):=by
 unfold Ak at hk ⊢;cases hg:ao.g with
 | none=>rw [hg]at hk;exact kaP hΓ hk
 | some gw=>
  obtain⟨g,want⟩:=gw;rw [hg]at hk;simp only at hk ⊢;unfold gk at hk;split at hk
  .rename_i b e1;rw [e1];exact⟨λe=>kaP hΓ (hk.1 e),λe=>⟨hk.2 e,.inl rfl⟩⟩
  .rename_i e1;rw [e1];exact⟨hk,.inl rfl⟩
  .exact hk.elim
theorem YaP(s:S)(d:Option Nat)(p:Eff)(l:List Nat)(hd:∀k,d=some k->k∉l):Agree l s.ev (s.fin d p).ev:=by
 refine⟨λt ht=>?_,λa=>rfl⟩;have:∀(s' : S),s'.v=s.v->s.ev (.t t)=(s'.put d p.1).ev (.t t):=by
  intro s' hs;cases d with
  | none=>simp [S.put,S.ev,hs]
  | some d=>
   have hne:t≠d:=λe=>hd d rfl (e▸ht);simp [S.put,S.ev,upd,hne,hs]
 unfold S.fin;split
 .exact this s rfl
 .exact this _ rfl
theorem wbe(s:S)(d:Option Nat)(x:AV):(s.put d x).h=s.h:=by cases d <;> rfl
def effH(h:Nat->HB)(p:Eff):Nat->HB:=match p.2 with | none=>h | some (r,b)=>upd h r b
theorem Uam(s:S)(d:Option Nat)(p:Eff):(s.fin d p).h=effH s.h p:=by
 unfold S.fin effH;cases p.2 with
 | none=>simp [wbe]
 | some x=>simp [wbe,S.setH]
theorem W9{α:Type}(f:Nat->α){i j:Nat}(x y:α)(h:i≠j):upd (upd f i x) j y=upd (upd f j y) i x:=by
 funext t
 by_cases e1:t=i
 .subst e1;simp [upd,h]
 .by_cases e2:t=j
  .subst e2;simp [upd,e1]
  .simp [upd,e1,e2]
theorem S.ext'{s s' : S}(h1:s.v=s'.v)(h2:s.h=s'.h):s=s':=by cases s;cases s';simp_all
theorem jaI(s:S)(d:Option Nat)(p:Eff):(s.fin d p).v=match d with | some k=>upd s.v k p.1 | none=>s.v:=by
 unfold S.fin;split <;> cases d <;> rfl
theorem xaG(s:S){d1 d2:Option Nat}{p1 p2:Eff}(hd:∀k,d1=some k->d2≠some k)(hp:∀r1 b1 r2 b2,p1.2=some (r1,b1)->p2.2=some (r2,b2)->r1≠r2) :
  (s.fin d1 p1).fin d2 p2=(s.fin d2 p2).fin d1 p1:=by
 refine S.ext' ?_ ?_
 .rw [jaI,jaI,jaI,jaI];cases d1 with
  | none=>rfl
  | some a=>cases d2 with
   | none=>rfl
   | some b=>exact W9 _ _ _ (λe=>hd a rfl (by rw [e]))
 .rw [Uam,Uam,Uam,Uam];unfold effH;cases h1:p1.2 with
  | none=>cases h2:p2.2 <;> rfl
  | some x=>cases h2:p2.2 with
   | none=>rfl
   | some y=>exact W9 _ _ _ (hp _ _ _ _ h1 h2)
theorem VaI{Γ:Nat->Spec}(hΓ:Goods Γ){p q:AO}{s:S}{K:S->Prop}(p6:p.o.cls≠6)(q6:q.o.cls≠6)
  (h1:∀e1,OutA p s.h e1->∀K,Ak Γ q (s.fin p.d e1).ev (s.fin p.d e1).h K->Ak Γ q s.ev s.h K)
  (h2:∀e2,OutA q s.h e2->∀K,Ak Γ p s.ev s.h K->Ak Γ p (s.fin q.d e2).ev (s.fin q.d e2).h K)
  (h3:∀e1 e2,OutA p s.h e1->OutA q s.h e2->(s.fin p.d e1).fin q.d e2=(s.fin q.d e2).fin p.d e1)
  (hk:wpG Γ true s (λs=>wpG Γ true s K q) p):wpG Γ true s (λs=>wpG Γ true s K p) q:=by
 rw [YX p6]at hk;rw [YX q6];simp only [YX p6,YX q6]at hk ⊢;have gp:=g_Ak hΓ p s.ev s.h;have gq:=g_Ak hΓ q s.ev s.h;have hk:=jaT hΓ hk;obtain⟨e0,hq0,ho0⟩:=gp.some hk;have hq:=jaT hΓ (h1 e0 ho0 _ hq0);refine gq.mono (λe2 he2=>?_) (gq.all hq);have ho2:OutA q s.h e2:=(he2 _ hq).2;refine(g_Ak hΓ p _ _).mono (λe1 he1=>?_) (h2 e2 ho2 _ (gp.all hk));obtain⟨hq1,ho1⟩:=he1 _ hk;have:=he2 _ (h1 e1 ho1 _ hq1);rw [h3 e1 e2 ho1 ho2]at this;exact this
theorem Vbb{Γ:Nat->Spec}{d:Option Nat}{ev ev' : Opd->AV}{h:Nat->HB}{K:Eff->Prop}{op:AOp}(ha:Agree op.looks ev ev'):Ok Γ d ev h K op=Ok Γ d ev' h K op:=by
 unfold Ok;rw [qbj ha,kbk ha]
theorem yaa{Γ:Nat->Spec}{d:Option Nat}{ev:Opd->AV}{h h' : Nat->HB}{K:Eff->Prop}{op:AOp}(hq:quiet op=true):Ok Γ d ev h K op=Ok Γ d ev h' K op:=by
 unfold Ok;simp [hq]
theorem XaI{Γ:Nat->Spec}(hΓ:Goods Γ){d:Option Nat}{ev:Opd->AV}{h:Nat->HB}{K:Eff->Prop}{op:AOp}(hc:op.cls=2)(hk:Hk Γ d ev h K op):∀r,d=some r->(h r).blk=none:=by
 have hk:=xaN hΓ hk;obtain⟨p,_,hp⟩:=(g_Hk hΓ d ev h op).some hk;simp only [Out,hc]at hp;obtain⟨r,B,h1,_,h2,_⟩:=hp;intro r' hr';rw [h1]at hr';cases hr'
 exact h2
theorem kad{op:AOp}(hq:quiet op=false)(h6:op.cls≠6):op.cls=1∨op.cls=2∨op.cls=3∨op.cls=5:=by
 cases op <;> first | (simp [quiet]at hq;done) | (simp [AOp.cls]at h6;done) | simp [AOp.cls]
theorem jh{h:Nat->HB}{e:Eff}(he:e.2=none):effH h e=h:=by simp [effH,he]
theorem Ue{h:Nat->HB}{e:Eff}{r:Nat}{B:HB}(he:e.2=some (r,B)):effH h e=upd h r B:=by simp [effH,he]
theorem qf{α:Type}{f:Nat->α}{r:Nat}{B:α}{r' : Nat}(h:r'≠r):upd f r B r' = f r':=by simp [upd,h]
theorem yas{Γ:Nat->Spec}(hΓ:Goods Γ){p q:AOp}{dp dq:Option Nat}{h:Nat->HB}(hd:∀k,dp=some k->dq≠some k)(hp:quiet p=false)(hq:quiet q=false)
  (p6:p.cls≠6) (q6:q.cls≠6) (hs:clsOk p q=true) :
  (∀e1,Out p dp h e1->∀ev K,Hk Γ dq ev (effH h e1) K q->Hk Γ dq ev h K q)/\(∀e2,Out q dq h e2->∀ev K,Hk Γ dp ev h K p->Hk Γ dp ev (effH h e2) K p)/\
  (∀e1 e2,Out p dp h e1->Out q dq h e2->∀r1 b1 r2 b2,e1.2=some (r1,b1)->e2.2=some (r2,b2)->r1≠r2):=by
 have base:∀{b c:Nat},p.base=some b->q.base=some c->parted p q=true->b≠c:=by
  intro b c h1 h2 h3;simpa [parted,h1,h2] using h3
 have hasbase:parted p q=true->∃b c,p.base=some b/\q.base=some c:=by
  intro h;unfold parted at h;split at h
  .exact⟨_,_,‹_›,‹_›⟩
  .simp at h
 rcases kad hp p6 with cp | cp | cp | cp <;> rcases kad hq q6 with cq | cq | cq | cq <;> simp only [clsOk,cp,cq]at hs <;> first | (simp at hs;done) | skip
 ·-- 1 1
  refine⟨λe1 o1 ev K hk=>?_,λe2 o2 ev K hk=>?_,λe1 e2 o1 o2 r1 b1 r2 b2 h1 h2=>?_⟩
  .simp only [Out,cp]at o1;rw [jh o1]at hk;exact hk
  .simp only [Out,cq]at o2;rw [jh o2];exact hk
  .simp only [Out,cp]at o1;rw [o1]at h1;simp at h1
 ·-- 1 2
  refine⟨λe1 o1 ev K hk=>?_,λe2 o2 ev K hk=>?_,λe1 e2 o1 o2 r1 b1 r2 b2 h1 h2=>?_⟩
  .simp only [Out,cp]at o1;rw [jh o1]at hk;exact hk
  .simp only [Out,cq]at o2;obtain⟨r,B,g1,g2,g3,g4⟩:=o2;rw [Ue g2];refine Zap hΓ hk (λr' hr'=>qf (λe=>?_));subst e;rcases hr' with hr' | hr'
   .exact hr' g3
   .exact hd _ hr' g1
  .simp only [Out,cp]at o1;rw [o1]at h1;simp at h1
 ·-- 1 3
  obtain⟨b,c,hb,hc⟩:=hasbase hs;have hne:=base hb hc hs;refine⟨λe1 o1 ev K hk=>?_,λe2 o2 ev K hk=>?_,λe1 e2 o1 o2 r1 b1 r2 b2 h1 h2=>?_⟩
  .simp only [Out,cp]at o1;rw [jh o1]at hk;exact hk
  .simp only [Out,cq]at o2;obtain⟨r,B,g1,g2,g3,g4⟩:=o2;rw [Ue g1];exact XC hb hk (qf (by rw [g4 c hc];exact hne))
  .simp only [Out,cp]at o1;rw [o1]at h1;simp at h1
 ·-- 1 5
  refine⟨λe1 o1 ev K hk=>?_,λe2 o2 ev K hk=>?_,λe1 e2 o1 o2 r1 b1 r2 b2 h1 h2=>?_⟩
  .simp only [Out,cp]at o1;rw [jh o1]at hk;exact hk
  .simp only [Out,cq]at o2;obtain⟨r,B,g1,g2,g3,g4⟩:=o2;rw [Ue g2];refine Zap hΓ hk (λr' hr'=>qf (λe=>?_));subst e;rcases hr' with hr' | hr'
   .exact hr' g3
   .exact hd _ hr' g1
  .simp only [Out,cp]at o1;rw [o1]at h1;simp at h1
 ·-- 2 2
  refine⟨λe1 o1 ev K hk=>?_,λe2 o2 ev K hk=>?_,λe1 e2 o1 o2 r1 b1 r2 b2 h1 h2=>?_⟩
  .simp only [Out,cp]at o1;obtain⟨r,B,g1,g2,g3,g4⟩:=o1;rw [Ue g2]at hk;refine uap hΓ cq hk (λr' hr'=>(qf (λe=>?_)).symm);subst e;exact hd _ g1 hr'
  .simp only [Out,cq]at o2;obtain⟨r,B,g1,g2,g3,g4⟩:=o2;rw [Ue g2];refine uap hΓ cp hk (λr' hr'=>qf (λe=>?_));subst e;exact hd _ hr' g1
  .simp only [Out,cp]at o1;simp only [Out,cq]at o2;obtain⟨r,B,g1,g2,g3,g4⟩:=o1;obtain⟨r',B',g1',g2',g3',g4'⟩:=o2;rw [g2]at h1;rw [g2']at h2;simp only [zOI,Prod.mk.injEq]at h1 h2;intro e;exact hd r g1 (by rw [g1',h2.1,h1.1,e])
 ·-- 3 1
  obtain⟨b,c,hb,hc⟩:=hasbase hs;have hne:=base hb hc hs;refine⟨λe1 o1 ev K hk=>?_,λe2 o2 ev K hk=>?_,λe1 e2 o1 o2 r1 b1 r2 b2 h1 h2=>?_⟩
  .simp only [Out,cp]at o1;obtain⟨r,B,g1,g2,g3,g4⟩:=o1;rw [Ue g1]at hk;exact XC hc hk (qf (by rw [g4 b hb];exact λe=>hne e.symm)).symm
  .simp only [Out,cq]at o2;rw [jh o2];exact hk
  .simp only [Out,cq]at o2;rw [o2]at h2;simp at h2
 ·-- 3 2
  refine⟨λe1 o1 ev K hk=>?_,λe2 o2 ev K hk=>?_,λe1 e2 o1 o2 r1 b1 r2 b2 h1 h2=>?_⟩
  .simp only [Out,cp]at o1;obtain⟨r,B,g1,g2,g3,g4⟩:=o1;rw [Ue g1]at hk;have hb:=XaI hΓ cq hk;refine uap hΓ cq hk (λr' hr'=>(qf (λe=>?_)).symm);subst e;exact g2 (by simpa [upd] using hb _ hr')
  .simp only [Out,cq]at o2;obtain⟨r,B,g1,g2,g3,g4⟩:=o2;rw [Ue g2];refine Zap hΓ hk (λr' hr'=>qf (λe=>?_));subst e;rcases hr' with hr' | hr'
   .exact hr' g3
   .exact hd _ hr' g1
  .simp only [Out,cp]at o1;simp only [Out,cq]at o2;obtain⟨r,B,g1,g2,g3,g4⟩:=o1;obtain⟨r',B',g1',g2',g3',g4'⟩:=o2;rw [g1]at h1;rw [g2']at h2;simp only [zOI,Prod.mk.injEq]at h1 h2;intro e;rw [h1.1,e,<-h2.1]at g3;rcases g3 with g3 | g3
   .exact g3 g3'
   .exact hd _ g3 g1'
 ·-- 3 3
  obtain⟨b,c,hb,hc⟩:=hasbase hs;have hne:=base hb hc hs;refine⟨λe1 o1 ev K hk=>?_,λe2 o2 ev K hk=>?_,λe1 e2 o1 o2 r1 b1 r2 b2 h1 h2=>?_⟩
  .simp only [Out,cp]at o1;obtain⟨r,B,g1,g2,g3,g4⟩:=o1;rw [Ue g1]at hk;exact XC hc hk (qf (by rw [g4 b hb];exact λe=>hne e.symm)).symm
  .simp only [Out,cq]at o2;obtain⟨r,B,g1,g2,g3,g4⟩:=o2;rw [Ue g1];exact XC hb hk (qf (by rw [g4 c hc];exact hne))
  .simp only [Out,cp]at o1;simp only [Out,cq]at o2;obtain⟨r,B,g1,g2,g3,g4⟩:=o1;obtain⟨r',B',g1',g2',g3',g4'⟩:=o2;rw [g1]at h1;rw [g1']at h2;simp only [zOI,Prod.mk.injEq]at h1 h2;rw [<-h1.1,<-h2.1,g4 b hb,g4' c hc];exact hne
theorem Qw{Γ:Nat->Spec}(hΓ:Goods Γ){p q:AO}{h:Nat->HB}(hd:∀k,p.d=some k->q.d≠some k)(hp:quiet p.o=false)(hq:quiet q.o=false)
  (p6:p.o.cls≠6) (q6:q.o.cls≠6) (hs:clsOk p.o q.o=true∨early p q=true) :
  (∀e1,Out p.o p.d h e1->∀ev K,Hk Γ q.d ev (effH h e1) K q.o->Hk Γ q.d ev h K q.o)/\(∀e2,Out q.o q.d h e2->∀ev K,Hk Γ p.d ev h K p.o->Hk Γ p.d ev (effH h e2) K p.o)/\
  (∀e1 e2,Out p.o p.d h e1->Out q.o q.d h e2->∀r1 b1 r2 b2,e1.2=some (r1,b1)->e2.2=some (r2,b2)->r1≠r2):=by
 rcases hs with hs | hs
 .exact yas hΓ hd hp hq p6 q6 hs
 .unfold early at hs;simp only [zBA,Bool.or_eq_true,beq_iff_eq]at hs;obtain⟨⟨cp,cq⟩,hb⟩:=hs;split at hb
  .rename_i b d eb ed;have hne:b≠d:=by simpa using hb
   refine⟨λe1 o1 ev K hk=>?_,λe2 o2 ev K hk=>?_,λe1 e2 o1 o2 r1 b1 r2 b2 h1 h2=>?_⟩
   .have o1' : ∃r B,p.d=some r/\e1.2=some (r,B):=by
     rcases cp with cp | cp <;> simp only [Out,cp]at o1 <;> obtain⟨r,B,g1,g2,_⟩:=o1 <;> exact⟨r,B,g1,g2⟩
    obtain⟨r,B,g1,g2⟩:=o1';rw [Ue g2]at hk;refine XC eb hk (qf (λe=>hne ?_)).symm;rw [ed]at g1;cases g1
    exact e
   .simp only [Out,cq]at o2;rw [jh o2];exact hk
   .simp only [Out,cq]at o2;rw [o2]at h2;simp at h2
  .simp at hb
theorem swap{Γ:Nat->Spec}(hΓ:Goods Γ){p q:AO}(hs:swapOk p q p.looks q.looks=true){s:S}{K:S->Prop}(hk:wpG Γ true s (λs=>wpG Γ true s K q) p):wpG Γ true s (λs=>wpG Γ true s K p) q:=by
 unfold swapOk swapOkB at hs;simp only [zBA,Bool.or_eq_true,Bool.true_and]at hs;obtain⟨⟨s1,s2⟩,s3⟩:=hs;have p6:p.o.cls≠6:=λe=>by
  rcases s3 with s3 | s3
  .simp [clsOk,e]at s3
  .simp [early,e]at s3
 have q6:q.o.cls≠6:=λe=>by
  rcases s3 with s3 | s3
  .unfold clsOk at s3;rw [e]at s3;split at s3 <;> simp_all
  .simp [early,e]at s3
 have dq:∀k,p.d=some k->k∉q.looks/\q.d≠some k:=by
  intro k hk;rw [hk]at s1;simpa using s1
 have dp:∀k,q.d=some k->k∉p.looks:=by
  intro k hk;rw [hk]at s2;simpa using s2
 have aq:∀e1,Agree q.looks s.ev (s.fin p.d e1).ev:=λe1=>YaP s p.d e1 _ λk hk=>(dq k hk).1;have ap:∀e2,Agree p.looks s.ev (s.fin q.d e2).ev:=λe2=>YaP s q.d e2 _ dp;have symm:∀{l:List Nat} {ev ev' : Opd->AV},Agree l ev ev'->Agree l ev' ev:=λh=>⟨λt ht=>(h.1 t ht).symm,λa=>(h.2 a).symm⟩;have lq:∀{ev ev' : Opd->AV},Agree q.looks ev ev'->Agree q.o.looks ev ev':=λh=>h.sub λt ht=>by simp [AO.looks,ht]
 have lp:∀{ev ev' : Opd->AV},Agree p.looks ev ev'->Agree p.o.looks ev ev':=λh=>h.sub λt ht=>by simp [AO.looks,ht]
 refine VaI hΓ p6 q6 (λe1 o1 K hk=>ZaO (symm (aq e1)) (λK hk=>?_) hk) (λe2 o2 K hk=>ZaO (ap e2) (λK hk=>?_) hk) (λe1 e2 o1 o2=>xaG s (λk hk=>(dq k hk).2) (λr1 b1 r2 b2 h1 h2=>?_)) hk
 .rw [Vbb (lq (symm (aq e1))),Uam]at hk;by_cases hq:quiet q.o=true
  .rw [yaa hq (h':=s.h)]at hk;exact hk
  .rcases o1 with o1 | ⟨hp,o1⟩
   .rw [jh o1]at hk;exact hk
   .have hq' : quiet q.o=false:=by simpa using hq
    unfold Ok at hk ⊢;simp only [hq',Bool.false_eq_true,if_false]at hk ⊢;exact(Qw hΓ (λk hk=>(dq k hk).2) hp hq' p6 q6 s3).1 e1 o1 _ _ hk
 .rw [<-Vbb (lp (ap e2)),Uam];by_cases hp:quiet p.o=true
  .rw [yaa hp (h':=s.h)];exact hk
  .rcases o2 with o2 | ⟨hq,o2⟩
   .rw [jh o2];exact hk
   .have hp' : quiet p.o=false:=by simpa using hp
    unfold Ok at hk ⊢;simp only [hp',Bool.false_eq_true,if_false]at hk ⊢;exact(Qw hΓ (λk hk=>(dq k hk).2) hp' hq p6 q6 s3).2.1 e2 o2 _ _ hk
 .rcases o1 with o1 | ⟨hp,o1⟩
  .rw [o1]at h1;simp at h1
  .rcases o2 with o2 | ⟨hq,o2⟩
   .rw [o2]at h2;simp at h2
   .exact(Qw hΓ (λk hk=>(dq k hk).2) hp hq p6 q6 s3).2.2 e1 e2 o1 o2 r1 b1 r2 b2 h1 h2
end Go.Abs
end
section
namespace Go.Abs
variable {P:Program} {E:Env} {s:S} {a:Act} {w:World} {m:M} {I:Nat->Prop} {K:S->Prop} {Γ:Nat->Spec}
theorem yah(hΓ:Goods Γ){ao:AO}{K K' : S->Prop}(hm:∀s,K s->K' s)(hk:wpG Γ true s K ao):wpG Γ true s K' ao:=by
 by_cases h6:ao.o.cls=6
 .obtain⟨d,g,op⟩:=ao;have key:∀{s:S},wpO Γ true d s K op->wpO Γ true d s K' op:=by
   intro s hk;cases op <;> first | (simp [AOp.cls]at h6;done) | skip
   rename_i f l _;simp only [wpO]at hk ⊢;unfold callI at hk ⊢;split at hk
   .rename_i G e;exact hΓ.2.2.2.2 f G e (λr s=>hm _) hk
   .exact hk.elim
  cases g with
  | none=>exact key hk
  | some gw=>
   obtain⟨g,want⟩:=gw;simp only [wpG]at hk ⊢;unfold grd at hk ⊢;split at hk
   .exact⟨λe=>key (hk.1 e),λe=>hm _ (hk.2 e)⟩
   .exact hm _ hk
   .exact hk.elim
 .rw [YX h6]at hk ⊢;exact(g_Ak hΓ ao _ _).mono (λr=>hm _) hk
theorem pull(hΓ:Goods Γ){q:AO}{r2:List AO}:∀(r1:List AO) {s:S},(∀p∈r1,swapOk p q p.looks q.looks=true)->wpL Γ true K (r1++q::r2) s->wpL Γ true K (q::(r1++r2)) s
 | [],s,_,hk=>hk
 | p::r1,s,hs,hk=>swap hΓ (hs p (List.mem_cons_self ..)) (yah hΓ (λs hk=>pull hΓ r1 (λp hp=>hs p (List.mem_cons_of_mem _ hp)) hk) hk)
theorem reorder(hΓ:Goods Γ)(f:Nat->AO):∀(L rem:List Nat) {s:S},L.Nodup->rem.Pairwise (· < ·)->(∀x,x∈rem↔x∈L)->L.Pairwise (λa b=>b<a->swapOk (f b) (f a) (f b).looks (f a).looks=true)->
  wpL Γ true K (rem.map f) s->wpL Γ true K (L.map f) s
 | [],rem,s,hn,hr,hm,hp,hk=>by
  have:rem=[]:=List.eq_nil_iff_forall_not_mem.2 λx hx=>by simpa using (hm x).1 hx
  subst this;exact hk
 | j::L,rem,s,hn,hr,hm,hp,hk=>by
  obtain⟨r1,r2,rfl⟩:=List.append_of_mem ((hm j).2 (List.mem_cons_self ..));rw [List.nodup_cons]at hn;rw [List.pairwise_cons]at hp;rw [List.pairwise_append,List.pairwise_cons]at hr;obtain⟨hr1,⟨hr2,hr3⟩,hr4⟩:=hr;have h1:∀x∈r1,x<j:=λx hx=>hr4 x hx j (List.mem_cons_self ..);rw [List.map_append,List.map_cons]at hk;have hk:=pull hΓ (r1.map f) (λp hp'=>by
   obtain⟨x,hx,rfl⟩:=List.mem_map.1 hp';have hlt:=h1 x hx;refine hp.1 x ?_ hlt;rcases List.mem_cons.1 ((hm x).1 (List.mem_append.2 (.inl hx))) with e | h
   .omega
   .exact h) hk
  rw [<-List.map_append]at hk;refine yah hΓ (λs hk=>reorder hΓ f L (r1++r2) hn.2 ?_ (λx=>?_) hp.2 hk) hk
  .rw [List.pairwise_append];exact⟨hr1,hr3,λa ha b hb=>hr4 a ha b (List.mem_cons_of_mem _ hb)⟩
  .constructor
   .intro hx;have hne:x≠j:=by
     rcases List.mem_append.1 hx with h | h
     .have:=h1 x h;omega
     .have:=hr2 x h;omega
    have:=(hm x).1 (by rcases List.mem_append.1 hx with h | h <;> simp [h])
    rcases List.mem_cons.1 this with e | h
    .exact(hne e).elim
    .exact h
   .intro hx;have hne:x≠j:=λe=>hn.1 (e▸hx);have:=(hm x).2 (List.mem_cons_of_mem _ hx);rcases List.mem_append.1 this with h | h
    .exact List.mem_append.2 (.inl h)
    .rcases List.mem_cons.1 h with e | h
     .exact(hne e).elim
     .exact List.mem_append.2 (.inr h)
theorem JS{p p' : Nat->Bool}{i:Nat}:∀(l:List Nat),(∀x∈l,p' x=true->p x=true)->i∈l->p i=true->p' i=false->l.countP p' < l.countP p
 | [],_,hi,_,_=>by simp at hi
 | x::l,hm,hi,h1,h2=>by
  have le:l.countP p'<=l.countP p:=List.countP_mono_left λx hx=>hm x (List.mem_cons_of_mem _ hx);simp only [List.countP_cons];rcases List.mem_cons.1 hi with rfl | hi
  .simp [h1,h2];omega
  .have:=JS l (λx hx=>hm x (List.mem_cons_of_mem _ hx)) hi h1 h2;have hx:=hm x (List.mem_cons_self ..);cases hp' : p' x with
   | true=>simp [hx hp'];omega
   | false=>simp;omega
section lin
variable {ops:Array Oper} {md:Region.Mode}
def open'(ops:Array Oper)(listed:Array Bool):Nat:=(List.range ops.size).countP λi=>!listed.getD i true
theorem vaV{fuel t:Nat}{listed:Array Bool}{i:Nat}(h:(Region.ready md ops listed)[t % (Region.ready md ops listed).length]?=some i) :
  Region.linearise.go md ops (fuel+1) t listed []=i::Region.linearise.go md ops fuel (t / (Region.ready md ops listed).length) (listed.setIfInBounds i true) []:=by
 have:Region.linearise.go md ops (fuel+1) t listed []=match (Region.ready md ops listed)[t % (Region.ready md ops listed).length]? with
   | some i=>Region.linearise.go md ops fuel (t / (Region.ready md ops listed).length) (listed.setIfInBounds i true) [i]
   | none=>[].reverse:=rfl
 rw [this,h];simp only;rw [linearise_go_acc];simp
theorem YaL(ρ:Nat->Nat)(p:Nat->Prop)(n:Nat):(∃i,i<n/\p i)->∃i,i<n/\p i/\∀j,j<n->p j->ρ i<=ρ j:=by
 rintro⟨i,hi,hp⟩;generalize hk:ρ i=k
 induction k using Nat.strongRecOn generalizing i with
 | _ k ih=>
  by_cases h:∃j,j<n/\p j/\ρ j<ρ i
  .obtain⟨j,h1,h2,h3⟩:=h;exact ih (ρ j) (by omega) j h1 h2 rfl
  .refine⟨i,hi,hp,λj h1 h2=>Nat.le_of_not_lt λh3=>h ⟨j,h1,h2,h3⟩⟩
theorem Ubk(ρ:Nat->Nat)(hρ:∀(i:Nat) (o:Oper) e,ops[i]?=some o->e∈o.after->Region.binds md e=true->e.on<ops.size/\ρ e.on<ρ i) :
  ∀(fuel t:Nat) (listed:Array Bool),listed.size=ops.size->open' ops listed<=fuel->
   (Region.linearise.go md ops fuel t listed []).Nodup/\(∀x,x∈Region.linearise.go md ops fuel t listed []↔x<ops.size/\listed.getD x true=false)/\
   ∀l1 a l2 o,Region.linearise.go md ops fuel t listed []=l1++a::l2->ops[a]?=some o->∀e∈o.after,Region.binds md e=true->listed.getD e.on false=true∨e.on∈l1:=by
 have getD_or:∀(listed:Array Bool) (x:Nat),listed.size=ops.size->x<ops.size->listed.getD x false=listed.getD x true:=by
  intro listed x h1 h2;simp [Array.getD,h1,h2]
 have full:∀(listed:Array Bool),listed.size=ops.size->Region.ready md ops listed=[]->∀x,x<ops.size->listed.getD x true=true:=by
  intro listed hsz hr x hx;cases hb:listed.getD x true with
  | true=>rfl
  | false=>
   obtain⟨i,hi,hpi,hmin⟩:=YaL ρ (λi=>listed.getD i true=false) ops.size ⟨x,hx,hb⟩;have:i∈Region.ready md ops listed:=by
    rw [mem_ready];refine⟨hpi,ops[i],by simp [hi],λe he hbd=>?_⟩
    obtain⟨h1,h2⟩:=hρ i ops[i] e (by simp [hi]) he hbd
    rw [getD_or listed _ hsz h1];cases hl:listed.getD e.on true with
    | true=>rfl
    | false=>have:=hmin e.on h1 hl;omega
   rw [hr]at this;simp at this
 intro fuel
 induction fuel with
 | zero=>
  intro t listed hsz hf;have hz:∀x,x<ops.size->listed.getD x true=true:=by
   intro x hx;have:open' ops listed=0:=by omega
   unfold open' at this;rw [List.countP_eq_zero]at this;have:=this x (List.mem_range.2 hx);simpa using this
  refine⟨by simp [Region.linearise.go],λx=>?_,λl1 a l2 o h=>by simp [Region.linearise.go]at h⟩
  simp only [Region.linearise.go,List.reverse_nil,List.not_mem_nil,false_iff,not_and];intro hx;rw [hz x hx];simp
 | succ fuel ih=>
  intro t listed hsz hf;cases hi:(Region.ready md ops listed)[t % (Region.ready md ops listed).length]? with
  | none=>
   have hnil:Region.ready md ops listed=[]:=by
    cases hr:Region.ready md ops listed with
    | nil=>rfl
    | cons x xs=>
     rw [hr]at hi;have hlt:t % (x::xs).length<(x::xs).length:=Nat.mod_lt _ (by simp)
     simp only [List.getElem?_eq_none_iff]at hi;omega
   have hz:=full listed hsz hnil;have hgo:Region.linearise.go md ops (fuel+1) t listed []=match (Region.ready md ops listed)[t % (Region.ready md ops listed).length]? with
     | some i=>Region.linearise.go md ops fuel (t / (Region.ready md ops listed).length) (listed.setIfInBounds i true) [i]
     | none=>[].reverse:=rfl
   rw [hi]at hgo;rw [hgo];refine⟨by simp,λx=>?_,λl1 a l2 o h=>by simp at h⟩
   simp only [List.reverse_nil,List.not_mem_nil,false_iff,not_and];intro hx;rw [hz x hx];simp
  | some i=>
   have hmem:=List.mem_of_getElem? hi;rw [mem_ready]at hmem;obtain⟨hopen,o0,ho0,hdeps⟩:=hmem;have hlt:i<ops.size:=(Array.getElem?_eq_some_iff.1 ho0).1;rw [vaV hi];have hset:∀x d,(listed.setIfInBounds i true).getD x d=if x=i then true else listed.getD x d:=by
    intro x d;by_cases e:x=i
    .subst e;simp [Array.getD_eq_getD_getElem?,hsz,hlt]
    .have:¬i=x:=λe'=>e e'.symm;simp [Array.getD_eq_getD_getElem?,e,this]
   obtain⟨g1,g2,g3⟩:=ih (t / (Region.ready md ops listed).length) (listed.setIfInBounds i true) (by simp [hsz]) (by
    have:open' ops (listed.setIfInBounds i true)<open' ops listed:=JS (i:=i) _ (λx _ hx=>by
     simp only [hset,Bool.not_eq_true']at hx ⊢;by_cases e:x=i
     .simp [e]at hx
     .simpa [e] using hx) (List.mem_range.2 hlt) (by simp [hopen]) (by simp [hset])
    omega)
   refine⟨?_,λx=>?_,λl1 a l2 o h ho e he hb=>?_⟩
   .rw [List.nodup_cons];refine⟨λhx=>?_,g1⟩;have:=((g2 i).1 hx).2;rw [hset]at this;simp at this
   .rw [List.mem_cons,g2,hset];by_cases e:x=i
    .subst e;simp [hlt,hopen]
    .simp [e]
   .cases l1 with
    | nil=>
     simp only [List.nil_append,List.cons.injEq]at h;obtain⟨rfl,_⟩:=h;rw [ho0]at ho;simp only [zOI]at ho;subst ho;exact .inl (hdeps e he hb)
    | cons y l1=>
     simp only [List.cons_append,List.cons.injEq]at h;obtain⟨rfl,h⟩:=h;rcases g3 l1 a l2 o h ho e he hb with h' | h'
     .rw [hset]at h';by_cases e' : e.on=i
      .exact .inr (by simp [e'])
      .rw [if_neg e']at h';exact .inl h'
     .exact .inr (List.mem_cons_of_mem _ h')
theorem Yw:∀(xs l:List Nat) (x:Nat),x∈unionN xs l->x∈xs∨x∈l
 | [],l,x,h=>.inr h
 | y::xs,l,x,h=>by
  unfold unionN at h;split at h
  .rcases Yw xs l x h with h | h
   .exact .inl (List.mem_cons_of_mem _ h)
   .exact .inr h
  .rcases Yw xs (y::l) x h with h | h
   .exact .inl (List.mem_cons_of_mem _ h)
   .rcases List.mem_cons.1 h with rfl | h
    .exact .inl (List.mem_cons_self ..)
    .exact .inr h
theorem Ja0:∀(i:Nat) (x:Nat),x∈((anc ops)[i]?).getD []->∃o,ops[i]?=some o/\∃e∈o.after,Region.binds .any e=true/\(x=e.on∨(e.on<i/\x∈((anc ops)[e.on]?).getD [])):=by
 have inner:∀(acc:List (List Nat)) (es:List Edge) (init:List Nat) (x:Nat),x∈es.foldl (λl e=>if Region.binds .any e=true then unionN (e.on::(acc[e.on]?).getD []) l else l) init->
   x∈init∨∃e∈es,Region.binds .any e=true/\(x=e.on∨x∈(acc[e.on]?).getD []):=by
  intro acc es
  induction es with
  | nil=>intro init x hx;exact .inl hx
  | cons e es ih=>
   intro init x hx;simp only [List.foldl_cons]at hx;rcases ih _ x hx with h | ⟨e',he',h⟩
   .by_cases hb:Region.binds .any e=true
    .rw [if_pos hb]at h;rcases Yw _ _ _ h with h | h
     .rcases List.mem_cons.1 h with h | h
      .exact .inr ⟨e,List.mem_cons_self ..,hb,.inl h⟩
      .exact .inr ⟨e,List.mem_cons_self ..,hb,.inr h⟩
     .exact .inl h
    .rw [if_neg hb]at h;exact .inl h
   .exact .inr ⟨e',List.mem_cons_of_mem _ he',h⟩
 have outer:∀(l:List Oper) (acc:List (List Nat)),∃rest:List (List Nat),(l.foldl (init:=acc) λacc o=>
   acc++[o.after.toList.foldl (init:=[]) λl e=>if Region.binds .any e then unionN (e.on::(acc[e.on]?).getD []) l else l])=acc++rest/\rest.length=l.length/\
   ∀k o,l[k]?=some o->∀x∈(rest[k]?).getD [],∃e∈o.after,Region.binds .any e=true/\(x=e.on∨(e.on<acc.length+k/\x∈((acc++rest)[e.on]?).getD [])):=by
  intro l
  induction l with
  | nil=>intro acc;exact⟨[],by simp,rfl,λk o h=>by simp at h⟩
  | cons o l ih=>
   intro acc;simp only [List.foldl_cons];generalize hnew:(o.after.toList.foldl (init:=[]) λl e=>if Region.binds .any e then unionN (e.on::(acc[e.on]?).getD []) l else l)=new
   obtain⟨rest,h1,h2,h3⟩:=ih (acc++[new]);refine⟨new::rest,by rw [h1];simp,by simp [h2],λk o' hk x hx=>?_⟩
   cases k with
   | zero=>
    simp only [List.getElem?_cons_zero,zOI]at hk;subst hk;simp only [List.getElem?_cons_zero,Option.getD_some]at hx;rw [<-hnew]at hx;rcases inner acc _ _ x hx with h | ⟨e,he,hb,h⟩
    .simp at h
    .refine⟨e,by simpa using he,hb,?_⟩
     rcases h with h | h
     .exact .inl h
     .right;rcases Nat.lt_or_ge e.on acc.length with hlt | hge
      .exact⟨by omega,by rw [List.getElem?_append_left hlt];exact h⟩
      .rw [List.getElem?_eq_none hge]at h;simp at h
   | succ k=>
    simp only [List.getElem?_cons_succ]at hk hx;obtain⟨e,he,hb,h⟩:=h3 k o' hk x hx;refine⟨e,he,hb,?_⟩;rcases h with h | ⟨ha,h⟩
    .exact .inl h
    .exact .inr ⟨by simp at ha;omega,by simpa using h⟩
 intro i x hx;obtain⟨rest,h1,h2,h3⟩:=outer ops.toList [];have hanc:anc ops=rest:=by unfold anc;simpa using h1
 rw [hanc]at hx ⊢;rcases Nat.lt_or_ge i rest.length with hlt | hge
 .have hi:i<ops.size:=by simpa [h2] using hlt
  obtain⟨e,he,hb,h⟩:=h3 i ops[i] (by simp [hi]) x hx
  exact⟨ops[i],by simp [hi],e,he,hb,by simpa using h⟩
 .rw [List.getElem?_eq_none hge]at hx;simp at hx
theorem Wal(L:List Nat)(hL:∀l1 a l2 o,L=l1++a::l2->ops[a]?=some o->∀e∈o.after,Region.binds .any e=true->e.on∈l1) :
  ∀(k:Nat) l1 a l2,l1.length=k->L=l1++a::l2->∀x∈((anc ops)[a]?).getD [],x∈l1:=by
 intro k
 induction k using Nat.strongRecOn with
 | _ k ih=>
  intro l1 a l2 hk hl x hx;obtain⟨o,ho,e,he,hb,h⟩:=Ja0 a x hx;have hon:=hL l1 a l2 o hl ho e he hb;rcases h with rfl | ⟨_,h⟩
  .exact hon
  .obtain⟨p1,p2,rfl⟩:=List.append_of_mem hon;have:=ih p1.length (by rw [<-hk];simp) p1 e.on (p2++a::l2) rfl (by rw [hl];simp) x h
   simp [this]
theorem vaB(ρ:Nat->Nat)(hρ:∀(i:Nat) (o:Oper) e,ops[i]?=some o->e∈o.after->Region.binds md e=true->e.on<ops.size/\ρ e.on<ρ i)(t:Nat)(f:Nat->AO)
  (hf:∀i j,i<ops.size->j<i->j∈((anc ops)[i]?).getD []∨swapOk (f j) (f i) (f j).looks (f i).looks=true) :
  (Region.linearise md ops t).Nodup/\(∀x,x∈List.range ops.size↔x∈Region.linearise md ops t)/\(Region.linearise md ops t).Pairwise (λa b=>b<a->swapOk (f b) (f a) (f b).looks (f a).looks=true):=by
 have hle:open' ops (Array.replicate ops.size false)<=ops.size:=by
  unfold open';have:=List.countP_le_length (p:=λi=>!(Array.replicate ops.size false).getD i true) (l:=List.range ops.size);simpa using this
 obtain⟨g1,g2,g3⟩:=Ubk ρ hρ ops.size t (Array.replicate ops.size false) (by simp) hle
 have hrep:∀x,(Array.replicate ops.size false).getD x false=false:=by
  intro x;by_cases h:x<ops.size <;> simp [Array.getD,h]
 change (Region.linearise md ops t).Nodup at g1;change ∀x,x∈Region.linearise md ops t↔_ at g2;change ∀l1 a l2 o,Region.linearise md ops t=l1++a::l2->_ at g3;refine⟨g1,λx=>?_,?_⟩
 .rw [g2,List.mem_range];constructor
  .intro h;exact⟨h,by simp [Array.getD,h]⟩
  .exact λh=>h.1
 .rw [List.pairwise_iff_getElem];intro i j hi hj hij hlt;have ha:(Region.linearise md ops t)[i] < ops.size:=((g2 _).1 (List.getElem_mem hi)).1;rcases hf _ _ ha hlt with h | h
  .exfalso;have hsplit:Region.linearise md ops t=(Region.linearise md ops t).take i++(Region.linearise md ops t)[i]::(Region.linearise md ops t).drop (i+1):=by
    rw [<-List.drop_eq_getElem_cons hi,List.take_append_drop]
   have hbind:∀e,Region.binds .any e=true->Region.binds md e=true:=by
    intro e he;unfold Region.binds at he ⊢;cases hg:e.ground <;> rw [hg]at he <;> first | rfl | exact Bool.noConfusion (show false=true from he)
   have:=Wal (Region.linearise md ops t) (λl1 a l2 o hl ho e he hb=>by
    rcases g3 l1 a l2 o hl ho e he (hbind e hb) with h | h
    .exact absurd h (by rw [hrep];exact Bool.false_ne_true)
    .exact h) _ _ _ _ rfl hsplit _ h
   obtain⟨k,hk,hkj⟩:=List.mem_take_iff_getElem.1 this;exact List.pairwise_iff_getElem.1 g1 k j (by omega) hj (by omega) hkj
  .exact h
end lin
end Go.Abs
end
section
namespace Go.Abs
variable {P:Program} {E:Env} {s:S} {a:Act} {w:World} {m:M} {I:Nat->Prop} {K:S->Prop} {Γ:Nat->Spec}
theorem Holds.goods(h:Holds P Γ):Goods Γ:=by
 refine⟨λf sc G hf=>?_,λf z G hf=>?_,λf G hf=>?_,λf G hf=>?_,λf G hf=>?_⟩
 .have:=h f;rw [hf]at this;exact this.2.1
 .have:=h f;rw [hf]at this;exact this.2.1
 .have:=h f;rw [hf]at this;exact this.2.1
 .have:=h f;rw [hf]at this;exact this.2.1
 .have:=h f;rw [hf]at this;intro d args s K K' hm hk;exact this.2.1 hm hk
theorem yQ{b:Bool}{p q:AO}{l l' : List Nat}(h:swapOkB b p q l l' = true):swapOkB true p q l l' = true:=by
 cases b with
 | true=>exact h
 | false=>
  unfold swapOkB at h ⊢;simp only [Bool.false_and,Bool.or_false,zBA,Bool.or_eq_true]at h ⊢;exact⟨h.1,.inl h.2⟩
theorem Qf{b:Bool}{ops:Array Oper}{l:List AO}(h:orderOkB b ops l=true):orderOk ops l=true:=by
 unfold orderOk orderOkB at *
 simp only [zBA,List.all_eq_true,List.mem_range]at h ⊢;refine⟨h.1,λi hi j hj=>?_⟩;have:=h.2 i hi j hj;simp only [Bool.or_eq_true]at this ⊢;rcases this with h | h
 .exact .inl h
 .right;split at h
  .exact yQ h
  .simp at h
theorem uO{α β:Type}{f:α->Option β}:∀{xs:List α} {ys:List β},xs.mapM f=some ys->ys.length=xs.length/\∀(i:Nat) x,xs[i]?=some x->∃y,ys[i]?=some y/\f x=some y
 | [],ys,h=>by simp at h;subst h;exact⟨rfl,λi x hx=>by simp at hx⟩
 | x::xs,ys,h=>by
  simp only [List.mapM_cons,Option.bind_eq_bind,zOB,Option.pure_def,zOI]at h;obtain⟨y,hy,ys,hys,rfl⟩:=h;obtain⟨h1,h2⟩:=uO hys;refine⟨by simp [h1],λi x' hx=>?_⟩
  cases i with
  | zero=>simp at hx;subst hx;exact⟨y,rfl,hy⟩
  | succ i=>simp only [List.getElem?_cons_succ]at hx ⊢;exact h2 i x' hx
theorem Ql{ops:Array Oper}{N:Nat}{f:Nat->AO}:∀(L:List Nat),(∀i∈L,∃o,ops[i]?=some o/\Does P ops o (f i)/\∀k,o.dst=some k->k<N)->Stands P ops N L (L.map f)
 | [],_=>.nil
 | i::L,h=>by
  obtain⟨o,h1,h2,h3⟩:=h i (List.mem_cons_self ..);exact .cons h1 h2 h3 (Ql L λj hj=>h j (List.mem_cons_of_mem _ hj))
theorem Sim.draw(h:Sim E s a w m I)(k:Nat):Sim E s a { w with drawn:=k } m I:=
 ⟨h.dfr,h.siz,h.slot,⟨h.heap.ver,λr b hb=>let x:=h.heap.blk r b hb;⟨x.sz,x.virt,x.real⟩,h.heap.inj,h.heap.lt,h.heap.imb,h.heap.grow,h.heap.keep,h.heap.imm,h.heap.sup,h.heap.i0,h.heap.liv,h.heap.np,h.heap.fx,h.heap.os,h.heap.tape,h.heap.out⟩⟩
theorem orders{ops:Array Oper}{l:List AO}(hlen:l.length=ops.size)(h:orderOk ops l=true)(mixed:Bool)(t:Nat) :
  (Region.schedule mixed ops t).Nodup/\(∀x,x∈List.range ops.size↔x∈Region.schedule mixed ops t)/\
  (Region.schedule mixed ops t).Pairwise (λa b=>b<a->swapOk ((l[b]?).getD default) ((l[a]?).getD default) ((l[b]?).getD default).looks ((l[a]?).getD default).looks=true):=by
 unfold orderOk orderOkB at h;simp only [zBA,List.all_eq_true,List.mem_range,Bool.or_eq_true,Bool.not_eq_true']at h;obtain⟨⟨h1,h2⟩,h3⟩:=h;have hf:∀i j,i<ops.size->j<i->j∈((anc ops)[i]?).getD []∨swapOk ((l[j]?).getD default) ((l[i]?).getD default) ((l[j]?).getD default).looks ((l[i]?).getD default).looks=true:=by
  intro i j hi hj;rcases h3 i (by omega) j hj with h | h
  .exact .inl (by simpa using h)
  .right;have e1:l[j]?=some (l[j]'(by omega)):=List.getElem?_eq_getElem (by omega)
   have e2:l[i]?=some (l[i]'(by omega)):=List.getElem?_eq_getElem (by omega)
   rw [e1,e2]at h ⊢;exact h
 have text:∀md,md=.any∨md=.text->∀(i:Nat) (o:Oper) e,ops[i]?=some o->e∈o.after->Region.binds md e=true->e.on<ops.size/\e.on<i:=by
  intro md hmd i o e ho he hb;have hi:=(Array.getElem?_eq_some_iff.1 ho).1;have hz:(o,i)∈ops.toList.zipIdx:=by
   rw [List.mem_zipIdx_iff_getElem?];simpa using ho
  have:=h1 (o,i) hz e (by simpa using he)
  simp only [decide_eq_true_eq]at this;rcases this with⟨g1,g2⟩ | g
  .rcases hmd with rfl | rfl
   .rw [hb]at g1;exact Bool.noConfusion g1
   .rw [hb]at g2;exact Bool.noConfusion g2
  .omega
 unfold Region.schedule;split
 .exact vaB (λi=>i) (text .any (.inl rfl)) t _ hf
 .rename_i hmix;have hdep:Region.departs ops=true:=by
   cases hd:Region.departs ops with
   | true=>rfl
   | false=>simp [hd]at hmix
  split
  .exact vaB (λi=>i) (text .text (.inr rfl)) _ _ hf
  .refine vaB (λi=>(Region.linearise .gc ops 0).idxOf i) (λi o e ho he hb=>?_) _ _ hf;rcases h2 with h2 | h2
   .rw [hdep]at h2;exact Bool.noConfusion h2
   .unfold rankOk at h2;simp only [List.all_eq_true,zBA,Bool.or_eq_true,Bool.not_eq_true',decide_eq_true_eq]at h2;have hz:(o,i)∈ops.toList.zipIdx:=by
     rw [List.mem_zipIdx_iff_getElem?];simpa using ho
    rcases(h2 (o,i) hz).2 e (by simpa using he) with g | g
    .rw [hb]at g;exact Bool.noConfusion g
    .exact g
theorem wj(hΓ:Holds P Γ){ops:Array Oper}{l0 l:List AO}(hl0:ops.toList.mapM (cAO P ops)=some l0)(hl:l=l0∨l=l0.map (claim l0)∨l=l0.map (claim2 l0)∨l=l0.map (claim3 l0)∨l=l0.map (claim4 l0)∨l=l0.map (claim5 l0)∨l=l0.map (claim6 l0))(hdst:dstOk E.N l0=true){Q:Exit->Act->World->Prop}
  (hq:∀s' a' w' m' I',K s'->Sim E s' a' w' m' I'->Q .normal a' w') (h:Sim E s a w m I) {dr:Bool} (hk:wpL Γ dr K l s) (id:Nat) (hord:dr=true->orderOk ops l=true):(Code.region id ops dr).wp P Q a w:=by
 obtain⟨hlen0,hget⟩:=uO hl0;have hlen:l.length=ops.size:=by
  rcases hl with rfl | rfl | rfl | rfl | rfl | rfl | rfl <;> simp [hlen0]
 have hdoes:∀i,i<ops.size->∃o,ops[i]?=some o/\Does P ops o ((l[i]?).getD default)/\∀k,o.dst=some k->k<E.N:=by
  intro i hi;obtain⟨ao,h1,h2⟩:=hget i ops[i] (by simp [hi])
  have hd0:=vaF h2;refine⟨ops[i],by simp [hi],?_,λk hk=>?_⟩
  .rcases hl with rfl | rfl | rfl | rfl | rfl | rfl | rfl
   .rw [h1];exact hd0
   .rw [List.getElem?_map,h1];exact hd0.claim l0
   .rw [List.getElem?_map,h1];exact hd0.claim2 l0
   .rw [List.getElem?_map,h1];exact hd0.claim3 l0
   .rw [List.getElem?_map,h1];exact hd0.claim4 l0
   .rw [List.getElem?_map,h1];exact hd0.claim5 l0
   .rw [List.getElem?_map,h1];exact hd0.claim6 l0
  .unfold dstOk at hdst;simp only [List.all_eq_true]at hdst;have:=hdst ao (List.mem_of_getElem? h1);rw [hd0.d,hk]at this;simpa using this
 have hmap:(List.range ops.size).map (λi=>(l[i]?).getD default)=l:=by
  apply List.ext_getElem
  .simp [hlen]
  .intro i h1 h2;simp [h2]
 cases dr with
 | false=>
  refine wp_region (XX hΓ (l:=l) ?_ hq h hk);have:=Ql (P:=P) (ops:=ops) (N:=E.N) (f:=λi=>(l[i]?).getD default) (List.range ops.size) λi hi=>hdoes i (List.mem_range.1 hi);rw [hmap]at this;exact this
 | true=>
  refine wp_region_draw λt=>?_;obtain⟨g1,g2,g3⟩:=orders hlen (hord rfl) (P.follows .mixedOrders) t;refine XX (dr:=true) hΓ (Ql (P:=P) (f:=λi=>(l[i]?).getD default) _ λi hi=>hdoes i (List.mem_range.1 ((g2 i).2 hi))) hq (h.draw _) ?_;rw [<-hmap]at hk;exact reorder hΓ.goods _ _ _ g1 List.pairwise_lt_range g2 g3 hk
def exOf:Ex->Exit
 | .nrm=>.normal
 | .exit id=>.exit id
 | .ret=>.ret
theorem Sim.restr(h:Sim E s a w m I)(keep:List Nat):Sim E ⟨Abs.restr keep s.v,s.h⟩ a w m I:=by
 refine⟨h.dfr,h.siz,λt=>?_,h.heap⟩;show RA m I w.heap (Abs.restr keep s.v t) _;unfold Abs.restr;split
 .exact h.slot t
 .exact .any _
theorem Sim.fz:∀(ts:List Nat) {s:S} {I:Nat->Prop},Sim E s a w m I->∃I',Sim E (frzS ts s) a w m I'
 | [],s,I,h=>⟨I,h⟩
 | t::ts,s,I,h=>by
  obtain⟨I1,hh1,hx1,hfz⟩:=h.heap.frz (ownA (s.v t));have h1:Sim E ⟨upd s.v t (datA s.h (s.v t)),Abs.frz (ownA (s.v t)) s.h⟩ a w m I1:=by
   refine⟨h.dfr,h.siz,λt'=>?_,hh1⟩;simp only [upd];by_cases e:t' = t
   .subst e;rw [if_pos rfl];exact(jt h.heap hx1 (h.slot t') hfz).1
   .rw [if_neg e];exact(h.slot t').ext hx1
  exact Sim.fz ts h1
theorem Qt(hΓ:Holds P Γ):∀(ac:AC) (c:Code),compile P E.N c=some ac.strip->∀{s:S} {a:Act} {w:World} {m:M} {I:Nat->Prop} {Q:Ex->S->Prop} {R:Exit->Act->World->Prop},Sim E s a w m I->wpA Γ ac Q s->
  (∀e s' a' w' m' I',Q e s'->Sim E s' a' w' m' I'->R (exOf e) a' w')->c.wp P R a w:=by
 have isOps:∀{id:Nat} {ops:Array Oper} {dr:Bool} {ac:AC},compile P E.N (.region id ops dr)=some ac->∃l,ac=.ops dr l:=by
  intro id ops dr ac hc;simp only [compile,Option.bind_eq_bind,zOB]at hc;obtain⟨l0,hl0,hc⟩:=hc;repeat (split at hc <;> first | (simp at hc;done) | (simp only [Option.pure_def,zOI]at hc;exact⟨_,hc.symm⟩) | skip)
 intro ac
 induction ac with
 | fg keep x ih=>
  intro c hc s a w m I Q R h hk hr;exact ih c hc (h.restr keep) hk hr
 | fz ts x ih=>
  intro c hc s a w m I Q R h hk hr;obtain⟨I',h'⟩:=h.fz ts;exact ih c hc h' hk hr
 | skip=>
  intro c hc s a w m I Q R h hk hr;simp only [AC.strip]at hc;cases c with
  | skip=>exact wp_skip (hr .nrm _ _ _ _ _ hk h)
  | label l=>exact wp_label (hr .nrm _ _ _ _ _ hk h)
  | region id ops dr=>obtain⟨l,hl⟩:=isOps hc;simp at hl
  | _=>simp [compile,zOB]at hc
 | ops dr l=>
  intro c hc s a w m I Q R h hk hr;simp only [AC.strip]at hc;cases c with
  | region id ops dr'=>
   simp only [compile,Option.bind_eq_bind,zOB]at hc;obtain⟨l0,hl0,hc⟩:=hc;split at hc
   .simp at hc
   .rename_i hdst;have hdst:dstOk E.N l0=true:=by simpa using hdst
    split at hc
    .rename_i hord;simp only [Option.pure_def,zOI,AC.ops.injEq]at hc;obtain⟨rfl,rfl⟩:=hc;exact wj hΓ hl0 (.inr (.inr (.inr (.inr (.inl rfl))))) hdst (λs' a' w' m' I' hk hs=>hr .nrm _ _ _ _ _ hk hs) h hk id (λ_=>Qf (by simp only [zBA]at hord;exact hord.2))
    .by_cases h6:(dr' && (l0.map (claim6 l0)).any isRowd && orderOkB true ops (l0.map (claim6 l0)))=true
     .rw [if_pos h6]at hc;simp only [Option.pure_def,zOI,AC.ops.injEq]at hc;obtain⟨rfl,rfl⟩:=hc;exact wj hΓ hl0 (.inr (.inr (.inr (.inr (.inr (.inr rfl)))))) hdst (λs' a' w' m' I' hk hs=>hr .nrm _ _ _ _ _ hk hs) h hk id (λ_=>by simp only [zBA]at h6;exact h6.2)
     rw [if_neg h6]at hc;split at hc
     .rename_i hord;simp only [Option.pure_def,zOI,AC.ops.injEq]at hc;obtain⟨rfl,rfl⟩:=hc;refine wj hΓ hl0 (.inl rfl) hdst (λs' a' w' m' I' hk hs=>hr .nrm _ _ _ _ _ hk hs) h hk id (λhd=>?_);subst hd;exact Qf (b:=false) (by simpa using hord)
     .split at hc
      .rename_i hord;simp only [Option.pure_def,zOI,AC.ops.injEq]at hc;obtain⟨rfl,rfl⟩:=hc;exact wj hΓ hl0 (.inr (.inl rfl)) hdst (λs' a' w' m' I' hk hs=>hr .nrm _ _ _ _ _ hk hs) h hk id (λ_=>Qf hord)
      .split at hc
       .rename_i hord;simp only [Option.pure_def,zOI,AC.ops.injEq]at hc;obtain⟨rfl,rfl⟩:=hc;exact wj hΓ hl0 (.inr (.inr (.inl rfl))) hdst (λs' a' w' m' I' hk hs=>hr .nrm _ _ _ _ _ hk hs) h hk id (λ_=>Qf hord)
       .split at hc
        .rename_i hord;simp only [Option.pure_def,zOI,AC.ops.injEq]at hc;obtain⟨rfl,rfl⟩:=hc;exact wj hΓ hl0 (.inr (.inr (.inr (.inl rfl)))) hdst (λs' a' w' m' I' hk hs=>hr .nrm _ _ _ _ _ hk hs) h hk id (λ_=>Qf hord)
        .split at hc
         .rename_i hord;simp only [Option.pure_def,zOI,AC.ops.injEq]at hc;obtain⟨rfl,rfl⟩:=hc;exact wj hΓ hl0 (.inr (.inl rfl)) hdst (λs' a' w' m' I' hk hs=>hr .nrm _ _ _ _ _ hk hs) h hk id (λ_=>hord)
         .split at hc
          .rename_i hord;simp only [Option.pure_def,zOI,AC.ops.injEq]at hc;obtain⟨rfl,rfl⟩:=hc;exact wj hΓ hl0 (.inr (.inr (.inr (.inr (.inr (.inl rfl)))))) hdst (λs' a' w' m' I' hk hs=>hr .nrm _ _ _ _ _ hk hs) h hk id (λ_=>hord)
          .simp at hc
  | _=>simp [compile,zOB]at hc
 | seq ax ay ihx ihy=>
  intro c hc s a w m I Q R h hk hr;simp only [AC.strip]at hc;cases c with
  | seq x y=>
   simp only [compile,Option.bind_eq_bind,zOB,Option.pure_def,zOI,AC.seq.injEq]at hc;obtain⟨bx,hx,by',hy,rfl,rfl⟩:=hc
   refine wp_seq (ihx x hx h hk (λe s' a' w' m' I' hq hs=>?_));cases e with
   | nrm=>exact ihy y hy hs hq hr
   | exit i=>exact hr (.exit i) _ _ _ _ _ hq hs
   | ret=>exact hr .ret _ _ _ _ _ hq hs
  | region id ops dr=>obtain⟨l,hl⟩:=isOps hc;simp at hl
  | _=>simp [compile,zOB]at hc
 | cond c' ax ay ihx ihy=>
  intro c hc s a w m I Q R h hk hr;simp only [AC.strip]at hc;cases c with
  | cond c0 x y=>
   simp only [compile,Option.bind_eq_bind,zOB,Option.pure_def,zOI,AC.cond.injEq]at hc;obtain⟨c1,hc',bx,hx,by',hy,rfl,rfl,rfl⟩:=hc
   obtain⟨b,e,hk1,hk2⟩:=Uq hk;have hv:=h.ev hc';rw [e]at hv;obtain⟨hv,_⟩:=hv.lit_inv;exact wp_cond_split hv (λhb=>ihx x hx h (hk1 hb) hr) (λhb=>ihy y hy h (hk2 hb) hr)
  | region id ops dr=>obtain⟨l,hl⟩:=isOps hc;simp at hl
  | _=>simp [compile,zOB]at hc
 | block id ax ih=>
  intro c hc s a w m I Q R h hk hr;simp only [AC.strip]at hc;cases c with
  | block id' x=>
   simp only [compile,zOM,AC.block.injEq]at hc;obtain⟨bx,hx,rfl,rfl⟩:=hc;refine wp_block (ih x hx h hk (λe s' a' w' m' I' hq hs=>?_));cases e with
   | nrm=>exact hr .nrm _ _ _ _ _ hq hs
   | ret=>exact hr .ret _ _ _ _ _ hq hs
   | exit i=>
    simp only [Ex.blk]at hq;simp only [exOf,Exit.inBlock];split
    .rename_i e;rw [if_pos e]at hq;exact hr .nrm _ _ _ _ _ hq hs
    .rename_i e;rw [if_neg e]at hq;exact hr (.exit i) _ _ _ _ _ hq hs
  | region id ops dr=>obtain⟨l,hl⟩:=isOps hc;simp at hl
  | _=>simp [compile,zOB]at hc
 | loop ax ih=>
  intro c hc s a w m I Q R h hk hr;simp only [AC.strip]at hc;cases c with
  | loop x=>
   simp only [compile,zOM,AC.loop.injEq]at hc;obtain⟨bx,hx,rfl⟩:=hc;obtain⟨α,St,Inv,μ,x0,hw0,hi0,round⟩:=hk;have key:∀n (y:α) (a:Act) (w:World) (m:M) (I:Nat->Prop),μ y=n->Inv y->Sim E (St y) a w m I->∀(b:Frame) (k:List Item) (cs:List Frame),
     ∃e a' w',R e a' w'/\Arrives P (lone (b.at a (.code x::.inLoop x::k)) cs w) b k cs e a' w':=by
    intro n
    induction n using Nat.strongRecOn with
    | _ n ihn=>
     intro y a w m I hn hi h b k cs;obtain⟨e,a₁,w₁,hq,harr⟩:=ih x hx (R:=λe a w=>(e=.normal/\∃s' m' I',(∃y',Weak s' (St y')/\Inv y'/\μ y' < μ y)/\Sim E s' a w m' I')∨(e≠.normal/\R e a w)) h (round y hi) (λe s' a' w' m' I' hq hs=>by
      cases e with
      | nrm=>exact .inl ⟨rfl,s',m',I',hq,hs⟩
      | exit i=>exact .inr ⟨by simp [exOf],hr (.exit i) _ _ _ _ _ hq hs⟩
      | ret=>exact .inr ⟨by simp [exOf],hr .ret _ _ _ _ _ hq hs⟩) b (.inLoop x::k) cs
     rcases hq with⟨rfl,s',m',I',⟨y',hw,hi',hlt⟩,hs⟩ | ⟨hne,hq⟩
     .obtain⟨m2,hs2⟩:=hs.weak hw;obtain⟨e₂,a₂,w₂,hq₂,harr₂⟩:=ihn (μ y') (hn▸hlt) y' a₁ w₁ _ _ rfl hi' hs2 b k cs;exact⟨e₂,a₂,w₂,hq₂,.of_steps (Steps.trans harr (.one step_inLoop)) harr₂⟩
     .exact⟨e,a₁,w₁,hq,.pass (x:=.inLoop x) rfl (λ_ _=>.inl hne) harr⟩
   intro b k cs;obtain⟨m0,h0⟩:=h.weak hw0;obtain⟨e,a',w',hq,harr⟩:=key _ x0 a w _ _ rfl hi0 h0 b k cs;exact⟨e,a',w',hq,.of_steps (.one step_loop) harr⟩
  | region id ops dr=>obtain⟨l,hl⟩:=isOps hc;simp at hl
  | _=>simp [compile,zOB]at hc
 | exit id=>
  intro c hc s a w m I Q R h hk hr;simp only [AC.strip]at hc;cases c with
  | exit id'=>
   simp only [compile,zOI,AC.exit.injEq]at hc;subst hc;exact wp_exit (hr (.exit _) _ _ _ _ _ hk h)
  | region id ops dr=>obtain⟨l,hl⟩:=isOps hc;simp at hl
  | _=>simp [compile,zOB]at hc
 | ret=>
  intro c hc s a w m I Q R h hk hr;simp only [AC.strip]at hc;cases c with
  | ret=>exact wp_ret (hr .ret _ _ _ _ _ hk h)
  | region id ops dr=>obtain⟨l,hl⟩:=isOps hc;simp at hl
  | _=>simp [compile,zOB]at hc
end Go.Abs
end
section
namespace Go.Abs
variable {P:Program} {Γ:Nat->Spec}
inductive Fine:C->Prop
 | lit (v:Value):Fine (.lit v)
 | emp:Fine .emp
 | any:Fine .any
 | slice (es:List (List C)):es.length<=maxLenA->(∀e∈es,∀c∈e,Fine c)->Fine (.slice es)
 | full (es:List (List C)):es.length<=maxLenA->(∀e∈es,∀c∈e,Fine c)->Fine (.full es)
 | ref (cs:List C):(∀c∈cs,Fine c)->Fine (.ref cs)
 | clo (f:FuncId) (cs:List C):(∀c∈cs,Fine c)->Fine (.clo f cs)
 | own (r ver z off len:Nat):len<=maxLenA->Fine (.own r ver z off len)
 | ptr (r ver i off:Nat):Fine (.ptr r ver i off)
def FineA:AV->Prop
 | .one c=>Fine c
 | .agg cs=>∀c∈cs,Fine c
 | _=>True
theorem RC.fine{m:M}{I:Nat->Prop}{H:Array Obj}{c:C}{v:Value}(h:RC m I H c v):Fine c:=by
 induction h with
 | lit v _=>exact .lit v
 | any=>exact .any
 | snil=>exact .slice _ (by simp) (λe he=>by simp at he)
 | slice es sz b off cap arr ty fz vs h0 h1 h1' h2 h3 h4 h5 _ ih=>
  refine .slice es h1 (λe he c hc=>?_);obtain⟨i,hi⟩:=List.getElem?_of_mem he;obtain⟨j,hj⟩:=List.getElem?_of_mem hc;exact ih i j e c hi hj
 | full es a _ ih=>cases ih with | slice _ h1 h2=>exact .full es h1 h2
 | emp=>exact .emp
 | own r ver z off len cap a h1 h2=>exact .own r ver z off len h2
 | ptr r ver i off=>exact .ptr r ver i off
 | ref cs b off arr ty fz vs h0 h1 h2 h3 _ ih=>
  refine .ref cs (λc hc=>?_);obtain⟨j,hj⟩:=List.getElem?_of_mem hc;exact ih j c hj
 | bnd f caps cv h1 _ ih=>
  refine .clo f _ (λc hc=>?_);rcases List.mem_cons.1 hc with rfl | hc
  .exact .lit _
  .obtain⟨j,hj⟩:=List.getElem?_of_mem hc;have:j<cv.length:=by rw [h1];exact(List.getElem?_eq_some_iff.1 hj).1
   exact ih j c _ hj (List.getElem?_eq_getElem this)
 | clo f caps cv h1 _ ih=>
  refine .clo f caps (λc hc=>?_);obtain⟨j,hj⟩:=List.getElem?_of_mem hc;have:j<cv.length:=by rw [h1];exact(List.getElem?_eq_some_iff.1 hj).1
  exact ih j c _ hj (List.getElem?_eq_getElem this)
theorem RA.fine{m:M}{I:Nat->Prop}{H:Array Obj}{x:AV}{v:Value}(h:RA m I H x v):FineA x:=by
 cases h with
 | any=>trivial
 | one c v h=>exact h.fine
 | agg cs vs h=>
  intro c hc;obtain⟨j,hj⟩:=List.getElem?_of_mem hc;have:j<vs.length:=by rw [<-h.1];exact(List.getElem?_eq_some_iff.1 hj).1
  exact(h.2 j c _ hj (List.getElem?_eq_getElem this)).fine
 | tup=>trivial
theorem jr:∀(args:List AV) (k t:Nat),mkV (argL k args) t=if k<=t then (args[t-k]?).getD .any else .any
 | [],k,t=>by simp [argL,mkV,find]
 | a::args,k,t=>by
  have ih:=jr args (k+1) t;simp only [argL,mkV,find]at ih ⊢;by_cases e:t=k
  .subst e;simp
  .rw [if_neg e,ih];by_cases h:k<=t
   .have:t-k=(t-(k+1))+1:=by omega
    rw [if_pos (by omega),if_pos h,this,List.getElem?_cons_succ]
   .rw [if_neg (by omega),if_neg h]
theorem UM{E:Env}{s:S}{a:Act}{w:World}{m:M}{I:Nat->Prop}(h:Sim E s a w m I):∀(l:List ResultVar) (rv:List RV),l.mapM (cRV P)=some rv->∀{K:List AV->Prop},rawK s rv K->
  ∃xs vs:List _,(∀g:ResultVar->Sem Value,(∀t,g (.tmp t)=pure (a.tmps.getD t undef))->(∀x t,g (.cell x t)=do loadVar t (<-asAddr (a.tmps.getD x undef)))->(l.mapM g).run P w=.ok vs w)/\RAs m I w.heap xs vs/\K xs
 | [],rv,hl,K,hk=>by
  simp at hl;subst hl;exact⟨[],[],λg _ _=>by simp,⟨rfl,λi a v h=>by simp at h⟩,hk⟩
 | x::l,rv,hl,K,hk=>by
  simp only [List.mapM_cons,Option.bind_eq_bind,zOB,Option.pure_def,zOI]at hl;obtain⟨y,hy,rv2,hrv,rfl⟩:=hl;have cons:∀{x:AV} {v:Value} {xs:List AV} {vs:List Value},RA m I w.heap x v->RAs m I w.heap xs vs->RAs m I w.heap (x::xs) (v::vs):=by
   intro x v xs vs h1 h2;refine⟨by simp [h2.1],λi a u ha hu=>?_⟩
   cases i with
   | zero=>simp at ha hu;subst ha hu;exact h1
   | succ i=>simp only [List.getElem?_cons_succ]at ha hu;exact h2.2 i a u ha hu
  cases x with
  | tmp t=>
   simp only [cRV]at hy;split at hy
   rotate_left
   .simp at hy
   rename_i htp;simp only [zOI]at hy;subst hy;obtain⟨xs,vs,h1,h2,h3⟩:=UM h l rv2 hrv hk;exact⟨_,a.tmps.getD t undef::vs,λg g1 g2=>by simp [List.mapM_cons,g1,h1 g g1 g2],cons (h.at htp) h2,h3⟩
  | cell t ty=>
   simp only [cRV]at hy;split at hy
   .simp at hy
   rename_i htp;simp only [zOB,zOI]at hy;obtain⟨n,hn,g,hg,rfl⟩:=hy;simp only [rawK]at hk;have hv:=h.at (t:=t) (Nat.lt_of_not_le htp);have fin:∀(b off:Nat) (cs:List C),a.tmps.getD t undef=.pointer (some ⟨b,off,none⟩)->At m I w b off cs->ldK (λx=>rawK s rv2 λl=>K (x::l)) n g cs->
     ∃xs vs:List _,(∀g:ResultVar->Sem Value,(∀t,g (.tmp t)=pure (a.tmps.getD t undef))->(∀x t,g (.cell x t)=do loadVar t (<-asAddr (a.tmps.getD x undef)))->((ResultVar.cell t ty::l).mapM g).run P w=.ok vs w)/\RAs m I w.heap xs vs/\K xs:=by
    intro b off cs hp hat hk;obtain⟨v,x,h1,h2,h3⟩:=kN hn hg hat hk;obtain⟨xs,vs,g1,g2,g3⟩:=UM h l rv2 hrv h3;refine⟨x::xs,v::vs,λg' q1 q2=>?_,cons h2 g2,g3⟩;have:(g' (.cell t ty)).run P w=.ok v w:=by rw [q2,hp];simp [asAddr,h1]
    simp [List.mapM_cons,this,g1 g' q1 q2]
   unfold ldA at hk;split at hk
   .rename_i cs e;rw [e]at hv;obtain⟨b,off,hp,hat⟩:=xaQ hv.one_inv;exact fin b off cs hp hat hk
   .rename_i r ver i off e;rw [e]at hv;obtain⟨b,e1,e2,hlt,hk⟩:=Vh hk;have he:b.es[i]?=some (b.es[i]'hlt):=List.getElem?_eq_getElem hlt;obtain⟨k,z,hp,hm,hz,hat⟩:=JaD h.heap hv.one_inv e1 e2 he;exact fin _ _ _ hp hat (hk _ he)
   .exact hk.elim
theorem YB{l:List AV}(h:∀x∈l,CleanV x):CleanA (resOf l):=by
 match l,h with
 | [x],h=>
  have hx:=h x (by simp)
  show CleanA x;cases x with
  | tup=>exact hx.elim
  | one=>exact hx
  | agg=>exact hx
  | any=>exact hx
 | [],h=>exact h
 | x::y::l,h=>exact h
theorem VG{m:M}{I:Nat->Prop}{H:Array Obj}{l:List AV}{vs:List Value}(h:RAs m I H l vs):RA m I H (resOf l) (if h:(⟨vs⟩:Array Value).size=1 then (⟨vs⟩:Array Value)[0] else .tuple ⟨vs⟩):=by
 obtain⟨h1,h2⟩:=h;match l,vs,h1,h2 with
 | [],[],h1,h2=>exact .tup _ _ h1 h2
 | [x],[v],h1,h2=>exact h2 0 x v rfl rfl
 | x::y::l,v::u::vs,h1,h2=>
  rw [dif_neg (by simp)]
  exact .tup _ _ h1 h2
theorem Yi{args:List AV}{vals:List Value}{n:Nat}{m:M}{I:Nat->Prop}{H:Array Obj}(hargs:RAs m I H args vals)(t:Nat) :
  RA m I H (mkV (argL 0 args) t) (((⟨vals⟩:Array Value)++Array.replicate n undef).getD t undef):=by
 rw [jr,if_pos (Nat.zero_le _),Nat.sub_zero];cases ha:args[t]? with
 | none=>exact .any _
 | some a=>
  have hlt:t<vals.length:=by rw [<-hargs.1];exact(List.getElem?_eq_some_iff.1 ha).1
  have hv:vals[t]?=some vals[t]:=List.getElem?_eq_getElem hlt;have:((⟨vals⟩:Array Value)++Array.replicate n undef).getD t undef=vals[t]:=by
   rw [Array.getD_eq_getD_getElem?,Array.getElem?_append_left (by simpa using hlt)]
   simp [hlt]
  simp only [this];exact hargs.2 t a _ ha hv
theorem dsound{f:FuncId}{fn:Func}{c:Code}{ac:AC}{rv:List RV}{n:Nat}{G:List AV->(AV->Prop)->Prop}(hf:P.funcs[f]?=some fn)(hb:fn.body=some c)(hn:fn.ntmps=n)(hc:compile P n c=some ac.strip)(hrv:cRes P fn=some rv)(hΓ:Holds P Γ)(hpin:n<=pinA)
    (h:∀args K,(∀a∈args,CleanV a)->(∀a∈args,FineA a)->G args K->args.length<=n/\wpA Γ ac (finQ rv K) (argS args)):DSound P f G:=by
  intro args vals w I K himb hargs hclean hG;have hfine:∀a∈args,FineA a:=by
    intro a ha;obtain⟨i,hi⟩:=List.getElem?_of_mem ha;have hlt:i<vals.length:=by rw [<-hargs.1];exact(List.getElem?_eq_some_iff.1 hi).1
    exact(hargs.2 i a _ hi (List.getElem?_eq_getElem hlt)).fine
  obtain⟨hlen,hwp⟩:=h args K hclean hfine hG;refine calls_of_wp hf hb ?_;have hsim:Sim ⟨w,I,λ_=>False,n,λ_=>none,λ_=>undef⟩ (argS args) { tmps:=(⟨vals⟩:Array Value)++Array.replicate (fn.ntmps-(⟨vals⟩:Array Value).size) undef,defers:=[] } w M0 I:=by
    refine⟨rfl,?_,λt=>vn rfl (by show Array.size _<=_;have hlv:=hargs.1;simp [hn];omega) (Yi hargs t),{
      ver:=λr=>rfl,blk:=λr b hb=>by simp [argS,mkH,find]at hb,inj:=λr r' k z z' h=>by simp [M0]at h,lt:=λr k z h=>by simp [M0]at h,
      imb:=himb,grow:=Nat.le_refl _,keep:=λb hb _=>rfl,imm:=λb hb=>.inl hb,sup:=λb hb=>hb,i0:=λb hb=>⟨himb b hb,λh=>h⟩,
      liv:=λr b k z hb=>by simp [argS,mkH,find]at hb,np:=hpin,fx:=λr b _ hb=>by simp [argS,mkH,find]at hb,os:=rfl,tape:=rfl,out:=rfl }⟩
    . have hlv:=hargs.1
      simp [hn];omega
  have fin:∀s' a' w' m' I',(rawK s' rv λl=>K (resOf (l.map (datA s'.h))))->Sim ⟨w,I,λ_=>False,n,λ_=>none,λ_=>undef⟩ s' a' w' m' I'->a'.defers=[]/\∃v,(results fn a'.tmps).run P w' = .ok v w'/\∃v' r I',Ending.returned v=.returned v'/\K r/\RA M0 I' w'.heap r v'/\CleanA r/\Ret w I w' I':=by
    intro s' a' w' m' I' hk hs;obtain⟨xs,vs,hrun,hra,hk⟩:=UM (P:=P) hs _ _ hrv hk;have hres:(results fn a'.tmps).run P w' = .ok (if h:(⟨vs⟩:Array Value).size=1 then (⟨vs⟩:Array Value)[0] else .tuple ⟨vs⟩) w':=by
      unfold results;have harr:fn.results=fn.results.toList.toArray:=by simp
      rw [harr,List.mapM_toArray];simp only [Sem.run_bind,Sem.run_map];rw [hrun]
      . simp only [Result.andThen_ok,Sem.run_pure]
      . intro t;rfl
      . intro x t;rfl
    refine⟨hs.dfr,_,hres,?_⟩;obtain⟨I2,hh2,hx2,hfz⟩:=hs.heap.frz (xs.flatMap ownA);have each:∀(i:Nat) x v,xs[i]?=some x->vs[i]?=some v->RA m' I2 w'.heap (datA s'.h x) v/\CleanV (datA s'.h x):=λi x v hx hv=>
      jt hs.heap hx2 (hra.2 i x v hx hv) (λr hr=>hfz r (List.mem_flatMap.2 ⟨x,List.mem_of_getElem? hx,hr⟩))
    refine⟨_,resOf (xs.map (datA s'.h)),I2,rfl,hk,VG ⟨by simp [hra.1],λi x v hx hv=>?_⟩,YB (λx hx=>?_),?_⟩
    . simp only [List.getElem?_map,zOM]at hx
      obtain⟨x0,hx0,rfl⟩:=hx;have:=each i x0 v hx0 hv;exact this.1.any_mapV this.2 _
    . simp only [List.mem_map]at hx
      obtain⟨x0,hx0,rfl⟩:=hx;obtain⟨i,hi⟩:=List.getElem?_of_mem hx0;have hlt:i<vs.length:=by rw [<-hra.1];exact(List.getElem?_eq_some_iff.1 hi).1
      exact(each i x0 _ hi (List.getElem?_eq_getElem hlt)).2
    . exact⟨hh2.grow,λb hb=>hh2.keep b hb (λh=>h),λb hb=>hh2.sup b hb,λb hb=>by
        rcases hh2.imm b hb with h | h | h
        . exact .inl h
        . exact .inr h
        . exact h.elim,hh2.imb,hh2.os,hh2.tape,hh2.out⟩
  refine Qt (E:=⟨w,I,λ_=>False,n,λ_=>none,λ_=>undef⟩) hΓ ac c hc hsim hwp (λe s' a' w' m' I' hq hs=>?_);cases e with
  | nrm=>exact fin s' a' w' m' I' hq hs
  | ret=>exact fin s' a' w' m' I' hq hs
  | exit i=>exact hq.elim
def check(P:Program)(f:FuncId):Option (Nat×AC×List RV):=do
 let fn <-P.funcs[f]?
 if fn.name == "runtime.NumGoroutine" then none else
 if pinA<fn.ntmps then none else
 let b <-fn.body
 let ac <-compile P fn.ntmps b
 let rv <-cRes P fn
 pure (fn.ntmps,ac,rv)
theorem Vi {f : FuncId} {n : Nat} {ac : AC} {rv : List RV} (h : check P f = some (n, ac, rv)) : ∃ fn c, P.funcs[f]? = some fn ∧ (fn.name == "runtime.NumGoroutine") = false ∧ fn.body = some c ∧ fn.ntmps = n ∧ compile P n c = some ac ∧ cRes P fn = some rv ∧ n ≤ pinA := by
 unfold check at h;simp only [Option.bind_eq_bind,zOB]at h;obtain⟨fn,hf,h⟩:=h;split at h
 .simp at h
 .rename_i hname;split at h
  .simp at h
  .rename_i hpin;simp only [zOB,Option.pure_def,zOI,Prod.mk.injEq]at h;obtain⟨c,hb,ac',hc,rv',hr,rfl,rfl,rfl⟩:=h;exact⟨fn,c,hf,by simpa using hname,hb,rfl,hc,hr,Nat.le_of_not_lt hpin⟩
theorem Va{f:FuncId}{n:Nat}{ac:AC}{rv:List RV}{sc:Bool}{G:List AV->(AV->Prop)->Prop}(hc:check P f=some (n,ac.strip,rv))(hg:Good G)(hΓ:Holds P Γ)
  (h:∀args K,(∀a∈args,CleanV a)->(∀a∈args,FineA a)->G args K->args.length<=n/\wpA Γ ac (finQ rv K) (argS args)):Sound P f (.dat sc G):=by
 obtain⟨fn,c,h1,h2,h3,h4,h5,h6,h7⟩:=Vi hc;exact⟨Xa h1 h2 (by rw [h3];rfl),hg,dsound h1 h3 h4 h5 h6 hΓ h7 h⟩
end Go.Abs
end
