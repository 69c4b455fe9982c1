/-
  Parts of the proof, merged: ArgA, IntA, IntB, IntI, IntJ, RatA, RatB, BaseA, ChartA, ChartP, ChartC.
-/
import Derived.Test.YtfichbefnpcdeaaGreatM3
import Derived.ChangeArms
import Derived.ChangeStays
import Derived.Calls
import Derived.Lib.BitFns
import Init.Data.Rat.Lemmas
set_option linter.unusedVariables false
set_option linter.unusedSimpArgs false
set_option linter.unnecessarySimpa false
set_option maxRecDepth 100000
section
namespace Go.Abs
structure Bk {H:Type} (bulk:DataW H->Nat):Prop where
 sl:∀es sp,es.length<=bulk (.slice es sp)
 se:∀es sp e,e∈es->bulk e<=bulk (.slice es sp)
 ag:∀ps e,e∈ps->bulk e<=bulk (.agg ps)
def Old(w:World):Nat->Prop:=λb=>b<w.heap.size
def Opens{H:Type}(enc:TypeId×Value->H)(bulk:DataW H->Nat)(P:Program)(w:World)(t:TypeId){α:Type}(e:α->List C)(ok:Nat->α->Prop):Prop:=
 ∀fuel cs x,DataW.trod enc P w 0 (λ_=>true) true fuel t cs=some x->∃a:α,ok (bulk x.1) a/\RL M0 (Old w) w.heap (e a) cs
variable {H:Type} {enc:TypeId×Value->H} {bulk:DataW H->Nat} {P:Program} {w:World} {α β γ δ:Type}
theorem RL.nil{m:M}{I:Nat->Prop}{h:Array Obj}:RL m I h [] []:=⟨rfl,λi c v hc=>by simp at hc⟩
theorem RL.one{m:M}{I:Nat->Prop}{h:Array Obj}{c:C}{v:Value}(hc:RC m I h c v):RL m I h [c] [v]:=
 ⟨rfl,λi c' v' h1 h2=>by
  cases i with
  | zero=>simp at h1 h2;subst h1 h2;exact hc
  | succ i=>simp at h1⟩
theorem RL.append{m:M}{I:Nat->Prop}{h:Array Obj}{a b:List C}{u v:List Value}(h1:RL m I h a u)(h2:RL m I h b v):RL m I h (a++b) (u++v):=by
 refine⟨by simp [h1.1,h2.1],λi c x hc hx=>?_⟩
 by_cases hi:i<a.length
 .rw [List.getElem?_append_left hi]at hc;rw [List.getElem?_append_left (by rw [<-h1.1];exact hi)]at hx
  exact h1.2 i c x hc hx
 .rw [List.getElem?_append_right (by omega)]at hc
  rw [List.getElem?_append_right (by rw [<-h1.1];omega),<-h1.1]at hx
  exact h2.2 _ c x hc hx
theorem wJ{t:TypeId}(ht:P.underlying t=some .bool):Opens enc bulk P w t (λb:Bool=>[.lit (.bool b)]) (λ_ _=>True):=by
 intro fuel cs x h;obtain⟨b,rfl,_⟩:=DataW.trod_bool ht h;exact⟨b,trivial,.one (.lit _ rfl)⟩
theorem qax{t:TypeId}(ht:P.underlying t=some (.int .u32)):Opens enc bulk P w t (λn:Nat=>[.lit (.int .u32 n)]) (λ_ n=>n<4294967296):=by
 intro fuel cs x h;obtain⟨n,rfl,_,hw⟩:=DataW.trod_int ht h;have hx:0<=n/\n<=4294967295:=by simpa [Lit.wf,IntKind.min,IntKind.max,IntKind.signed,IntKind.bits] using hw
 refine⟨n.toNat,by omega,?_⟩
 have e:((n.toNat:Nat):Int)=n:=by omega
 show RL M0 (Old w) w.heap [C.lit (.int .u32 ((n.toNat:Nat):Int))] [.int .u32 n];rw [e];exact .one (.lit _ rfl)
theorem uD{Q:Nat->α->Prop}:∀n:Nat,(∀i,i<n->∃a,Q i a)->∃l:List α,l.length=n/\∀i a,l[i]?=some a->Q i a
  | 0,_=>⟨[],rfl,λi a h=>by simp at h⟩
  | n+1,h=>by
    obtain⟨l,hl,hq⟩:=uD n λi hi=>h i (by omega)
    obtain⟨a,ha⟩:=h n (by omega)
    refine⟨l++[a],by simp [hl],λi b hb=>?_⟩
    by_cases hi:i<n
    . rw [List.getElem?_append_left (by omega)]at hb;exact hq i b hb
    . rw [List.getElem?_append_right (by omega)]at hb
      cases hj:i-l.length with
      | zero => rw [hj] at hb; simp at hb; subst hb; have : i = n := by omega
                subst this;exact ha
      | succ j=>rw [hj]at hb;simp at hb
def okLs(ok:Nat->α->Prop)(n:Nat)(l:List α):Prop:=l.length<=n/\∀x∈l,ok n x
theorem Z3{t u:TypeId}{e:α->List C}{ok:Nat->α->Prop}(B:Bk bulk)(ht:P.underlying t=some (.slice u))(hc:0<P.cellsOf u)(hlen:∀a,(e a).length=P.cellsOf u)(hcl:∀a,CleanL (e a))
  (mono:∀n n' a,n<=n'->ok n a->ok n' a) (h:Opens enc bulk P w u e ok):Opens enc bulk P w t (λl:List α=>[.slice (l.map e)]) (okLs ok):=by
 intro fuel cs x hx;rcases DataW.trod_slice ht hx with⟨rfl,rfl⟩ | ⟨a,len,cap,elems,rest,n,rfl,rfl,rfl,_,hlc,hcap,hel,hget,_,_⟩
 .exact⟨[],⟨Nat.zero_le _,λx hx=>by simp at hx⟩,.one (.snil none 0)⟩
 .obtain⟨s,hs⟩:∃s,s=P.cellsOf u:=⟨_,rfl⟩;rw [<-hs]at hget hc;by_cases h0:len=0
  .subst h0;exact⟨[],⟨Nat.zero_le _,λx hx=>by simp at hx⟩,.one (.snil (some a) cap)⟩
  have row:∀i,i<len->∃csi y,elems[i]?=some y/\csi.length=s/\(∀j,j<s->w.cell? ((a.add (i*s)).add j)=csi[j]?)/\DataW.trod enc P w 0 (λ_=>true) true n u csi=some y:=by
   intro i hi;have hg:=hget i hi;rw [List.getElem?_eq_getElem (by omega)]at hg
   obtain⟨csi,hcs,htr⟩:=zOB.1 hg;obtain⟨_,h2,h3⟩:=World.cells?_some hcs;exact⟨csi,_,List.getElem?_eq_getElem (by omega),h2,h3,htr⟩
  obtain⟨arr,ty,fz,hblk,hspot⟩:∃arr ty fz,w.heap[a.block]?=some (.cells arr ty fz)/\a.spot=none:=by
   obtain⟨csi,y,_,hl,hcell,_⟩:=row 0 (by omega)
   have h1:=hcell 0 hc;rw [List.getElem?_eq_getElem (by omega)]at h1
   simp only [Nat.zero_mul,Addr.add,if_true]at h1;unfold World.cell? at h1;split at h1
   .rename_i c ty fz hb;refine⟨c,ty,fz,hb,?_⟩;split at h1
    .simp at h1
    .rename_i hsp;simpa using hsp
   .simp at h1
  obtain⟨b,off,sp⟩:=a;simp only at hspot hblk;subst hspot;have cellAt:∀i j,i<len->j<s->w.cell? (((⟨b,off,none⟩:Addr).add (i*s)).add j)=arr[off+i*s+j]?:=by
   intro i j hi hj;have e:((⟨b,off,none⟩:Addr).add (i*s)).add j=⟨b,off+i*s+j,none⟩:=by
    unfold Addr.add;by_cases h1:i*s=0 <;> by_cases h2:j=0 <;> simp [h1,h2]
   rw [e];simp [World.cell?,hblk]
  have hch:∀i,i<len->∃a:α,(∃y,elems[i]?=some y/\ok (bulk y.1) a)/\∃csi:List Value,csi.length=s/\(∀j,j<s->arr[off+i*s+j]?=csi[j]?)/\RL M0 (Old w) w.heap (e a) csi:=by
   intro i hi;obtain⟨csi,y,hy,hl,hcell,htr⟩:=row i hi;obtain⟨x,hok,hrl⟩:=h n csi y htr;exact⟨x,⟨y,hy,hok⟩,csi,hl,λj hj=>by rw [<-cellAt i j hi hj];exact hcell j hj,hrl⟩
  obtain⟨l,hll,hl⟩:=uD len hch;refine⟨l,⟨by rw [hll,<-hel];have:=B.sl (elems.map (·.1)) (rest.map (·.1));simpa using this,λz hz=>?_⟩,.one ?_⟩
  .obtain⟨i,hi⟩:=List.getElem?_of_mem hz;obtain⟨⟨y,hy,hok⟩,_⟩:=hl i z hi;exact mono _ _ _ (B.se _ _ _ (List.mem_map.2 ⟨y,List.mem_of_getElem? hy,rfl⟩)) hok
  .have hRC:RC M0 (Old w) w.heap (.slice (l.map e)) (.slice (some ⟨b,off,none⟩) (l.map e).length cap):=by
    refine .slice (l.map e) s b off cap arr ty fz (λi j=>(arr[off+i*s+j]?).getD undef) ?_ ?_ ?_ ?_ hblk ?_ ?_ ?_
    .intro r hr c hc';obtain⟨z,_,rfl⟩:=List.mem_map.1 hr;exact hcl z c hc'
    .rw [List.length_map,hll];exact Nat.le_trans (Nat.le_trans hlc hcap) (by decide)
    .rw [List.length_map,hll];exact hlc
    .exact(Array.getElem?_eq_some_iff.1 hblk).1
    .intro r hr;obtain⟨z,_,rfl⟩:=List.mem_map.1 hr;rw [hlen z,hs]
    .intro i j hi hj;rw [List.length_map,hll]at hi;obtain⟨_,csi,hcl,hcell,_⟩:=hl i _ (List.getElem?_eq_getElem (by omega))
     rw [hcell j hj,List.getElem?_eq_getElem (by omega)]
     rfl
    .intro i j r c hr hc';rw [List.getElem?_map]at hr;obtain⟨z,hz,rfl⟩:=zOM.1 hr;obtain⟨_,csi,hcl,hcell,hrl⟩:=hl i z hz;have hj:j<s:=by
      have:=(List.getElem?_eq_some_iff.1 hc').1;rw [hlen z,<-hs]at this;exact this
     rw [hcell j hj];have hcs:=List.getElem?_eq_getElem (l:=csi) (i:=j) (by omega)
     rw [hcs];exact hrl.2 j c _ hc' hcs
   rw [List.length_map,hll]at hRC;exact hRC
theorem ZO{t:TypeId}{f0 f1:Field}{e0:α->List C}{e1:β->List C}{ok0:Nat->α->Prop}{ok1:Nat->β->Prop}(B:Bk bulk)(ht:P.underlying t=some (.struct #[f0,f1]))
  (h0:f0.offset=0) (h1:f1.offset=P.cellsOf f0.type) (hs:P.cellsOf t=P.cellsOf f0.type+P.cellsOf f1.type)
  (m0:∀n n' a,n<=n'->ok0 n a->ok0 n' a) (m1:∀n n' a,n<=n'->ok1 n a->ok1 n' a) (g0:Opens enc bulk P w f0.type e0 ok0) (g1:Opens enc bulk P w f1.type e1 ok1) :
  Opens enc bulk P w t (λa:α×β=>e0 a.1++e1 a.2) (λn a=>ok0 n a.1/\ok1 n a.2):=by
 intro fuel cs x hx;obtain⟨xs,n,_,rfl,hl,hlen,hf⟩:=DataW.trod_struct ht hx;match xs,hlen with
 | [y0,y1],_=>
  have q0:=hf 0 f0 rfl;have q1:=hf 1 f1 rfl;rw [h0]at q0;rw [h1]at q1;obtain⟨a,ha,ra⟩:=g0 n _ y0 q0;obtain⟨b,hb,rb⟩:=g1 n _ y1 q1;refine⟨(a,b),⟨m0 _ _ _ (B.ag _ _ (by simp)) ha,m1 _ _ _ (B.ag _ _ (by simp)) hb⟩,?_⟩
  have:=ra.append rb;rw [List.drop_zero,List.take_of_length_le (l:=cs.drop (P.cellsOf f0.type)) (by rw [List.length_drop];omega),List.take_append_drop]at this
  exact this
theorem ZP{t:TypeId}{f0 f1 f2:Field}{e0:α->List C}{e1:β->List C}{e2:γ->List C}{ok0:Nat->α->Prop}{ok1:Nat->β->Prop}{ok2:Nat->γ->Prop}(B:Bk bulk)(ht:P.underlying t=some (.struct #[f0,f1,f2]))
  (h0:f0.offset=0) (h1:f1.offset=P.cellsOf f0.type) (h2:f2.offset=P.cellsOf f0.type+P.cellsOf f1.type) (hs:P.cellsOf t=P.cellsOf f0.type+P.cellsOf f1.type+P.cellsOf f2.type)
  (m0:∀n n' a,n<=n'->ok0 n a->ok0 n' a) (m1:∀n n' a,n<=n'->ok1 n a->ok1 n' a) (m2:∀n n' a,n<=n'->ok2 n a->ok2 n' a)
  (g0:Opens enc bulk P w f0.type e0 ok0) (g1:Opens enc bulk P w f1.type e1 ok1) (g2:Opens enc bulk P w f2.type e2 ok2) :
  Opens enc bulk P w t (λa:α×β×γ=>e0 a.1++e1 a.2.1++e2 a.2.2) (λn a=>ok0 n a.1/\ok1 n a.2.1/\ok2 n a.2.2):=by
 intro fuel cs x hx;obtain⟨xs,n,_,rfl,hl,hlen,hf⟩:=DataW.trod_struct ht hx;match xs,hlen with
 | [y0,y1,y2],_=>
  have q0:=hf 0 f0 rfl;have q1:=hf 1 f1 rfl;have q2:=hf 2 f2 rfl;rw [h0]at q0;rw [h1]at q1;rw [h2]at q2;obtain⟨a,ha,ra⟩:=g0 n _ y0 q0;obtain⟨b,hb,rb⟩:=g1 n _ y1 q1;obtain⟨c,hc,rc⟩:=g2 n _ y2 q2;refine⟨(a,b,c),⟨m0 _ _ _ (B.ag _ _ (by simp)) ha,m1 _ _ _ (B.ag _ _ (by simp)) hb,m2 _ _ _ (B.ag _ _ (by simp)) hc⟩,?_⟩
  have:=(ra.append rb).append rc;rw [List.drop_zero,List.take_of_length_le (l:=cs.drop (P.cellsOf f0.type+P.cellsOf f1.type)) (by rw [List.length_drop];omega),<-List.take_add,List.take_append_drop]at this
  exact this
end Go.Abs
end
section
namespace Go.Num
def val:List Nat->Nat
 | []=>0
 | x::l=>x+4294967296*val l
def WL(l:List Nat):Prop:=∀x∈l,x<4294967296
def dig:Nat->Nat->List Nat
 | 0,_=>[]
 | k+1,n=>n % 4294967296::dig k (n / 4294967296)
def digs(n:Nat):List Nat:=if n=0 then [] else n % 4294967296::digs (n / 4294967296)
termination_by n
decreasing_by exact Nat.div_lt_self (by omega) (by omega)
theorem Wc:WL []:=λx h=>by simp at h
theorem qc{x:Nat}{l:List Nat}:WL (x::l)↔x<4294967296/\WL l:=by simp [WL]
theorem Yd{a b:List Nat}:WL (a++b)↔WL a/\WL b:=by
 simp only [WL,List.mem_append];exact⟨λh=>⟨λx hx=>h x (.inl hx),λx hx=>h x (.inr hx)⟩,λh x hx=>hx.elim (h.1 x) (h.2 x)⟩
theorem ko{l:List Nat}(h:WL l)(n:Nat):WL (l.take n):=λx hx=>h x (List.mem_of_mem_take hx)
theorem yaX{l:List Nat}(h:WL l)(n:Nat):WL (l.drop n):=λx hx=>h x (List.mem_of_mem_drop hx)
theorem zbh(n:Nat):WL (List.replicate n 0):=λx hx=>by rw [List.mem_replicate]at hx;omega
theorem Ub{l:List Nat}(h:WL l)(i:Nat):l.getD i 0<4294967296:=by
 rw [List.getD_eq_getElem?_getD];cases e:l[i]? with
 | none=>simp
 | some x=>exact h x (List.mem_of_getElem? e)
theorem pow_pos(k:Nat):0<4294967296 ^ k:=Nat.pow_pos (by omega)
theorem Uj:val []=0:=rfl
theorem Vg(x:Nat)(l:List Nat):val (x::l)=x+4294967296*val l:=rfl
theorem ub:∀(a b:List Nat),val (a++b)=val a+4294967296 ^ a.length*val b
 | [],b=>by simp [val]
 | x::a,b=>by
  rw [List.cons_append,val,val,ub a b,List.length_cons,Nat.pow_succ,Nat.mul_add,Nat.mul_comm (4294967296 ^ a.length) 4294967296,Nat.mul_assoc,Nat.add_assoc]
theorem Xh:∀{l:List Nat},WL l->val l<4294967296 ^ l.length
 | [],_=>by simp [val]
 | x::l,h=>by
  have h2:=Xh (qc.1 h).2;have h1:=(qc.1 h).1;rw [val,List.length_cons,Nat.pow_succ];generalize 4294967296 ^ l.length=p at h2 ⊢;omega
theorem VaC:∀n:Nat,val (List.replicate n 0)=0
 | 0=>rfl
 | n+1=>by rw [List.replicate_succ,val,VaC n]
theorem kb(l:List Nat)(i:Nat):val (l.take (i+1))=val (l.take i)+4294967296 ^ i*l.getD i 0:=by
 rw [List.getD_eq_getElem?_getD];rcases Nat.lt_or_ge i l.length with h | h
 .rw [List.take_add_one,ub,List.length_take,Nat.min_eq_left (by omega)]
  simp [h,val]
 .rw [List.take_of_length_le (by omega),List.take_of_length_le h]
  simp [h]
theorem Jg{l:List Nat}{n:Nat}(h:l.length<=n):val (l.take n)=val l:=by rw [List.take_of_length_le h]
theorem UE(l:List Nat)(i:Nat)(h:i<l.length):val l=val (l.take i)+4294967296 ^ i*(l.getD i 0+4294967296*val (l.drop (i+1))):=by
 have e:l=l.take i++(l.getD i 0::l.drop (i+1)):=by
  rw [List.getD_eq_getElem?_getD,List.getElem?_eq_getElem h,Option.getD_some,List.getElem_cons_drop,List.take_append_drop]
 have h2:(l.take i).length=i:=by simp;omega
 calc val l=val (l.take i++(l.getD i 0::l.drop (i+1))):=congrArg val e
  _=_:=by rw [ub,h2,val]
theorem ka:∀(k n:Nat),(dig k n).length=k
 | 0,_=>rfl
 | k+1,n=>by rw [dig,List.length_cons,ka k]
theorem Uh:∀(k n:Nat),WL (dig k n)
 | 0,_=>Wc
 | k+1,n=>qc.2 ⟨Nat.mod_lt _ (by omega),Uh k _⟩
theorem Qh:∀(k n:Nat),val (dig k n)=n % 4294967296 ^ k
 | 0,n=>by simp [dig,val,Nat.mod_one]
 | k+1,n=>by rw [dig,val,Qh k,Nat.pow_succ,Nat.mul_comm (4294967296 ^ k),Nat.mod_mul]
theorem Ys:∀{l:List Nat},WL l->dig l.length (val l)=l
 | [],_=>rfl
 | x::l,h=>by
  obtain⟨h1,h2⟩:=qc.1 h;rw [List.length_cons,dig,val];rw [show(x+4294967296*val l) % 4294967296=x by omega,show(x+4294967296*val l) / 4294967296=val l by omega,Ys h2]
theorem YY{a b:List Nat}(ha:WL a)(hb:WL b)(hl:a.length=b.length)(h:val a=val b):a=b:=by
 rw [<-Ys ha,<-Ys hb,hl,h]
theorem Zb:digs 0=[]:=by rw [digs];rfl
theorem kk{n:Nat}(h:n≠0):digs n=n % 4294967296::digs (n / 4294967296):=by rw [digs,if_neg h]
theorem Wa(n:Nat):WL (digs n):=by
 induction n using Nat.strongRecOn with
 | ind n ih=>
  by_cases h:n=0
  .subst h;rw [Zb];exact Wc
  .rw [kk h];exact qc.2 ⟨Nat.mod_lt _ (by omega),ih _ (Nat.div_lt_self (by omega) (by omega))⟩
theorem Ya(n:Nat):val (digs n)=n:=by
 induction n using Nat.strongRecOn with
 | ind n ih=>
  by_cases h:n=0
  .subst h;rw [Zb];rfl
  .rw [kk h,val,ih _ (Nat.div_lt_self (by omega) (by omega))];omega
def NZ(l:List Nat):Prop:=l.getLast?≠some 0
theorem Vm(n:Nat):NZ (digs n):=by
 induction n using Nat.strongRecOn with
 | ind n ih=>
  by_cases h:n=0
  .subst h;rw [Zb];simp [NZ]
  .rw [kk h];have h2:=ih (n / 4294967296) (Nat.div_lt_self (by omega) (by omega))
   unfold NZ at h2 ⊢;by_cases hd:n / 4294967296=0
   .rw [hd,Zb];simp;omega
   .rw [kk hd]at h2 ⊢;rw [List.getLast?_cons_cons];exact h2
theorem V1{x:Nat}{l:List Nat}(h:NZ (x::l)):NZ l:=by
 cases l with
 | nil=>simp [NZ]
 | cons y l=>unfold NZ at h ⊢;rwa [List.getLast?_cons_cons]at h
theorem Jc:∀{l:List Nat},NZ l->l≠[]->val l≠0
 | [x],h,_=>by simp [NZ]at h;simp [val];exact h
 | x::y::l,h,_=>by
  have:=Jc (V1 h) (by simp)
  rw [val];omega
theorem jd:∀{l:List Nat},WL l->NZ l->digs (val l)=l
 | [],_,_=>by rw [val,Zb]
 | x::l,h,hz=>by
  obtain⟨h1,h2⟩:=qc.1 h;have hp:=Jc hz (by simp)
  rw [kk hp,val];rw [show(x+4294967296*val l) % 4294967296=x by omega,show(x+4294967296*val l) / 4294967296=val l by omega,jd h2 (V1 hz)]
theorem yi{n s:Nat}(h:n<4294967296 ^ s):(digs n).length<=s:=by
 induction s generalizing n with
 | zero=>simp at h;subst h;rw [Zb];simp
 | succ s ih=>
  by_cases hn:n=0
  .subst hn;rw [Zb];simp
  .rw [kk hn,List.length_cons];have:n / 4294967296<4294967296 ^ s:=by
    rw [Nat.div_lt_iff_lt_mul (by omega)];rwa [Nat.pow_succ]at h
   have:=ih this;omega
theorem Yg(n:Nat):n<4294967296 ^ (digs n).length:=by
 have:=Xh (Wa n)
 rwa [Ya]at this
theorem QW{n s:Nat}:(digs n).length<=s↔n<4294967296 ^ s:=
 ⟨λh=>Nat.lt_of_lt_of_le (Yg n) (Nat.pow_le_pow_right (by omega) h),yi⟩
theorem wa{a b:Nat}(h:a<=b):(digs a).length<=(digs b).length:=yi (Nat.lt_of_le_of_lt h (Yg b))
theorem Ud{n:Nat}:digs n=[]↔n=0:=by
 constructor
 .intro h;have:=Ya n;rw [h]at this;exact this.symm
 .rintro rfl;exact Zb
theorem VX{l:List Nat}(h:NZ l)(h0:l≠[]):4294967296 ^ (l.length-1)<=val l:=by
 induction l with
 | nil=>exact(h0 rfl).elim
 | cons x l ih=>
  cases l with
  | nil=>have:=Jc h h0;simp;omega
  | cons y l=>
   have:=ih (V1 h) (by simp)
   rw [val];simp only [List.length_cons,Nat.add_sub_cancel]at this ⊢;rw [Nat.pow_succ];omega
theorem VB{a b:List Nat}(ha:WL a)(hb:NZ b)(h:a.length<b.length):val a<val b:=by
 have h1:=Xh ha;have h2:=VX hb (by intro e;simp [e]at h)
 exact Nat.lt_of_lt_of_le h1 (Nat.le_trans (Nat.pow_le_pow_right (by omega) (by omega)) h2)
def ordN(a b:Nat):Int:=if a<b then -1 else if b<a then 1 else 0
theorem J5(o:List Nat)(m x:Nat):(o++List.replicate (m+1) 0).set o.length x=(o++[x])++List.replicate m 0:=by
 rw [List.set_append_right _ _ (Nat.le_refl _),Nat.sub_self,List.replicate_succ,List.set_cons_zero];simp
theorem yD{l:List Nat}{n:Nat}(h0:0<n)(hn:n<=l.length)(h:l.getD (n-1) 0≠0):NZ (l.take n):=by
 unfold NZ;rw [List.getLast?_take,if_neg (by omega)]
 rw [List.getD_eq_getElem?_getD]at h;cases e:l[n-1]? with
 | none=>rw [e]at h;exact(h rfl).elim
 | some y=>rw [e]at h;simp at h ⊢;exact h
theorem Xz{n:Nat}(h:0<n):4294967296 ^ n=4294967296 ^ (n-1)*4294967296:=by
 cases n with
 | zero=>omega
 | succ n=>rw [Nat.pow_succ,Nat.add_sub_cancel]
theorem Qx{l:List Nat}{n:Nat}(h:WL l)(hn:l.length<=n):val l<4294967296 ^ n:=
 Nat.lt_of_lt_of_le (Xh h) (Nat.pow_le_pow_right (by omega) hn)
theorem qaZ{p B v c a b:Nat}(hB:2<=B)(ha:a<p)(hb:b<p)(h:v+p*B*c=a+b):v=a+b:=by
 rcases Nat.eq_zero_or_pos c with hc | hc
 .rw [hc,Nat.mul_zero,Nat.add_zero]at h;exact h
 .have h1:p*B<=p*B*c:=Nat.le_mul_of_pos_right _ hc;have h2:p*2<=p*B:=Nat.mul_le_mul_left _ hB;omega
theorem Zab{x y:List Nat}{n v c:Nat}(hx:WL x)(hy:WL y)(hn:0<n)(h1:x.length<=n-1)(h2:y.length<=n-1)(h:v+4294967296 ^ n*c=val x+val y):v=val x+val y:=by
 rw [Xz hn]at h;exact qaZ (by omega) (Qx hx h1) (Qx hy h2) h
def sub64(a b:Nat):Nat:=(((a:Int)-(b:Int)) % 18446744073709551616).toNat
theorem Jr{a b:Nat}(h:b<=a)(ha:a<18446744073709551616):sub64 a b=a-b:=by unfold sub64;omega
theorem xae{a b:Nat}(h:a<b)(hb:b<=18446744073709551616):sub64 a b=18446744073709551616+a-b:=by unfold sub64;omega
theorem wai{a b c:Nat}(ha:a<4294967296)(hb:b<4294967296)(hc:c<=1) :
  sub64 (sub64 a b) c % 4294967296+b+c=a+4294967296*(sub64 (sub64 a b) c / 9223372036854775808)/\sub64 (sub64 a b) c / 9223372036854775808<=1:=by
 rcases Nat.lt_or_ge a b with h | h
 .rw [xae h (by omega),Jr (show c<=18446744073709551616+a-b by omega) (by omega)];omega
 .rw [Jr h (by omega)]
  rcases Nat.lt_or_ge (a-b) c with h2 | h2
  .rw [xae h2 (by omega)];omega
  .rw [Jr h2 (by omega)];omega
theorem Vz{p vo c d a b t xa xb B:Nat}(h:vo+xb=xa+p*c)(hs:d+b+c=a+B*t):vo+p*d+(xb+p*b)=xa+p*a+p*B*t:=by
 have:=congrArg (p * ·) hs;simp only [Nat.mul_add]at this;rw [Nat.mul_assoc p B t];omega
theorem QA{o x y:List Nat}{c:Nat}(ho:WL o)(hx:WL x)(hl:o.length=x.length)(hle:val y<=val x)(h:val o+val (y.take o.length)=val (x.take o.length)+4294967296 ^ o.length*c):val o=val x-val y:=by
 rw [Jg (l:=x) (by omega)]at h
 have h1:=Xh ho;have h2:=Xh hx;have h3:val y=val (y.take o.length)+4294967296 ^ o.length*val (y.drop o.length):=by
  rcases Nat.lt_or_ge o.length y.length with hh | hh
  .conv=>lhs;rw [<-List.take_append_drop o.length y,ub,List.length_take,Nat.min_eq_left (by omega)]
  .rw [List.take_of_length_le hh,List.drop_of_length_le hh];simp [val]
 rw [hl]at h h1 h3;generalize 4294967296 ^ x.length=p at h h1 h2 h3;have h4:val (y.drop x.length)=0:=by
  rcases Nat.eq_zero_or_pos (val (y.drop x.length)) with e | e
  .exact e
  .have:=Nat.le_mul_of_pos_right p e;omega
 rw [h4,Nat.mul_zero]at h3;rcases Nat.eq_zero_or_pos c with e | e
 .rw [e,Nat.mul_zero]at h;omega
 .have:=Nat.le_mul_of_pos_right p e;omega
theorem VaU{x y:List Nat}{i:Nat}(hx:WL x)(hl:x.length=y.length)(hi:i<x.length)(hd:x.drop (i+1)=y.drop (i+1))(h:x.getD i 0<y.getD i 0):val x<val y:=by
 rw [UE x i hi,UE y i (by omega),hd]
 have h1:=Xh (ko hx i);rw [List.length_take,Nat.min_eq_left (by omega)]at h1
 generalize 4294967296 ^ i=p at h1 ⊢;have:p*(x.getD i 0+4294967296*val (y.drop (i+1))+1)<=p*(y.getD i 0+4294967296*val (y.drop (i+1))):=Nat.mul_le_mul_left _ (by omega)
 rw [Nat.mul_add,Nat.mul_one]at this;omega
theorem wL{a b:Nat}(h:a<b):ordN a b = -1:=by simp [ordN,h]
theorem W0{a b:Nat}(h:b<a):ordN a b=1:=by unfold ordN;rw [if_neg (by omega),if_pos h]
theorem JaF(a:Nat):ordN a a=0:=by simp [ordN]
theorem or32(r a:Nat)(h:a<4294967296):(r*4294967296) ||| a=r*4294967296+a:=by
 have:=Nat.two_pow_add_eq_or_of_lt (i:=32) (b:=a) h r;rw [Nat.mul_comm]at this;exact this.symm
theorem or32'(r a:Nat)(h:a<4294967296):a ||| (r*4294967296)=r*4294967296+a:=by rw [Nat.or_comm,or32 r a h]
theorem kav{m r q a d B:Nat}(hm:0<m)(h:q*m+r=d):(((r*B+a) / m)+B*q)*m+(r*B+a) % m=a+B*d:=by
 have:=Nat.div_add_mod (r*B+a) m;subst h;grind
theorem UaF{m r a:Nat}(hm:m<4294967296)(hr:r<m)(ha:a<4294967296):(r*4294967296+a) / m<4294967296/\r*4294967296+a<18446744073709551616:=by
 constructor
 .rw [Nat.div_lt_iff_lt_mul (by omega)]
  have:(r+1)*4294967296<=m*4294967296:=Nat.mul_le_mul_right _ hr;rw [Nat.mul_comm m]at this;omega
 .omega
theorem vF(x:List Nat){n:Nat}(h:0<n)(hn:n<=x.length):val (x.drop (n-1))=x.getD (n-1) 0+4294967296*val (x.drop n):=by
 have:x.drop (n-1)=x.getD (n-1) 0::x.drop n:=by
  rw [List.getD_eq_getElem?_getD,List.getElem?_eq_getElem (by omega),Option.getD_some]
  have:=List.getElem_cons_drop (as:=x) (i:=n-1) (by omega)
  rw [show n-1+1=n by omega]at this
  exact this.symm
 rw [this,val]
theorem zl{n:Nat}(q:List Nat)(x:Nat)(h:0<n):(List.replicate n 0++q).set (n-1) x=List.replicate (n-1) 0++(x::q):=by
 obtain⟨n,rfl⟩:∃k,n=k+1:=⟨n-1,by omega⟩
 rw [Nat.add_sub_cancel,List.replicate_succ',List.append_assoc,List.set_append_right _ _ (by simp)]
 simp
theorem Xx{m:Nat}(h:m<32):4294967296=2 ^ (32-m)*2 ^ m:=by
 rw [<-Nat.pow_add,show 32-m+m=32 by omega]
theorem xN{m:Nat}(h:m<32):2 ^ m<=2147483648:=by
 have:=Nat.pow_le_pow_right (show 2 > 0 by omega) (show m<=31 by omega)
 exact this
theorem Ja1{m c x:Nat}(hm:m<32)(hc:c<2 ^ m)(hx:x<4294967296) :
  x*2 ^ m<18446744073709551616/\c ||| (x*2 ^ m % 4294967296)=x*2 ^ m % 4294967296+c/\x*2 ^ m % 4294967296+c<4294967296/\x*2 ^ m / 4294967296<2 ^ m:=by
 have hp:=xN hm;have h0:0<2 ^ m:=Nat.pow_pos (by omega)
 have e:x*2 ^ m % 4294967296=(x % 2 ^ (32-m))*2 ^ m:=by
  rw [Xx hm,Nat.mul_mod_mul_right]
 have h1:x*2 ^ m<=x*2147483648:=Nat.mul_le_mul_left _ hp;refine⟨by omega,?_,?_,?_⟩
 .rw [e];have:=Nat.two_pow_add_eq_or_of_lt (i:=m) (b:=c) hc (x % 2 ^ (32-m));rw [Nat.or_comm,Nat.mul_comm (x % 2 ^ (32-m)),this]
 .rw [e];have h2:x % 2 ^ (32-m)<2 ^ (32-m):=Nat.mod_lt _ (Nat.pow_pos (by omega))
  have h3:(x % 2 ^ (32-m)+1)*2 ^ m<=2 ^ (32-m)*2 ^ m:=Nat.mul_le_mul_right _ h2;rw [<-Xx hm,Nat.add_mul]at h3;omega
 .rw [Nat.div_lt_iff_lt_mul (by omega),Nat.mul_comm (2 ^ m)]
  exact Nat.mul_lt_mul_of_pos_right hx h0
theorem Ybe{p o c x y t B:Nat}(h:o+p*c=t)(hy:x=y):o+p*(y % B+c)+p*B*(y / B)=t+p*x:=by
 have:=Nat.mod_add_div y B;grind
theorem jbc(o:List Nat)(c v:Nat)(l:List Nat):(o++c::l).set o.length v=o++v::l:=by
 rw [List.set_append_right _ _ (Nat.le_refl _),Nat.sub_self,List.set_cons_zero]
theorem Va2(o:List Nat)(c d v:Nat)(l:List Nat):(o++c::d::l).set (o.length+1) v=(o++[c])++v::l:=by
 rw [List.set_append_right _ _ (by omega),show o.length+1-o.length=1 by omega];simp
theorem vbb(o:List Nat)(c:Nat)(l:List Nat):(o++c::l).getD o.length 0=c:=by simp [List.getD_eq_getElem?_getD]
theorem qV{x:List Nat}{i m:Nat}(hx:WL x)(hm:m<32):(x.getD i 0+4294967296*x.getD (i+1) 0) / 2 ^ m % 4294967296=val x / 2 ^ m / 4294967296 ^ i % 4294967296:=by
 have e:val x / 2 ^ m / 4294967296 ^ i=val (x.drop i) / 2 ^ m:=by
  rw [Nat.div_div_eq_div_mul,Nat.mul_comm,<-Nat.div_div_eq_div_mul];congr 1;rcases Nat.lt_or_ge i x.length with h | h
  .have h1:val x=val (x.take i)+4294967296 ^ i*val (x.drop i):=by
    conv=>lhs;rw [<-List.take_append_drop i x,ub,List.length_take,Nat.min_eq_left (by omega)]
   have h2:=Xh (ko hx i);rw [List.length_take,Nat.min_eq_left (by omega)]at h2
   rw [h1,Nat.add_mul_div_left _ _ (pow_pos i),Nat.div_eq_of_lt h2,Nat.zero_add]
  .rw [List.drop_of_length_le h,Nat.div_eq_of_lt (Qx hx h)];rfl
 have e2:∃r,val (x.drop i)=x.getD i 0+4294967296*x.getD (i+1) 0+4294967296*(4294967296*r):=by
  have gd:∀j,x.getD j 0+4294967296*val (x.drop (j+1))=val (x.drop j):=by
   intro j;rcases Nat.lt_or_ge j x.length with h | h
   .have:=vF x (n:=j+1) (by omega) (by omega)
    simp only [Nat.add_sub_cancel]at this;exact this.symm
   .rw [List.drop_of_length_le h,List.drop_of_length_le (by omega),List.getD_eq_getElem?_getD,List.getElem?_eq_none h];rfl
  refine⟨val (x.drop (i+2)),?_⟩;rw [<-gd i,<-gd (i+1),Nat.mul_add,<-Nat.add_assoc]
 obtain⟨r,e2⟩:=e2;rw [e,e2];generalize x.getD i 0+4294967296*x.getD (i+1) 0=a;have h3:4294967296*(4294967296*r)=2 ^ m*(4294967296*(2 ^ (32-m)*r)):=by
  have h4:=Xx hm;generalize 4294967296=B at h4 ⊢;subst h4;grind
 rw [h3,Nat.add_mul_div_left _ _ (Nat.pow_pos (by omega)),Nat.add_mul_mod_self_left]
theorem Qy(n B i:Nat):n % B ^ (i+1)=n % B ^ i+B ^ i*(n / B ^ i % B):=by
 rw [Nat.pow_succ,Nat.mod_mul]
theorem qZ:∀(l:List Nat) (j x:Nat),j<l.length->val (l.set j x)+4294967296 ^ j*l.getD j 0=val l+4294967296 ^ j*x
 | y::l,0,x,_=>by simp [val];omega
 | y::l,j+1,x,h=>by
  have:=qZ l j x (by simpa using h)
  rw [List.set_cons_succ,val,val,List.getD_cons_succ,Nat.pow_succ];generalize 4294967296=B at this ⊢;grind
theorem UaT{l:List Nat}(h:WL l)(j:Nat){x:Nat}(hx:x<4294967296):WL (l.set j x):=λy hy=>by
 rcases List.mem_or_eq_of_mem_set hy with h1 | h1
 .exact h y h1
 .omega
theorem getD_set_ne{l:List Nat}{i j x:Nat}(h:i≠j):(l.set i x).getD j 0=l.getD j 0:=by
 simp only [List.getD_eq_getElem?_getD,List.getElem?_set_ne h]
theorem uac{a b c d:Nat}(ha:a<4294967296)(hb:b<4294967296)(hc:c<4294967296)(hd:d<4294967296):c+(a*b+d)<18446744073709551616:=by
 have:=Nat.mul_le_mul (Nat.le_of_lt_succ (show a<4294967295+1 by omega)) (Nat.le_of_lt_succ (show b<4294967295+1 by omega))
 omega
theorem Xan{v v' p P c o a b s t B:Nat}(h:v+p*P*c=t)(hset:v' + p*P*o=v+p*P*(s % B))(hs:c+(a*b+o)=s):v' + p*(P*B)*(s / B)=t+p*a*(P*b):=by
 have:=Nat.mod_add_div s B;grind
theorem uak{x y o:List Nat}{i k c s:Nat}(h:val o+4294967296 ^ i*4294967296 ^ k*c=val (x.take i)*val y+4294967296 ^ i*x.getD i 0*val (y.take k))(hl:i+k<o.length)
  (hs:c+(x.getD i 0*y.getD k 0+o.getD (i+k) 0)=s) :
  val (o.set (i+k) (s % 4294967296))+4294967296 ^ i*4294967296 ^ (k+1)*(s / 4294967296)=val (x.take i)*val y+4294967296 ^ i*x.getD i 0*val (y.take (k+1)):=by
 have h1:=qZ o (i+k) (s % 4294967296) hl;rw [Nat.pow_add]at h1;have:=Xan (B:=4294967296) h h1 hs;rw [kb,Nat.mul_add,<-Nat.add_assoc,Nat.pow_succ];exact this
theorem uaE{x y o:List Nat}{i c:Nat}(h:val o+4294967296 ^ i*4294967296 ^ y.length*c=val (x.take i)*val y+4294967296 ^ i*x.getD i 0*val (y.take y.length))(hl:i+y.length<o.length)(hz:o.getD (i+y.length) 0=0) :
  val (o.set (i+y.length) c)=val (x.take (i+1))*val y:=by
 have h1:=qZ o (i+y.length) c hl;rw [hz,Nat.mul_zero,Nat.add_zero,Nat.pow_add,h,Jg (Nat.le_refl _)]at h1;rw [h1,kb,Nat.add_mul]
theorem xan(pre o seg post:List Nat)(h:o.length<seg.length):(pre++(o++seg.drop o.length)++post).getD (pre.length+o.length) 0=seg.getD o.length 0:=by
 simp only [List.getD_eq_getElem?_getD];rw [List.getElem?_append_left (by simp;omega),List.getElem?_append_right (by omega),show pre.length+o.length-pre.length=o.length by omega,List.getElem?_append_right (Nat.le_refl _),Nat.sub_self,List.getElem?_drop,Nat.add_zero]
theorem zY(pre o seg post:List Nat)(x:Nat)(h:o.length<seg.length):(pre++(o++seg.drop o.length)++post).set (pre.length+o.length) x=pre++((o++[x])++seg.drop (o++[x]).length)++post:=by
 rw [List.set_append_left _ _ (by simp;omega),List.set_append_right _ _ (by omega),show pre.length+o.length-pre.length=o.length by omega,List.set_append_right _ _ (Nat.le_refl _),Nat.sub_self]
 rw [<-List.getElem_cons_drop (as:=seg) (i:=o.length) h,List.set_cons_zero];simp
theorem JaC{m c v B:Nat}(hm:m<=B)(hv:v<B)(hc:c=0∨c<m):c+m*v<B*B/\((c+m*v) / B=0∨(c+m*v) / B<m):=by
 have h1:m*v<=m*(B-1):=Nat.mul_le_mul_left _ (by omega)
 have h2:m*(B-1)+m=m*B:=by
  obtain⟨k,rfl⟩:∃k,B=k+1:=⟨B-1,by omega⟩
  rw [Nat.add_sub_cancel,Nat.mul_add,Nat.mul_one]
 have h3:m*B<=B*B:=Nat.mul_le_mul_right _ hm;rcases Nat.eq_zero_or_pos m with h | h
 .subst h;have:c=0:=by omega
  subst this;exact⟨by rw [Nat.zero_mul,Nat.add_zero];exact Nat.mul_pos (by omega) (by omega),.inl (by simp)⟩
 .have h4:c+m*v<m*B:=by omega
  exact⟨by omega,.inr ((Nat.div_lt_iff_lt_mul (by omega)).2 h4)⟩
theorem yaM{p P c m V v B:Nat}(h:p+P*c=m*V):p+P*((c+m*v) % B)+P*B*((c+m*v) / B)=m*(V+P*v):=by
 have:=Nat.mod_add_div (c+m*v) B;grind
theorem yaJ{vo p P S b d low u t B:Nat}(h:vo+p=S+P*b)(hs:d+low+b=u+B*t):vo+P*d+(p+P*low)=S+P*u+P*B*t:=by
 have:=congrArg (P * ·) hs;simp only [Nat.mul_add]at this;rw [Nat.mul_assoc P B t];omega
theorem yaW{o:List Nat}{n p c b S mv:Nat}(ho:WL o)(hl:o.length=n)(h1:p+4294967296 ^ n*c=mv)(hlt:mv<4294967296 ^ n)(h2:val o+p=S+4294967296 ^ n*b)(hb:b<=1) :
  o=dig n (S+4294967296 ^ n-mv)/\(b=1↔S<mv):=by
 have hv:=Xh ho;rw [hl]at hv;have hd:=Ys ho;rw [hl]at hd;generalize hP:4294967296 ^ n=P at *
 have hc:c=0:=by
  rcases Nat.eq_zero_or_pos c with h | h
  .exact h
  .have:=Nat.le_mul_of_pos_right P h;omega
 subst hc;rw [Nat.mul_zero,Nat.add_zero]at h1;subst h1;have key:∀k,val o+k*P=S+P-p->o=dig n (S+P-p):=by
  intro k hk;refine YY ho (Uh _ _) (by rw [ka,hl]) ?_
  rw [Qh,hP,<-hk,Nat.add_mul_mod_self_right,Nat.mod_eq_of_lt hv]
 rcases Nat.eq_zero_or_pos b with h | h
 .subst h;rw [Nat.mul_zero,Nat.add_zero]at h2;exact⟨key 1 (by omega),by omega⟩
 .have:b=1:=by omega
  subst this;rw [Nat.mul_one]at h2;exact⟨key 0 (by omega),by omega⟩
theorem yaH{o:List Nat}{n c S V:Nat}(ho:WL o)(hl:o.length=n)(h:val o+4294967296 ^ n*c=S+V):o=dig n (S+V):=by
 have hv:=Xh ho;rw [hl]at hv;refine YY ho (Uh _ _) (by rw [ka,hl]) ?_
 rw [Qh,<-h,Nat.add_mul_mod_self_left,Nat.mod_eq_of_lt hv]
theorem XaF{p c xa xb vo a b s B:Nat}(h:vo+p*c=xa+xb)(hs:c+(a+b)=s):vo+p*(s % B)+p*B*(s / B)=xa+p*a+(xb+p*b):=by
 have:=Nat.mod_add_div s B;grind
end Go.Num
end
section
attribute [go_sem] List.length_cons List.length_nil List.length_map List.map_cons List.map_nil List.flatMap_cons List.flatMap_nil List.append_nil List.nil_append List.drop_zero List.take_zero decide_eq_true_eq decide_eq_false_iff_not true_implies true_and and_true Nat.sub_zero forall_const Bool.true_eq_false Bool.false_eq_true false_implies Int.toNat_natCast Bool.not_true Bool.not_false decide_true decide_false zOI implies_true not_false_eq_true Nat.zero_add List.take_of_length_le List.drop_of_length_le Nat.le_refl List.set_cons_zero List.drop_succ_cons List.take_succ_cons List.cons_append List.getElem?_cons_zero List.getElem?_cons_succ forall_eq'
namespace Go.Abs
open Go.Num
theorem vt{β:Type}{G:List AV->(β->Prop)->Prop}(h:∀as,GoodT (G as)):Good G:=
 ⟨λhm hk=>(h _).mono hm hk,λhk=>(h _).some hk,λhk=>(h _).all hk⟩
abbrev q_T:=List AV->(AV->Prop)->Prop
abbrev q_F:=List AV->(List (List C)->Prop)->Prop
def q_c0{β:Type}(B:(β->Prop)->Prop)(l:List AV)(K:β->Prop):Prop:=
 match l with
 | []=>B K
 | _=>False
theorem q_e0{β:Type}(B:(β->Prop)->Prop)(K:β->Prop):q_c0 B [] K=B K:=propext Iff.rfl
@[congr] theorem q_k0 {β:Type} {B:(β->Prop)->Prop} {K:β->Prop} {l l' : List AV} (h:l=l'):q_c0 B l K=q_c0 B l' K:=h▸rfl
theorem q_g0{β:Type}{B:(β->Prop)->Prop}(h:GoodT (B)):Good (q_c0 B):=vt λl=>by
 unfold q_c0;split
 . exact h 
 . exact .of λK hk=>hk.elim
def q_c1{β:Type}(B:AV->(β->Prop)->Prop)(l:List AV)(K:β->Prop):Prop:=
 match l with
 | [a]=>B a K
 | _=>False
theorem q_e1{β:Type}(B:AV->(β->Prop)->Prop) a(K:β->Prop):q_c1 B [a] K=B a K:=propext Iff.rfl
@[congr] theorem q_k1 {β:Type} {B:AV->(β->Prop)->Prop} {K:β->Prop} {l l' : List AV} (h:l=l'):q_c1 B l K=q_c1 B l' K:=h▸rfl
theorem q_g1{β:Type}{B:AV->(β->Prop)->Prop}(h:∀a,GoodT (B a)):Good (q_c1 B):=vt λl=>by
 unfold q_c1;split
 . exact h _
 . exact .of λK hk=>hk.elim
def q_c2{β:Type}(B:AV->AV->(β->Prop)->Prop)(l:List AV)(K:β->Prop):Prop:=
 match l with
 | [a,b]=>B a b K
 | _=>False
theorem q_e2{β:Type}(B:AV->AV->(β->Prop)->Prop) a b(K:β->Prop):q_c2 B [a,b] K=B a b K:=propext Iff.rfl
@[congr] theorem q_k2 {β:Type} {B:AV->AV->(β->Prop)->Prop} {K:β->Prop} {l l' : List AV} (h:l=l'):q_c2 B l K=q_c2 B l' K:=h▸rfl
theorem q_g2{β:Type}{B:AV->AV->(β->Prop)->Prop}(h:∀a b,GoodT (B a b)):Good (q_c2 B):=vt λl=>by
 unfold q_c2;split
 . exact h _ _
 . exact .of λK hk=>hk.elim
def q_c3{β:Type}(B:AV->AV->AV->(β->Prop)->Prop)(l:List AV)(K:β->Prop):Prop:=
 match l with
 | [a,b,c]=>B a b c K
 | _=>False
theorem q_e3{β:Type}(B:AV->AV->AV->(β->Prop)->Prop) a b c(K:β->Prop):q_c3 B [a,b,c] K=B a b c K:=propext Iff.rfl
@[congr] theorem q_k3 {β:Type} {B:AV->AV->AV->(β->Prop)->Prop} {K:β->Prop} {l l' : List AV} (h:l=l'):q_c3 B l K=q_c3 B l' K:=h▸rfl
theorem q_g3{β:Type}{B:AV->AV->AV->(β->Prop)->Prop}(h:∀a b c,GoodT (B a b c)):Good (q_c3 B):=vt λl=>by
 unfold q_c3;split
 . exact h _ _ _
 . exact .of λK hk=>hk.elim
def q_c4{β:Type}(B:AV->AV->AV->AV->(β->Prop)->Prop)(l:List AV)(K:β->Prop):Prop:=
 match l with
 | [a,b,c,d]=>B a b c d K
 | _=>False
theorem q_e4{β:Type}(B:AV->AV->AV->AV->(β->Prop)->Prop) a b c d(K:β->Prop):q_c4 B [a,b,c,d] K=B a b c d K:=propext Iff.rfl
@[congr] theorem q_k4 {β:Type} {B:AV->AV->AV->AV->(β->Prop)->Prop} {K:β->Prop} {l l' : List AV} (h:l=l'):q_c4 B l K=q_c4 B l' K:=h▸rfl
theorem q_g4{β:Type}{B:AV->AV->AV->AV->(β->Prop)->Prop}(h:∀a b c d,GoodT (B a b c d)):Good (q_c4 B):=vt λl=>by
 unfold q_c4;split
 . exact h _ _ _ _
 . exact .of λK hk=>hk.elim
def q_c5{β:Type}(B:AV->AV->AV->AV->AV->(β->Prop)->Prop)(l:List AV)(K:β->Prop):Prop:=
 match l with
 | [a,b,c,d,e]=>B a b c d e K
 | _=>False
theorem q_e5{β:Type}(B:AV->AV->AV->AV->AV->(β->Prop)->Prop) a b c d e(K:β->Prop):q_c5 B [a,b,c,d,e] K=B a b c d e K:=propext Iff.rfl
@[congr] theorem q_k5 {β:Type} {B:AV->AV->AV->AV->AV->(β->Prop)->Prop} {K:β->Prop} {l l' : List AV} (h:l=l'):q_c5 B l K=q_c5 B l' K:=h▸rfl
theorem q_g5{β:Type}{B:AV->AV->AV->AV->AV->(β->Prop)->Prop}(h:∀a b c d e,GoodT (B a b c d e)):Good (q_c5 B):=vt λl=>by
 unfold q_c5;split
 . exact h _ _ _ _ _
 . exact .of λK hk=>hk.elim
def q_c6{β:Type}(B:AV->AV->AV->AV->AV->AV->(β->Prop)->Prop)(l:List AV)(K:β->Prop):Prop:=
 match l with
 | [a,b,c,d,e,f]=>B a b c d e f K
 | _=>False
theorem q_e6{β:Type}(B:AV->AV->AV->AV->AV->AV->(β->Prop)->Prop) a b c d e f(K:β->Prop):q_c6 B [a,b,c,d,e,f] K=B a b c d e f K:=propext Iff.rfl
@[congr] theorem q_k6 {β:Type} {B:AV->AV->AV->AV->AV->AV->(β->Prop)->Prop} {K:β->Prop} {l l' : List AV} (h:l=l'):q_c6 B l K=q_c6 B l' K:=h▸rfl
theorem q_g6{β:Type}{B:AV->AV->AV->AV->AV->AV->(β->Prop)->Prop}(h:∀a b c d e f,GoodT (B a b c d e f)):Good (q_c6 B):=vt λl=>by
 unfold q_c6;split
 . exact h _ _ _ _ _ _
 . exact .of λK hk=>hk.elim
attribute [go_sem,go_sem ↓] q_e0 q_e1 q_e2 q_e3 q_e4 q_e5 q_e6
def onE{α:Type}(e:α->AV)(k:α->Prop)(a:AV):Prop:=∃x,a=e x/\k x
@[congr] theorem ybn{α:Type}{e:α->AV}{k:α->Prop}{a a'}(h:a=a'):onE e k a=onE e k a':=by subst h;rfl
theorem Vj{α:Type}{e:α->AV}(inj:∀x y,e x=e y->x=y)(k:α->Prop)(x:α):onE e k (e x)=k x:=
 propext ⟨λ⟨y,h,hk⟩=>inj _ _ h▸hk,λhk=>⟨x,rfl,hk⟩⟩
theorem Yak{α β:Type}{e:α->AV}{T:α->(β->Prop)->Prop}(inj:∀x y,e x=e y->x=y)(h:∀x,GoodT (T x)){a:AV}:GoodT λK=>onE e (λx=>T x K) a:=
 .of λK ⟨x,hx,_⟩=>by
  subst hx;have:(λK=>onE e (λy=>T y K) (e x))=T x:=funext λK=>Vj inj _ _;rw [this];exact h x
def wc(x:Nat):List C:=[.lit (.int .u32 x)]
def ws(l:List Nat):C:=.slice (l.map wc)
def wsA(l:List Nat):AV:=.one (ws l)
theorem wa5(x:Nat):wc x=[.lit (.int .u32 x)]:=eq_of_heq (HEq.refl _)
theorem Vba{x y:Nat}(h:wc x=wc y):x=y:=by
 simp only [wc,List.cons.injEq,C.lit.injEq,Value.int.injEq,true_and,and_true]at h;exact Int.ofNat_inj.1 h
theorem UH{x y:List Nat}(h:x.map wc=y.map wc):x=y:=List.map_inj_right (λ_ _=>Vba) |>.1 h
theorem jp(x y:List Nat)(h:wsA x=wsA y):x=y:=by
 simp only [wsA,ws,AV.one.injEq,C.slice.injEq]at h;exact UH h
def onWs(k:List Nat->Prop)(a:AV):Prop:=onE wsA (λl=>WL l/\k l) a
@[congr] theorem ybk{k:List Nat->Prop}{a a'}(h:a=a'):onWs k a=onWs k a':=by subst h;rfl
theorem wF(k:List Nat->Prop)(l:List Nat):onWs k (.one (.slice (l.map wc)))=(WL l/\k l):=Vj jp (λl=>WL l/\k l) l
theorem Wac(k:List Nat->Prop):onWs k (.one (.slice []))=(WL []/\k []):=Vj jp (λl=>WL l/\k l) []
theorem Qau(k:List Nat->Prop)(x:Nat):onWs k (.one (.slice [[.lit (.int .u32 x)]]))=(WL [x]/\k [x]):=Vj jp (λl=>WL l/\k l) [x]
theorem Yay(k:List Nat->Prop)(x y:Nat):onWs k (.one (.slice [[.lit (.int .u32 x)],[.lit (.int .u32 y)]]))=(WL [x,y]/\k [x,y]):=Vj jp (λl=>WL l/\k l) [x,y]
theorem jg{β:Type}{T:List Nat->(β->Prop)->Prop}(h:∀l,GoodT (T l)){a:AV}:GoodT λK=>onWs (λl=>T l K) a:=
 Yak (T:=λl K=>WL l/\T l K) jp λl=>.and λ_=>h l
theorem uba(l:List Nat):ws l=.slice (l.map wc):=eq_of_heq (HEq.refl _)
theorem vaq(K:List C->Prop)(l:List Nat)(i:Nat):getE K (l.map wc) i=(i<l.length/\K (wc (l.getD i 0))):=by
 simp only [getE,List.length_map,List.getElem?_map];refine propext ⟨λh=>⟨h.1,h.2 _ (by simp [h.1,List.getD_eq_getElem?_getD])⟩,λh=>⟨h.1,λe he=>?_⟩⟩
 simp [h.1]at he;subst he;simpa [List.getD_eq_getElem?_getD,h.1] using h.2
theorem vG(x:Nat):CleanL (wc x)=True:=eq_true λc hc=>by simp [wc]at hc;subst hc;exact .lit _
theorem yc(l:List Nat):CleanR (l.map wc)=True:=Uw wc l vG
theorem uaQ(x:Nat):(wc x).length=1:=eq_of_heq (HEq.refl _)
theorem jaS(l:List Nat):(∀e∈l.map wc,e.length=1)=True:=eq_true λe he=>by
 obtain⟨x,_,rfl⟩:=List.mem_map.1 he;rfl
theorem Wa8(n:Nat):List.replicate n [C.lit (.int .u32 0)]=(List.replicate n 0).map wc:=by simp [wc]
theorem va6(l:List Nat)(i x:Nat):(l.map wc).set i [C.lit (.int .u32 x)]=(l.set i x).map wc:=by rw [List.map_set];rfl
theorem xaZ(l:List Nat)(i:Nat):(l.map wc).take i=(l.take i).map wc:=by rw [List.map_take]
theorem waW(l:List Nat)(i:Nat):(l.map wc).drop i=(l.drop i).map wc:=by rw [List.map_drop]
theorem Qa0(l:List Nat)(b:Prop)[Decidable b]:datO (if b then some (l.map wc) else none)=(if b then .slice (l.map wc) else .any):=by
 split
 .exact kF _ (of_eq_true (yc l))
 .rfl
theorem XaR(l:List Nat):wsA l=.one (.slice (l.map wc)):=eq_of_heq (HEq.refl _)
theorem vbc(a b:Nat):mx (a:Int) (b:Int)=((max a b:Nat):Int):=by unfold mx;split <;> omega
theorem ua6(a b:Nat):mn (a:Int) (b:Int)=((min a b:Nat):Int):=by unfold mn;split <;> omega
theorem Ya5(a b:Nat):(a:Int)+(b:Int)=((a+b:Nat):Int):=by omega
theorem zaH(a:Nat):(a:Int)+1=((a+1:Nat):Int):=by omega
theorem qaY(a b:Nat):(a:Int)*(b:Int)=((a*b:Nat):Int):=(Int.natCast_mul a b).symm
theorem mod32(a:Nat):(a:Int) % 4294967296=((a % 4294967296:Nat):Int):=by omega
theorem mod64(a:Nat):(a:Int) % 18446744073709551616=((a % 18446744073709551616:Nat):Int):=by omega
theorem shr32(a:Nat):(a:Int) / 2 ^ (32:Int).toNat=((a / 4294967296:Nat):Int):=by
 show(a:Int) / 4294967296=_;omega
theorem JaX(a b:Nat):((a:Int)<(b:Int))=(a<b):=propext Int.ofNat_lt
theorem Za1(a b:Nat):((a:Int)<=(b:Int))=(a<=b):=propext Int.ofNat_le
theorem ka0(a b:Nat):((a:Int)=(b:Int))=(a=b):=propext Int.ofNat_inj
theorem QaY(a:Nat):(0<=(a:Int))=True:=eq_true (by omega)
theorem QaJ(a:Nat):(-9223372036854775808<=(a:Int))=True:=eq_true (by omega)
theorem ZaN(a:Nat):((a:Int)=0)=(a=0):=propext (by omega)
theorem vaH(a:Nat):(0<(a:Int))=(0<a):=propext (by omega)
theorem Vap(a b:Nat):((a:Int)-(b:Int)) % 18446744073709551616=((sub64 a b:Nat):Int):=by unfold sub64;omega
theorem Qa2(a:Nat):((a:Int)-1) % 18446744073709551616=((sub64 a 1:Nat):Int):=by unfold sub64;omega
theorem shr63(a:Nat):(a:Int) / 2 ^ (63:Int).toNat=((a / 9223372036854775808:Nat):Int):=by
 show(a:Int) / 9223372036854775808=_;omega
theorem shl32(a:Nat):(a:Int)*2 ^ (32:Int).toNat=((a*4294967296:Nat):Int):=by
 show(a:Int)*4294967296=_;omega
theorem uaa(K:AV->Prop)(k:IntKind)(a b:Nat):arith K .or k (a:Int) (b:Int)=((k.signed=false/\a<2 ^ k.bits/\b<2 ^ k.bits)/\intR K k ((a ||| b:Nat):Int)):=by
 have h:∀n:Nat,((n:Int)<2 ^ k.bits)=(n<2 ^ k.bits):=λn=>propext ⟨λh=>by exact_mod_cast h,λh=>by exact_mod_cast h⟩
 simp only [arith,h];exact propext ⟨λ⟨⟨h1,_,_,h2,h3⟩,h4⟩=>⟨⟨h1,h2,h3⟩,h4⟩,λ⟨⟨h1,h2,h3⟩,h4⟩=>⟨⟨h1,by omega,by omega,h2,h3⟩,h4⟩⟩
theorem YC(K:AV->Prop)(k:IntKind)(a b:Nat):arith K .and k (a:Int) (b:Int)=((k.signed=false/\a<2 ^ k.bits/\b<2 ^ k.bits)/\intR K k ((a &&& b:Nat):Int)):=by
 have h:∀n:Nat,((n:Int)<2 ^ k.bits)=(n<2 ^ k.bits):=λn=>propext ⟨λh=>by exact_mod_cast h,λh=>by exact_mod_cast h⟩
 simp only [arith,h];exact propext ⟨λ⟨⟨h1,_,_,h2,h3⟩,h4⟩=>⟨⟨h1,h2,h3⟩,h4⟩,λ⟨⟨h1,h2,h3⟩,h4⟩=>⟨⟨h1,by omega,by omega,h2,h3⟩,h4⟩⟩
theorem kal(K:AV->Prop)(k:IntKind)(a:Nat)(hk:k.signed=false)(h2:1<2 ^ k.bits):arith K .and k (a:Int) 1=(a<2 ^ k.bits/\intR K k ((a % 2:Nat):Int)):=by
 have:=YC K k a 1;simp only [hk,h2,Nat.and_one_is_mod,true_and,and_true]at this;exact this
attribute [go_sem,go_sem ↓] uaa YC
theorem yak(n:Nat):Int.ofNat n=(n:Int):=eq_of_heq (HEq.refl _)
theorem Wa0(a b:Nat):(a:Int) / (b:Int)=((a / b:Nat):Int):=(Int.natCast_ediv a b).symm
theorem Ya1(a b:Nat):(a:Int) % (b:Int)=((a % b:Nat):Int):=(Int.natCast_emod a b).symm
theorem WaZ(a n:Nat):(a:Int)*2 ^ n=((a*2 ^ n:Nat):Int):=by rw [Int.natCast_mul,Int.natCast_pow];rfl
theorem qa5(a n:Nat):(a:Int) / 2 ^ n=((a / 2 ^ n:Nat):Int):=by rw [Int.natCast_ediv,Int.natCast_pow];rfl
theorem jam(n:Nat):((n:Int)+1).toNat=n+1:=by omega
attribute [go_sem] Vap Qa2 shr63 shl32 yak Wa0 Ya1 WaZ qa5 jam
attribute [go_sem] vbc ua6 Ya5 zaH qaY mod32 mod64 shr32 JaX Za1 ka0 QaY QaJ ZaN vaH
attribute [go_sem] XaR wF Wac Qau Yay vaq vG yc uaQ jaS wa5 uba Wa8 va6 xaZ waW Qa0
attribute [go_sem ↓] XaR wF Wac Qau Yay vaq vG yc uaQ jaS wa5 uba
theorem WQ:maxLenA=9223372036854775807:=eq_of_heq (HEq.refl _)
theorem Qao:roomA=68719476736:=eq_of_heq (HEq.refl _)
attribute [go_sem,go_sem ↓] WQ Qao
theorem Jf{h' : Nat->HB}{k v v' z:Nat}{b:Bool}{l l' : List Nat}{r:List (Nat×HB)}(e:l=l'):okH (mkH ((k,⟨v,some ⟨l.map wc,z,b⟩⟩)::r)) h' [(k,⟨v',some ⟨l'.map wc,z,b⟩⟩)]:=by
 subst e;have:CleanR (l.map wc):=of_eq_true (yc l);simp [okH,Qb,okB,this]
theorem jb{h h' : Nat->HB}{z:Nat}{b:Bool}{l l' : List Nat}(e:l=l'):okB h h' (some ⟨l.map wc,z,b⟩) (some ⟨l'.map wc,z,b⟩):=by
 subst e;exact⟨⟨rfl,rfl⟩,.inl ⟨rfl,of_eq_true (yc l)⟩⟩
def lim:Nat:=17179869184
def kp:q_T:=q_c1 λa K=>onWs (λl=>l.length<=68719476736/\K (.one (.slice ((digs (val l)).map wc)))) a
theorem Var:Good kp:=q_g1 λ_=>(jg λ_=>(.and λ_=>(.ret _)))
def Qj:q_T:=q_c2 λa i K=>onWs (λl=>asInt (λk n=>k=.i64/\0<=n/\K (.one (.lit (.int .u64 (l.getD n.toNat 0))))) i) a
theorem jap:Good Qj:=q_g2 λ_ _=>(jg λ_=>(ke (λ_ _=>(.and λ_=>(.and λ_=>(.ret _)))) _))
def vp:q_T:=q_c2 λa b K=>onWs (λx=>onWs (λy=>x.length<=17179869184/\y.length<=17179869184/\K (.one (.slice ((digs (val x+val y)).map wc)))) b) a
theorem XU:Good vp:=q_g2 λ_ _=>(jg λ_=>(jg λ_=>(.and λ_=>(.and λ_=>(.ret _)))))
def Yp:q_T:=q_c2 λa b K=>onWs (λx=>onWs (λy=>x.length<=68719476736/\val y<=val x/\K (.one (.slice ((digs (val x-val y)).map wc)))) b) a
theorem VW:Good Yp:=q_g2 λ_ _=>(jg λ_=>(jg λ_=>(.and λ_=>(.and λ_=>(.ret _)))))
def Jj:q_T:=q_c2 λa b K=>onWs (λx=>onWs (λy=>NZ x/\NZ y/\K (.one (.lit (.int .i64 (ordN (val x) (val y)))))) b) a
theorem VV:Good Jj:=q_g2 λ_ _=>(jg λ_=>(jg λ_=>(.and λ_=>(.and λ_=>(.ret _)))))
def yw:q_T:=q_c2 λa b K=>onWs (λx=>onWs (λy=>x.length<=17179869184/\y.length<=17179869184/\K (.one (.slice ((digs (val x*val y)).map wc)))) b) a
theorem Vam:Good yw:=q_g2 λ_ _=>(jg λ_=>(jg λ_=>(.and λ_=>(.and λ_=>(.ret _)))))
def ux:q_T:=q_c2 λa b K=>onWs (λx=>asInt (λk n=>k=.u32/\0<n/\n<4294967296/\x.length<=68719476736/\K (.tup [.one (.slice ((digs (val x / n.toNat)).map wc)),.one (.lit (.int .u32 ((val x % n.toNat:Nat):Int)))])) b) a
theorem Wan:Good ux:=q_g2 λ_ _=>(jg λ_=>(ke (λ_ _=>(.and λ_=>(.and λ_=>(.and λ_=>(.and λ_=>(.ret _)))))) _))
def lz_G:q_T:=q_c1 λa K=>asInt (λk n=>k=.u32/\0<=n/\n<4294967296/\K (.one (.lit (.int .i64 (32-(Lib.bitLen n.toNat:Int)))))) a
theorem waV:Good lz_G:=q_g1 λ_=>(ke (λ_ _=>(.and λ_=>(.and λ_=>(.and λ_=>(.ret _))))) _)
def zp:q_T:=q_c2 λa b K=>onWs (λx=>onWs (λy=>NZ x/\NZ y/\y≠[]/\x.length<=17179869184/\y.length<=17179869184/\K (.tup [.one (.slice ((digs (val x / val y)).map wc)),.one (.slice ((digs (val x % val y)).map wc))])) b) a
theorem U0:Good zp:=q_g2 λ_ _=>(jg λ_=>(jg λ_=>(.and λ_=>(.and λ_=>(.and λ_=>(.and λ_=>(.and λ_=>(.ret _))))))))
def up_G:q_F:=q_c2 λa n K=>onWs (λx=>asInt (λk n=>k=.i64/\0<=n/\n<32/\x.length<=17179869184/\K ((dig (x.length+1) (val x*2 ^ n.toNat)).map wc)) n) a
theorem ya5:Good up_G:=q_g2 λ_ _=>(jg λ_=>(ke (λ_ _=>(.and λ_=>(.and λ_=>(.and λ_=>(.and λ_=>(.ret _)))))) _))
def QL:q_T:=q_c2 λa n K=>onWs (λx=>asInt (λk n=>k=.i64/\0<=n/\n<32/\x.length<=68719476736/\K (.one (.slice ((digs (val x / 2 ^ n.toNat)).map wc)))) n) a
theorem Uav:Good QL:=q_g2 λ_ _=>(jg λ_=>(ke (λ_ _=>(.and λ_=>(.and λ_=>(.and λ_=>(.and λ_=>(.ret _)))))) _))
attribute [go_sem] kp Qj vp Yp Jj yw ux lz_G zp up_G QL
def Jk(d:Option Nat)(args:List AV)(h:Nat->HB)(K:AV->(Nat->HB)->Prop):Prop:=
 match args with
 | [.one (.own r ver 1 off len),b,.one (.lit (.int .u64 n))]=>onWs (λv=>∃(pre seg post:List Nat) (m:Nat),off=pre.length/\len=seg.length/\n=m/\h r=⟨ver,some ⟨(pre++seg++post).map wc,1,true⟩⟩/\WL seg/\m<=4294967296/\v.length<=seg.length/\
   m*val v<4294967296 ^ seg.length/\seg.length<=68719476736/\K (.one (.lit (.bool (decide (val seg<m*val v))))) (upd h r ⟨ver,some ⟨(pre++dig seg.length (val seg+4294967296 ^ seg.length-m*val v)++post).map wc,1,true⟩⟩)) b
 | _=>False
@[congr] theorem Wbf {d:Option Nat} {l l' : List AV} {h h' : Nat->HB} {K:AV->(Nat->HB)->Prop} (e1:l=l') (e2:h=h'):Jk d l h K=Jk d l' h' K:=by subst e1;subst e2;rfl
def uv(d:Option Nat)(args:List AV)(h:Nat->HB)(K:AV->(Nat->HB)->Prop):Prop:=
 match args with
 | [.one (.own r ver 1 off len),b]=>onWs (λv=>∃(pre seg post:List Nat),off=pre.length/\len=seg.length/\h r=⟨ver,some ⟨(pre++seg++post).map wc,1,true⟩⟩/\WL seg/\v.length<=seg.length/\seg.length<=68719476736/\
   K (.tup []) (upd h r ⟨ver,some ⟨(pre++dig seg.length (val seg+val v)++post).map wc,1,true⟩⟩)) b
 | _=>False
@[congr] theorem kbj {d:Option Nat} {l l' : List AV} {h h' : Nat->HB} {K:AV->(Nat->HB)->Prop} (e1:l=l') (e2:h=h'):uv d l h K=uv d l' h' K:=by subst e1;subst e2;rfl
end Go.Abs
end
section
namespace Go.Num
abbrev W:=Bool×List Nat
instance(l:List Nat):Decidable (NZ l):=inferInstanceAs (Decidable (l.getLast?≠some 0))
def vldW(w:W):Bool:=if w.2=[] then !w.1 else decide (NZ w.2)
def zv(w:W):Int:=if vldW w then (if w.1 then -(val w.2:Int) else (val w.2:Int)) else 0
def zcan(n:Int):W:=(decide (n<0),digs n.natAbs)
def zs(n:Int):Nat:=(digs n.natAbs).length
theorem xa0(n:Int):vldW (zcan n)=true:=by
 unfold vldW zcan;split
 .rename_i h;simp only at h;rw [Ud]at h;simp;omega
 .simp [Vm]
theorem Qbh(n:Int):zv (zcan n)=n:=by
 unfold zv;rw [if_pos (xa0 n)];simp only [zcan,Ya,decide_eq_true_eq];split <;> omega
theorem Wbh(n:Int):WL (zcan n).2=True:=eq_true (Wa _)
theorem Wai{w:W}(hw:WL w.2)(h:vldW w=true):digs (zv w).natAbs=w.2/\decide (zv w<0)=w.1:=by
 have hz:NZ w.2:=by
  unfold vldW at h;split at h
  .rename_i e;rw [e];simp [NZ]
  .simpa using h
 unfold zv;rw [if_pos h];cases hb:w.1 with
 | true=>
  simp only [if_true];refine⟨by rw [Int.natAbs_neg,Int.natAbs_natCast,jd hw hz],?_⟩
  have hne:w.2≠[]:=by
   intro e;unfold vldW at h;rw [if_pos e,hb]at h;simp at h
  have:=Jc hz hne;simp;omega
 | false=>
  simp only [Bool.false_eq_true,if_false];exact⟨by rw [Int.natAbs_natCast,jd hw hz],by simp⟩
theorem W3{w:W}(h:vldW w=false):zv w=0:=by unfold zv;rw [h];rfl
theorem Vbd{w:W}(hw:WL w.2):(if vldW w then w.2 else [])=digs (zv w).natAbs:=by
 cases h:vldW w with
 | true=>simp [(Wai hw h).1]
 | false=>simp [W3 h,Zb]
theorem Xaz{w:W}(hw:WL w.2):(vldW w && w.1)=decide (zv w<0):=by
 cases h:vldW w with
 | true=>simp only [Bool.true_and];exact(Wai hw h).2.symm
 | false=>simp [W3 h]
def sg(b:Bool)(v:Nat):Int:=if b then -(v:Int) else (v:Int)
theorem zK(b:Bool)(v:Nat):(b && decide (0<(digs v).length),digs v)=zcan (sg b v):=by
 unfold zcan sg;have h:0<(digs v).length↔v≠0:=by
  rw [List.length_pos_iff,Ne,Ud]
 cases b with
 | true=>
  simp only [Bool.true_and,if_true,Int.natAbs_neg,Int.natAbs_natCast];congr 1;rw [decide_eq_decide,h];omega
 | false=>
  simp only [Bool.false_and,Bool.false_eq_true,if_false,Int.natAbs_natCast];congr 1
theorem wbm(n:Int):sg (decide (n<0)) n.natAbs=n:=by
 unfold sg;simp only [decide_eq_true_eq];split <;> omega
def ordI(a b:Int):Int:=if a<b then -1 else if b<a then 1 else 0
theorem Wa1:zs 0=0:=by unfold zs;simp [Zb]
theorem vab(n:Int):zs (-n)=zs n:=by unfold zs;rw [Int.natAbs_neg]
theorem WaB{n:Int}{s:Nat}:zs n<=s↔n.natAbs<4294967296 ^ s:=QW
theorem vaG(n:Int):n.natAbs<4294967296 ^ zs n:=Yg _
theorem Yk(a b:Int):zs (a*b)<=zs a+zs b:=by
 rw [WaB,Int.natAbs_mul,Nat.pow_add];exact Nat.mul_lt_mul'' (vaG a) (vaG b)
theorem qK(a b:Int):zs (a+b)<=max (zs a) (zs b)+1:=by
 rw [WaB];have h1:=Nat.lt_of_lt_of_le (vaG a) (Nat.pow_le_pow_right (show 4294967296 > 0 by omega) (Nat.le_max_left (zs a) (zs b)))
 have h2:=Nat.lt_of_lt_of_le (vaG b) (Nat.pow_le_pow_right (show 4294967296 > 0 by omega) (Nat.le_max_right (zs a) (zs b)))
 rw [Nat.pow_succ];generalize 4294967296 ^ max (zs a) (zs b)=p at h1 h2 ⊢;omega
theorem ZY{a b:Int}(h:a.natAbs<=b.natAbs):zs a<=zs b:=wa h
theorem waw{n:Int}(h:n.natAbs<18446744073709551616):zs n<=2:=by rw [WaB];exact h
theorem Wr{n:Int}:zs n=0↔n=0:=by
 unfold zs;rw [List.length_eq_zero_iff,Ud];omega
theorem Xae{a b r q:Int}(hb:b≠0)(h:b*q+r=a)(h0:0<=r)(h1:r<b.natAbs):r=a % b/\q=a / b:=by
 by_cases hp:0<b
 .have:=(Int.ediv_emod_unique hp (a:=a) (r:=r) (q:=q)).2 ⟨by omega,h0,by omega⟩
  exact⟨this.2.symm,this.1.symm⟩
 .have:=(Int.ediv_emod_unique' (show b<0 by omega) (a:=a) (r:=r) (q:=q)).2 ⟨by omega,h0,by omega⟩
  exact⟨this.2.symm,this.1.symm⟩
theorem WaL{a b:Int}(hb:b≠0)(h:0<=a∨a.natAbs % b.natAbs=0) :
  sg (decide (a<0) != decide (b<0)) (a.natAbs / b.natAbs)=a / b/\((a.natAbs % b.natAbs:Nat):Int)=a % b:=by
 have e:=Nat.div_add_mod a.natAbs b.natAbs;have m:=Nat.mod_lt a.natAbs (show 0<b.natAbs by omega)
 generalize hq:a.natAbs / b.natAbs=q at *
 generalize hr:a.natAbs % b.natAbs=r at *
 have e' : (b.natAbs:Int)*(q:Int)+(r:Int)=(a.natAbs:Int):=by exact_mod_cast e
 have key:∀Q:Int,b*Q+r=a->(r:Int)=a % b/\Q=a / b:=by
  intro Q hQ;exact Xae hb hQ (by omega) (by omega)
 have hQ:b*sg (decide (a<0) != decide (b<0)) q+r=a:=by
  unfold sg;rcases Classical.em (a<0) with ha | ha <;> rcases Classical.em (b<0) with hb' | hb'
  .have hr0:r=0:=by omega
   subst hr0;have:¬(0<=a):=by omega
   simp only [ha,hb',decide_true,bne_self_eq_false,Bool.false_eq_true,if_false];have h1:(b.natAbs:Int) = -b:=by omega
   have h2:(a.natAbs:Int) = -a:=by omega
   rw [h1,h2,Int.neg_mul]at e';omega
  .have hr0:r=0:=by omega
   subst hr0;have hb2:¬b<0:=by omega
   simp only [ha,hb2,decide_true,decide_false];rw [show(true != false)=true from rfl,if_pos rfl];have h1:(b.natAbs:Int)=b:=by omega
   have h2:(a.natAbs:Int) = -a:=by omega
   rw [h1,h2]at e';rw [Int.mul_neg];omega
  .have ha2:¬a<0:=by omega
   simp only [ha2,hb',decide_true,decide_false];rw [show(false != true)=true from rfl,if_pos rfl];have h1:(b.natAbs:Int) = -b:=by omega
   have h2:(a.natAbs:Int)=a:=by omega
   rw [h1,h2,Int.neg_mul]at e';rw [Int.mul_neg];omega
  .have ha2:¬a<0:=by omega
   have hb2:¬b<0:=by omega
   simp only [ha2,hb2,decide_false,bne_self_eq_false,Bool.false_eq_true,if_false];have h1:(b.natAbs:Int)=b:=by omega
   have h2:(a.natAbs:Int)=a:=by omega
   rw [h1,h2]at e';omega
 exact⟨(key _ hQ).2,(key _ hQ).1⟩
theorem uaJ{a b:Int}(hb:b≠0)(ha:a<0)(h:a.natAbs % b.natAbs≠0) :
  sg (decide (a<0) != decide (b<0)) (a.natAbs / b.natAbs+1)=a / b/\((b.natAbs-a.natAbs % b.natAbs:Nat):Int)=a % b:=by
 have e:=Nat.div_add_mod a.natAbs b.natAbs;have m:=Nat.mod_lt a.natAbs (show 0<b.natAbs by omega)
 generalize hq:a.natAbs / b.natAbs=q at *
 generalize hr:a.natAbs % b.natAbs=r at *
 have e' : (b.natAbs:Int)*(q:Int)+(r:Int)=(a.natAbs:Int):=by exact_mod_cast e
 have key:∀Q:Int,b*Q+((b.natAbs-r:Nat):Int)=a->((b.natAbs-r:Nat):Int)=a % b/\Q=a / b:=by
  intro Q hQ;exact Xae hb hQ (by omega) (by omega)
 have h2:(a.natAbs:Int) = -a:=by omega
 have hQ:b*sg (decide (a<0) != decide (b<0)) (q+1)+((b.natAbs-r:Nat):Int)=a:=by
  unfold sg;rcases Classical.em (b<0) with hb' | hb'
  .simp only [ha,hb',decide_true,bne_self_eq_false,Bool.false_eq_true,if_false];have h1:(b.natAbs:Int) = -b:=by omega
   rw [h1,h2,Int.neg_mul]at e';rw [show((q+1:Nat):Int)=(q:Int)+1 by omega,Int.mul_add,Int.mul_one];omega
  .have hb2:¬b<0:=by omega
   simp only [ha,hb2,decide_true,decide_false];rw [show(true != false)=true from rfl,if_pos rfl];have h1:(b.natAbs:Int)=b:=by omega
   rw [h1,h2]at e';rw [show((q+1:Nat):Int)=(q:Int)+1 by omega,Int.mul_neg,Int.mul_add,Int.mul_one];omega
 exact⟨(key _ hQ).2,(key _ hQ).1⟩
theorem QaW{a b:Int}(h:a<b):ordI a b = -1:=by simp [ordI,h]
theorem za5{a b:Int}(h:b<a):ordI a b=1:=by unfold ordI;rw [if_neg (by omega),if_pos h]
theorem ka9(a b:Int):sg (!(decide (a<0) == decide (b<0))) (a.natAbs*b.natAbs)=a*b:=by
 unfold sg;have e:((a.natAbs*b.natAbs:Nat):Int)=(a.natAbs:Int)*(b.natAbs:Int):=by simp
 rw [e];by_cases ha:a<0 <;> by_cases hb:b<0 <;> simp only [ha,hb,decide_true,decide_false]
 .have h1:(a.natAbs:Int) = -a:=by omega
  have h2:(b.natAbs:Int) = -b:=by omega
  rw [h1,h2];simp [Int.neg_mul,Int.mul_neg]
 .have h1:(a.natAbs:Int) = -a:=by omega
  have h2:(b.natAbs:Int)=b:=by omega
  rw [h1,h2];simp [Int.neg_mul,Int.mul_neg]
 .have h1:(a.natAbs:Int)=a:=by omega
  have h2:(b.natAbs:Int) = -b:=by omega
  rw [h1,h2];simp [Int.neg_mul,Int.mul_neg]
 .have h1:(a.natAbs:Int)=a:=by omega
  have h2:(b.natAbs:Int)=b:=by omega
  rw [h1,h2];simp [Int.neg_mul,Int.mul_neg]
theorem vf{a b:Int}(h:(decide (a<0) == decide (b<0))=true):a<0↔b<0:=by simpa using h
theorem wk{a b:Int}(h:(decide (a<0) == decide (b<0))=false):¬(a<0↔b<0):=by simpa using h
theorem Vo{a b:Int}(h:a<0↔b<0):sg (decide (a<0)) (a.natAbs+b.natAbs)=a+b:=by
 unfold sg;simp only [decide_eq_true_eq];split <;> omega
theorem Vae{a b:Int}(h:¬(a<0↔b<0))(h' : b.natAbs<=a.natAbs):sg (decide (a<0)) (a.natAbs-b.natAbs)=a+b:=by
 unfold sg;simp only [decide_eq_true_eq];split <;> omega
theorem wq{a b:Nat}:0<=ordN a b↔b<=a:=by
 unfold ordN;split <;> (try split) <;> omega
end Go.Num
end
section
namespace Go.Abs
open Go.Num
def zb(w:W):C:=.lit (.bool w.1)
def zm(w:W):C:=ws w.2
def zA(w:W):AV:=.agg [zb w,zm w]
theorem Yaf(x y:W)(h:zA x=zA y):x=y:=by
 simp only [zA,zb,zm,AV.agg.injEq,List.cons.injEq,C.lit.injEq,Value.bool.injEq,and_true]at h;obtain⟨h1,h2⟩:=h;have:=jp x.2 y.2 (by simp only [wsA];rw [h2])
 exact Prod.ext h1 this
def onW(k:W->Prop)(a:AV):Prop:=onE zA (λw=>WL w.2/\k w) a
@[congr] theorem Ubn{k:W->Prop}{a a'}(h:a=a'):onW k a=onW k a':=by subst h;rfl
theorem xbc(k:W->Prop)(w:W):onW k (.agg [zb w,zm w])=(WL w.2/\k w):=Vj Yaf (λw=>WL w.2/\k w) w
theorem qa8(k:W->Prop)(b:Bool)(l:List Nat):onW k (.agg [.lit (.bool b),.slice (l.map wc)])=(WL l/\k (b,l)):=Vj Yaf (λw=>WL w.2/\k w) (b,l)
theorem Ya8(k:W->Prop):onW k (.agg [.lit (.bool false),.slice []])=k (zcan 0):=by
 have:(zcan 0)=(false,[]):=by simp [zcan,Zb]
 rw [this];have:=Vj Yaf (λw=>WL w.2/\k w) (false,[]);simp only [Wc,true_and]at this;exact this
theorem uk{β:Type}{T:W->(β->Prop)->Prop}(h:∀w,GoodT (T w)){a:AV}:GoodT λK=>onW (λw=>T w K) a:=
 Yak (e:=zA) (T:=λw K=>WL w.2/\T w K) Yaf λw=>GoodT.and (c:=WL w.2) (T:=T w) λ_=>h w
theorem uaT(h:Nat->HB)(w:W):datC h (zb w)=zb w:=eq_of_heq (HEq.refl _)
theorem JaU(h:Nat->HB)(w:W):datC h (zm w)=zm w:=eq_of_heq (HEq.refl _)
theorem ZaV(w:W):ownC (zb w)=[]:=eq_of_heq (HEq.refl _)
theorem JaO(w:W):ownC (zm w)=[]:=eq_of_heq (HEq.refl _)
theorem uaj(w:W):Clean (zb w)=True:=eq_true (.lit _)
theorem Zac(w:W):Clean (zm w)=True:=eq_true (.slice _ (of_eq_true (yc _)))
theorem kba(w:W):zA w=.agg [zb w,zm w]:=eq_of_heq (HEq.refl _)
theorem qbg(w:W):zb w=.lit (.bool w.1):=eq_of_heq (HEq.refl _)
theorem kaL(w:W):zm w=.slice (w.2.map wc):=eq_of_heq (HEq.refl _)
attribute [go_sem] xbc qa8 Ya8 uaT JaU ZaV JaO uaj Zac kba Wbh Qbh
attribute [go_sem ↓] xbc qa8 Ya8 uaT JaU ZaV JaO uaj Zac kba
def qj:q_T:=q_c1 λa K=>onW (λw=>K (.one (.lit (.bool (vldW w))))) a
theorem W2:Good qj:=q_g1 λ_=>(uk λ_=>(.ret _))
def kj:q_T:=q_c1 λa K=>onW (λw=>K (.one (.slice ((digs (zv w).natAbs).map wc)))) a
theorem Xat:Good kj:=q_g1 λ_=>(uk λ_=>(.ret _))
def yh:q_T:=q_c1 λa K=>onW (λw=>K (.one (.lit (.bool (decide (zv w<0)))))) a
theorem uam:Good yh:=q_g1 λ_=>(uk λ_=>(.ret _))
def Yf:q_T:=q_c2 λb m K=>asBool (λb=>onWs (λl=>l.length<=68719476736/\K (.agg [zb (zcan (sg b (val l))),zm (zcan (sg b (val l)))])) m) b
theorem YK:Good Yf:=q_g2 λ_ _=>(Q8 (λ_=>(jg λ_=>(.and λ_=>(.ret _)))) _)
def wO:q_T:=q_c1 λn K=>asInt (λk n=>k=.i64/\-9223372036854775808<=n/\n<=9223372036854775807/\K (.agg [zb (zcan n),zm (zcan n)])) n
theorem WaI:Good wO:=q_g1 λ_=>(ke (λ_ _=>(.and λ_=>(.and λ_=>(.and λ_=>(.ret _))))) _)
def Wi:q_T:=q_c1 λa K=>onW (λw=>K (.one (.lit (.int .i64 (Int.sign (zv w)))))) a
theorem JI:Good Wi:=q_g1 λ_=>(uk λ_=>(.ret _))
def zE:q_T:=q_c2 λa b K=>onW (λv=>onW (λw=>K (.one (.lit (.int .i64 (ordI (zv v) (zv w)))))) b) a
theorem kax:Good zE:=q_g2 λ_ _=>(uk λ_=>(uk λ_=>(.ret _)))
def Vs:q_T:=q_c1 λa K=>onW (λw=>zs (zv w)<=68719476736/\K (.agg [zb (zcan (-zv w)),zm (zcan (-zv w))])) a
theorem XaC:Good Vs:=q_g1 λ_=>(uk λ_=>(.and λ_=>(.ret _)))
def Qs:q_T:=q_c2 λa b K=>onW (λv=>onW (λw=>zs (zv v)<=17179869184/\zs (zv w)<=17179869184/\K (.agg [zb (zcan (zv v+zv w)),zm (zcan (zv v+zv w))])) b) a
theorem vR:Good Qs:=q_g2 λ_ _=>(uk λ_=>(uk λ_=>(.and λ_=>(.and λ_=>(.ret _)))))
def jv:q_T:=q_c2 λa b K=>onW (λv=>onW (λw=>zs (zv v)<=17179869184/\zs (zv w)<=17179869184/\K (.agg [zb (zcan (zv v*zv w)),zm (zcan (zv v*zv w))])) b) a
theorem vax:Good jv:=q_g2 λ_ _=>(uk λ_=>(uk λ_=>(.and λ_=>(.and λ_=>(.ret _)))))
def xq:q_T:=q_c2 λa b K=>onW (λv=>onW (λw=>zs (zv v)<=17179869184/\zs (zv w)<=17179869184/\K (.agg [zb (zcan (Int.gcd (zv v) (zv w))),zm (zcan (Int.gcd (zv v) (zv w)))])) b) a
theorem wT:Good xq:=q_g2 λ_ _=>(uk λ_=>(uk λ_=>(.and λ_=>(.and λ_=>(.ret _)))))
def yJ:q_T:=q_c2 λa b K=>onW (λv=>onW (λw=>zs (zv v)<=17179869184/\zs (zv w)<=17179869184/\zv w≠0/\K (.tup [.agg [zb (zcan (zv v / zv w)),zm (zcan (zv v / zv w))],.agg [zb (zcan (zv v % zv w)),zm (zcan (zv v % zv w))],.one (.lit .nilIface)])) b) a
theorem Vas:Good yJ:=q_g2 λ_ _=>(uk λ_=>(uk λ_=>(.and λ_=>(.and λ_=>(.and λ_=>(.ret _))))))
attribute [go_sem] qj kj yh Yf wO Wi zE Vs Qs jv xq yJ
end Go.Abs
end
section
namespace Go.Num
abbrev R:=Bool×List Nat×List Nat
def WLR(x:R):Prop:=WL x.2.1/\WL x.2.2
def vldR(x:R):Bool:=
 if x.2.1=[]/\x.2.2=[] then !x.1 else decide (x.2.1≠[]/\x.2.2≠[]/\NZ x.2.1/\NZ x.2.2/\Nat.gcd (val x.2.1) (val x.2.2)=1)
def rv(x:R):Rat:=if vldR x then mkRat (sg x.1 (val x.2.1)) (val x.2.2) else 0
def rcan(q:Rat):R:=if q=0 then (false,[],[]) else (decide (q.num<0),digs q.num.natAbs,digs q.den)
def rl(x:R):Nat:=max x.2.1.length x.2.2.length
def rz(q:Rat):Nat:=rl (rcan q)
theorem uc:rcan 0=(false,[],[]):=by simp [rcan]
theorem yP{q:Rat}(h:q≠0):q.num≠0:=λe=>h (Rat.num_eq_zero.1 e)
theorem qu(q:Rat):vldR (rcan q)=true:=by
 unfold rcan;split
 .rfl
 .rename_i h;have h1:digs q.num.natAbs≠[]:=by rw [Ne,Ud];have:=yP h;omega
  have h2:digs q.den≠[]:=by rw [Ne,Ud];exact q.den_nz
  unfold vldR;simp only [h1,h2,false_and,if_false,Ya];simp [h1,h2,Vm,q.reduced.gcd_eq_one]
theorem vv(q:Rat):WLR (rcan q):=by
 unfold rcan WLR;split
 .exact⟨Wc,Wc⟩
 .exact⟨Wa _,Wa _⟩
theorem xc(q:Rat):rv (rcan q)=q:=by
 unfold rv;rw [qu,if_pos rfl];unfold rcan;split
 .rename_i h;rw [h];simp [val]
 .simp only [Ya,wbm,Rat.mkRat_self]
theorem XA{x:R}(hx:WLR x)(h:vldR x=true)(hn:x.2.1≠[]):(rv x).num=sg x.1 (val x.2.1)/\(rv x).den=val x.2.2/\rv x≠0/\NZ x.2.1/\NZ x.2.2/\x.2.2≠[]:=by
 have h':=h;unfold vldR at h';rw [if_neg (λe=>hn e.1)]at h';simp only [decide_eq_true_eq]at h';obtain⟨_,h2,h3,h4,h5⟩:=h';have hn0:=Jc h3 hn;have hd0:=Jc h4 h2;have ha:(sg x.1 (val x.2.1)).natAbs=val x.2.1:=by unfold sg;split <;> omega
 have hden:val x.2.2≠0:=by omega
 unfold rv;rw [if_pos h,Rat.num_mkRat,Rat.den_mkRat,if_neg hden,if_neg hden,ha,Nat.gcd_comm,h5];refine⟨by simp,by simp,?_,h3,h4,h2⟩
 rw [Ne,Rat.mkRat_eq_zero hden];omega
theorem vi{x:R}(hx:WLR x)(h:vldR x=true):rcan (rv x)=x:=by
 by_cases hn:x.2.1=[]
 .have h':=h;unfold vldR at h';by_cases hd:x.2.2=[]
  .rw [if_pos ⟨hn,hd⟩]at h';have e:x=(false,[],[]):=by
    obtain⟨a,b,c⟩:=x;simp only at hn hd h';subst hn hd;simp at h';rw [h']
   rw [e];have:rv (false,[],[])=0:=by unfold rv;split <;> simp [val]
   rw [this,uc]
  .rw [if_neg (λe=>hd e.2)]at h';simp [hn]at h'
 .obtain⟨h1,h2,h3,h4,h5,h6⟩:=XA hx h hn;unfold rcan;rw [if_neg h3,h1,h2];have ha:(sg x.1 (val x.2.1)).natAbs=val x.2.1:=by unfold sg;split <;> omega
  rw [ha,jd hx.1 h4,jd hx.2 h5];have hn0:=Jc h4 hn;have hs:decide (sg x.1 (val x.2.1)<0)=x.1:=by unfold sg;cases x.1 <;> simp <;> omega
  rw [hs]
theorem X4{x:R}(h:vldR x=false):rv x=0:=by unfold rv;rw [h];rfl
theorem wS(n:Nat):zs (n:Int)=(digs n).length:=rfl
theorem YG(q:Rat):zs q.num<=rz q:=by
 unfold rz rcan rl;split
 .rename_i h;rw [h];simp [Wa1]
 .exact Nat.le_max_left _ _
theorem VC(q:Rat):zs (q.den:Int)<=rz q+1:=by
 unfold rz rcan rl;split
 .rename_i h;rw [h];have:zs ((0:Rat).den:Int)<=1:=by rw [WaB];decide
  omega
 .rw [wS];simp only;omega
theorem jaX{q:Rat}{s:Nat}(h1:zs q.num<=s)(h2:zs (q.den:Int)<=s):rz q<=s:=by
 unfold rz rcan rl;split
 .simp
 .exact Nat.max_le.2 ⟨h1,h2⟩
theorem uay{n d:Int}(hd:d≠0):(Rat.divInt n d).num.natAbs<=n.natAbs/\(Rat.divInt n d).den<=d.natAbs:=by
 have hg:0<Int.gcd d n:=Int.gcd_pos_of_ne_zero_left _ hd;rw [Rat.num_divInt,Rat.den_divInt,if_neg hd];refine⟨?_,Nat.div_le_self _ _⟩;have hs:(d.sign*n).natAbs=n.natAbs:=by
  rw [Int.natAbs_mul,Int.natAbs_sign_of_ne_zero hd,Nat.one_mul]
 have hdv:((Int.gcd d n:Nat):Int) ∣ d.sign*n:=Int.dvd_mul_of_dvd_right (Int.gcd_dvd_right _ _);obtain⟨k,hk⟩:=hdv;rw [hk,Int.mul_ediv_cancel_left _ (by omega)]
 rw [hk,Int.natAbs_mul]at hs;simp only [Int.natAbs_natCast]at hs;rw [<-hs];exact Nat.le_mul_of_pos_left _ hg
theorem ZD{n d:Int}(hd:d≠0){s:Nat}(h1:zs n<=s)(h2:zs d<=s):rz (Rat.divInt n d)<=s:=by
 obtain⟨a,b⟩:=uay (n:=n) hd;refine jaX (Nat.le_trans (ZY a) h1) (Nat.le_trans (ZY ?_) h2);simpa using b
theorem UB{n d:Int}(hd:d≠0)(hn:n≠0):rcan (Rat.divInt n d)=(decide (d.sign*n<0),digs (n.natAbs / Int.gcd n d),digs (d.natAbs / Int.gcd n d)):=by
 have hg:0<Int.gcd n d:=Int.gcd_pos_of_ne_zero_left _ hn;have hq:Rat.divInt n d≠0:=by
  intro e;have:=congrArg Rat.num e;rw [Rat.num_divInt,Rat.zero_num]at this;have hdv:((Int.gcd d n:Nat):Int) ∣ d.sign*n:=Int.dvd_mul_of_dvd_right (Int.gcd_dvd_right _ _);have h2:=Int.eq_zero_of_ediv_eq_zero hdv this;rcases Int.mul_eq_zero.1 h2 with h | h
  .exact hd (Int.sign_eq_zero_iff_zero.1 h)
  .exact hn h
 unfold rcan;rw [if_neg hq,Rat.num_divInt,Rat.den_divInt,if_neg hd,Int.gcd_comm d n];have hdv:((Int.gcd n d:Nat):Int) ∣ d.sign*n:=Int.dvd_mul_of_dvd_right (Int.gcd_dvd_left _ _);obtain⟨k,hk⟩:=hdv;have hs:(d.sign*n).natAbs=n.natAbs:=by
  rw [Int.natAbs_mul,Int.natAbs_sign_of_ne_zero hd,Nat.one_mul]
 have e:(d.sign*n / ((Int.gcd n d:Nat):Int))=k:=by rw [hk,Int.mul_ediv_cancel_left _ (by omega)]
 rw [e];have hk2:k.natAbs=n.natAbs / Int.gcd n d:=by
  rw [<-hs,hk,Int.natAbs_mul];simp only [Int.natAbs_natCast];rw [Nat.mul_div_cancel_left _ hg]
 rw [hk2];have:decide (k<0)=decide (d.sign*n<0):=by
  rw [decide_eq_decide,hk];constructor
  .intro h;exact Int.mul_neg_of_pos_of_neg (by omega) h
  .intro h;rcases Int.lt_or_le k 0 with h' | h'
   .exact h'
   .have:=Int.mul_nonneg (show(0:Int)<=((Int.gcd n d:Nat):Int) by omega) h';omega
 rw [this]
def ordQ(p q:Rat):Int:=if p<q then -1 else if q<p then 1 else 0
theorem YaC(p q:Rat):ordQ p q=ordI (p.num*q.den) (q.num*p.den):=by
 unfold ordQ ordI;simp only [Rat.lt_iff]
theorem qF(p q:Rat):Rat.divInt (p.num*q.den+q.num*p.den) (p.den*q.den)=p+q:=by
 rw [Rat.add_def',<-Rat.divInt_ofNat,Int.natCast_mul]
theorem JC(p q:Rat):Rat.divInt (p.num*q.num) (p.den*q.den)=p*q:=by
 rw [Rat.mul_def',<-Rat.divInt_ofNat,Int.natCast_mul]
theorem Zaq(p:Rat):Rat.divInt (-p.num) p.den = -p:=by
 rw [Rat.divInt_ofNat,<-Rat.neg_mkRat,Rat.mkRat_self]
theorem VS{x:R}(hx:WLR x):rz (rv x)<=rl x:=by
 cases h:vldR x with
 | true=>unfold rz;rw [vi hx h];exact Nat.le_refl _
 | false=>rw [X4 h];unfold rz;rw [uc];simp [rl]
theorem Uy(q:Rat):rz (-q)=rz q:=by
 unfold rz rl rcan;by_cases h:q=0
 .subst h;simp
 .have h' : -q≠0:=by intro e;apply h;rw [<-Rat.neg_neg q,e];rfl
  rw [if_neg h,if_neg h'];simp
theorem Xv{x:R}(hx:WLR x):zs (rv x).num<=rl x:=Nat.le_trans (YG _) (VS hx)
theorem Zu{x:R}(hx:WLR x):zs ((rv x).den:Int)<=rl x+1:=Nat.le_trans (VC _) (Nat.succ_le_succ (VS hx))
theorem jq(q:Rat):(q.den:Int)≠0:=by have:=q.den_nz;omega
theorem jaC{p q:Rat}:0<=ordQ p q↔q<=p:=by
 unfold ordQ;split
 .rename_i h;exact⟨λh'=>by omega,λh'=>absurd h (Rat.not_lt.2 h')⟩
 .rename_i h;rw [Rat.not_lt]at h;split
  .exact⟨λ_=>h,λ_=>by omega⟩
  .exact⟨λ_=>h,λ_=>by omega⟩
theorem WaD{p q:Rat}:ordQ p q<=0↔p<=q:=by
 unfold ordQ;split
 .rename_i h;exact⟨λ_=>Rat.le_of_lt h,λ_=>by omega⟩
 .split
  .rename_i h;exact⟨λh'=>by omega,λh'=>absurd h (Rat.not_lt.2 h')⟩
  .rename_i h;exact⟨λ_=>Rat.not_lt.1 h,λ_=>by omega⟩
theorem zax(q:Rat):ordQ q 0=q.num.sign:=by
 rw [YaC];simp only [Rat.zero_num,Rat.zero_den,Int.zero_mul];have:q.num*((1:Nat):Int)=q.num:=by simp
 rw [this];unfold ordI;split
 .rw [Int.sign_eq_neg_one_of_neg ‹_›]
 .split
  .rw [Int.sign_eq_one_of_pos ‹_›]
  .rw [show q.num=0 by omega];rfl
theorem Uab{p q:Rat}:ordQ p q=0↔p=q:=by
 constructor
 .intro h;exact Rat.le_antisymm (WaD.1 (by omega)) (jaC.1 (by omega))
 .rintro rfl;have:=jaC.2 (Rat.le_refl (a:=p));have:=WaD.2 (Rat.le_refl (a:=p));omega
theorem ZG(p q:Rat):rz (p+q)<=rz p+rz q+2:=by
 rw [<-qF];have h1:=YG p;have h2:=YG q;have h3:=VC p;have h4:=VC q;have d1:=jq p;have d2:=jq q;have m1:=Yk p.num q.den;have m2:=Yk q.num p.den;have m3:=Yk (p.den:Int) q.den;have a1:=qK (p.num*q.den) (q.num*p.den);refine ZD (Int.mul_ne_zero d1 d2) ?_ ?_ <;> omega
theorem Zak(n:Int):rz (n:Rat)<=max (zs n) 1:=by
 refine jaX ?_ ?_
 .exact Nat.le_max_left _ _
 .refine Nat.le_trans ?_ (Nat.le_max_right _ _);rw [WaB,Rat.den_intCast];decide
theorem kaA(p q:Rat):rz (p-q)<=rz p+rz q+2:=by
 rw [Rat.sub_eq_add_neg];have:=ZG p (-q);rw [Uy]at this;exact this
end Go.Num
end
section
namespace Go.Abs
open Go.Num
def cb(x:R):C:=.lit (.bool x.1)
def cn(x:R):C:=ws x.2.1
def cd(x:R):C:=ws x.2.2
def rA(x:R):AV:=.agg [cb x,cn x,cd x]
theorem qk(x y:R)(h:rA x=rA y):x=y:=by
 simp only [rA,cb,cn,cd,AV.agg.injEq,List.cons.injEq,C.lit.injEq,Value.bool.injEq,and_true]at h;obtain⟨h1,h2,h3⟩:=h;have e2:=jp x.2.1 y.2.1 (by simp only [wsA];rw [h2])
 have e3:=jp x.2.2 y.2.2 (by simp only [wsA];rw [h3])
 exact Prod.ext h1 (Prod.ext e2 e3)
def onR(k:R->Prop)(a:AV):Prop:=onE rA (λx=>WLR x/\k x) a
@[congr] theorem ubn{k:R->Prop}{a a'}(h:a=a'):onR k a=onR k a':=by subst h;rfl
theorem Ubd(k:R->Prop)(x:R):onR k (.agg [cb x,cn x,cd x])=(WLR x/\k x):=Vj qk (λx=>WLR x/\k x) x
theorem ybd(k:R->Prop)(b:Bool)(l m:List Nat):onR k (.agg [.lit (.bool b),.slice (l.map wc),.slice (m.map wc)])=(WLR (b,l,m)/\k (b,l,m)):=Vj qk (λx=>WLR x/\k x) (b,l,m)
theorem qa7(k:R->Prop):onR k (.agg [.lit (.bool false),.slice [],.slice []])=k (rcan 0):=by
 rw [uc];have:=Vj qk (λx=>WLR x/\k x) (false,[],[]);simp only [WLR,Wc,true_and]at this;exact this
theorem wv{β:Type}{T:R->(β->Prop)->Prop}(h:∀x,GoodT (T x)){a:AV}:GoodT λK=>onR (λx=>T x K) a:=
 Yak (e:=rA) (T:=λx K=>WLR x/\T x K) qk λx=>GoodT.and (c:=WLR x) (T:=T x) λ_=>h x
theorem qaU(h:Nat->HB)(x:R):datC h (cb x)=cb x:=eq_of_heq (HEq.refl _)
theorem WaQ(h:Nat->HB)(x:R):datC h (cn x)=cn x:=eq_of_heq (HEq.refl _)
theorem WaN(h:Nat->HB)(x:R):datC h (cd x)=cd x:=eq_of_heq (HEq.refl _)
theorem VaS(x:R):ownC (cb x)=[]:=eq_of_heq (HEq.refl _)
theorem xaT(x:R):ownC (cn x)=[]:=eq_of_heq (HEq.refl _)
theorem vaS(x:R):ownC (cd x)=[]:=eq_of_heq (HEq.refl _)
theorem xh(x:R):Clean (cb x)=True:=eq_true (.lit _)
theorem wh(x:R):Clean (cn x)=True:=eq_true (.slice _ (of_eq_true (yc _)))
theorem Yh(x:R):Clean (cd x)=True:=eq_true (.slice _ (of_eq_true (yc _)))
theorem wa9(x:R):rA x=.agg [cb x,cn x,cd x]:=eq_of_heq (HEq.refl _)
theorem ve(x:R):cb x=.lit (.bool x.1):=eq_of_heq (HEq.refl _)
theorem VaE(x:R):cn x=.slice (x.2.1.map wc):=eq_of_heq (HEq.refl _)
theorem UaC(x:R):cd x=.slice (x.2.2.map wc):=eq_of_heq (HEq.refl _)
theorem Wax(q:Rat):WLR (rcan q)=True:=eq_true (vv q)
theorem vaR(q:Rat):rl (rcan q)=rz q:=eq_of_heq (HEq.refl _)
theorem jaj(q:Rat):vldR (rcan q)=true:=qu q
attribute [go_sem,go_sem ↓] Ubd ybd qa7 qaU WaQ WaN VaS xaT vaS xh wh Yh wa9 Wax vaR xc jaj
def yd:q_T:=q_c1 λa K=>onR (λx=>rl x<=4294967296/\K (.one (.lit (.bool (vldR x))))) a
theorem VE:Good yd:=q_g1 λ_=>(wv λ_=>(.and λ_=>(.ret _)))
def vr:q_T:=q_c1 λa K=>onWs (λl=>K (.one (.lit (.bool (decide (l≠[]/\NZ l)))))) a
theorem Q6:Good vr:=q_g1 λ_=>(jg λ_=>(.ret _))
def ye:q_T:=q_c1 λa K=>onR (λx=>rl x<=4294967296/\K (.tup [.agg [zb (zcan (rv x).num),zm (zcan (rv x).num)],.agg [zb (zcan ((rv x).den:Int)),zm (zcan ((rv x).den:Int))]])) a
theorem VD:Good ye:=q_g1 λ_=>(wv λ_=>(.and λ_=>(.ret _)))
def Zn:q_T:=q_c2 λa b K=>onW (λv=>onW (λw=>zs (zv v)<=17179869184/\zs (zv w)<=17179869184/\zv w≠0/\K (.agg [cb (rcan (Rat.divInt (zv v) (zv w))),cn (rcan (Rat.divInt (zv v) (zv w))),cd (rcan (Rat.divInt (zv v) (zv w)))])) b) a
theorem xal:Good Zn:=q_g2 λ_ _=>(uk λ_=>(uk λ_=>(.and λ_=>(.and λ_=>(.and λ_=>(.ret _))))))
def Wn:q_T:=q_c0 λK=>K (.agg [zb (zcan 1),zm (zcan 1)])
theorem YaA:Good Wn:=q_g0 (.ret _)
def wR:q_T:=q_c1 λn K=>asInt (λk n=>k=.i64/\-9223372036854775808<=n/\n<=9223372036854775807/\K (.agg [cb (rcan n),cn (rcan n),cd (rcan n)])) n
theorem qaJ:Good wR:=q_g1 λ_=>(ke (λ_ _=>(.and λ_=>(.and λ_=>(.and λ_=>(.ret _))))) _)
def yu:q_T:=q_c1 λa K=>onR (λx=>rl x<=4294967296/\K (.agg [cb (rcan (-rv x)),cn (rcan (-rv x)),cd (rcan (-rv x))])) a
theorem xap:Good yu:=q_g1 λ_=>(wv λ_=>(.and λ_=>(.ret _)))
def Wj:q_T:=q_c1 λa K=>onR (λx=>rl x<=4294967296/\K (.one (.lit (.int .i64 (ordQ (rv x) 0))))) a
theorem Uak:Good Wj:=q_g1 λ_=>(wv λ_=>(.and λ_=>(.ret _)))
def qy:q_T:=q_c2 λa b K=>onR (λx=>onR (λy=>rl x<=4294967296/\rl y<=4294967296/\K (.one (.lit (.int .i64 (ordQ (rv x) (rv y)))))) b) a
theorem War:Good qy:=q_g2 λ_ _=>(wv λ_=>(wv λ_=>(.and λ_=>(.and λ_=>(.ret _)))))
def wu:q_T:=q_c2 λa b K=>onR (λx=>onR (λy=>rl x<=4294967296/\rl y<=4294967296/\K (.agg [cb (rcan (rv x+rv y)),cn (rcan (rv x+rv y)),cd (rcan (rv x+rv y))])) b) a
theorem zaD:Good wu:=q_g2 λ_ _=>(wv λ_=>(wv λ_=>(.and λ_=>(.and λ_=>(.ret _)))))
def Jy:q_T:=q_c2 λa b K=>onR (λx=>onR (λy=>rl x<=4294967296/\rl y<=4294967296/\K (.agg [cb (rcan (rv x-rv y)),cn (rcan (rv x-rv y)),cd (rcan (rv x-rv y))])) b) a
theorem yat:Good Jy:=q_g2 λ_ _=>(wv λ_=>(wv λ_=>(.and λ_=>(.and λ_=>(.ret _)))))
attribute [go_sem] yd vr ye Zn Wn wR yu Wj qy wu Jy
end Go.Abs
end
section
namespace Go.Abs
open Go.Num
variable {P:Program} {Γ:Nat->Spec}
def errV(tE c:Nat):AV:=.one (.lit (if c=0 then .nilIface else .iface tE (.int .i64 c)))
theorem QQ(tE:Nat):errV tE 0=.one (.lit .nilIface):=by simp [errV]
theorem VQ(tE:Nat){c:Nat}(h:c≠0):errV tE c=.one (.lit (.iface tE (.int .i64 c))):=by simp [errV,h]
theorem uaG(h:Nat->HB)(tE c:Nat):datA h (errV tE c)=errV tE c:=eq_of_heq (HEq.refl _)
attribute [go_sem] uaG
theorem QaM(tE:Nat)(c d:Nat)(h:errV tE c=errV tE d):c=d:=by
 by_cases hc:c=0 <;> by_cases hd:d=0
 .omega
 .subst hc;rw [QQ,VQ tE hd]at h;simp at h
 .subst hd;rw [QQ,VQ tE hc]at h;simp at h
 .rw [VQ tE hc,VQ tE hd]at h;simp only [AV.one.injEq,C.lit.injEq,Value.iface.injEq,Value.int.injEq,true_and]at h;omega
def onErr(tE:Nat)(k:Nat->Prop)(a:AV):Prop:=onE (errV tE) k a
@[congr] theorem Wbi{tE}{k:Nat->Prop}{a a'}(h:a=a'):onErr tE k a=onErr tE k a':=by subst h;rfl
theorem J4(tE:Nat)(k:Nat->Prop)(c:Nat):onErr tE k (errV tE c)=k c:=Vj (QaM tE) k c
theorem zaE(tE:Nat)(k:Nat->Prop):onErr tE k (.one (.lit .nilIface))=k 0:=by
 have:=J4 tE k 0;rw [QQ]at this;exact this
attribute [go_sem,go_sem ↓] J4 zaE
end Go.Abs
end
section
namespace Go.Num
abbrev Arc:=R×R
def WLA(x:Arc):Prop:=WLR x.1/\WLR x.2
def al(x:Arc):Nat:=max (rl x.1) (rl x.2)
def a0:Arc:=((false,[],[]),(false,[],[]))
def okA(b:Nat)(x:Arc):Prop:=WLA x/\al x<=b
def av(x:Arc):Rat×Rat:=(rv x.1,rv x.2)
def acan(a:Rat×Rat):Arc:=(rcan a.1,rcan a.2)
end Go.Num
namespace Go.Abs
open Go.Num
def aC(x:Arc):List C:=[cb x.1,cn x.1,cd x.1,cb x.2,cn x.2,cd x.2]
def aA(x:Arc):AV:=.agg (aC x)
theorem zaS{x y:Arc}(h:aC x=aC y):x=y:=by
 simp only [aC,List.cons.injEq,and_true]at h;obtain⟨h1,h2,h3,h4,h5,h6⟩:=h;have e1:=qk x.1 y.1 (by simp only [rA];rw [h1,h2,h3])
 have e2:=qk x.2 y.2 (by simp only [rA];rw [h4,h5,h6])
 exact Prod.ext e1 e2
theorem VaP(x y:Arc)(h:aA x=aA y):x=y:=zaS (by simpa [aA] using h)
def as(l:List Arc):C:=.slice (l.map aC)
def asA(l:List Arc):AV:=.one (as l)
theorem JJ{x y:List Arc}(h:x.map aC=y.map aC):x=y:=List.map_inj_right (λ_ _=>zaS) |>.1 h
theorem xM(x y:List Arc)(h:asA x=asA y):x=y:=by
 simp only [asA,as,AV.one.injEq,C.slice.injEq]at h;exact JJ h
def onA(k:Arc->Prop)(a:AV):Prop:=onE aA (λx=>WLA x/\k x) a
@[congr] theorem Xbn{k:Arc->Prop}{a a'}(h:a=a'):onA k a=onA k a':=by subst h;rfl
theorem vbh(k:Arc->Prop)(x:Arc):onA k (.agg (aC x))=(WLA x/\k x):=Vj VaP (λx=>WLA x/\k x) x
theorem Qbi(k:Arc->Prop)(x y:R):onA k (.agg [cb x,cn x,cd x,cb y,cn y,cd y])=(WLA (x,y)/\k (x,y)):=Vj VaP (λx=>WLA x/\k x) (x,y)
def onAs(k:List Arc->Prop)(a:AV):Prop:=onE asA (λl=>(∀x∈l,WLA x)/\k l) a
@[congr] theorem Ubi{k:List Arc->Prop}{a a'}(h:a=a'):onAs k a=onAs k a':=by subst h;rfl
theorem YF(k:List Arc->Prop)(l:List Arc):onAs k (.one (.slice (l.map aC)))=((∀x∈l,WLA x)/\k l):=Vj xM (λl=>(∀x∈l,WLA x)/\k l) l
theorem xab(k:List Arc->Prop):onAs k (.one (.slice []))=k []:=by
 have:=Vj xM (λl=>(∀x∈l,WLA x)/\k l) [];simp only [List.not_mem_nil,false_implies,implies_true,true_and]at this;exact this
def onAx(k:List Arc->Prop)(a:AV):Prop:=∃l,(a=.one (as l)∨a=.one (.full (l.map aC))∨(a=.one .emp/\l=[]))/\(∀x∈l,WLA x)/\k l
@[congr] theorem kbl{k:List Arc->Prop}{a a'}(h:a=a'):onAx k a=onAx k a':=by subst h;rfl
theorem VaN(k:List Arc->Prop)(l:List Arc):onAx k (.one (.slice (l.map aC)))=((∀x∈l,WLA x)/\k l):=by
 refine propext ⟨λ⟨x,h,h1,h2⟩=>?_,λh=>⟨l,.inl rfl,h⟩⟩;rcases h with h | h | h
 .have:=xM l x h;subst this;exact⟨h1,h2⟩
 .simp at h
 .simp at h
theorem XaP(k:List Arc->Prop)(l:List Arc):onAx k (.one (.full (l.map aC)))=((∀x∈l,WLA x)/\k l):=by
 refine propext ⟨λ⟨x,h,h1,h2⟩=>?_,λh=>⟨l,.inr (.inl rfl),h⟩⟩;rcases h with h | h | h
 .simp [as]at h
 .have:=JJ (x:=l) (y:=x) (by simpa using h);subst this;exact⟨h1,h2⟩
 .simp at h
theorem YaO(k:List Arc->Prop):onAx k (.one .emp)=k []:=by
 refine propext ⟨λ⟨x,h,h1,h2⟩=>?_,λh=>⟨[],.inr (.inr ⟨rfl,rfl⟩),by simp,h⟩⟩
 rcases h with h | h | h
 .simp [as]at h
 .simp at h
 .obtain⟨_,rfl⟩:=h;exact h2
theorem JaA(K:List C->Prop)(l:List Arc)(i:Nat):getE K (l.map aC) i=(i<l.length/\K (aC (l.getD i a0))):=by
 simp only [getE,List.length_map,List.getElem?_map];refine propext ⟨λh=>⟨h.1,h.2 _ (by simp [h.1,List.getD_eq_getElem?_getD])⟩,λh=>⟨h.1,λe he=>?_⟩⟩
 simp [h.1]at he;subst he;have:=h.2;simpa [List.getD_eq_getElem?_getD,h.1] using this
theorem UaH(x:Arc):CleanL (aC x):=by
 intro c hc;simp only [aC,List.mem_cons,List.not_mem_nil,or_false]at hc;rcases hc with rfl | rfl | rfl | rfl | rfl | rfl
 .exact of_eq_true (xh _)
 .exact of_eq_true (wh _)
 .exact of_eq_true (Yh _)
 .exact of_eq_true (xh _)
 .exact of_eq_true (wh _)
 .exact of_eq_true (Yh _)
theorem uM(l:List Arc):CleanR (l.map aC)=True:=eq_true λe he c hc=>by
 obtain⟨x,_,rfl⟩:=List.mem_map.1 he;exact UaH x c hc
theorem ZB(l:List Arc):Clean (.slice (l.map aC))=True:=eq_true (.slice _ (of_eq_true (uM l)))
theorem yaP(x:Arc):(aC x).length=6:=eq_of_heq (HEq.refl _)
theorem zaP(l:List Arc):(∀e∈l.map aC,e.length=6)=True:=eq_true λe he=>by
 obtain⟨x,_,rfl⟩:=List.mem_map.1 he;rfl
theorem qa9(l:List Arc)(i:Nat)(x y:R):(l.map aC).set i [cb x,cn x,cd x,cb y,cn y,cd y]=(l.set i (x,y)).map aC:=by
 rw [List.map_set];rfl
theorem XaW(l:List Arc)(i:Nat)(x:Arc):(l.map aC).set i (aC x)=(l.set i x).map aC:=by rw [List.map_set]
theorem ZaT(h:Nat->HB)(x:Arc):(aC x).map (datC h)=aC x:=eq_of_heq (HEq.refl _)
theorem waP(x:Arc):(aC x).flatMap ownC=[]:=eq_of_heq (HEq.refl _)
theorem yaZ(l:List Arc)(n:Nat):(l.map aC).take n=(l.take n).map aC:=by rw [List.map_take]
theorem ya1(l:List Arc)(n:Nat):(l.map aC).drop n=(l.drop n).map aC:=by rw [List.map_drop]
theorem qa1(l m:List Arc):l.map aC++m.map aC=(l++m).map aC:=by rw [List.map_append]
theorem UaO(l:List Arc):asA l=.one (.slice (l.map aC)):=eq_of_heq (HEq.refl _)
theorem Wa7(l:List Arc):as l=.slice (l.map aC):=eq_of_heq (HEq.refl _)
theorem Ua8(x:Arc):aA x=.agg (aC x):=eq_of_heq (HEq.refl _)
attribute [go_sem] vbh Qbi YF xab VaN XaP YaO JaA uM ZB yaP zaP ZaT waP qa9 XaW yaZ ya1 qa1 UaO Wa7 Ua8
attribute [go_sem ↓] vbh Qbi YF xab VaN XaP YaO JaA uM ZB yaP zaP ZaT waP UaO Wa7 Ua8
end Go.Abs
end
section
namespace Go.Num
abbrev Q2:=Rat×Rat
def mem(x:Rat)(a:Q2):Prop:=a.1<=x/\x<a.2
def memL(x:Rat)(l:List Q2):Prop:=∃a∈l,mem x a
theorem JO(x:Rat):¬memL x []:=λ⟨_,h,_⟩=>by simp at h
theorem kG{x:Rat}{a:Q2}{l:List Q2}:memL x (a::l)↔mem x a∨memL x l:=by
 unfold memL;simp
theorem Vl{x:Rat}{l m:List Q2}:memL x (l++m)↔memL x l∨memL x m:=by
 unfold memL;simp only [List.mem_append];exact⟨λ⟨a,h,h'⟩=>h.elim (λh=>.inl ⟨a,h,h'⟩) (λh=>.inr ⟨a,h,h'⟩),λh=>h.elim (λ⟨a,h,h'⟩=>⟨a,.inl h,h'⟩) (λ⟨a,h,h'⟩=>⟨a,.inr h,h'⟩)⟩
theorem YaF{x:Rat}{l m:List Q2}(p:l.Perm m):memL x l↔memL x m:=by
 unfold memL;exact⟨λ⟨a,h,h'⟩=>⟨a,p.mem_iff.1 h,h'⟩,λ⟨a,h,h'⟩=>⟨a,p.mem_iff.2 h,h'⟩⟩
def Pos(l:List Q2):Prop:=∀a∈l,a.1<a.2
def Apart(l:List Q2):Prop:=l.Pairwise λa b=>a.2<b.1
theorem lt_of_lt_of_le{a b c:Rat}(h:a<b)(h' : b<=c):a<c:=by grind
theorem lt_of_le_of_lt{a b c:Rat}(h:a<=b)(h' : b<c):a<c:=by grind
abbrev Sw:=Option (List Q2×Q2)
def swOut:Sw->List Q2
 | none=>[]
 | some (o,z)=>o++[z]
def mxQ(p q:Rat):Rat:=if q<=p then p else q
def swStep:Sw->Q2->Sw
 | none,a=>some ([],a)
 | some (o,z),a=>if a.1<=z.2 then some (o,(z.1,mxQ z.2 a.2)) else some (o++[z],a)
def sweep(l:List Q2):List Q2:=swOut (l.foldl swStep none)
def SortQ(l:List Q2):Prop:=l.Pairwise λa b=>a.1<=b.1
theorem yv:∀(l:List Q2) (w:Sw) (p:List Q2),Pos l->SortQ l->Pos (swOut w)->Apart (swOut w)->(∀x,memL x (swOut w)↔memL x p)->
  (∀o z,w=some (o,z)->∀a∈l,z.1<=a.1)->Pos (swOut (l.foldl swStep w))/\Apart (swOut (l.foldl swStep w))/\∀x,memL x (swOut (l.foldl swStep w))↔memL x (p++l)
 | [],w,p,_,_,h1,h2,h3,_=>⟨h1,h2,by simpa using h3⟩
 | a::l,w,p,hp,hs,h1,h2,h3,h4=>by
  obtain⟨hs1,hs2⟩:=List.pairwise_cons.1 hs;have hp' : Pos l:=λb hb=>hp b (by simp [hb])
  have ha:=hp a (by simp)
  have e:p++a::l=(p++[a])++l:=by simp
  rw [List.foldl_cons,e];match w,h1,h2,h3,h4 with
  | none,h1,h2,h3,h4=>
   refine yv l _ (p++[a]) hp' hs2 ?_ ?_ ?_ ?_
   .intro b hb;simp [swStep,swOut]at hb;subst hb;exact ha
   .simp [swStep,swOut,Apart]
   .intro x;rw [Vl,<-h3 x];simp [swStep,swOut,kG,JO]
   .intro o z he b hb;simp only [swStep,zOI,Prod.mk.injEq]at he;rw [<-he.2];exact hs1 b hb
  | some (o,z),h1,h2,h3,h4=>
   have hz:=h4 o z rfl a (by simp)
   have hzz:=h1 z (by simp [swOut])
   simp only [swStep];split
   .rename_i hle;have hm:z.2<=mxQ z.2 a.2/\a.2<=mxQ z.2 a.2/\(mxQ z.2 a.2=z.2∨mxQ z.2 a.2=a.2):=by unfold mxQ;split <;> grind
    obtain⟨m1,m2,m3⟩:=hm;refine yv l _ (p++[a]) hp' hs2 ?_ ?_ ?_ ?_
    .intro b hb;simp only [swOut,List.mem_append,List.mem_singleton]at hb;rcases hb with hb | rfl
     .exact h1 b (by simp [swOut,hb])
     .simp only;grind
    .simp only [swOut,Apart]at h2 ⊢;obtain⟨k1,k2,k3⟩:=List.pairwise_append.1 h2;refine List.pairwise_append.2 ⟨k1,by simp,λb hb c hc=>?_⟩
     rw [List.mem_singleton]at hc;subst hc;exact k3 b hb z (by simp)
    .intro x;rw [Vl,<-h3 x];simp only [swOut,Vl,kG,JO,or_false,mem];constructor
     .rintro(h | ⟨h,h'⟩)
      .exact .inl (.inl h)
      .by_cases hx:x<z.2
       .exact .inl (.inr ⟨h,hx⟩)
       .refine .inr ⟨by grind,by grind⟩
     .rintro((h | ⟨h,h'⟩) | ⟨h,h'⟩)
      .exact .inl h
      .exact .inr ⟨h,by grind⟩
      .exact .inr ⟨by grind,by grind⟩
    .intro o' z' he b hb;simp only [zOI,Prod.mk.injEq]at he;rw [<-he.2];exact h4 o z rfl b (by simp [hb])
   .rename_i hlt;refine yv l _ (p++[a]) hp' hs2 ?_ ?_ ?_ ?_
    .intro b hb;simp only [swOut,List.mem_append,List.mem_singleton]at hb;rcases hb with hb | rfl
     .exact h1 b (by simpa [swOut] using hb)
     .exact ha
    .simp only [swOut,Apart]at h2 ⊢;refine List.pairwise_append.2 ⟨h2,by simp,λb hb c hc=>?_⟩
     rw [List.mem_singleton]at hc;subst hc;rcases List.mem_append.1 hb with hb | hb
     .have k3:=(List.pairwise_append.1 h2).2.2 b hb z (by simp)
      grind
     .rw [List.mem_singleton]at hb;subst hb;grind
    .intro x;rw [Vl,<-h3 x];simp only [swOut,Vl,kG,JO,or_false]
    .intro o' z' he b hb;simp only [zOI,Prod.mk.injEq]at he;rw [<-he.2];exact hs1 b hb
theorem vaK{l:List Q2}(hp:Pos l)(hs:SortQ l):Pos (sweep l)/\Apart (sweep l)/\∀x,memL x (sweep l)↔memL x l:=by
 have:=yv l none [] hp hs (by simp [swOut,Pos]) (by simp [swOut,Apart]) (by simp [swOut]) (by simp)
 simpa [sweep] using this
def nrm(l:List Q2):List Q2:=sweep (l.mergeSort λa b=>decide (a.1<=b.1))
theorem UT(l:List Q2):SortQ (l.mergeSort λa b=>decide (a.1<=b.1)):=by
 have:=List.pairwise_mergeSort (le:=λa b:Q2=>decide (a.1<=b.1)) (λa b c h1 h2=>by
  simp only [decide_eq_true_eq]at *;exact Rat.le_trans h1 h2) (λa b=>by
  simp only [Bool.or_eq_true,decide_eq_true_eq];exact Rat.le_total) l
 exact this.imp λh=>by simpa using h
theorem VaG{l m:List Q2}(p:l.Perm m)(h:Pos l):Pos m:=λa ha=>h a (p.mem_iff.2 ha)
theorem Jl{l:List Q2}(hp:Pos l):Pos (nrm l)/\Apart (nrm l)/\∀x,memL x (nrm l)↔memL x l:=by
 have p:=List.mergeSort_perm l λa b=>decide (a.1<=b.1);obtain⟨h1,h2,h3⟩:=vaK (VaG p.symm hp) (UT l);exact⟨h1,h2,λx=>(h3 x).trans (YaF p)⟩
end Go.Num
end
section
namespace Go.Num
def badA(x:Arc):Bool:=!vldR x.1 || (!vldR x.2 || (decide (rv x.1<0) || (decide (1<rv x.2) || decide (rv x.2<=rv x.1))))
def chk1(l:List Arc):Nat:=if 64<l.length then 4 else if l.any badA then 3 else 0
def chk:List (List Arc)->Nat
 | []=>0
 | l::L=>if chk1 l≠0 then chk1 l else chk L
def vals(l:List Arc):List Q2:=l.map av
structure GoodA (x:Arc):Prop where
 v1:vldR x.1=true
 v2:vldR x.2=true
 lo:0<=rv x.1
 hi:rv x.2<=1
 lt:rv x.1<rv x.2
def frac(q:Rat):Rat:=q-(q.floor:Rat)
end Go.Num
namespace Go.Abs
open Go.Num
def lC(l:List Arc):List C:=[as l]
def lsA(L:List (List Arc)):AV:=.one (.slice (L.map lC))
theorem Ja7{x y:List Arc}(h:lC x=lC y):x=y:=xM x y (by simpa [lC,asA] using h)
theorem Va3(x y:List (List Arc))(h:lsA x=lsA y):x=y:=by
 simp only [lsA,AV.one.injEq,C.slice.injEq]at h;exact List.map_inj_right (λ_ _=>Ja7) |>.1 h
def onL(k:List (List Arc)->Prop)(a:AV):Prop:=onE lsA (λL=>(∀l∈L,∀x∈l,WLA x)/\k L) a
@[congr] theorem Vbn{k:List (List Arc)->Prop}{a a'}(h:a=a'):onL k a=onL k a':=by subst h;rfl
theorem VaL(k:List (List Arc)->Prop)(L:List (List Arc)):onL k (.one (.slice (L.map lC)))=((∀l∈L,∀x∈l,WLA x)/\k L):=Vj Va3 (λL=>(∀l∈L,∀x∈l,WLA x)/\k L) L
theorem Jbb(k:List (List Arc)->Prop)(l:List Arc):onL k (.one (.slice [[.slice (l.map aC)]]))=((∀x∈l,WLA x)/\k [l]):=by
 have:=VaL k [l];simp only [List.map_cons,List.map_nil,List.mem_singleton,forall_eq]at this;exact this
theorem Ubg(k:List (List Arc)->Prop)(l m:List Arc):onL k (.one (.slice [[.slice (l.map aC)],[.slice (m.map aC)]]))=(((∀x∈l,WLA x)/\(∀x∈m,WLA x))/\k [l,m]):=by
 have:=VaL k [l,m];simp only [List.map_cons,List.map_nil,List.mem_cons,List.not_mem_nil,or_false,forall_eq_or_imp,forall_eq]at this;exact this
theorem VaZ(l:List Arc):lC l=[.slice (l.map aC)]:=eq_of_heq (HEq.refl _)
theorem uaN(L:List (List Arc)):lsA L=.one (.slice (L.map lC)):=eq_of_heq (HEq.refl _)
theorem xaq(K:List C->Prop)(L:List (List Arc))(i:Nat):getE K (L.map lC) i=(i<L.length/\K (lC (L.getD i []))):=by
 simp only [getE,List.length_map,List.getElem?_map];refine propext ⟨λh=>⟨h.1,h.2 _ (by simp [h.1,List.getD_eq_getElem?_getD])⟩,λh=>⟨h.1,λe he=>?_⟩⟩
 simp [h.1]at he;subst he;have:=h.2;simpa [List.getD_eq_getElem?_getD,h.1] using this
theorem yai(L:List (List Arc)):Clean (.slice (L.map lC))=True:=eq_true (.slice _ λe he c hc=>by
 obtain⟨l,_,rfl⟩:=List.mem_map.1 he;rw [VaZ,List.mem_singleton]at hc;subst hc;exact of_eq_true (ZB l))
theorem QaS(l:List Arc):(lC l).length=1:=eq_of_heq (HEq.refl _)
theorem xaU(L:List (List Arc)):(∀e∈L.map lC,e.length=1)=True:=eq_true λe he=>by
 obtain⟨l,_,rfl⟩:=List.mem_map.1 he;rfl
attribute [go_sem,go_sem ↓] VaL Jbb Ubg uaN xaq yai QaS xaU VaZ
end Go.Abs
end
