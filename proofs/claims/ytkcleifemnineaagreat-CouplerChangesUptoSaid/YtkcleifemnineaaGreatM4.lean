/-
  Parts of the proof, merged: ArgA, IntA, IntB, IntI, IntJ, RatA, RatB, BaseA, ChartA, ChartP, ChartC.
-/
import Derived.Test.YtkcleifemnineaaGreatM3
import Derived.ChangeArms
import Derived.ChangeStays
import Derived.Calls
import Derived.Lib.BitFns
import Init.Data.Rat.Lemmas
set_option linter.unusedVariables false
set_option linter.unusedSimpArgs false
set_option maxRecDepth 100000
section
namespace Go.Abs
structure Bk {H:Type} (bulk:DataW H→Nat):Prop where
 sl:∀es sp,es.length≤bulk (.slice es sp)
 se:∀es sp e,e∈es→bulk e≤bulk (.slice es sp)
 ag:∀ps e,e∈ps→bulk e≤bulk (.agg ps)
def Old (w:World):Nat→Prop:=fun b=>b<w.heap.size
def Opens {H:Type} (enc:TypeId×Value→H) (bulk:DataW H→Nat) (P:Program) (w:World) (t:TypeId) {α:Type} (e:α→List C) (ok:Nat→α→Prop):Prop:=
 ∀fuel cs x,DataW.trod enc P w 0 (fun _=>true) true fuel t cs=some x→∃a:α,ok (bulk x.1) a∧RL M0 (Old w) w.heap (e a) cs
variable {H:Type} {enc:TypeId×Value→H} {bulk:DataW H→Nat} {P:Program} {w:World} {α β γ δ:Type}
theorem RL.nil {m:M} {I:Nat→Prop} {h:Array Obj}:RL m I h [] []:=⟨rfl,fun i c v hc=>by simp at hc⟩
theorem RL.one {m:M} {I:Nat→Prop} {h:Array Obj} {c:C} {v:Value} (hc:RC m I h c v):RL m I h [c] [v]:=
 ⟨rfl,fun i c' v' h1 h2=>by
  cases i with
  | zero=>simp at h1 h2;subst h1 h2;exact hc
  | succ i=>simp at h1⟩
theorem RL.append {m:M} {I:Nat→Prop} {h:Array Obj} {a b:List C} {u v:List Value} (h1:RL m I h a u) (h2:RL m I h b v):RL m I h (a++b) (u++v):=by
 refine ⟨by simp [h1.1,h2.1],fun i c x hc hx=>?_⟩
 by_cases hi:i<a.length
 ·rw [List.getElem?_append_left hi]at hc
  rw [List.getElem?_append_left (by rw [←h1.1];exact hi)]at hx
  exact h1.2 i c x hc hx
 ·rw [List.getElem?_append_right (by omega)]at hc
  rw [List.getElem?_append_right (by rw [←h1.1];omega),←h1.1]at hx
  exact h2.2 _ c x hc hx
theorem zO {t:TypeId} (ht:P.underlying t=some .bool):Opens enc bulk P w t (fun b:Bool=>[.lit (.bool b)]) (fun _ _=>True):=by
 intro fuel cs x h
 obtain ⟨b,rfl,_⟩:=DataW.trod_bool ht h
 exact ⟨b,trivial,.one (.lit _ rfl)⟩
theorem waJ {t:TypeId} (ht:P.underlying t=some (.int .u32)):Opens enc bulk P w t (fun n:Nat=>[.lit (.int .u32 n)]) (fun _ n=>n<4294967296):=by
 intro fuel cs x h
 obtain ⟨n,rfl,_,hw⟩:=DataW.trod_int ht h
 have hx:0≤n∧n≤4294967295:=by simpa [Lit.wf,IntKind.min,IntKind.max,IntKind.signed,IntKind.bits] using hw
 refine ⟨n.toNat,by omega,?_⟩
 have e:((n.toNat:Nat):Int)=n:=by omega
 show RL M0 (Old w) w.heap [C.lit (.int .u32 ((n.toNat:Nat):Int))] [.int .u32 n]
 rw [e]
 exact .one (.lit _ rfl)
theorem JI {Q:Nat→α→Prop}:∀n:Nat,(∀i,i<n→∃a,Q i a)→∃l:List α,l.length=n∧∀i a,l[i]?=some a→Q i a
  | 0,_=>⟨[],rfl,fun i a h=>by simp at h⟩
  | n+1,h=>by
    obtain ⟨l,hl,hq⟩:=JI n fun i hi=>h i (by omega)
    obtain ⟨a,ha⟩:=h n (by omega)
    refine ⟨l++[a],by simp [hl],fun i b hb=>?_⟩
    by_cases hi:i<n
    · rw [List.getElem?_append_left (by omega)]at hb;exact hq i b hb
    · rw [List.getElem?_append_right (by omega)]at hb
      cases hj:i-l.length with
      | zero => rw [hj] at hb; simp at hb; subst hb; have : i = n := by omega
                subst this;exact ha
      | succ j=>rw [hj]at hb;simp at hb
def okLs (ok:Nat→α→Prop) (n:Nat) (l:List α):Prop:=l.length≤n∧∀x∈l,ok n x
theorem uad {t u:TypeId} {e:α→List C} {ok:Nat→α→Prop} (B:Bk bulk) (ht:P.underlying t=some (.slice u)) (hc:0<P.cellsOf u) (hlen:∀a,(e a).length=P.cellsOf u) (hcl:∀a,CleanL (e a))
  (mono:∀n n' a,n≤n'→ok n a→ok n' a) (h:Opens enc bulk P w u e ok):Opens enc bulk P w t (fun l:List α=>[.slice (l.map e)]) (okLs ok):=by
 intro fuel cs x hx
 rcases DataW.trod_slice ht hx with ⟨rfl,rfl⟩ | ⟨a,len,cap,elems,rest,n,rfl,rfl,rfl,_,hlc,hcap,hel,hget,_,_⟩
 ·exact ⟨[],⟨Nat.zero_le _,fun x hx=>by simp at hx⟩,.one (.snil none 0)⟩
 ·obtain ⟨s,hs⟩:∃s,s=P.cellsOf u:=⟨_,rfl⟩
  rw [←hs]at hget hc
  by_cases h0:len=0
  ·subst h0
   exact ⟨[],⟨Nat.zero_le _,fun x hx=>by simp at hx⟩,.one (.snil (some a) cap)⟩
  have row:∀i,i<len→∃csi y,elems[i]?=some y∧csi.length=s∧(∀j,j<s→w.cell? ((a.add (i*s)).add j)=csi[j]?)∧DataW.trod enc P w 0 (fun _=>true) true n u csi=some y:=by
   intro i hi
   have hg:=hget i hi
   rw [List.getElem?_eq_getElem (by omega)]at hg
   obtain ⟨csi,hcs,htr⟩:=Option.bind_eq_some_iff.1 hg
   obtain ⟨_,h2,h3⟩:=World.cells?_some hcs
   exact ⟨csi,_,List.getElem?_eq_getElem (by omega),h2,h3,htr⟩
  obtain ⟨arr,ty,fz,hblk,hspot⟩:∃arr ty fz,w.heap[a.block]?=some (.cells arr ty fz)∧a.spot=none:=by
   obtain ⟨csi,y,_,hl,hcell,_⟩:=row 0 (by omega)
   have h1:=hcell 0 hc
   rw [List.getElem?_eq_getElem (by omega)]at h1
   simp only [Nat.zero_mul,Addr.add,if_true]at h1
   unfold World.cell? at h1
   split at h1
   ·rename_i c ty fz hb
    refine ⟨c,ty,fz,hb,?_⟩
    split at h1
    ·simp at h1
    ·rename_i hsp;simpa using hsp
   ·simp at h1
  obtain ⟨b,off,sp⟩:=a
  simp only at hspot hblk
  subst hspot
  have cellAt:∀i j,i<len→j<s→w.cell? (((⟨b,off,none⟩:Addr).add (i*s)).add j)=arr[off+i*s+j]?:=by
   intro i j hi hj
   have e:((⟨b,off,none⟩:Addr).add (i*s)).add j=⟨b,off+i*s+j,none⟩:=by
    unfold Addr.add
    by_cases h1:i*s=0 <;> by_cases h2:j=0 <;> simp [h1,h2]
   rw [e]
   simp [World.cell?,hblk]
  have hch:∀i,i<len→∃a:α,(∃y,elems[i]?=some y∧ok (bulk y.1) a)∧∃csi:List Value,csi.length=s∧(∀j,j<s→arr[off+i*s+j]?=csi[j]?)∧RL M0 (Old w) w.heap (e a) csi:=by
   intro i hi
   obtain ⟨csi,y,hy,hl,hcell,htr⟩:=row i hi
   obtain ⟨x,hok,hrl⟩:=h n csi y htr
   exact ⟨x,⟨y,hy,hok⟩,csi,hl,fun j hj=>by rw [←cellAt i j hi hj];exact hcell j hj,hrl⟩
  obtain ⟨l,hll,hl⟩:=JI len hch
  refine ⟨l,⟨by rw [hll,←hel];have:=B.sl (elems.map (·.1)) (rest.map (·.1));simpa using this,fun z hz=>?_⟩,.one ?_⟩
  ·obtain ⟨i,hi⟩:=List.getElem?_of_mem hz
   obtain ⟨⟨y,hy,hok⟩,_⟩:=hl i z hi
   exact mono _ _ _ (B.se _ _ _ (List.mem_map.2 ⟨y,List.mem_of_getElem? hy,rfl⟩)) hok
  ·have hRC:RC M0 (Old w) w.heap (.slice (l.map e)) (.slice (some ⟨b,off,none⟩) (l.map e).length cap):=by
    refine .slice (l.map e) s b off cap arr ty fz (fun i j=>(arr[off+i*s+j]?).getD undef) ?_ ?_ ?_ ?_ hblk ?_ ?_ ?_
    ·intro r hr c hc'
     obtain ⟨z,_,rfl⟩:=List.mem_map.1 hr
     exact hcl z c hc'
    ·rw [List.length_map,hll]
     exact Nat.le_trans (Nat.le_trans hlc hcap) (by decide)
    ·rw [List.length_map,hll];exact hlc
    ·exact (Array.getElem?_eq_some_iff.1 hblk).1
    ·intro r hr
     obtain ⟨z,_,rfl⟩:=List.mem_map.1 hr
     rw [hlen z,hs]
    ·intro i j hi hj
     rw [List.length_map,hll]at hi
     obtain ⟨_,csi,hcl,hcell,_⟩:=hl i _ (List.getElem?_eq_getElem (by omega))
     rw [hcell j hj,List.getElem?_eq_getElem (by omega)]
     rfl
    ·intro i j r c hr hc'
     rw [List.getElem?_map]at hr
     obtain ⟨z,hz,rfl⟩:=Option.map_eq_some_iff.1 hr
     obtain ⟨_,csi,hcl,hcell,hrl⟩:=hl i z hz
     have hj:j<s:=by
      have:=(List.getElem?_eq_some_iff.1 hc').1
      rw [hlen z,←hs]at this;exact this
     rw [hcell j hj]
     have hcs:=List.getElem?_eq_getElem (l:=csi) (i:=j) (by omega)
     rw [hcs]
     exact hrl.2 j c _ hc' hcs
   rw [List.length_map,hll]at hRC
   exact hRC
theorem qx {t:TypeId} {f0 f1:Field} {e0:α→List C} {e1:β→List C} {ok0:Nat→α→Prop} {ok1:Nat→β→Prop} (B:Bk bulk) (ht:P.underlying t=some (.struct #[f0,f1]))
  (h0:f0.offset=0) (h1:f1.offset=P.cellsOf f0.type) (hs:P.cellsOf t=P.cellsOf f0.type+P.cellsOf f1.type)
  (m0:∀n n' a,n≤n'→ok0 n a→ok0 n' a) (m1:∀n n' a,n≤n'→ok1 n a→ok1 n' a) (g0:Opens enc bulk P w f0.type e0 ok0) (g1:Opens enc bulk P w f1.type e1 ok1) :
  Opens enc bulk P w t (fun a:α×β=>e0 a.1++e1 a.2) (fun n a=>ok0 n a.1∧ok1 n a.2):=by
 intro fuel cs x hx
 obtain ⟨xs,n,_,rfl,hl,hlen,hf⟩:=DataW.trod_struct ht hx
 match xs,hlen with
 | [y0,y1],_=>
  have q0:=hf 0 f0 rfl
  have q1:=hf 1 f1 rfl
  rw [h0]at q0;rw [h1]at q1
  obtain ⟨a,ha,ra⟩:=g0 n _ y0 q0
  obtain ⟨b,hb,rb⟩:=g1 n _ y1 q1
  refine ⟨(a,b),⟨m0 _ _ _ (B.ag _ _ (by simp)) ha,m1 _ _ _ (B.ag _ _ (by simp)) hb⟩,?_⟩
  have:=ra.append rb
  rw [List.drop_zero,List.take_of_length_le (l:=cs.drop (P.cellsOf f0.type)) (by rw [List.length_drop];omega),List.take_append_drop]at this
  exact this
theorem JT {t:TypeId} {f0 f1 f2:Field} {e0:α→List C} {e1:β→List C} {e2:γ→List C} {ok0:Nat→α→Prop} {ok1:Nat→β→Prop} {ok2:Nat→γ→Prop} (B:Bk bulk) (ht:P.underlying t=some (.struct #[f0,f1,f2]))
  (h0:f0.offset=0) (h1:f1.offset=P.cellsOf f0.type) (h2:f2.offset=P.cellsOf f0.type+P.cellsOf f1.type) (hs:P.cellsOf t=P.cellsOf f0.type+P.cellsOf f1.type+P.cellsOf f2.type)
  (m0:∀n n' a,n≤n'→ok0 n a→ok0 n' a) (m1:∀n n' a,n≤n'→ok1 n a→ok1 n' a) (m2:∀n n' a,n≤n'→ok2 n a→ok2 n' a)
  (g0:Opens enc bulk P w f0.type e0 ok0) (g1:Opens enc bulk P w f1.type e1 ok1) (g2:Opens enc bulk P w f2.type e2 ok2) :
  Opens enc bulk P w t (fun a:α×β×γ=>e0 a.1++e1 a.2.1++e2 a.2.2) (fun n a=>ok0 n a.1∧ok1 n a.2.1∧ok2 n a.2.2):=by
 intro fuel cs x hx
 obtain ⟨xs,n,_,rfl,hl,hlen,hf⟩:=DataW.trod_struct ht hx
 match xs,hlen with
 | [y0,y1,y2],_=>
  have q0:=hf 0 f0 rfl
  have q1:=hf 1 f1 rfl
  have q2:=hf 2 f2 rfl
  rw [h0]at q0;rw [h1]at q1;rw [h2]at q2
  obtain ⟨a,ha,ra⟩:=g0 n _ y0 q0
  obtain ⟨b,hb,rb⟩:=g1 n _ y1 q1
  obtain ⟨c,hc,rc⟩:=g2 n _ y2 q2
  refine ⟨(a,b,c),⟨m0 _ _ _ (B.ag _ _ (by simp)) ha,m1 _ _ _ (B.ag _ _ (by simp)) hb,m2 _ _ _ (B.ag _ _ (by simp)) hc⟩,?_⟩
  have:=(ra.append rb).append rc
  rw [List.drop_zero,List.take_of_length_le (l:=cs.drop (P.cellsOf f0.type+P.cellsOf f1.type)) (by rw [List.length_drop];omega),←List.take_add,List.take_append_drop]at this
  exact this
end Go.Abs
end
section
namespace Go.Num
def val:List Nat→Nat
 | []=>0
 | x::l=>x+4294967296*val l
def WL (l:List Nat):Prop:=∀x∈l,x<4294967296
def dig:Nat→Nat→List Nat
 | 0,_=>[]
 | k+1,n=>n % 4294967296::dig k (n / 4294967296)
def digs (n:Nat):List Nat:=if n=0 then [] else n % 4294967296::digs (n / 4294967296)
termination_by n
decreasing_by exact Nat.div_lt_self (by omega) (by omega)
theorem jc:WL []:=fun x h=>by simp at h
theorem qc {x:Nat} {l:List Nat}:WL (x::l)↔x<4294967296∧WL l:=by simp [WL]
theorem Je {a b:List Nat}:WL (a++b)↔WL a∧WL b:=by
 simp only [WL,List.mem_append]
 exact ⟨fun h=>⟨fun x hx=>h x (.inl hx),fun x hx=>h x (.inr hx)⟩,fun h x hx=>hx.elim (h.1 x) (h.2 x)⟩
theorem Xx {l:List Nat} (h:WL l) (n:Nat):WL (l.take n):=fun x hx=>h x (List.mem_of_mem_take hx)
theorem Qbc {l:List Nat} (h:WL l) (n:Nat):WL (l.drop n):=fun x hx=>h x (List.mem_of_mem_drop hx)
theorem ZaS (n:Nat):WL (List.replicate n 0):=fun x hx=>by rw [List.mem_replicate]at hx;omega
theorem wb {l:List Nat} (h:WL l) (i:Nat):l.getD i 0<4294967296:=by
 rw [List.getD_eq_getElem?_getD]
 cases e:l[i]? with
 | none=>simp
 | some x=>exact h x (List.mem_of_getElem? e)
theorem pow_pos (k:Nat):0<4294967296 ^ k:=Nat.pow_pos (by omega)
theorem Zo:val []=0:=rfl
theorem Zj (x:Nat) (l:List Nat):val (x::l)=x+4294967296*val l:=rfl
theorem Ub:∀(a b:List Nat),val (a++b)=val a+4294967296 ^ a.length*val b
 | [],b=>by simp [val]
 | x::a,b=>by
  rw [List.cons_append,val,val,Ub a b,List.length_cons,Nat.pow_succ,Nat.mul_add,Nat.mul_comm (4294967296 ^ a.length) 4294967296,Nat.mul_assoc,Nat.add_assoc]
theorem jn:∀{l:List Nat},WL l→val l<4294967296 ^ l.length
 | [],_=>by simp [val]
 | x::l,h=>by
  have h2:=jn (qc.1 h).2
  have h1:=(qc.1 h).1
  rw [val,List.length_cons,Nat.pow_succ]
  generalize 4294967296 ^ l.length=p at h2 ⊢
  omega
theorem WS:∀n:Nat,val (List.replicate n 0)=0
 | 0=>rfl
 | n+1=>by rw [List.replicate_succ,val,WS n]
theorem Yb (l:List Nat) (i:Nat):val (l.take (i+1))=val (l.take i)+4294967296 ^ i*l.getD i 0:=by
 rw [List.getD_eq_getElem?_getD]
 rcases Nat.lt_or_ge i l.length with h | h
 ·rw [List.take_add_one,Ub,List.length_take,Nat.min_eq_left (by omega)]
  simp [h,val]
 ·rw [List.take_of_length_le (by omega),List.take_of_length_le h]
  simp [h]
theorem qj {l:List Nat} {n:Nat} (h:l.length≤n):val (l.take n)=val l:=by rw [List.take_of_length_le h]
theorem zK (l:List Nat) (i:Nat) (h:i<l.length):val l=val (l.take i)+4294967296 ^ i*(l.getD i 0+4294967296*val (l.drop (i+1))):=by
 have e:l=l.take i++(l.getD i 0::l.drop (i+1)):=by
  rw [List.getD_eq_getElem?_getD,List.getElem?_eq_getElem h,Option.getD_some,List.getElem_cons_drop,List.take_append_drop]
 have h2:(l.take i).length=i:=by simp;omega
 calc val l=val (l.take i++(l.getD i 0::l.drop (i+1))):=congrArg val e
  _=_:=by rw [Ub,h2,val]
theorem Xa:∀(k n:Nat),(dig k n).length=k
 | 0,_=>rfl
 | k+1,n=>by rw [dig,List.length_cons,Xa k]
theorem um:∀(k n:Nat),WL (dig k n)
 | 0,_=>jc
 | k+1,n=>qc.2 ⟨Nat.mod_lt _ (by omega),um k _⟩
theorem Wl:∀(k n:Nat),val (dig k n)=n % 4294967296 ^ k
 | 0,n=>by simp [dig,val,Nat.mod_one]
 | k+1,n=>by rw [dig,val,Wl k,Nat.pow_succ,Nat.mul_comm (4294967296 ^ k),Nat.mod_mul]
theorem uB:∀{l:List Nat},WL l→dig l.length (val l)=l
 | [],_=>rfl
 | x::l,h=>by
  obtain ⟨h1,h2⟩:=qc.1 h
  rw [List.length_cons,dig,val]
  rw [show (x+4294967296*val l) % 4294967296=x by omega,show (x+4294967296*val l) / 4294967296=val l by omega,uB h2]
theorem zai {a b:List Nat} (ha:WL a) (hb:WL b) (hl:a.length=b.length) (h:val a=val b):a=b:=by
 rw [←uB ha,←uB hb,hl,h]
theorem yb:digs 0=[]:=by rw [digs];rfl
theorem Zu {n:Nat} (h:n≠0):digs n=n % 4294967296::digs (n / 4294967296):=by rw [digs,if_neg h]
theorem Ya (n:Nat):WL (digs n):=by
 induction n using Nat.strongRecOn with
 | ind n ih=>
  by_cases h:n=0
  ·subst h;rw [yb];exact jc
  ·rw [Zu h];exact qc.2 ⟨Nat.mod_lt _ (by omega),ih _ (Nat.div_lt_self (by omega) (by omega))⟩
theorem Ua (n:Nat):val (digs n)=n:=by
 induction n using Nat.strongRecOn with
 | ind n ih=>
  by_cases h:n=0
  ·subst h;rw [yb];rfl
  ·rw [Zu h,val,ih _ (Nat.div_lt_self (by omega) (by omega))];omega
def NZ (l:List Nat):Prop:=l.getLast?≠some 0
theorem Xp (n:Nat):NZ (digs n):=by
 induction n using Nat.strongRecOn with
 | ind n ih=>
  by_cases h:n=0
  ·subst h;rw [yb];simp [NZ]
  ·rw [Zu h]
   have h2:=ih (n / 4294967296) (Nat.div_lt_self (by omega) (by omega))
   unfold NZ at h2 ⊢
   by_cases hd:n / 4294967296=0
   ·rw [hd,yb];simp;omega
   ·rw [Zu hd]at h2 ⊢
    rw [List.getLast?_cons_cons];exact h2
theorem qai {x:Nat} {l:List Nat} (h:NZ (x::l)):NZ l:=by
 cases l with
 | nil=>simp [NZ]
 | cons y l=>unfold NZ at h ⊢;rwa [List.getLast?_cons_cons]at h
theorem Wc:∀{l:List Nat},NZ l→l≠[]→val l≠0
 | [x],h,_=>by simp [NZ]at h;simp [val];exact h
 | x::y::l,h,_=>by
  have:=Wc (qai h) (by simp)
  rw [val];omega
theorem yd:∀{l:List Nat},WL l→NZ l→digs (val l)=l
 | [],_,_=>by rw [val,yb]
 | x::l,h,hz=>by
  obtain ⟨h1,h2⟩:=qc.1 h
  have hp:=Wc hz (by simp)
  rw [Zu hp,val]
  rw [show (x+4294967296*val l) % 4294967296=x by omega,show (x+4294967296*val l) / 4294967296=val l by omega,yd h2 (qai hz)]
theorem jx {n s:Nat} (h:n<4294967296 ^ s):(digs n).length≤s:=by
 induction s generalizing n with
 | zero=>simp at h;subst h;rw [yb];simp
 | succ s ih=>
  by_cases hn:n=0
  ·subst hn;rw [yb];simp
  ·rw [Zu hn,List.length_cons]
   have:n / 4294967296<4294967296 ^ s:=by
    rw [Nat.div_lt_iff_lt_mul (by omega)];rwa [Nat.pow_succ]at h
   have:=ih this
   omega
theorem vl (n:Nat):n<4294967296 ^ (digs n).length:=by
 have:=jn (Ya n)
 rwa [Ua]at this
theorem qaa {n s:Nat}:(digs n).length≤s↔n<4294967296 ^ s:=
 ⟨fun h=>Nat.lt_of_lt_of_le (vl n) (Nat.pow_le_pow_right (by omega) h),jx⟩
theorem wa {a b:Nat} (h:a≤b):(digs a).length≤(digs b).length:=jx (Nat.lt_of_le_of_lt h (vl b))
theorem xf {n:Nat}:digs n=[]↔n=0:=by
 constructor
 ·intro h;have:=Ua n;rw [h]at this;exact this.symm
 ·rintro rfl;exact yb
theorem xW {l:List Nat} (h:NZ l) (h0:l≠[]):4294967296 ^ (l.length-1)≤val l:=by
 induction l with
 | nil=>exact (h0 rfl).elim
 | cons x l ih=>
  cases l with
  | nil=>have:=Wc h h0;simp;omega
  | cons y l=>
   have:=ih (qai h) (by simp)
   rw [val]
   simp only [List.length_cons,Nat.add_sub_cancel]at this ⊢
   rw [Nat.pow_succ]
   omega
theorem QH {a b:List Nat} (ha:WL a) (hb:NZ b) (h:a.length<b.length):val a<val b:=by
 have h1:=jn ha
 have h2:=xW hb (by intro e;simp [e]at h)
 exact Nat.lt_of_lt_of_le h1 (Nat.le_trans (Nat.pow_le_pow_right (by omega) (by omega)) h2)
def ordN (a b:Nat):Int:=if a<b then -1 else if b<a then 1 else 0
theorem kad (o:List Nat) (m x:Nat):(o++List.replicate (m+1) 0).set o.length x=(o++[x])++List.replicate m 0:=by
 rw [List.set_append_right _ _ (Nat.le_refl _),Nat.sub_self,List.replicate_succ,List.set_cons_zero];simp
theorem qI {l:List Nat} {n:Nat} (h0:0<n) (hn:n≤l.length) (h:l.getD (n-1) 0≠0):NZ (l.take n):=by
 unfold NZ
 rw [List.getLast?_take,if_neg (by omega)]
 rw [List.getD_eq_getElem?_getD]at h
 cases e:l[n-1]? with
 | none=>rw [e]at h;exact (h rfl).elim
 | some y=>rw [e]at h;simp at h ⊢;exact h
theorem XG {n:Nat} (h:0<n):4294967296 ^ n=4294967296 ^ (n-1)*4294967296:=by
 cases n with
 | zero=>omega
 | succ n=>rw [Nat.pow_succ,Nat.add_sub_cancel]
theorem xF {l:List Nat} {n:Nat} (h:WL l) (hn:l.length≤n):val l<4294967296 ^ n:=
 Nat.lt_of_lt_of_le (jn h) (Nat.pow_le_pow_right (by omega) hn)
theorem Xbf {p B v c a b:Nat} (hB:2≤B) (ha:a<p) (hb:b<p) (h:v+p*B*c=a+b):v=a+b:=by
 rcases Nat.eq_zero_or_pos c with hc | hc
 ·rw [hc,Nat.mul_zero,Nat.add_zero]at h;exact h
 ·have h1:p*B≤p*B*c:=Nat.le_mul_of_pos_right _ hc
  have h2:p*2≤p*B:=Nat.mul_le_mul_left _ hB
  omega
theorem zan {x y:List Nat} {n v c:Nat} (hx:WL x) (hy:WL y) (hn:0<n) (h1:x.length≤n-1) (h2:y.length≤n-1) (h:v+4294967296 ^ n*c=val x+val y):v=val x+val y:=by
 rw [XG hn]at h
 exact Xbf (by omega) (xF hx h1) (xF hy h2) h
def sub64 (a b:Nat):Nat:=(((a:Int)-(b:Int)) % 18446744073709551616).toNat
theorem Uz {a b:Nat} (h:b≤a) (ha:a<18446744073709551616):sub64 a b=a-b:=by unfold sub64;omega
theorem jav {a b:Nat} (h:a<b) (hb:b≤18446744073709551616):sub64 a b=18446744073709551616+a-b:=by unfold sub64;omega
theorem yan {a b c:Nat} (ha:a<4294967296) (hb:b<4294967296) (hc:c≤1) :
  sub64 (sub64 a b) c % 4294967296+b+c=a+4294967296*(sub64 (sub64 a b) c / 9223372036854775808)∧sub64 (sub64 a b) c / 9223372036854775808≤1:=by
 rcases Nat.lt_or_ge a b with h | h
 ·rw [jav h (by omega),Uz (show c≤18446744073709551616+a-b by omega) (by omega)];omega
 ·rw [Uz h (by omega)]
  rcases Nat.lt_or_ge (a-b) c with h2 | h2
  ·rw [jav h2 (by omega)];omega
  ·rw [Uz h2 (by omega)];omega
theorem yG {p vo c d a b t xa xb B:Nat} (h:vo+xb=xa+p*c) (hs:d+b+c=a+B*t):vo+p*d+(xb+p*b)=xa+p*a+p*B*t:=by
 have:=congrArg (p * ·) hs
 simp only [Nat.mul_add]at this
 rw [Nat.mul_assoc p B t]
 omega
theorem qH {o x y:List Nat} {c:Nat} (ho:WL o) (hx:WL x) (hl:o.length=x.length) (hle:val y≤val x) (h:val o+val (y.take o.length)=val (x.take o.length)+4294967296 ^ o.length*c):val o=val x-val y:=by
 rw [qj (l:=x) (by omega)]at h
 have h1:=jn ho
 have h2:=jn hx
 have h3:val y=val (y.take o.length)+4294967296 ^ o.length*val (y.drop o.length):=by
  rcases Nat.lt_or_ge o.length y.length with hh | hh
  ·conv=>lhs;rw [←List.take_append_drop o.length y,Ub,List.length_take,Nat.min_eq_left (by omega)]
  ·rw [List.take_of_length_le hh,List.drop_of_length_le hh];simp [val]
 rw [hl]at h h1 h3
 generalize 4294967296 ^ x.length=p at h h1 h2 h3
 have h4:val (y.drop x.length)=0:=by
  rcases Nat.eq_zero_or_pos (val (y.drop x.length)) with e | e
  ·exact e
  ·have:=Nat.le_mul_of_pos_right p e;omega
 rw [h4,Nat.mul_zero]at h3
 rcases Nat.eq_zero_or_pos c with e | e
 ·rw [e,Nat.mul_zero]at h;omega
 ·have:=Nat.le_mul_of_pos_right p e;omega
theorem ya7 {x y:List Nat} {i:Nat} (hx:WL x) (hl:x.length=y.length) (hi:i<x.length) (hd:x.drop (i+1)=y.drop (i+1)) (h:x.getD i 0<y.getD i 0):val x<val y:=by
 rw [zK x i hi,zK y i (by omega),hd]
 have h1:=jn (Xx hx i)
 rw [List.length_take,Nat.min_eq_left (by omega)]at h1
 generalize 4294967296 ^ i=p at h1 ⊢
 have:p*(x.getD i 0+4294967296*val (y.drop (i+1))+1)≤p*(y.getD i 0+4294967296*val (y.drop (i+1))):=Nat.mul_le_mul_left _ (by omega)
 rw [Nat.mul_add,Nat.mul_one]at this
 omega
theorem uV {a b:Nat} (h:a<b):ordN a b = -1:=by simp [ordN,h]
theorem kag {a b:Nat} (h:b<a):ordN a b=1:=by unfold ordN;rw [if_neg (by omega),if_pos h]
theorem xaS (a:Nat):ordN a a=0:=by simp [ordN]
theorem or32 (r a:Nat) (h:a<4294967296):(r*4294967296) ||| a=r*4294967296+a:=by
 have:=Nat.two_pow_add_eq_or_of_lt (i:=32) (b:=a) h r
 rw [Nat.mul_comm]at this
 exact this.symm
theorem or32' (r a:Nat) (h:a<4294967296):a ||| (r*4294967296)=r*4294967296+a:=by rw [Nat.or_comm,or32 r a h]
theorem YaK {m r q a d B:Nat} (hm:0<m) (h:q*m+r=d):(((r*B+a) / m)+B*q)*m+(r*B+a) % m=a+B*d:=by
 have:=Nat.div_add_mod (r*B+a) m
 subst h
 grind
theorem za0 {m r a:Nat} (hm:m<4294967296) (hr:r<m) (ha:a<4294967296):(r*4294967296+a) / m<4294967296∧r*4294967296+a<18446744073709551616:=by
 constructor
 ·rw [Nat.div_lt_iff_lt_mul (by omega)]
  have:(r+1)*4294967296≤m*4294967296:=Nat.mul_le_mul_right _ hr
  rw [Nat.mul_comm m]at this
  omega
 ·omega
theorem ZL (x:List Nat) {n:Nat} (h:0<n) (hn:n≤x.length):val (x.drop (n-1))=x.getD (n-1) 0+4294967296*val (x.drop n):=by
 have:x.drop (n-1)=x.getD (n-1) 0::x.drop n:=by
  rw [List.getD_eq_getElem?_getD,List.getElem?_eq_getElem (by omega),Option.getD_some]
  have:=List.getElem_cons_drop (as:=x) (i:=n-1) (by omega)
  rw [show n-1+1=n by omega]at this
  exact this.symm
 rw [this,val]
theorem jt {n:Nat} (q:List Nat) (x:Nat) (h:0<n):(List.replicate n 0++q).set (n-1) x=List.replicate (n-1) 0++(x::q):=by
 obtain ⟨n,rfl⟩:∃k,n=k+1:=⟨n-1,by omega⟩
 rw [Nat.add_sub_cancel,List.replicate_succ',List.append_assoc,List.set_append_right _ _ (by simp)]
 simp
theorem jF {m:Nat} (h:m<32):4294967296=2 ^ (32-m)*2 ^ m:=by
 rw [←Nat.pow_add,show 32-m+m=32 by omega]
theorem QT {m:Nat} (h:m<32):2 ^ m≤2147483648:=by
 have:=Nat.pow_le_pow_right (show 2 > 0 by omega) (show m≤31 by omega)
 exact this
theorem Xbc {m c x:Nat} (hm:m<32) (hc:c<2 ^ m) (hx:x<4294967296) :
  x*2 ^ m<18446744073709551616∧c ||| (x*2 ^ m % 4294967296)=x*2 ^ m % 4294967296+c∧x*2 ^ m % 4294967296+c<4294967296∧x*2 ^ m / 4294967296<2 ^ m:=by
 have hp:=QT hm
 have h0:0<2 ^ m:=Nat.pow_pos (by omega)
 have e:x*2 ^ m % 4294967296=(x % 2 ^ (32-m))*2 ^ m:=by
  rw [jF hm,Nat.mul_mod_mul_right]
 have h1:x*2 ^ m≤x*2147483648:=Nat.mul_le_mul_left _ hp
 refine ⟨by omega,?_,?_,?_⟩
 ·rw [e]
  have:=Nat.two_pow_add_eq_or_of_lt (i:=m) (b:=c) hc (x % 2 ^ (32-m))
  rw [Nat.or_comm,Nat.mul_comm (x % 2 ^ (32-m)),this]
 ·rw [e]
  have h2:x % 2 ^ (32-m)<2 ^ (32-m):=Nat.mod_lt _ (Nat.pow_pos (by omega))
  have h3:(x % 2 ^ (32-m)+1)*2 ^ m≤2 ^ (32-m)*2 ^ m:=Nat.mul_le_mul_right _ h2
  rw [←jF hm,Nat.add_mul]at h3
  omega
 ·rw [Nat.div_lt_iff_lt_mul (by omega),Nat.mul_comm (2 ^ m)]
  exact Nat.mul_lt_mul_of_pos_right hx h0
theorem Qbw {p o c x y t B:Nat} (h:o+p*c=t) (hy:x=y):o+p*(y % B+c)+p*B*(y / B)=t+p*x:=by
 have:=Nat.mod_add_div y B
 grind
theorem Ubu (o:List Nat) (c v:Nat) (l:List Nat):(o++c::l).set o.length v=o++v::l:=by
 rw [List.set_append_right _ _ (Nat.le_refl _),Nat.sub_self,List.set_cons_zero]
theorem Jbi (o:List Nat) (c d v:Nat) (l:List Nat):(o++c::d::l).set (o.length+1) v=(o++[c])++v::l:=by
 rw [List.set_append_right _ _ (by omega),show o.length+1-o.length=1 by omega];simp
theorem vbo (o:List Nat) (c:Nat) (l:List Nat):(o++c::l).getD o.length 0=c:=by simp [List.getD_eq_getElem?_getD]
theorem U0 {x:List Nat} {i m:Nat} (hx:WL x) (hm:m<32):(x.getD i 0+4294967296*x.getD (i+1) 0) / 2 ^ m % 4294967296=val x / 2 ^ m / 4294967296 ^ i % 4294967296:=by
 have e:val x / 2 ^ m / 4294967296 ^ i=val (x.drop i) / 2 ^ m:=by
  rw [Nat.div_div_eq_div_mul,Nat.mul_comm,←Nat.div_div_eq_div_mul]
  congr 1
  rcases Nat.lt_or_ge i x.length with h | h
  ·have h1:val x=val (x.take i)+4294967296 ^ i*val (x.drop i):=by
    conv=>lhs;rw [←List.take_append_drop i x,Ub,List.length_take,Nat.min_eq_left (by omega)]
   have h2:=jn (Xx hx i)
   rw [List.length_take,Nat.min_eq_left (by omega)]at h2
   rw [h1,Nat.add_mul_div_left _ _ (pow_pos i),Nat.div_eq_of_lt h2,Nat.zero_add]
  ·rw [List.drop_of_length_le h,Nat.div_eq_of_lt (xF hx h)];rfl
 have e2:∃r,val (x.drop i)=x.getD i 0+4294967296*x.getD (i+1) 0+4294967296*(4294967296*r):=by
  have gd:∀j,x.getD j 0+4294967296*val (x.drop (j+1))=val (x.drop j):=by
   intro j
   rcases Nat.lt_or_ge j x.length with h | h
   ·have:=ZL x (n:=j+1) (by omega) (by omega)
    simp only [Nat.add_sub_cancel]at this
    exact this.symm
   ·rw [List.drop_of_length_le h,List.drop_of_length_le (by omega),List.getD_eq_getElem?_getD,List.getElem?_eq_none h];rfl
  refine ⟨val (x.drop (i+2)),?_⟩
  rw [←gd i,←gd (i+1),Nat.mul_add,←Nat.add_assoc]
 obtain ⟨r,e2⟩:=e2
 rw [e,e2]
 generalize x.getD i 0+4294967296*x.getD (i+1) 0=a
 have h3:4294967296*(4294967296*r)=2 ^ m*(4294967296*(2 ^ (32-m)*r)):=by
  have h4:=jF hm
  generalize 4294967296=B at h4 ⊢
  subst h4
  grind
 rw [h3,Nat.add_mul_div_left _ _ (Nat.pow_pos (by omega)),Nat.add_mul_mod_self_left]
theorem jG (n B i:Nat):n % B ^ (i+1)=n % B ^ i+B ^ i*(n / B ^ i % B):=by
 rw [Nat.pow_succ,Nat.mod_mul]
theorem WV:∀(l:List Nat) (j x:Nat),j<l.length→val (l.set j x)+4294967296 ^ j*l.getD j 0=val l+4294967296 ^ j*x
 | y::l,0,x,_=>by simp [val];omega
 | y::l,j+1,x,h=>by
  have:=WV l j x (by simpa using h)
  rw [List.set_cons_succ,val,val,List.getD_cons_succ,Nat.pow_succ]
  generalize 4294967296=B at this ⊢
  grind
theorem Zab {l:List Nat} (h:WL l) (j:Nat) {x:Nat} (hx:x<4294967296):WL (l.set j x):=fun y hy=>by
 rcases List.mem_or_eq_of_mem_set hy with h1 | h1
 ·exact h y h1
 ·omega
theorem getD_set_ne {l:List Nat} {i j x:Nat} (h:i≠j):(l.set i x).getD j 0=l.getD j 0:=by
 simp only [List.getD_eq_getElem?_getD,List.getElem?_set_ne h]
theorem XS {a b c d:Nat} (ha:a<4294967296) (hb:b<4294967296) (hc:c<4294967296) (hd:d<4294967296):c+(a*b+d)<18446744073709551616:=by
 have:=Nat.mul_le_mul (Nat.le_of_lt_succ (show a<4294967295+1 by omega)) (Nat.le_of_lt_succ (show b<4294967295+1 by omega))
 omega
theorem vaS {v v' p P c o a b s t B:Nat} (h:v+p*P*c=t) (hset:v' + p*P*o=v+p*P*(s % B)) (hs:c+(a*b+o)=s):v' + p*(P*B)*(s / B)=t+p*a*(P*b):=by
 have:=Nat.mod_add_div s B
 grind
theorem jQ {x y o:List Nat} {i k c s:Nat} (h:val o+4294967296 ^ i*4294967296 ^ k*c=val (x.take i)*val y+4294967296 ^ i*x.getD i 0*val (y.take k)) (hl:i+k<o.length)
  (hs:c+(x.getD i 0*y.getD k 0+o.getD (i+k) 0)=s) :
  val (o.set (i+k) (s % 4294967296))+4294967296 ^ i*4294967296 ^ (k+1)*(s / 4294967296)=val (x.take i)*val y+4294967296 ^ i*x.getD i 0*val (y.take (k+1)):=by
 have h1:=WV o (i+k) (s % 4294967296) hl
 rw [Nat.pow_add]at h1
 have:=vaS (B:=4294967296) h h1 hs
 rw [Yb,Nat.mul_add,←Nat.add_assoc,Nat.pow_succ]
 exact this
theorem U6 {x y o:List Nat} {i c:Nat} (h:val o+4294967296 ^ i*4294967296 ^ y.length*c=val (x.take i)*val y+4294967296 ^ i*x.getD i 0*val (y.take y.length)) (hl:i+y.length<o.length) (hz:o.getD (i+y.length) 0=0) :
  val (o.set (i+y.length) c)=val (x.take (i+1))*val y:=by
 have h1:=WV o (i+y.length) c hl
 rw [hz,Nat.mul_zero,Nat.add_zero,Nat.pow_add,h,qj (Nat.le_refl _)]at h1
 rw [h1,Yb,Nat.add_mul]
theorem uaI (pre o seg post:List Nat) (h:o.length<seg.length):(pre++(o++seg.drop o.length)++post).getD (pre.length+o.length) 0=seg.getD o.length 0:=by
 simp only [List.getD_eq_getElem?_getD]
 rw [List.getElem?_append_left (by simp;omega),List.getElem?_append_right (by omega),show pre.length+o.length-pre.length=o.length by omega,List.getElem?_append_right (Nat.le_refl _),Nat.sub_self,List.getElem?_drop,Nat.add_zero]
theorem Zad (pre o seg post:List Nat) (x:Nat) (h:o.length<seg.length):(pre++(o++seg.drop o.length)++post).set (pre.length+o.length) x=pre++((o++[x])++seg.drop (o++[x]).length)++post:=by
 rw [List.set_append_left _ _ (by simp;omega),List.set_append_right _ _ (by omega),show pre.length+o.length-pre.length=o.length by omega,List.set_append_right _ _ (Nat.le_refl _),Nat.sub_self]
 rw [←List.getElem_cons_drop (as:=seg) (i:=o.length) h,List.set_cons_zero]
 simp
theorem uaY {m c v B:Nat} (hm:m≤B) (hv:v<B) (hc:c=0∨c<m):c+m*v<B*B∧((c+m*v) / B=0∨(c+m*v) / B<m):=by
 have h1:m*v≤m*(B-1):=Nat.mul_le_mul_left _ (by omega)
 have h2:m*(B-1)+m=m*B:=by
  obtain ⟨k,rfl⟩:∃k,B=k+1:=⟨B-1,by omega⟩
  rw [Nat.add_sub_cancel,Nat.mul_add,Nat.mul_one]
 have h3:m*B≤B*B:=Nat.mul_le_mul_right _ hm
 rcases Nat.eq_zero_or_pos m with h | h
 ·subst h
  have:c=0:=by omega
  subst this
  exact ⟨by rw [Nat.zero_mul,Nat.add_zero];exact Nat.mul_pos (by omega) (by omega),.inl (by simp)⟩
 ·have h4:c+m*v<m*B:=by omega
  exact ⟨by omega,.inr ((Nat.div_lt_iff_lt_mul (by omega)).2 h4)⟩
theorem Za3 {p P c m V v B:Nat} (h:p+P*c=m*V):p+P*((c+m*v) % B)+P*B*((c+m*v) / B)=m*(V+P*v):=by
 have:=Nat.mod_add_div (c+m*v) B
 grind
theorem ua1 {vo p P S b d low u t B:Nat} (h:vo+p=S+P*b) (hs:d+low+b=u+B*t):vo+P*d+(p+P*low)=S+P*u+P*B*t:=by
 have:=congrArg (P * ·) hs
 simp only [Nat.mul_add]at this
 rw [Nat.mul_assoc P B t]
 omega
theorem ybe {o:List Nat} {n p c b S mv:Nat} (ho:WL o) (hl:o.length=n) (h1:p+4294967296 ^ n*c=mv) (hlt:mv<4294967296 ^ n) (h2:val o+p=S+4294967296 ^ n*b) (hb:b≤1) :
  o=dig n (S+4294967296 ^ n-mv)∧(b=1↔S<mv):=by
 have hv:=jn ho
 rw [hl]at hv
 have hd:=uB ho
 rw [hl]at hd
 generalize hP:4294967296 ^ n=P at *
 have hc:c=0:=by
  rcases Nat.eq_zero_or_pos c with h | h
  ·exact h
  ·have:=Nat.le_mul_of_pos_right P h;omega
 subst hc
 rw [Nat.mul_zero,Nat.add_zero]at h1
 subst h1
 have key:∀k,val o+k*P=S+P-p→o=dig n (S+P-p):=by
  intro k hk
  refine zai ho (um _ _) (by rw [Xa,hl]) ?_
  rw [Wl,hP,←hk,Nat.add_mul_mod_self_right,Nat.mod_eq_of_lt hv]
 rcases Nat.eq_zero_or_pos b with h | h
 ·subst h
  rw [Nat.mul_zero,Nat.add_zero]at h2
  exact ⟨key 1 (by omega),by omega⟩
 ·have:b=1:=by omega
  subst this
  rw [Nat.mul_one]at h2
  exact ⟨key 0 (by omega),by omega⟩
theorem Va0 {o:List Nat} {n c S V:Nat} (ho:WL o) (hl:o.length=n) (h:val o+4294967296 ^ n*c=S+V):o=dig n (S+V):=by
 have hv:=jn ho
 rw [hl]at hv
 refine zai ho (um _ _) (by rw [Xa,hl]) ?_
 rw [Wl,←h,Nat.add_mul_mod_self_left,Nat.mod_eq_of_lt hv]
theorem Wa0 {p c xa xb vo a b s B:Nat} (h:vo+p*c=xa+xb) (hs:c+(a+b)=s):vo+p*(s % B)+p*B*(s / B)=xa+p*a+(xb+p*b):=by
 have:=Nat.mod_add_div s B
 grind
end Go.Num
end
section
attribute [go_sem] List.length_cons List.length_nil List.length_map List.map_cons List.map_nil List.flatMap_cons List.flatMap_nil List.append_nil List.nil_append List.drop_zero List.take_zero decide_eq_true_eq decide_eq_false_iff_not true_implies true_and and_true Nat.sub_zero forall_const Bool.true_eq_false Bool.false_eq_true false_implies Int.toNat_natCast Bool.not_true Bool.not_false decide_true decide_false Option.some.injEq implies_true not_false_eq_true Nat.zero_add List.take_of_length_le List.drop_of_length_le Nat.le_refl List.set_cons_zero List.drop_succ_cons List.take_succ_cons List.cons_append List.getElem?_cons_zero List.getElem?_cons_succ forall_eq'
namespace Go.Abs
open Go.Num
theorem Va {β:Type} {G:List AV→(β→Prop)→Prop} (h:∀as,GoodT (G as)):Good G:=
 ⟨fun hm hk=>(h _).mono hm hk,fun hk=>(h _).some hk,fun hk=>(h _).all hk⟩
def onE {α:Type} (e:α→AV) (k:α→Prop) (a:AV):Prop:=∃x,a=e x∧k x
@[congr] theorem WbK {α:Type} {e:α→AV} {k:α→Prop} {a a' : AV} (h:a=a'):onE e k a=onE e k a':=by subst h;rfl
theorem Yp {α:Type} {e:α→AV} (inj:∀x y,e x=e y→x=y) (k:α→Prop) (x:α):onE e k (e x)=k x:=
 propext ⟨fun ⟨y,h,hk⟩=>inj _ _ h▸hk,fun hk=>⟨x,rfl,hk⟩⟩
theorem ZA {α β:Type} {e:α→AV} {T:α→(β→Prop)→Prop} (inj:∀x y,e x=e y→x=y) (h:∀x,GoodT (T x)) {a:AV}:GoodT fun K=>onE e (fun x=>T x K) a:=
 .of fun K ⟨x,hx,_⟩=>by
  subst hx
  have:(fun K=>onE e (fun y=>T y K) (e x))=T x:=funext fun K=>Yp inj _ _
  rw [this];exact h x
def wc (x:Nat):List C:=[.lit (.int .u32 x)]
def ws (l:List Nat):C:=.slice (l.map wc)
def wsA (l:List Nat):AV:=.one (ws l)
theorem Jbj (x:Nat):wc x=[.lit (.int .u32 x)]:=eq_of_heq (HEq.refl _)
theorem qbs {x y:Nat} (h:wc x=wc y):x=y:=by
 simp only [wc,List.cons.injEq,C.lit.injEq,Value.int.injEq,true_and,and_true]at h
 exact Int.ofNat_inj.1 h
theorem kP {x y:List Nat} (h:x.map wc=y.map wc):x=y:=List.map_inj_right (fun _ _=>qbs) |>.1 h
theorem Jx (x y:List Nat) (h:wsA x=wsA y):x=y:=by
 simp only [wsA,ws,AV.one.injEq,C.slice.injEq]at h
 exact kP h
def onWs (k:List Nat→Prop) (a:AV):Prop:=onE wsA (fun l=>WL l∧k l) a
@[congr] theorem qbG {k:List Nat→Prop} {a a' : AV} (h:a=a'):onWs k a=onWs k a':=by subst h;rfl
theorem ZG (k:List Nat→Prop) (l:List Nat):onWs k (.one (.slice (l.map wc)))=(WL l∧k l):=Yp Jx (fun l=>WL l∧k l) l
theorem yaw (k:List Nat→Prop):onWs k (.one (.slice []))=(WL []∧k []):=Yp Jx (fun l=>WL l∧k l) []
theorem zal (k:List Nat→Prop) (x:Nat):onWs k (.one (.slice [[.lit (.int .u32 x)]]))=(WL [x]∧k [x]):=Yp Jx (fun l=>WL l∧k l) [x]
theorem YaX (k:List Nat→Prop) (x y:Nat):onWs k (.one (.slice [[.lit (.int .u32 x)],[.lit (.int .u32 y)]]))=(WL [x,y]∧k [x,y]):=Yp Jx (fun l=>WL l∧k l) [x,y]
theorem Jf {β:Type} {T:List Nat→(β→Prop)→Prop} (h:∀l,GoodT (T l)) {a:AV}:GoodT fun K=>onWs (fun l=>T l K) a:=
 ZA (T:=fun l K=>WL l∧T l K) Jx fun l=>.and fun _=>h l
theorem Ybt (l:List Nat):ws l=.slice (l.map wc):=eq_of_heq (HEq.refl _)
theorem VaJ (K:List C→Prop) (l:List Nat) (i:Nat):getE K (l.map wc) i=(i<l.length∧K (wc (l.getD i 0))):=by
 simp only [getE,List.length_map,List.getElem?_map]
 refine propext ⟨fun h=>⟨h.1,h.2 _ (by simp [h.1,List.getD_eq_getElem?_getD])⟩,fun h=>⟨h.1,fun e he=>?_⟩⟩
 simp [h.1]at he
 subst he
 simpa [List.getD_eq_getElem?_getD,h.1] using h.2
theorem YI (x:Nat):CleanL (wc x)=True:=eq_true fun c hc=>by simp [wc]at hc;subst hc;exact .lit _
theorem Xd (l:List Nat):CleanR (l.map wc)=True:=kF wc l YI
theorem Za9 (x:Nat):(wc x).length=1:=eq_of_heq (HEq.refl _)
theorem ja6 (l:List Nat):(∀e∈l.map wc,e.length=1)=True:=eq_true fun e he=>by
 obtain ⟨x,_,rfl⟩:=List.mem_map.1 he;rfl
theorem ubn (n:Nat):List.replicate n [C.lit (.int .u32 0)]=(List.replicate n 0).map wc:=by simp [wc]
theorem Xbo (l:List Nat) (i x:Nat):(l.map wc).set i [C.lit (.int .u32 x)]=(l.set i x).map wc:=by rw [List.map_set];rfl
theorem Xbg (l:List Nat) (i:Nat):(l.map wc).take i=(l.take i).map wc:=by rw [List.map_take]
theorem Xbk (l:List Nat) (i:Nat):(l.map wc).drop i=(l.drop i).map wc:=by rw [List.map_drop]
theorem Zbe (l:List Nat) (b:Prop) [Decidable b]:datO (if b then some (l.map wc) else none)=(if b then .slice (l.map wc) else .any):=by
 split
 ·exact Zw _ (of_eq_true (Xd l))
 ·rfl
theorem va8 (l:List Nat):wsA l=.one (.slice (l.map wc)):=eq_of_heq (HEq.refl _)
theorem jbu (a b:Nat):mx (a:Int) (b:Int)=((max a b:Nat):Int):=by unfold mx;split <;> omega
theorem Qbn (a b:Nat):mn (a:Int) (b:Int)=((min a b:Nat):Int):=by unfold mn;split <;> omega
theorem Xbi (a b:Nat):(a:Int)+(b:Int)=((a+b:Nat):Int):=by omega
theorem Ja0 (a:Nat):(a:Int)+1=((a+1:Nat):Int):=by omega
theorem vbg (a b:Nat):(a:Int)*(b:Int)=((a*b:Nat):Int):=(Int.natCast_mul a b).symm
theorem mod32 (a:Nat):(a:Int) % 4294967296=((a % 4294967296:Nat):Int):=by omega
theorem mod64 (a:Nat):(a:Int) % 18446744073709551616=((a % 18446744073709551616:Nat):Int):=by omega
theorem shr32 (a:Nat):(a:Int) / 2 ^ (32:Int).toNat=((a / 4294967296:Nat):Int):=by
 show (a:Int) / 4294967296=_;omega
theorem Wbj (a b:Nat):((a:Int)<(b:Int))=(a<b):=propext Int.ofNat_lt
theorem Wbi (a b:Nat):((a:Int)≤(b:Int))=(a≤b):=propext Int.ofNat_le
theorem ubi (a b:Nat):((a:Int)=(b:Int))=(a=b):=propext Int.ofNat_inj
theorem kbd (a:Nat):(0≤(a:Int))=True:=eq_true (by omega)
theorem Xa1 (a:Nat):(-9223372036854775808≤(a:Int))=True:=eq_true (by omega)
theorem ja0 (a:Nat):((a:Int)=0)=(a=0):=propext (by omega)
theorem ua3 (a:Nat):(0<(a:Int))=(0<a):=propext (by omega)
theorem VaG (a b:Nat):((a:Int)-(b:Int)) % 18446744073709551616=((sub64 a b:Nat):Int):=by unfold sub64;omega
theorem wbi (a:Nat):((a:Int)-1) % 18446744073709551616=((sub64 a 1:Nat):Int):=by unfold sub64;omega
theorem shr63 (a:Nat):(a:Int) / 2 ^ (63:Int).toNat=((a / 9223372036854775808:Nat):Int):=by
 show (a:Int) / 9223372036854775808=_;omega
theorem shl32 (a:Nat):(a:Int)*2 ^ (32:Int).toNat=((a*4294967296:Nat):Int):=by
 show (a:Int)*4294967296=_;omega
theorem Zaw (K:AV→Prop) (k:IntKind) (a b:Nat):arith K .or k (a:Int) (b:Int)=((k.signed=false∧a<2 ^ k.bits∧b<2 ^ k.bits)∧intR K k ((a ||| b:Nat):Int)):=by
 have h:∀n:Nat,((n:Int)<2 ^ k.bits)=(n<2 ^ k.bits):=fun n=>propext ⟨fun h=>by exact_mod_cast h,fun h=>by exact_mod_cast h⟩
 simp only [arith,h]
 exact propext ⟨fun ⟨⟨h1,_,_,h2,h3⟩,h4⟩=>⟨⟨h1,h2,h3⟩,h4⟩,fun ⟨⟨h1,h2,h3⟩,h4⟩=>⟨⟨h1,by omega,by omega,h2,h3⟩,h4⟩⟩
theorem qK (K:AV→Prop) (k:IntKind) (a b:Nat):arith K .and k (a:Int) (b:Int)=((k.signed=false∧a<2 ^ k.bits∧b<2 ^ k.bits)∧intR K k ((a &&& b:Nat):Int)):=by
 have h:∀n:Nat,((n:Int)<2 ^ k.bits)=(n<2 ^ k.bits):=fun n=>propext ⟨fun h=>by exact_mod_cast h,fun h=>by exact_mod_cast h⟩
 simp only [arith,h]
 exact propext ⟨fun ⟨⟨h1,_,_,h2,h3⟩,h4⟩=>⟨⟨h1,h2,h3⟩,h4⟩,fun ⟨⟨h1,h2,h3⟩,h4⟩=>⟨⟨h1,by omega,by omega,h2,h3⟩,h4⟩⟩
theorem jax (K:AV→Prop) (k:IntKind) (a:Nat) (hk:k.signed=false) (h2:1<2 ^ k.bits):arith K .and k (a:Int) 1=(a<2 ^ k.bits∧intR K k ((a % 2:Nat):Int)):=by
 have:=qK K k a 1
 simp only [hk,h2,Nat.and_one_is_mod,true_and,and_true]at this
 exact this
attribute [go_sem] Zaw qK
attribute [go_sem ↓] Zaw qK
theorem Jaz (n:Nat):Int.ofNat n=(n:Int):=eq_of_heq (HEq.refl _)
theorem Zbg (a b:Nat):(a:Int) / (b:Int)=((a / b:Nat):Int):=(Int.natCast_ediv a b).symm
theorem xbf (a b:Nat):(a:Int) % (b:Int)=((a % b:Nat):Int):=(Int.natCast_emod a b).symm
theorem kbe (a n:Nat):(a:Int)*2 ^ n=((a*2 ^ n:Nat):Int):=by rw [Int.natCast_mul,Int.natCast_pow];rfl
theorem Ybj (a n:Nat):(a:Int) / 2 ^ n=((a / 2 ^ n:Nat):Int):=by rw [Int.natCast_ediv,Int.natCast_pow];rfl
theorem yay (n:Nat):((n:Int)+1).toNat=n+1:=by omega
attribute [go_sem] VaG wbi shr63 shl32 Jaz Zbg xbf kbe Ybj yay
attribute [go_sem] jbu Qbn Xbi Ja0 vbg mod32 mod64 shr32 Wbj Wbi ubi kbd Xa1 ja0 ua3
attribute [go_sem] va8 ZG yaw zal YaX VaJ YI Xd Za9 ja6 Jbj Ybt ubn Xbo Xbg Xbk Zbe
attribute [go_sem ↓] va8 ZG yaw zal YaX VaJ YI Xd Za9 ja6 Jbj Ybt
theorem Q4:maxLenA=9223372036854775807:=eq_of_heq (HEq.refl _)
theorem YaI:roomA=68719476736:=eq_of_heq (HEq.refl _)
attribute [go_sem] Q4 YaI
attribute [go_sem ↓] Q4 YaI
theorem Qg {h' : Nat→HB} {k v v' z:Nat} {b:Bool} {l l' : List Nat} {r:List (Nat×HB)} (e:l=l'):okH (mkH ((k,⟨v,some ⟨l.map wc,z,b⟩⟩)::r)) h' [(k,⟨v',some ⟨l'.map wc,z,b⟩⟩)]:=by
 subst e
 have:CleanR (l.map wc):=of_eq_true (Xd l)
 simp [okH,qa,okB,this]
theorem vb {h h' : Nat→HB} {z:Nat} {b:Bool} {l l' : List Nat} (e:l=l'):okB h h' (some ⟨l.map wc,z,b⟩) (some ⟨l'.map wc,z,b⟩):=by
 subst e
 exact ⟨⟨rfl,rfl⟩,.inl ⟨rfl,of_eq_true (Xd l)⟩⟩
def Xs (l:List AV) (K:AV→Prop):Prop:=
 match l with
 | [a]=>onWs (fun l=>l.length≤68719476736∧K (.one (.slice ((digs (val l)).map wc)))) a
 | _=>False
theorem VaQ (a:AV) (K:AV→Prop):Xs [a] K=(onWs (fun l=>l.length≤68719476736∧K (.one (.slice ((digs (val l)).map wc)))) a):=propext Iff.rfl
@[congr] theorem WbG {K:AV→Prop} {l l' : List AV} (h:l=l'):Xs l K=Xs l' K:=by subst h;rfl
attribute [go_sem] VaQ
attribute [go_sem ↓] VaQ
theorem kaM:Good Xs:=Va fun as=>by
 unfold Xs
 split
 ·exact (Jf fun _=>(.and fun _=>(.ret _)))
 ·exact .of fun K hk=>hk.elim
def qm (l:List AV) (K:AV→Prop):Prop:=
 match l with
 | [a,i]=>onWs (fun l=>asInt (fun k n=>k=.i64∧0≤n∧K (.one (.lit (.int .u64 (l.getD n.toNat 0))))) i) a
 | _=>False
theorem YaJ (a i:AV) (K:AV→Prop):qm [a,i] K=(onWs (fun l=>asInt (fun k n=>k=.i64∧0≤n∧K (.one (.lit (.int .u64 (l.getD n.toNat 0))))) i) a):=propext Iff.rfl
@[congr] theorem zbC {K:AV→Prop} {l l' : List AV} (h:l=l'):qm l K=qm l' K:=by subst h;rfl
attribute [go_sem] YaJ
attribute [go_sem ↓] YaJ
theorem vaM:Good qm:=Va fun as=>by
 unfold qm
 split
 ·exact (Jf fun _=>(Qd (fun _ _=>(.and fun _=>(.and fun _=>(.ret _)))) _))
 ·exact .of fun K hk=>hk.elim
def yq (l:List AV) (K:AV→Prop):Prop:=
 match l with
 | [a,b]=>onWs (fun x=>onWs (fun y=>x.length≤17179869184∧y.length≤17179869184∧K (.one (.slice ((digs (val x+val y)).map wc)))) b) a
 | _=>False
theorem XaY (a b:AV) (K:AV→Prop):yq [a,b] K=(onWs (fun x=>onWs (fun y=>x.length≤17179869184∧y.length≤17179869184∧K (.one (.slice ((digs (val x+val y)).map wc)))) b) a):=propext Iff.rfl
@[congr] theorem kbF {K:AV→Prop} {l l' : List AV} (h:l=l'):yq l K=yq l' K:=by subst h;rfl
attribute [go_sem] XaY
attribute [go_sem ↓] XaY
theorem U2:Good yq:=Va fun as=>by
 unfold yq
 split
 ·exact (Jf fun _=>(Jf fun _=>(.and fun _=>(.and fun _=>(.ret _)))))
 ·exact .of fun K hk=>hk.elim
def Ws (l:List AV) (K:AV→Prop):Prop:=
 match l with
 | [a,b]=>onWs (fun x=>onWs (fun y=>x.length≤68719476736∧val y≤val x∧K (.one (.slice ((digs (val x-val y)).map wc)))) b) a
 | _=>False
theorem zaM (a b:AV) (K:AV→Prop):Ws [a,b] K=(onWs (fun x=>onWs (fun y=>x.length≤68719476736∧val y≤val x∧K (.one (.slice ((digs (val x-val y)).map wc)))) b) a):=propext Iff.rfl
@[congr] theorem xbF {K:AV→Prop} {l l' : List AV} (h:l=l'):Ws l K=Ws l' K:=by subst h;rfl
attribute [go_sem] zaM
attribute [go_sem ↓] zaM
theorem Vab:Good Ws:=Va fun as=>by
 unfold Ws
 split
 ·exact (Jf fun _=>(Jf fun _=>(.and fun _=>(.and fun _=>(.ret _)))))
 ·exact .of fun K hk=>hk.elim
def yi (l:List AV) (K:AV→Prop):Prop:=
 match l with
 | [a,b]=>onWs (fun x=>onWs (fun y=>NZ x∧NZ y∧K (.one (.lit (.int .i64 (ordN (val x) (val y)))))) b) a
 | _=>False
theorem ZO (a b:AV) (K:AV→Prop):yi [a,b] K=(onWs (fun x=>onWs (fun y=>NZ x∧NZ y∧K (.one (.lit (.int .i64 (ordN (val x) (val y)))))) b) a):=propext Iff.rfl
@[congr] theorem kbl {K:AV→Prop} {l l' : List AV} (h:l=l'):yi l K=yi l' K:=by subst h;rfl
attribute [go_sem] ZO
attribute [go_sem ↓] ZO
theorem xab:Good yi:=Va fun as=>by
 unfold yi
 split
 ·exact (Jf fun _=>(Jf fun _=>(.and fun _=>(.and fun _=>(.ret _)))))
 ·exact .of fun K hk=>hk.elim
def Up (l:List AV) (K:AV→Prop):Prop:=
 match l with
 | [a,b]=>onWs (fun x=>onWs (fun y=>x.length≤17179869184∧y.length≤17179869184∧K (.one (.slice ((digs (val x*val y)).map wc)))) b) a
 | _=>False
theorem zar (a b:AV) (K:AV→Prop):Up [a,b] K=(onWs (fun x=>onWs (fun y=>x.length≤17179869184∧y.length≤17179869184∧K (.one (.slice ((digs (val x*val y)).map wc)))) b) a):=propext Iff.rfl
@[congr] theorem zbA {K:AV→Prop} {l l' : List AV} (h:l=l'):Up l K=Up l' K:=by subst h;rfl
attribute [go_sem] zar
attribute [go_sem ↓] zar
theorem XQ:Good Up:=Va fun as=>by
 unfold Up
 split
 ·exact (Jf fun _=>(Jf fun _=>(.and fun _=>(.and fun _=>(.ret _)))))
 ·exact .of fun K hk=>hk.elim
def vx (l:List AV) (K:AV→Prop):Prop:=
 match l with
 | [a,b]=>onWs (fun x=>asInt (fun k n=>k=.u32∧0<n∧n<4294967296∧x.length≤68719476736∧K (.tup [.one (.slice ((digs (val x / n.toNat)).map wc)),.one (.lit (.int .u32 ((val x % n.toNat:Nat):Int)))])) b) a
 | _=>False
theorem var (a b:AV) (K:AV→Prop):vx [a,b] K=(onWs (fun x=>asInt (fun k n=>k=.u32∧0<n∧n<4294967296∧x.length≤68719476736∧K (.tup [.one (.slice ((digs (val x / n.toNat)).map wc)),.one (.lit (.int .u32 ((val x % n.toNat:Nat):Int)))])) b) a):=propext Iff.rfl
@[congr] theorem xbx {K:AV→Prop} {l l' : List AV} (h:l=l'):vx l K=vx l' K:=by subst h;rfl
attribute [go_sem] var
attribute [go_sem ↓] var
theorem YaC:Good vx:=Va fun as=>by
 unfold vx
 split
 ·exact (Jf fun _=>(Qd (fun _ _=>(.and fun _=>(.and fun _=>(.and fun _=>(.and fun _=>(.ret _)))))) _))
 ·exact .of fun K hk=>hk.elim
def lz_G (l:List AV) (K:AV→Prop):Prop:=
 match l with
 | [a]=>asInt (fun k n=>k=.u32∧0≤n∧n<4294967296∧K (.one (.lit (.int .i64 (32-(Lib.bitLen n.toNat:Int)))))) a
 | _=>False
theorem Xbm (a:AV) (K:AV→Prop):lz_G [a] K=(asInt (fun k n=>k=.u32∧0≤n∧n<4294967296∧K (.one (.lit (.int .i64 (32-(Lib.bitLen n.toNat:Int)))))) a):=propext Iff.rfl
@[congr] theorem YbL {K:AV→Prop} {l l' : List AV} (h:l=l'):lz_G l K=lz_G l' K:=by subst h;rfl
attribute [go_sem] Xbm
attribute [go_sem ↓] Xbm
theorem Wbh:Good lz_G:=Va fun as=>by
 unfold lz_G
 split
 ·exact (Qd (fun _ _=>(.and fun _=>(.and fun _=>(.and fun _=>(.ret _))))) _)
 ·exact .of fun K hk=>hk.elim
def wah (l:List AV) (K:AV→Prop):Prop:=
 match l with
 | [a]=>asInt (fun k n=>k=.u32∧0≤n∧n<4294967296∧K (.one (.lit (.int .i64 (Lib.bitLen n.toNat:Int))))) a
 | _=>False
theorem van (a:AV) (K:AV→Prop):wah [a] K=(asInt (fun k n=>k=.u32∧0≤n∧n<4294967296∧K (.one (.lit (.int .i64 (Lib.bitLen n.toNat:Int))))) a):=propext Iff.rfl
@[congr] theorem uby {K:AV→Prop} {l l' : List AV} (h:l=l'):wah l K=wah l' K:=by subst h;rfl
attribute [go_sem] van
attribute [go_sem ↓] van
def Vh (l:List AV) (K:AV→Prop):Prop:=
 match l with
 | [a,b]=>onWs (fun x=>onWs (fun y=>NZ x∧NZ y∧y≠[]∧x.length≤17179869184∧y.length≤17179869184∧K (.tup [.one (.slice ((digs (val x / val y)).map wc)),.one (.slice ((digs (val x % val y)).map wc))])) b) a
 | _=>False
theorem yZ (a b:AV) (K:AV→Prop):Vh [a,b] K=(onWs (fun x=>onWs (fun y=>NZ x∧NZ y∧y≠[]∧x.length≤17179869184∧y.length≤17179869184∧K (.tup [.one (.slice ((digs (val x / val y)).map wc)),.one (.slice ((digs (val x % val y)).map wc))])) b) a):=propext Iff.rfl
@[congr] theorem Qbs {K:AV→Prop} {l l' : List AV} (h:l=l'):Vh l K=Vh l' K:=by subst h;rfl
attribute [go_sem] yZ
attribute [go_sem ↓] yZ
theorem kH:Good Vh:=Va fun as=>by
 unfold Vh
 split
 ·exact (Jf fun _=>(Jf fun _=>(.and fun _=>(.and fun _=>(.and fun _=>(.and fun _=>(.and fun _=>(.ret _))))))))
 ·exact .of fun K hk=>hk.elim
def up_G (l:List AV) (K:List (List C)→Prop):Prop:=
 match l with
 | [a,n]=>onWs (fun x=>asInt (fun k n=>k=.i64∧0≤n∧n<32∧x.length≤17179869184∧K ((dig (x.length+1) (val x*2 ^ n.toNat)).map wc)) n) a
 | _=>False
theorem qbq (a n:AV) (K:List (List C)→Prop):up_G [a,n] K=(onWs (fun x=>asInt (fun k n=>k=.i64∧0≤n∧n<32∧x.length≤17179869184∧K ((dig (x.length+1) (val x*2 ^ n.toNat)).map wc)) n) a):=propext Iff.rfl
@[congr] theorem ybL {K:List (List C)→Prop} {l l' : List AV} (h:l=l'):up_G l K=up_G l' K:=by subst h;rfl
attribute [go_sem] qbq
attribute [go_sem ↓] qbq
theorem kbi:Good up_G:=Va fun as=>by
 unfold up_G
 split
 ·exact (Jf fun _=>(Qd (fun _ _=>(.and fun _=>(.and fun _=>(.and fun _=>(.and fun _=>(.ret _)))))) _))
 ·exact .of fun K hk=>hk.elim
def VD (l:List AV) (K:AV→Prop):Prop:=
 match l with
 | [a,n]=>onWs (fun x=>asInt (fun k n=>k=.i64∧0≤n∧n<32∧x.length≤68719476736∧K (.one (.slice ((digs (val x / 2 ^ n.toNat)).map wc)))) n) a
 | _=>False
theorem yaO (a n:AV) (K:AV→Prop):VD [a,n] K=(onWs (fun x=>asInt (fun k n=>k=.i64∧0≤n∧n<32∧x.length≤68719476736∧K (.one (.slice ((digs (val x / 2 ^ n.toNat)).map wc)))) n) a):=propext Iff.rfl
@[congr] theorem ZbD {K:AV→Prop} {l l' : List AV} (h:l=l'):VD l K=VD l' K:=by subst h;rfl
attribute [go_sem] yaO
attribute [go_sem ↓] yaO
theorem JaO:Good VD:=Va fun as=>by
 unfold VD
 split
 ·exact (Jf fun _=>(Qd (fun _ _=>(.and fun _=>(.and fun _=>(.and fun _=>(.and fun _=>(.ret _)))))) _))
 ·exact .of fun K hk=>hk.elim
def yr (d:Option Nat) (args:List AV) (h:Nat→HB) (K:AV→(Nat→HB)→Prop):Prop:=
 match args with
 | [.one (.own r ver 1 off len),b,.one (.lit (.int .u64 n))]=>onWs (fun v=>∃(pre seg post:List Nat) (m:Nat),off=pre.length∧len=seg.length∧n=m∧h r=⟨ver,some ⟨(pre++seg++post).map wc,1,true⟩⟩∧WL seg∧m≤4294967296∧v.length≤seg.length∧
   m*val v<4294967296 ^ seg.length∧seg.length≤68719476736∧K (.one (.lit (.bool (decide (val seg<m*val v))))) (upd h r ⟨ver,some ⟨(pre++dig seg.length (val seg+4294967296 ^ seg.length-m*val v)++post).map wc,1,true⟩⟩)) b
 | _=>False
@[congr] theorem ybw {d:Option Nat} {l l' : List AV} {h h' : Nat→HB} {K:AV→(Nat→HB)→Prop} (e1:l=l') (e2:h=h'):yr d l h K=yr d l' h' K:=by subst e1;subst e2;rfl
def QC (d:Option Nat) (args:List AV) (h:Nat→HB) (K:AV→(Nat→HB)→Prop):Prop:=
 match args with
 | [.one (.own r ver 1 off len),b]=>onWs (fun v=>∃(pre seg post:List Nat),off=pre.length∧len=seg.length∧h r=⟨ver,some ⟨(pre++seg++post).map wc,1,true⟩⟩∧WL seg∧v.length≤seg.length∧seg.length≤68719476736∧
   K (.tup []) (upd h r ⟨ver,some ⟨(pre++dig seg.length (val seg+val v)++post).map wc,1,true⟩⟩)) b
 | _=>False
@[congr] theorem xbE {d:Option Nat} {l l' : List AV} {h h' : Nat→HB} {K:AV→(Nat→HB)→Prop} (e1:l=l') (e2:h=h'):QC d l h K=QC d l' h' K:=by subst e1;subst e2;rfl
end Go.Abs
end
section
namespace Go.Num
abbrev W:=Bool×List Nat
instance (l:List Nat):Decidable (NZ l):=inferInstanceAs (Decidable (l.getLast?≠some 0))
def vldW (w:W):Bool:=if w.2=[] then !w.1 else decide (NZ w.2)
def zv (w:W):Int:=if vldW w then (if w.1 then -(val w.2:Int) else (val w.2:Int)) else 0
def zcan (n:Int):W:=(decide (n<0),digs n.natAbs)
def zs (n:Int):Nat:=(digs n.natAbs).length
theorem xbh (n:Int):vldW (zcan n)=true:=by
 unfold vldW zcan
 split
 ·rename_i h
  simp only at h
  rw [xf]at h
  simp;omega
 ·simp [Xp]
theorem kbo (n:Int):zv (zcan n)=n:=by
 unfold zv
 rw [if_pos (xbh n)]
 simp only [zcan,Ua,decide_eq_true_eq]
 split <;> omega
theorem wbp (n:Int):WL (zcan n).2=True:=eq_true (Ya _)
theorem xap {w:W} (hw:WL w.2) (h:vldW w=true):digs (zv w).natAbs=w.2∧decide (zv w<0)=w.1:=by
 have hz:NZ w.2:=by
  unfold vldW at h
  split at h
  ·rename_i e;rw [e];simp [NZ]
  ·simpa using h
 unfold zv
 rw [if_pos h]
 cases hb:w.1 with
 | true=>
  simp only [if_true]
  refine ⟨by rw [Int.natAbs_neg,Int.natAbs_natCast,yd hw hz],?_⟩
  have hne:w.2≠[]:=by
   intro e
   unfold vldW at h
   rw [if_pos e,hb]at h
   simp at h
  have:=Wc hz hne
  simp;omega
 | false=>
  simp only [Bool.false_eq_true,if_false]
  exact ⟨by rw [Int.natAbs_natCast,yd hw hz],by simp⟩
theorem Zaf {w:W} (h:vldW w=false):zv w=0:=by unfold zv;rw [h];rfl
theorem Xbn {w:W} (hw:WL w.2):(if vldW w then w.2 else [])=digs (zv w).natAbs:=by
 cases h:vldW w with
 | true=>simp [(xap hw h).1]
 | false=>simp [Zaf h,yb]
theorem vaY {w:W} (hw:WL w.2):(vldW w && w.1)=decide (zv w<0):=by
 cases h:vldW w with
 | true=>simp only [Bool.true_and];exact (xap hw h).2.symm
 | false=>simp [Zaf h]
def sg (b:Bool) (v:Nat):Int:=if b then -(v:Int) else (v:Int)
theorem UN (b:Bool) (v:Nat):(b && decide (0<(digs v).length),digs v)=zcan (sg b v):=by
 unfold zcan sg
 have h:0<(digs v).length↔v≠0:=by
  rw [List.length_pos_iff,Ne,xf]
 cases b with
 | true=>
  simp only [Bool.true_and,if_true,Int.natAbs_neg,Int.natAbs_natCast]
  congr 1
  rw [decide_eq_decide,h];omega
 | false=>
  simp only [Bool.false_and,Bool.false_eq_true,if_false,Int.natAbs_natCast]
  congr 1
theorem VbD (n:Int):sg (decide (n<0)) n.natAbs=n:=by
 unfold sg;simp only [decide_eq_true_eq];split <;> omega
def ordI (a b:Int):Int:=if a<b then -1 else if b<a then 1 else 0
theorem qbk:zs 0=0:=by unfold zs;simp [yb]
theorem U9 (n:Int):zs (-n)=zs n:=by unfold zs;rw [Int.natAbs_neg]
theorem ZaG {n:Int} {s:Nat}:zs n≤s↔n.natAbs<4294967296 ^ s:=qaa
theorem ja2 (n:Int):n.natAbs<4294967296 ^ zs n:=vl _
theorem vp (a b:Int):zs (a*b)≤zs a+zs b:=by
 rw [ZaG,Int.natAbs_mul,Nat.pow_add]
 exact Nat.mul_lt_mul'' (ja2 a) (ja2 b)
theorem kI (a b:Int):zs (a+b)≤max (zs a) (zs b)+1:=by
 rw [ZaG]
 have h1:=Nat.lt_of_lt_of_le (ja2 a) (Nat.pow_le_pow_right (show 4294967296 > 0 by omega) (Nat.le_max_left (zs a) (zs b)))
 have h2:=Nat.lt_of_lt_of_le (ja2 b) (Nat.pow_le_pow_right (show 4294967296 > 0 by omega) (Nat.le_max_right (zs a) (zs b)))
 rw [Nat.pow_succ]
 generalize 4294967296 ^ max (zs a) (zs b)=p at h1 h2 ⊢
 omega
theorem yac {a b:Int} (h:a.natAbs≤b.natAbs):zs a≤zs b:=wa h
theorem yS {n:Int} (h:n.natAbs<18446744073709551616):zs n≤2:=by rw [ZaG];exact h
theorem yw {n:Int}:zs n=0↔n=0:=by
 unfold zs;rw [List.length_eq_zero_iff,xf];omega
theorem Xaj {a b r q:Int} (hb:b≠0) (h:b*q+r=a) (h0:0≤r) (h1:r<b.natAbs):r=a % b∧q=a / b:=by
 by_cases hp:0<b
 ·have:=(Int.ediv_emod_unique hp (a:=a) (r:=r) (q:=q)).2 ⟨by omega,h0,by omega⟩
  exact ⟨this.2.symm,this.1.symm⟩
 ·have:=(Int.ediv_emod_unique' (show b<0 by omega) (a:=a) (r:=r) (q:=q)).2 ⟨by omega,h0,by omega⟩
  exact ⟨this.2.symm,this.1.symm⟩
theorem yam {a b:Int} (hb:b≠0) (h:0≤a∨a.natAbs % b.natAbs=0) :
  sg (decide (a<0) != decide (b<0)) (a.natAbs / b.natAbs)=a / b∧((a.natAbs % b.natAbs:Nat):Int)=a % b:=by
 have e:=Nat.div_add_mod a.natAbs b.natAbs
 have m:=Nat.mod_lt a.natAbs (show 0<b.natAbs by omega)
 generalize hq:a.natAbs / b.natAbs=q at *
 generalize hr:a.natAbs % b.natAbs=r at *
 have e' : (b.natAbs:Int)*(q:Int)+(r:Int)=(a.natAbs:Int):=by exact_mod_cast e
 have key:∀Q:Int,b*Q+r=a→(r:Int)=a % b∧Q=a / b:=by
  intro Q hQ
  exact Xaj hb hQ (by omega) (by omega)
 have hQ:b*sg (decide (a<0) != decide (b<0)) q+r=a:=by
  unfold sg
  rcases Classical.em (a<0) with ha | ha <;> rcases Classical.em (b<0) with hb' | hb'
  ·have hr0:r=0:=by omega
   subst hr0
   have:¬(0≤a):=by omega
   simp only [ha,hb',decide_true,bne_self_eq_false,Bool.false_eq_true,if_false]
   have h1:(b.natAbs:Int) = -b:=by omega
   have h2:(a.natAbs:Int) = -a:=by omega
   rw [h1,h2,Int.neg_mul]at e';omega
  ·have hr0:r=0:=by omega
   subst hr0
   have hb2:¬b<0:=by omega
   simp only [ha,hb2,decide_true,decide_false];rw [show (true != false)=true from rfl,if_pos rfl]
   have h1:(b.natAbs:Int)=b:=by omega
   have h2:(a.natAbs:Int) = -a:=by omega
   rw [h1,h2]at e';rw [Int.mul_neg];omega
  ·have ha2:¬a<0:=by omega
   simp only [ha2,hb',decide_true,decide_false];rw [show (false != true)=true from rfl,if_pos rfl]
   have h1:(b.natAbs:Int) = -b:=by omega
   have h2:(a.natAbs:Int)=a:=by omega
   rw [h1,h2,Int.neg_mul]at e';rw [Int.mul_neg];omega
  ·have ha2:¬a<0:=by omega
   have hb2:¬b<0:=by omega
   simp only [ha2,hb2,decide_false,bne_self_eq_false,Bool.false_eq_true,if_false]
   have h1:(b.natAbs:Int)=b:=by omega
   have h2:(a.natAbs:Int)=a:=by omega
   rw [h1,h2]at e';omega
 exact ⟨(key _ hQ).2,(key _ hQ).1⟩
theorem uau {a b:Int} (hb:b≠0) (ha:a<0) (h:a.natAbs % b.natAbs≠0) :
  sg (decide (a<0) != decide (b<0)) (a.natAbs / b.natAbs+1)=a / b∧((b.natAbs-a.natAbs % b.natAbs:Nat):Int)=a % b:=by
 have e:=Nat.div_add_mod a.natAbs b.natAbs
 have m:=Nat.mod_lt a.natAbs (show 0<b.natAbs by omega)
 generalize hq:a.natAbs / b.natAbs=q at *
 generalize hr:a.natAbs % b.natAbs=r at *
 have e' : (b.natAbs:Int)*(q:Int)+(r:Int)=(a.natAbs:Int):=by exact_mod_cast e
 have key:∀Q:Int,b*Q+((b.natAbs-r:Nat):Int)=a→((b.natAbs-r:Nat):Int)=a % b∧Q=a / b:=by
  intro Q hQ
  exact Xaj hb hQ (by omega) (by omega)
 have h2:(a.natAbs:Int) = -a:=by omega
 have hQ:b*sg (decide (a<0) != decide (b<0)) (q+1)+((b.natAbs-r:Nat):Int)=a:=by
  unfold sg
  rcases Classical.em (b<0) with hb' | hb'
  ·simp only [ha,hb',decide_true,bne_self_eq_false,Bool.false_eq_true,if_false]
   have h1:(b.natAbs:Int) = -b:=by omega
   rw [h1,h2,Int.neg_mul]at e'
   rw [show ((q+1:Nat):Int)=(q:Int)+1 by omega,Int.mul_add,Int.mul_one];omega
  ·have hb2:¬b<0:=by omega
   simp only [ha,hb2,decide_true,decide_false];rw [show (true != false)=true from rfl,if_pos rfl]
   have h1:(b.natAbs:Int)=b:=by omega
   rw [h1,h2]at e'
   rw [show ((q+1:Nat):Int)=(q:Int)+1 by omega,Int.mul_neg,Int.mul_add,Int.mul_one];omega
 exact ⟨(key _ hQ).2,(key _ hQ).1⟩
theorem Jbh {a b:Int} (h:a<b):ordI a b = -1:=by simp [ordI,h]
theorem kbk {a b:Int} (h:b<a):ordI a b=1:=by unfold ordI;rw [if_neg (by omega),if_pos h]
theorem ubr (a b:Int):sg (!(decide (a<0) == decide (b<0))) (a.natAbs*b.natAbs)=a*b:=by
 unfold sg
 have e:((a.natAbs*b.natAbs:Nat):Int)=(a.natAbs:Int)*(b.natAbs:Int):=by simp
 rw [e]
 by_cases ha:a<0 <;> by_cases hb:b<0 <;> simp only [ha,hb,decide_true,decide_false]
 ·have h1:(a.natAbs:Int) = -a:=by omega
  have h2:(b.natAbs:Int) = -b:=by omega
  rw [h1,h2];simp [Int.neg_mul,Int.mul_neg]
 ·have h1:(a.natAbs:Int) = -a:=by omega
  have h2:(b.natAbs:Int)=b:=by omega
  rw [h1,h2];simp [Int.neg_mul,Int.mul_neg]
 ·have h1:(a.natAbs:Int)=a:=by omega
  have h2:(b.natAbs:Int) = -b:=by omega
  rw [h1,h2];simp [Int.neg_mul,Int.mul_neg]
 ·have h1:(a.natAbs:Int)=a:=by omega
  have h2:(b.natAbs:Int)=b:=by omega
  rw [h1,h2];simp [Int.neg_mul,Int.mul_neg]
theorem Jj {a b:Int} (h:(decide (a<0) == decide (b<0))=true):a<0↔b<0:=by simpa using h
theorem zr {a b:Int} (h:(decide (a<0) == decide (b<0))=false):¬(a<0↔b<0):=by simpa using h
theorem Xw {a b:Int} (h:a<0↔b<0):sg (decide (a<0)) (a.natAbs+b.natAbs)=a+b:=by
 unfold sg;simp only [decide_eq_true_eq];split <;> omega
theorem kai {a b:Int} (h:¬(a<0↔b<0)) (h' : b.natAbs≤a.natAbs):sg (decide (a<0)) (a.natAbs-b.natAbs)=a+b:=by
 unfold sg;simp only [decide_eq_true_eq];split <;> omega
theorem kv {a b:Nat}:0≤ordN a b↔b≤a:=by
 unfold ordN;split <;> (try split) <;> omega
end Go.Num
end
section
namespace Go.Abs
open Go.Num
def zb (w:W):C:=.lit (.bool w.1)
def zm (w:W):C:=ws w.2
def zA (w:W):AV:=.agg [zb w,zm w]
theorem Jap (x y:W) (h:zA x=zA y):x=y:=by
 simp only [zA,zb,zm,AV.agg.injEq,List.cons.injEq,C.lit.injEq,Value.bool.injEq,and_true]at h
 obtain ⟨h1,h2⟩:=h
 have:=Jx x.2 y.2 (by simp only [wsA];rw [h2])
 exact Prod.ext h1 this
def onW (k:W→Prop) (a:AV):Prop:=onE zA (fun w=>WL w.2∧k w) a
@[congr] theorem VbK {k:W→Prop} {a a' : AV} (h:a=a'):onW k a=onW k a':=by subst h;rfl
theorem Ubs (k:W→Prop) (w:W):onW k (.agg [zb w,zm w])=(WL w.2∧k w):=Yp Jap (fun w=>WL w.2∧k w) w
theorem Jbw (k:W→Prop) (b:Bool) (l:List Nat):onW k (.agg [.lit (.bool b),.slice (l.map wc)])=(WL l∧k (b,l)):=Yp Jap (fun w=>WL w.2∧k w) (b,l)
theorem Ybo (k:W→Prop):onW k (.agg [.lit (.bool false),.slice []])=k (zcan 0):=by
 have:(zcan 0)=(false,[]):=by simp [zcan,yb]
 rw [this]
 have:=Yp Jap (fun w=>WL w.2∧k w) (false,[])
 simp only [jc,true_and]at this
 exact this
theorem vn {β:Type} {T:W→(β→Prop)→Prop} (h:∀w,GoodT (T w)) {a:AV}:GoodT fun K=>onW (fun w=>T w K) a:=
 ZA (e:=zA) (T:=fun w K=>WL w.2∧T w K) Jap fun w=>GoodT.and (c:=WL w.2) (T:=T w) fun _=>h w
theorem Ja7 (h:Nat→HB) (w:W):datC h (zb w)=zb w:=eq_of_heq (HEq.refl _)
theorem ua7 (h:Nat→HB) (w:W):datC h (zm w)=zm w:=eq_of_heq (HEq.refl _)
theorem ua5 (w:W):ownC (zb w)=[]:=eq_of_heq (HEq.refl _)
theorem wba (w:W):ownC (zm w)=[]:=eq_of_heq (HEq.refl _)
theorem Yal (w:W):Clean (zb w)=True:=eq_true (.lit _)
theorem yar (w:W):Clean (zm w)=True:=eq_true (.slice _ (of_eq_true (Xd _)))
theorem Jbn (w:W):zA w=.agg [zb w,zm w]:=eq_of_heq (HEq.refl _)
theorem Qbg (w:W):zb w=.lit (.bool w.1):=eq_of_heq (HEq.refl _)
theorem ZaC (w:W):zm w=.slice (w.2.map wc):=eq_of_heq (HEq.refl _)
attribute [go_sem] Ubs Jbw Ybo Ja7 ua7 ua5 wba Yal yar Jbn wbp kbo
attribute [go_sem ↓] Ubs Jbw Ybo Ja7 ua7 ua5 wba Yal yar Jbn
def jj (l:List AV) (K:AV→Prop):Prop:=
 match l with
 | [a]=>onW (fun w=>K (.one (.lit (.bool (vldW w))))) a
 | _=>False
theorem xX (a:AV) (K:AV→Prop):jj [a] K=(onW (fun w=>K (.one (.lit (.bool (vldW w))))) a):=propext Iff.rfl
@[congr] theorem Jbm {K:AV→Prop} {l l' : List AV} (h:l=l'):jj l K=jj l' K:=by subst h;rfl
attribute [go_sem] xX
attribute [go_sem ↓] xX
theorem uaf:Good jj:=Va fun as=>by
 unfold jj
 split
 ·exact (vn fun _=>(.ret _))
 ·exact .of fun K hk=>hk.elim
def vk (l:List AV) (K:AV→Prop):Prop:=
 match l with
 | [a]=>onW (fun w=>K (.one (.slice ((digs (zv w).natAbs).map wc)))) a
 | _=>False
theorem uaD (a:AV) (K:AV→Prop):vk [a] K=(onW (fun w=>K (.one (.slice ((digs (zv w).natAbs).map wc)))) a):=propext Iff.rfl
@[congr] theorem wbG {K:AV→Prop} {l l' : List AV} (h:l=l'):vk l K=vk l' K:=by subst h;rfl
attribute [go_sem] uaD
attribute [go_sem ↓] uaD
theorem VaI:Good vk:=Va fun as=>by
 unfold vk
 split
 ·exact (vn fun _=>(.ret _))
 ·exact .of fun K hk=>hk.elim
def Qh (l:List AV) (K:AV→Prop):Prop:=
 match l with
 | [a]=>onW (fun w=>K (.one (.lit (.bool (decide (zv w<0)))))) a
 | _=>False
theorem Vas (a:AV) (K:AV→Prop):Qh [a] K=(onW (fun w=>K (.one (.lit (.bool (decide (zv w<0)))))) a):=propext Iff.rfl
@[congr] theorem xbA {K:AV→Prop} {l l' : List AV} (h:l=l'):Qh l K=Qh l' K:=by subst h;rfl
attribute [go_sem] Vas
attribute [go_sem ↓] Vas
theorem yaC:Good Qh:=Va fun as=>by
 unfold Qh
 split
 ·exact (vn fun _=>(.ret _))
 ·exact .of fun K hk=>hk.elim
def zf (l:List AV) (K:AV→Prop):Prop:=
 match l with
 | [b,m]=>asBool (fun b=>onWs (fun l=>l.length≤68719476736∧K (.agg [zb (zcan (sg b (val l))),zm (zcan (sg b (val l)))])) m) b
 | _=>False
theorem xav (b m:AV) (K:AV→Prop):zf [b,m] K=(asBool (fun b=>onWs (fun l=>l.length≤68719476736∧K (.agg [zb (zcan (sg b (val l))),zm (zcan (sg b (val l)))])) m) b):=propext Iff.rfl
@[congr] theorem Zbz {K:AV→Prop} {l l' : List AV} (h:l=l'):zf l K=zf l' K:=by subst h;rfl
attribute [go_sem] xav
attribute [go_sem ↓] xav
theorem xN:Good zf:=Va fun as=>by
 unfold zf
 split
 ·exact (Yz (fun _=>(Jf fun _=>(.and fun _=>(.ret _)))) _)
 ·exact .of fun K hk=>hk.elim
def ZF (l:List AV) (K:AV→Prop):Prop:=
 match l with
 | [n]=>asInt (fun k n=>k=.i64∧-9223372036854775808≤n∧n≤9223372036854775807∧K (.agg [zb (zcan n),zm (zcan n)])) n
 | _=>False
theorem Xa7 (n:AV) (K:AV→Prop):ZF [n] K=(asInt (fun k n=>k=.i64∧-9223372036854775808≤n∧n≤9223372036854775807∧K (.agg [zb (zcan n),zm (zcan n)])) n):=propext Iff.rfl
@[congr] theorem wbK {K:AV→Prop} {l l' : List AV} (h:l=l'):ZF l K=ZF l' K:=by subst h;rfl
attribute [go_sem] Xa7
attribute [go_sem ↓] Xa7
theorem Ua0:Good ZF:=Va fun as=>by
 unfold ZF
 split
 ·exact (Qd (fun _ _=>(.and fun _=>(.and fun _=>(.and fun _=>(.ret _))))) _)
 ·exact .of fun K hk=>hk.elim
def uf (l:List AV) (K:AV→Prop):Prop:=
 match l with
 | [a]=>onW (fun w=>K (.one (.lit (.int .i64 (Int.sign (zv w)))))) a
 | _=>False
theorem Vao (a:AV) (K:AV→Prop):uf [a] K=(onW (fun w=>K (.one (.lit (.int .i64 (Int.sign (zv w)))))) a):=propext Iff.rfl
@[congr] theorem kbz {K:AV→Prop} {l l' : List AV} (h:l=l'):uf l K=uf l' K:=by subst h;rfl
attribute [go_sem] Vao
attribute [go_sem ↓] Vao
theorem WQ:Good uf:=Va fun as=>by
 unfold uf
 split
 ·exact (vn fun _=>(.ret _))
 ·exact .of fun K hk=>hk.elim
def xA (l:List AV) (K:AV→Prop):Prop:=
 match l with
 | [a,b]=>onW (fun v=>onW (fun w=>K (.one (.lit (.int .i64 (ordI (zv v) (zv w)))))) b) a
 | _=>False
theorem qaR (a b:AV) (K:AV→Prop):xA [a,b] K=(onW (fun v=>onW (fun w=>K (.one (.lit (.int .i64 (ordI (zv v) (zv w)))))) b) a):=propext Iff.rfl
@[congr] theorem vbI {K:AV→Prop} {l l' : List AV} (h:l=l'):xA l K=xA l' K:=by subst h;rfl
attribute [go_sem] qaR
attribute [go_sem ↓] qaR
theorem VaZ:Good xA:=Va fun as=>by
 unfold xA
 split
 ·exact (vn fun _=>(vn fun _=>(.ret _)))
 ·exact .of fun K hk=>hk.elim
def Ut (l:List AV) (K:AV→Prop):Prop:=
 match l with
 | [a]=>onW (fun w=>zs (zv w)≤68719476736∧K (.agg [zb (zcan (-zv w)),zm (zcan (-zv w))])) a
 | _=>False
theorem zaZ (a:AV) (K:AV→Prop):Ut [a] K=(onW (fun w=>zs (zv w)≤68719476736∧K (.agg [zb (zcan (-zv w)),zm (zcan (-zv w))])) a):=propext Iff.rfl
@[congr] theorem ybF {K:AV→Prop} {l l' : List AV} (h:l=l'):Ut l K=Ut l' K:=by subst h;rfl
attribute [go_sem] zaZ
attribute [go_sem ↓] zaZ
theorem XaM:Good Ut:=Va fun as=>by
 unfold Ut
 split
 ·exact (vn fun _=>(.and fun _=>(.ret _)))
 ·exact .of fun K hk=>hk.elim
def Ww (l:List AV) (K:AV→Prop):Prop:=
 match l with
 | [a,b]=>onW (fun v=>onW (fun w=>zs (zv v)≤17179869184∧zs (zv w)≤17179869184∧K (.agg [zb (zcan (zv v+zv w)),zm (zcan (zv v+zv w))])) b) a
 | _=>False
theorem jaY (a b:AV) (K:AV→Prop):Ww [a,b] K=(onW (fun v=>onW (fun w=>zs (zv v)≤17179869184∧zs (zv w)≤17179869184∧K (.agg [zb (zcan (zv v+zv w)),zm (zcan (zv v+zv w))])) b) a):=propext Iff.rfl
@[congr] theorem ZbE {K:AV→Prop} {l l' : List AV} (h:l=l'):Ww l K=Ww l' K:=by subst h;rfl
attribute [go_sem] jaY
attribute [go_sem ↓] jaY
theorem xaa:Good Ww:=Va fun as=>by
 unfold Ww
 split
 ·exact (vn fun _=>(vn fun _=>(.and fun _=>(.and fun _=>(.ret _)))))
 ·exact .of fun K hk=>hk.elim
def js (l:List AV) (K:AV→Prop):Prop:=
 match l with
 | [a,b]=>onW (fun v=>onW (fun w=>zs (zv v)≤17179869184∧zs (zv w)≤17179869184∧K (.agg [zb (zcan (zv v*zv w)),zm (zcan (zv v*zv w))])) b) a
 | _=>False
theorem YaQ (a b:AV) (K:AV→Prop):js [a,b] K=(onW (fun v=>onW (fun w=>zs (zv v)≤17179869184∧zs (zv w)≤17179869184∧K (.agg [zb (zcan (zv v*zv w)),zm (zcan (zv v*zv w))])) b) a):=propext Iff.rfl
@[congr] theorem vbD {K:AV→Prop} {l l' : List AV} (h:l=l'):js l K=js l' K:=by subst h;rfl
attribute [go_sem] YaQ
attribute [go_sem ↓] YaQ
theorem VaV:Good js:=Va fun as=>by
 unfold js
 split
 ·exact (vn fun _=>(vn fun _=>(.and fun _=>(.and fun _=>(.ret _)))))
 ·exact .of fun K hk=>hk.elim
def Qs (l:List AV) (K:AV→Prop):Prop:=
 match l with
 | [a,b]=>onW (fun v=>onW (fun w=>zs (zv v)≤17179869184∧zs (zv w)≤17179869184∧K (.agg [zb (zcan (Int.gcd (zv v) (zv w))),zm (zcan (Int.gcd (zv v) (zv w)))])) b) a
 | _=>False
theorem yaN (a b:AV) (K:AV→Prop):Qs [a,b] K=(onW (fun v=>onW (fun w=>zs (zv v)≤17179869184∧zs (zv w)≤17179869184∧K (.agg [zb (zcan (Int.gcd (zv v) (zv w))),zm (zcan (Int.gcd (zv v) (zv w)))])) b) a):=propext Iff.rfl
@[congr] theorem zbJ {K:AV→Prop} {l l' : List AV} (h:l=l'):Qs l K=Qs l' K:=by subst h;rfl
attribute [go_sem] yaN
attribute [go_sem ↓] yaN
theorem Z2:Good Qs:=Va fun as=>by
 unfold Qs
 split
 ·exact (vn fun _=>(vn fun _=>(.and fun _=>(.and fun _=>(.ret _)))))
 ·exact .of fun K hk=>hk.elim
def qE (l:List AV) (K:AV→Prop):Prop:=
 match l with
 | [a,b]=>onW (fun v=>onW (fun w=>zs (zv v)≤17179869184∧zs (zv w)≤17179869184∧zv w≠0∧K (.tup [.agg [zb (zcan (zv v / zv w)),zm (zcan (zv v / zv w))],.agg [zb (zcan (zv v % zv w)),zm (zcan (zv v % zv w))],.one (.lit .nilIface)])) b) a
 | _=>False
theorem QaY (a b:AV) (K:AV→Prop):qE [a,b] K=(onW (fun v=>onW (fun w=>zs (zv v)≤17179869184∧zs (zv w)≤17179869184∧zv w≠0∧K (.tup [.agg [zb (zcan (zv v / zv w)),zm (zcan (zv v / zv w))],.agg [zb (zcan (zv v % zv w)),zm (zcan (zv v % zv w))],.one (.lit .nilIface)])) b) a):=propext Iff.rfl
@[congr] theorem XbG {K:AV→Prop} {l l' : List AV} (h:l=l'):qE l K=qE l' K:=by subst h;rfl
attribute [go_sem] QaY
attribute [go_sem ↓] QaY
theorem UaE:Good qE:=Va fun as=>by
 unfold qE
 split
 ·exact (vn fun _=>(vn fun _=>(.and fun _=>(.and fun _=>(.and fun _=>(.ret _))))))
 ·exact .of fun K hk=>hk.elim
end Go.Abs
end
section
namespace Go.Num
abbrev R:=Bool×List Nat×List Nat
def WLR (x:R):Prop:=WL x.2.1∧WL x.2.2
def vldR (x:R):Bool:=
 if x.2.1=[]∧x.2.2=[] then !x.1 else decide (x.2.1≠[]∧x.2.2≠[]∧NZ x.2.1∧NZ x.2.2∧Nat.gcd (val x.2.1) (val x.2.2)=1)
def rv (x:R):Rat:=if vldR x then mkRat (sg x.1 (val x.2.1)) (val x.2.2) else 0
def rcan (q:Rat):R:=if q=0 then (false,[],[]) else (decide (q.num<0),digs q.num.natAbs,digs q.den)
def rl (x:R):Nat:=max x.2.1.length x.2.2.length
def rz (q:Rat):Nat:=rl (rcan q)
theorem Jb:rcan 0=(false,[],[]):=by simp [rcan]
theorem waR {q:Rat} (h:q≠0):q.num≠0:=fun e=>h (Rat.num_eq_zero.1 e)
theorem xi (q:Rat):vldR (rcan q)=true:=by
 unfold rcan
 split
 ·rfl
 ·rename_i h
  have h1:digs q.num.natAbs≠[]:=by rw [Ne,xf];have:=waR h;omega
  have h2:digs q.den≠[]:=by rw [Ne,xf];exact q.den_nz
  unfold vldR
  simp only [h1,h2,false_and,if_false,Ua]
  simp [h1,h2,Xp,q.reduced.gcd_eq_one]
theorem kb (q:Rat):WLR (rcan q):=by
 unfold rcan WLR
 split
 ·exact ⟨jc,jc⟩
 ·exact ⟨Ya _,Ya _⟩
theorem Zc (q:Rat):rv (rcan q)=q:=by
 unfold rv
 rw [xi,if_pos rfl]
 unfold rcan
 split
 ·rename_i h;rw [h];simp [val]
 ·simp only [Ua,VbD,Rat.mkRat_self]
theorem ZU {x:R} (hx:WLR x) (h:vldR x=true) (hn:x.2.1≠[]):(rv x).num=sg x.1 (val x.2.1)∧(rv x).den=val x.2.2∧rv x≠0∧NZ x.2.1∧NZ x.2.2∧x.2.2≠[]:=by
 have h':=h
 unfold vldR at h'
 rw [if_neg (fun e=>hn e.1)]at h'
 simp only [decide_eq_true_eq]at h'
 obtain ⟨_,h2,h3,h4,h5⟩:=h'
 have hn0:=Wc h3 hn
 have hd0:=Wc h4 h2
 have ha:(sg x.1 (val x.2.1)).natAbs=val x.2.1:=by unfold sg;split <;> omega
 have hden:val x.2.2≠0:=by omega
 unfold rv
 rw [if_pos h,Rat.num_mkRat,Rat.den_mkRat,if_neg hden,if_neg hden,ha,Nat.gcd_comm,h5]
 refine ⟨by simp,by simp,?_,h3,h4,h2⟩
 rw [Ne,Rat.mkRat_eq_zero hden]
 omega
theorem yf {x:R} (hx:WLR x) (h:vldR x=true):rcan (rv x)=x:=by
 by_cases hn:x.2.1=[]
 ·have h':=h
  unfold vldR at h'
  by_cases hd:x.2.2=[]
  ·rw [if_pos ⟨hn,hd⟩]at h'
   have e:x=(false,[],[]):=by
    obtain ⟨a,b,c⟩:=x
    simp only at hn hd h'
    subst hn hd
    simp at h';rw [h']
   rw [e]
   have:rv (false,[],[])=0:=by unfold rv;split <;> simp [val]
   rw [this,Jb]
  ·rw [if_neg (fun e=>hd e.2)]at h'
   simp [hn]at h'
 ·obtain ⟨h1,h2,h3,h4,h5,h6⟩:=ZU hx h hn
  unfold rcan
  rw [if_neg h3,h1,h2]
  have ha:(sg x.1 (val x.2.1)).natAbs=val x.2.1:=by unfold sg;split <;> omega
  rw [ha,yd hx.1 h4,yd hx.2 h5]
  have hn0:=Wc h4 hn
  have hs:decide (sg x.1 (val x.2.1)<0)=x.1:=by unfold sg;cases x.1 <;> simp <;> omega
  rw [hs]
theorem xad {x:R} (h:vldR x=false):rv x=0:=by unfold rv;rw [h];rfl
theorem uY (n:Nat):zs (n:Int)=(digs n).length:=rfl
theorem yK (q:Rat):zs q.num≤rz q:=by
 unfold rz rcan rl
 split
 ·rename_i h;rw [h];simp [qbk]
 ·exact Nat.le_max_left _ _
theorem JJ (q:Rat):zs (q.den:Int)≤rz q+1:=by
 unfold rz rcan rl
 split
 ·rename_i h;rw [h]
  have:zs ((0:Rat).den:Int)≤1:=by rw [ZaG];decide
  omega
 ·rw [uY];simp only;omega
theorem Vbx {q:Rat} {s:Nat} (h1:zs q.num≤s) (h2:zs (q.den:Int)≤s):rz q≤s:=by
 unfold rz rcan rl
 split
 ·simp
 ·exact Nat.max_le.2 ⟨h1,h2⟩
theorem uaN {n d:Int} (hd:d≠0):(Rat.divInt n d).num.natAbs≤n.natAbs∧(Rat.divInt n d).den≤d.natAbs:=by
 have hg:0<Int.gcd d n:=Int.gcd_pos_of_ne_zero_left _ hd
 rw [Rat.num_divInt,Rat.den_divInt,if_neg hd]
 refine ⟨?_,Nat.div_le_self _ _⟩
 have hs:(d.sign*n).natAbs=n.natAbs:=by
  rw [Int.natAbs_mul,Int.natAbs_sign_of_ne_zero hd,Nat.one_mul]
 have hdv:((Int.gcd d n:Nat):Int) ∣ d.sign*n:=Int.dvd_mul_of_dvd_right (Int.gcd_dvd_right _ _)
 obtain ⟨k,hk⟩:=hdv
 rw [hk,Int.mul_ediv_cancel_left _ (by omega)]
 rw [hk,Int.natAbs_mul]at hs
 simp only [Int.natAbs_natCast]at hs
 rw [←hs]
 exact Nat.le_mul_of_pos_left _ hg
theorem QJ {n d:Int} (hd:d≠0) {s:Nat} (h1:zs n≤s) (h2:zs d≤s):rz (Rat.divInt n d)≤s:=by
 obtain ⟨a,b⟩:=uaN (n:=n) hd
 refine Vbx (Nat.le_trans (yac a) h1) (Nat.le_trans (yac ?_) h2)
 simpa using b
theorem wH {n d:Int} (hd:d≠0) (hn:n≠0):rcan (Rat.divInt n d)=(decide (d.sign*n<0),digs (n.natAbs / Int.gcd n d),digs (d.natAbs / Int.gcd n d)):=by
 have hg:0<Int.gcd n d:=Int.gcd_pos_of_ne_zero_left _ hn
 have hq:Rat.divInt n d≠0:=by
  intro e
  have:=congrArg Rat.num e
  rw [Rat.num_divInt,Rat.zero_num]at this
  have hdv:((Int.gcd d n:Nat):Int) ∣ d.sign*n:=Int.dvd_mul_of_dvd_right (Int.gcd_dvd_right _ _)
  have h2:=Int.eq_zero_of_ediv_eq_zero hdv this
  rcases Int.mul_eq_zero.1 h2 with h | h
  ·exact hd (Int.sign_eq_zero_iff_zero.1 h)
  ·exact hn h
 unfold rcan
 rw [if_neg hq,Rat.num_divInt,Rat.den_divInt,if_neg hd,Int.gcd_comm d n]
 have hdv:((Int.gcd n d:Nat):Int) ∣ d.sign*n:=Int.dvd_mul_of_dvd_right (Int.gcd_dvd_left _ _)
 obtain ⟨k,hk⟩:=hdv
 have hs:(d.sign*n).natAbs=n.natAbs:=by
  rw [Int.natAbs_mul,Int.natAbs_sign_of_ne_zero hd,Nat.one_mul]
 have e:(d.sign*n / ((Int.gcd n d:Nat):Int))=k:=by rw [hk,Int.mul_ediv_cancel_left _ (by omega)]
 rw [e]
 have hk2:k.natAbs=n.natAbs / Int.gcd n d:=by
  rw [←hs,hk,Int.natAbs_mul]
  simp only [Int.natAbs_natCast]
  rw [Nat.mul_div_cancel_left _ hg]
 rw [hk2]
 have:decide (k<0)=decide (d.sign*n<0):=by
  rw [decide_eq_decide,hk]
  constructor
  ·intro h;exact Int.mul_neg_of_pos_of_neg (by omega) h
  ·intro h
   rcases Int.lt_or_le k 0 with h' | h'
   ·exact h'
   ·have:=Int.mul_nonneg (show (0:Int)≤((Int.gcd n d:Nat):Int) by omega) h';omega
 rw [this]
def ordQ (p q:Rat):Int:=if p<q then -1 else if q<p then 1 else 0
theorem QaD (p q:Rat):ordQ p q=ordI (p.num*q.den) (q.num*p.den):=by
 unfold ordQ ordI
 simp only [Rat.lt_iff]
theorem Zaa (p q:Rat):Rat.divInt (p.num*q.den+q.num*p.den) (p.den*q.den)=p+q:=by
 rw [Rat.add_def',←Rat.divInt_ofNat,Int.natCast_mul]
theorem Qab (p q:Rat):Rat.divInt (p.num*q.num) (p.den*q.den)=p*q:=by
 rw [Rat.mul_def',←Rat.divInt_ofNat,Int.natCast_mul]
theorem vaI (p:Rat):Rat.divInt (-p.num) p.den = -p:=by
 rw [Rat.divInt_ofNat,←Rat.neg_mkRat,Rat.mkRat_self]
theorem vc {x:R} (hx:WLR x):rz (rv x)≤rl x:=by
 cases h:vldR x with
 | true=>unfold rz;rw [yf hx h];exact Nat.le_refl _
 | false=>rw [xad h];unfold rz;rw [Jb];simp [rl]
theorem YE (q:Rat):rz (-q)=rz q:=by
 unfold rz rl rcan
 by_cases h:q=0
 ·subst h;simp
 ·have h' : -q≠0:=by intro e;apply h;rw [←Rat.neg_neg q,e];rfl
  rw [if_neg h,if_neg h']
  simp
theorem Xy {x:R} (hx:WLR x):zs (rv x).num≤rl x:=Nat.le_trans (yK _) (vc hx)
theorem uy {x:R} (hx:WLR x):zs ((rv x).den:Int)≤rl x+1:=Nat.le_trans (JJ _) (Nat.succ_le_succ (vc hx))
theorem jy (q:Rat):(q.den:Int)≠0:=by have:=q.den_nz;omega
theorem xaN {p q:Rat}:0≤ordQ p q↔q≤p:=by
 unfold ordQ
 split
 ·rename_i h;exact ⟨fun h'=>by omega,fun h'=>absurd h (Rat.not_lt.2 h')⟩
 ·rename_i h;rw [Rat.not_lt]at h
  split
  ·exact ⟨fun _=>h,fun _=>by omega⟩
  ·exact ⟨fun _=>h,fun _=>by omega⟩
theorem waT {p q:Rat}:ordQ p q≤0↔p≤q:=by
 unfold ordQ
 split
 ·rename_i h;exact ⟨fun _=>Rat.le_of_lt h,fun _=>by omega⟩
 ·split
  ·rename_i h;exact ⟨fun h'=>by omega,fun h'=>absurd h (Rat.not_lt.2 h')⟩
  ·rename_i h;exact ⟨fun _=>Rat.not_lt.1 h,fun _=>by omega⟩
theorem qaM (q:Rat):ordQ q 0=q.num.sign:=by
 rw [QaD]
 simp only [Rat.zero_num,Rat.zero_den,Int.zero_mul]
 have:q.num*((1:Nat):Int)=q.num:=by simp
 rw [this]
 unfold ordI
 split
 ·rw [Int.sign_eq_neg_one_of_neg ‹_›]
 ·split
  ·rw [Int.sign_eq_one_of_pos ‹_›]
  ·rw [show q.num=0 by omega];rfl
theorem Ye {p q:Rat}:ordQ p q=0↔p=q:=by
 constructor
 ·intro h
  exact Rat.le_antisymm (waT.1 (by omega)) (xaN.1 (by omega))
 ·rintro rfl
  have:=xaN.2 (Rat.le_refl (a:=p));have:=waT.2 (Rat.le_refl (a:=p));omega
theorem Wq (p q:Rat):rz (p+q)≤rz p+rz q+2:=by
 rw [←Zaa]
 have h1:=yK p
 have h2:=yK q
 have h3:=JJ p
 have h4:=JJ q
 have d1:=jy p
 have d2:=jy q
 have m1:=vp p.num q.den
 have m2:=vp q.num p.den
 have m3:=vp (p.den:Int) q.den
 have a1:=kI (p.num*q.den) (q.num*p.den)
 refine QJ (Int.mul_ne_zero d1 d2) ?_ ?_ <;> omega
theorem Xa8 (n:Int):rz (n:Rat)≤max (zs n) 1:=by
 refine Vbx ?_ ?_
 ·exact Nat.le_max_left _ _
 ·refine Nat.le_trans ?_ (Nat.le_max_right _ _)
  rw [ZaG,Rat.den_intCast];decide
theorem Vn (p q:Rat):rz (p-q)≤rz p+rz q+2:=by
 rw [Rat.sub_eq_add_neg]
 have:=Wq p (-q)
 rw [YE]at this
 exact this
end Go.Num
end
section
namespace Go.Abs
open Go.Num
def cb (x:R):C:=.lit (.bool x.1)
def cn (x:R):C:=ws x.2.1
def cd (x:R):C:=ws x.2.2
def rA (x:R):AV:=.agg [cb x,cn x,cd x]
theorem Yq (x y:R) (h:rA x=rA y):x=y:=by
 simp only [rA,cb,cn,cd,AV.agg.injEq,List.cons.injEq,C.lit.injEq,Value.bool.injEq,and_true]at h
 obtain ⟨h1,h2,h3⟩:=h
 have e2:=Jx x.2.1 y.2.1 (by simp only [wsA];rw [h2])
 have e3:=Jx x.2.2 y.2.2 (by simp only [wsA];rw [h3])
 exact Prod.ext h1 (Prod.ext e2 e3)
def onR (k:R→Prop) (a:AV):Prop:=onE rA (fun x=>WLR x∧k x) a
@[congr] theorem wbL {k:R→Prop} {a a' : AV} (h:a=a'):onR k a=onR k a':=by subst h;rfl
theorem ubl (k:R→Prop) (x:R):onR k (.agg [cb x,cn x,cd x])=(WLR x∧k x):=Yp Yq (fun x=>WLR x∧k x) x
theorem wbv (k:R→Prop) (b:Bool) (l m:List Nat):onR k (.agg [.lit (.bool b),.slice (l.map wc),.slice (m.map wc)])=(WLR (b,l,m)∧k (b,l,m)):=Yp Yq (fun x=>WLR x∧k x) (b,l,m)
theorem xbo (k:R→Prop):onR k (.agg [.lit (.bool false),.slice [],.slice []])=k (rcan 0):=by
 rw [Jb]
 have:=Yp Yq (fun x=>WLR x∧k x) (false,[],[])
 simp only [WLR,jc,true_and]at this
 exact this
theorem ve {β:Type} {T:R→(β→Prop)→Prop} (h:∀x,GoodT (T x)) {a:AV}:GoodT fun K=>onR (fun x=>T x K) a:=
 ZA (e:=rA) (T:=fun x K=>WLR x∧T x K) Yq fun x=>GoodT.and (c:=WLR x) (T:=T x) fun _=>h x
theorem za9 (h:Nat→HB) (x:R):datC h (cb x)=cb x:=eq_of_heq (HEq.refl _)
theorem yba (h:Nat→HB) (x:R):datC h (cn x)=cn x:=eq_of_heq (HEq.refl _)
theorem ja8 (h:Nat→HB) (x:R):datC h (cd x)=cd x:=eq_of_heq (HEq.refl _)
theorem za8 (x:R):ownC (cb x)=[]:=eq_of_heq (HEq.refl _)
theorem Wa7 (x:R):ownC (cn x)=[]:=eq_of_heq (HEq.refl _)
theorem zba (x:R):ownC (cd x)=[]:=eq_of_heq (HEq.refl _)
theorem vj (x:R):Clean (cb x)=True:=eq_true (.lit _)
theorem Xi (x:R):Clean (cn x)=True:=eq_true (.slice _ (of_eq_true (Xd _)))
theorem Ui (x:R):Clean (cd x)=True:=eq_true (.slice _ (of_eq_true (Xd _)))
theorem Vbv (x:R):rA x=.agg [cb x,cn x,cd x]:=eq_of_heq (HEq.refl _)
theorem yaB (x:R):cb x=.lit (.bool x.1):=eq_of_heq (HEq.refl _)
theorem vaB (x:R):cn x=.slice (x.2.1.map wc):=eq_of_heq (HEq.refl _)
theorem Xay (x:R):cd x=.slice (x.2.2.map wc):=eq_of_heq (HEq.refl _)
theorem kaG (q:Rat):WLR (rcan q)=True:=eq_true (kb q)
theorem Xba (q:Rat):rl (rcan q)=rz q:=eq_of_heq (HEq.refl _)
theorem jat (q:Rat):vldR (rcan q)=true:=xi q
attribute [go_sem] ubl wbv xbo za9 yba ja8 za8 Wa7 zba vj Xi Ui Vbv kaG Xba Zc jat
attribute [go_sem ↓] ubl wbv xbo za9 yba ja8 za8 Wa7 zba vj Xi Ui Vbv kaG Xba Zc jat
def xc (l:List AV) (K:AV→Prop):Prop:=
 match l with
 | [a]=>onR (fun x=>rl x≤4294967296∧K (.one (.lit (.bool (vldR x))))) a
 | _=>False
theorem Yaa (a:AV) (K:AV→Prop):xc [a] K=(onR (fun x=>rl x≤4294967296∧K (.one (.lit (.bool (vldR x))))) a):=propext Iff.rfl
@[congr] theorem Vbs {K:AV→Prop} {l l' : List AV} (h:l=l'):xc l K=xc l' K:=by subst h;rfl
attribute [go_sem] Yaa
attribute [go_sem ↓] Yaa
theorem UI:Good xc:=Va fun as=>by
 unfold xc
 split
 ·exact (ve fun _=>(.and fun _=>(.ret _)))
 ·exact .of fun K hk=>hk.elim
def Qr (l:List AV) (K:AV→Prop):Prop:=
 match l with
 | [a]=>onWs (fun l=>K (.one (.lit (.bool (decide (l≠[]∧NZ l)))))) a
 | _=>False
theorem X7 (a:AV) (K:AV→Prop):Qr [a] K=(onWs (fun l=>K (.one (.lit (.bool (decide (l≠[]∧NZ l)))))) a):=propext Iff.rfl
@[congr] theorem ybm {K:AV→Prop} {l l' : List AV} (h:l=l'):Qr l K=Qr l' K:=by subst h;rfl
attribute [go_sem] X7
attribute [go_sem ↓] X7
theorem vah:Good Qr:=Va fun as=>by
 unfold Qr
 split
 ·exact (Jf fun _=>(.ret _))
 ·exact .of fun K hk=>hk.elim
def xd (l:List AV) (K:AV→Prop):Prop:=
 match l with
 | [a]=>onR (fun x=>rl x≤4294967296∧K (.tup [.agg [zb (zcan (rv x).num),zm (zcan (rv x).num)],.agg [zb (zcan ((rv x).den:Int)),zm (zcan ((rv x).den:Int))]])) a
 | _=>False
theorem JY (a:AV) (K:AV→Prop):xd [a] K=(onR (fun x=>rl x≤4294967296∧K (.tup [.agg [zb (zcan (rv x).num),zm (zcan (rv x).num)],.agg [zb (zcan ((rv x).den:Int)),zm (zcan ((rv x).den:Int))]])) a):=propext Iff.rfl
@[congr] theorem ubs {K:AV→Prop} {l l' : List AV} (h:l=l'):xd l K=xd l' K:=by subst h;rfl
attribute [go_sem] JY
attribute [go_sem ↓] JY
theorem vK:Good xd:=Va fun as=>by
 unfold xd
 split
 ·exact (ve fun _=>(.and fun _=>(.ret _)))
 ·exact .of fun K hk=>hk.elim
def wi (l:List AV) (K:AV→Prop):Prop:=
 match l with
 | [a,b]=>onW (fun v=>onW (fun w=>zs (zv v)≤17179869184∧zs (zv w)≤17179869184∧zv w≠0∧K (.agg [cb (rcan (Rat.divInt (zv v) (zv w))),cn (rcan (Rat.divInt (zv v) (zv w))),cd (rcan (Rat.divInt (zv v) (zv w)))])) b) a
 | _=>False
theorem Vap (a b:AV) (K:AV→Prop):wi [a,b] K=(onW (fun v=>onW (fun w=>zs (zv v)≤17179869184∧zs (zv w)≤17179869184∧zv w≠0∧K (.agg [cb (rcan (Rat.divInt (zv v) (zv w))),cn (rcan (Rat.divInt (zv v) (zv w))),cd (rcan (Rat.divInt (zv v) (zv w)))])) b) a):=propext Iff.rfl
@[congr] theorem yby {K:AV→Prop} {l l' : List AV} (h:l=l'):wi l K=wi l' K:=by subst h;rfl
attribute [go_sem] Vap
attribute [go_sem ↓] Vap
theorem xQ:Good wi:=Va fun as=>by
 unfold wi
 split
 ·exact (vn fun _=>(vn fun _=>(.and fun _=>(.and fun _=>(.and fun _=>(.ret _))))))
 ·exact .of fun K hk=>hk.elim
def Vq (l:List AV) (K:AV→Prop):Prop:=
 match l with
 | []=>K (.agg [zb (zcan 1),zm (zcan 1)])
 | _=>False
theorem uaH (K:AV→Prop):Vq [] K=(K (.agg [zb (zcan 1),zm (zcan 1)])):=propext Iff.rfl
@[congr] theorem JbI {K:AV→Prop} {l l' : List AV} (h:l=l'):Vq l K=Vq l' K:=by subst h;rfl
attribute [go_sem] uaH
attribute [go_sem ↓] uaH
theorem XaV:Good Vq:=Va fun as=>by
 unfold Vq
 split
 ·exact (.ret _)
 ·exact .of fun K hk=>hk.elim
def ku (l:List AV) (K:AV→Prop):Prop:=
 match l with
 | [n]=>asInt (fun k n=>k=.i64∧-9223372036854775808≤n∧n≤9223372036854775807∧K (.agg [cb (rcan n),cn (rcan n),cd (rcan n)])) n
 | _=>False
theorem Vbb (n:AV) (K:AV→Prop):ku [n] K=(asInt (fun k n=>k=.i64∧-9223372036854775808≤n∧n≤9223372036854775807∧K (.agg [cb (rcan n),cn (rcan n),cd (rcan n)])) n):=propext Iff.rfl
@[congr] theorem kbL {K:AV→Prop} {l l' : List AV} (h:l=l'):ku l K=ku l' K:=by subst h;rfl
attribute [go_sem] Vbb
attribute [go_sem ↓] Vbb
theorem va2:Good ku:=Va fun as=>by
 unfold ku
 split
 ·exact (Qd (fun _ _=>(.and fun _=>(.and fun _=>(.and fun _=>(.ret _))))) _)
 ·exact .of fun K hk=>hk.elim
def zu (l:List AV) (K:AV→Prop):Prop:=
 match l with
 | [a]=>onR (fun x=>rl x≤4294967296∧K (.agg [cb (rcan (-rv x)),cn (rcan (-rv x)),cd (rcan (-rv x))])) a
 | _=>False
theorem WaU (a:AV) (K:AV→Prop):zu [a] K=(onR (fun x=>rl x≤4294967296∧K (.agg [cb (rcan (-rv x)),cn (rcan (-rv x)),cd (rcan (-rv x))])) a):=propext Iff.rfl
@[congr] theorem wbJ {K:AV→Prop} {l l' : List AV} (h:l=l'):zu l K=zu l' K:=by subst h;rfl
attribute [go_sem] WaU
attribute [go_sem ↓] WaU
theorem YaN:Good zu:=Va fun as=>by
 unfold zu
 split
 ·exact (ve fun _=>(.and fun _=>(.ret _)))
 ·exact .of fun K hk=>hk.elim
def ue (l:List AV) (K:AV→Prop):Prop:=
 match l with
 | [a]=>onR (fun x=>rl x≤4294967296∧K (.one (.lit (.int .i64 (ordQ (rv x) 0))))) a
 | _=>False
theorem wan (a:AV) (K:AV→Prop):ue [a] K=(onR (fun x=>rl x≤4294967296∧K (.one (.lit (.int .i64 (ordQ (rv x) 0))))) a):=propext Iff.rfl
@[congr] theorem XbA {K:AV→Prop} {l l' : List AV} (h:l=l'):ue l K=ue l' K:=by subst h;rfl
attribute [go_sem] wan
attribute [go_sem ↓] wan
theorem UaB:Good ue:=Va fun as=>by
 unfold ue
 split
 ·exact (ve fun _=>(.and fun _=>(.ret _)))
 ·exact .of fun K hk=>hk.elim
def uaL (l:List AV) (K:AV→Prop):Prop:=
 match l with
 | [a,b]=>onR (fun x=>onR (fun y=>rl x≤4294967296∧rl y≤4294967296∧K (.one (.lit (.int .i64 (ordQ (rv x) (rv y)))))) b) a
 | _=>False
theorem waM (a b:AV) (K:AV→Prop):uaL [a,b] K=(onR (fun x=>onR (fun y=>rl x≤4294967296∧rl y≤4294967296∧K (.one (.lit (.int .i64 (ordQ (rv x) (rv y)))))) b) a):=propext Iff.rfl
@[congr] theorem WbE {K:AV→Prop} {l l' : List AV} (h:l=l'):uaL l K=uaL l' K:=by subst h;rfl
attribute [go_sem] waM
attribute [go_sem ↓] waM
def Qj (l:List AV) (K:AV→Prop):Prop:=
 match l with
 | [a,b]=>onR (fun x=>onR (fun y=>rl x≤1073741824∧rl y≤1073741824∧K (.one (.lit (.int .i64 (ordQ (rv x) (rv y)))))) b) a
 | _=>False
theorem Uaa (a b:AV) (K:AV→Prop):Qj [a,b] K=(onR (fun x=>onR (fun y=>rl x≤1073741824∧rl y≤1073741824∧K (.one (.lit (.int .i64 (ordQ (rv x) (rv y)))))) b) a):=propext Iff.rfl
@[congr] theorem ybp {K:AV→Prop} {l l' : List AV} (h:l=l'):Qj l K=Qj l' K:=by subst h;rfl
attribute [go_sem] Uaa
attribute [go_sem ↓] Uaa
theorem QL:Good Qj:=Va fun as=>by
 unfold Qj
 split
 ·exact (ve fun _=>(ve fun _=>(.and fun _=>(.and fun _=>(.ret _)))))
 ·exact .of fun K hk=>hk.elim
def Wj (l:List AV) (K:AV→Prop):Prop:=
 match l with
 | [a,b]=>onR (fun x=>onR (fun y=>rl x≤4294967296∧rl y≤4294967296∧K (.agg [cb (rcan (rv x+rv y)),cn (rcan (rv x+rv y)),cd (rcan (rv x+rv y))])) b) a
 | _=>False
theorem waO (a b:AV) (K:AV→Prop):Wj [a,b] K=(onR (fun x=>onR (fun y=>rl x≤4294967296∧rl y≤4294967296∧K (.agg [cb (rcan (rv x+rv y)),cn (rcan (rv x+rv y)),cd (rcan (rv x+rv y))])) b) a):=propext Iff.rfl
@[congr] theorem qbC {K:AV→Prop} {l l' : List AV} (h:l=l'):Wj l K=Wj l' K:=by subst h;rfl
attribute [go_sem] waO
attribute [go_sem ↓] waO
theorem jaQ:Good Wj:=Va fun as=>by
 unfold Wj
 split
 ·exact (ve fun _=>(ve fun _=>(.and fun _=>(.and fun _=>(.ret _)))))
 ·exact .of fun K hk=>hk.elim
def Xm (l:List AV) (K:AV→Prop):Prop:=
 match l with
 | [a,b]=>onR (fun x=>onR (fun y=>rl x≤4294967296∧rl y≤4294967296∧K (.agg [cb (rcan (rv x-rv y)),cn (rcan (rv x-rv y)),cd (rcan (rv x-rv y))])) b) a
 | _=>False
theorem QaR (a b:AV) (K:AV→Prop):Xm [a,b] K=(onR (fun x=>onR (fun y=>rl x≤4294967296∧rl y≤4294967296∧K (.agg [cb (rcan (rv x-rv y)),cn (rcan (rv x-rv y)),cd (rcan (rv x-rv y))])) b) a):=propext Iff.rfl
@[congr] theorem ybB {K:AV→Prop} {l l' : List AV} (h:l=l'):Xm l K=Xm l' K:=by subst h;rfl
attribute [go_sem] QaR
attribute [go_sem ↓] QaR
theorem XaE:Good Xm:=Va fun as=>by
 unfold Xm
 split
 ·exact (ve fun _=>(ve fun _=>(.and fun _=>(.and fun _=>(.ret _)))))
 ·exact .of fun K hk=>hk.elim
def kaX (l:List AV) (K:AV→Prop):Prop:=
 match l with
 | [a,b]=>onR (fun x=>onR (fun y=>rl x≤4294967296∧rl y≤4294967296∧K (.agg [cb (rcan (if rv y≤rv x then rv x else rv y)),cn (rcan (if rv y≤rv x then rv x else rv y)),cd (rcan (if rv y≤rv x then rv x else rv y))])) b) a
 | _=>False
theorem qaH (a b:AV) (K:AV→Prop):kaX [a,b] K=(onR (fun x=>onR (fun y=>rl x≤4294967296∧rl y≤4294967296∧K (.agg [cb (rcan (if rv y≤rv x then rv x else rv y)),cn (rcan (if rv y≤rv x then rv x else rv y)),cd (rcan (if rv y≤rv x then rv x else rv y))])) b) a):=propext Iff.rfl
@[congr] theorem UbI {K:AV→Prop} {l l' : List AV} (h:l=l'):kaX l K=kaX l' K:=by subst h;rfl
attribute [go_sem] qaH
attribute [go_sem ↓] qaH
def XaR (l:List AV) (K:AV→Prop):Prop:=
 match l with
 | [a,b]=>onR (fun x=>onR (fun y=>rl x≤4294967296∧rl y≤4294967296∧K (.agg [cb (rcan (if rv x≤rv y then rv x else rv y)),cn (rcan (if rv x≤rv y then rv x else rv y)),cd (rcan (if rv x≤rv y then rv x else rv y))])) b) a
 | _=>False
theorem YaD (a b:AV) (K:AV→Prop):XaR [a,b] K=(onR (fun x=>onR (fun y=>rl x≤4294967296∧rl y≤4294967296∧K (.agg [cb (rcan (if rv x≤rv y then rv x else rv y)),cn (rcan (if rv x≤rv y then rv x else rv y)),cd (rcan (if rv x≤rv y then rv x else rv y))])) b) a):=propext Iff.rfl
@[congr] theorem ubI {K:AV→Prop} {l l' : List AV} (h:l=l'):XaR l K=XaR l' K:=by subst h;rfl
attribute [go_sem] YaD
attribute [go_sem ↓] YaD
def UR (l:List AV) (K:AV→Prop):Prop:=
 match l with
 | [a]=>onR (fun x=>rl x≤4294967296∧K (.agg [zb (zcan (rv x).floor),zm (zcan (rv x).floor)])) a
 | _=>False
theorem zaa (a:AV) (K:AV→Prop):UR [a] K=(onR (fun x=>rl x≤4294967296∧K (.agg [zb (zcan (rv x).floor),zm (zcan (rv x).floor)])) a):=propext Iff.rfl
@[congr] theorem Ybm {K:AV→Prop} {l l' : List AV} (h:l=l'):UR l K=UR l' K:=by subst h;rfl
attribute [go_sem] zaa
attribute [go_sem ↓] zaa
def xae (l:List AV) (K:AV→Prop):Prop:=
 match l with
 | [a,b]=>onW (fun v=>onW (fun w=>zs (zv v)≤17179869184∧zs (zv w)≤17179869184∧zv w≠0∧K (.tup [.agg [cb (rcan (Rat.divInt (zv v) (zv w))),cn (rcan (Rat.divInt (zv v) (zv w))),cd (rcan (Rat.divInt (zv v) (zv w)))],.one (.lit .nilIface)])) b) a
 | _=>False
theorem Vav (a b:AV) (K:AV→Prop):xae [a,b] K=(onW (fun v=>onW (fun w=>zs (zv v)≤17179869184∧zs (zv w)≤17179869184∧zv w≠0∧K (.tup [.agg [cb (rcan (Rat.divInt (zv v) (zv w))),cn (rcan (Rat.divInt (zv v) (zv w))),cd (rcan (Rat.divInt (zv v) (zv w)))],.one (.lit .nilIface)])) b) a):=propext Iff.rfl
@[congr] theorem zbB {K:AV→Prop} {l l' : List AV} (h:l=l'):xae l K=xae l' K:=by subst h;rfl
attribute [go_sem] Vav
attribute [go_sem ↓] Vav
def qW (l:List AV) (K:AV→Prop):Prop:=
 match l with
 | [a,b]=>onW (fun v=>onW (fun w=>zs (zv v)≤17179869184∧zs (zv w)≤17179869184∧zv w≠0∧K (.tup [.agg [cb (rcan (Rat.divInt (zv v) (zv w))),cn (rcan (Rat.divInt (zv v) (zv w))),cd (rcan (Rat.divInt (zv v) (zv w)))],.one (.lit (.int .i64 0))])) b) a
 | _=>False
theorem Q0 (a b:AV) (K:AV→Prop):qW [a,b] K=(onW (fun v=>onW (fun w=>zs (zv v)≤17179869184∧zs (zv w)≤17179869184∧zv w≠0∧K (.tup [.agg [cb (rcan (Rat.divInt (zv v) (zv w))),cn (rcan (Rat.divInt (zv v) (zv w))),cd (rcan (Rat.divInt (zv v) (zv w)))],.one (.lit (.int .i64 0))])) b) a):=propext Iff.rfl
@[congr] theorem kbx {K:AV→Prop} {l l' : List AV} (h:l=l'):qW l K=qW l' K:=by subst h;rfl
attribute [go_sem] Q0
attribute [go_sem ↓] Q0
def xw (l:List AV) (K:AV→Prop):Prop:=
 match l with
 | [a,b]=>asInt (fun k n=>asInt (fun k' d=>k=.i64∧k' = .i64∧(-9223372036854775808≤n∧n≤9223372036854775807)∧(-9223372036854775808≤d∧d≤9223372036854775807)∧d≠0∧K (.tup [.agg [cb (rcan (Rat.divInt n d)),cn (rcan (Rat.divInt n d)),cd (rcan (Rat.divInt n d))],.one (.lit (.int .i64 0))])) b) a
 | _=>False
theorem yau (a b:AV) (K:AV→Prop):xw [a,b] K=(asInt (fun k n=>asInt (fun k' d=>k=.i64∧k' = .i64∧(-9223372036854775808≤n∧n≤9223372036854775807)∧(-9223372036854775808≤d∧d≤9223372036854775807)∧d≠0∧K (.tup [.agg [cb (rcan (Rat.divInt n d)),cn (rcan (Rat.divInt n d)),cd (rcan (Rat.divInt n d))],.one (.lit (.int .i64 0))])) b) a):=propext Iff.rfl
@[congr] theorem qbz {K:AV→Prop} {l l' : List AV} (h:l=l'):xw l K=xw l' K:=by subst h;rfl
attribute [go_sem] yau
attribute [go_sem ↓] yau
theorem UaA:Good xw:=Va fun as=>by
 unfold xw
 split
 ·repeat (first | exact .ret _ | exact .of (fun K hk=>hk.elim) | (refine .and fun _=>?_) | (refine Jf fun _=>?_) | (refine ve fun _=>?_) | (refine vn fun _=>?_) | (refine Qd (fun _ _=>?_) _) | (refine Yz (fun _=>?_) _) | (refine ZA ?_ ?_) | (intro _) | assumption)
 ·exact .of fun K hk=>hk.elim
end Go.Abs
end
section
namespace Go.Abs
open Go.Num
variable {P:Program} {Γ:Nat→Spec}
def errV (tE c:Nat):AV:=.one (.lit (if c=0 then .nilIface else .iface tE (.int .i64 c)))
theorem jb (tE:Nat):errV tE 0=.one (.lit .nilIface):=by simp [errV]
theorem Wb (tE:Nat) {c:Nat} (h:c≠0):errV tE c=.one (.lit (.iface tE (.int .i64 c))):=by simp [errV,h]
theorem Ja1 (h:Nat→HB) (tE c:Nat):datA h (errV tE c)=errV tE c:=eq_of_heq (HEq.refl _)
attribute [go_sem] Ja1
theorem Uai (tE:Nat) (c d:Nat) (h:errV tE c=errV tE d):c=d:=by
 by_cases hc:c=0 <;> by_cases hd:d=0
 ·omega
 ·subst hc;rw [jb,Wb tE hd]at h;simp at h
 ·subst hd;rw [jb,Wb tE hc]at h;simp at h
 ·rw [Wb tE hc,Wb tE hd]at h
  simp only [AV.one.injEq,C.lit.injEq,Value.iface.injEq,Value.int.injEq,true_and]at h
  omega
def onErr (tE:Nat) (k:Nat→Prop) (a:AV):Prop:=onE (errV tE) k a
@[congr] theorem Zby {tE:Nat} {k:Nat→Prop} {a a' : AV} (h:a=a'):onErr tE k a=onErr tE k a':=by subst h;rfl
theorem WJ (tE:Nat) (k:Nat→Prop) (c:Nat):onErr tE k (errV tE c)=k c:=Yp (Uai tE) k c
theorem XaO (tE:Nat) (k:Nat→Prop):onErr tE k (.one (.lit .nilIface))=k 0:=by
 have:=WJ tE k 0
 rw [jb]at this;exact this
theorem qbi {β:Type} {tE:Nat} {T:Nat→(β→Prop)→Prop} (h:∀x,GoodT (T x)) {a:AV}:GoodT fun K=>onErr tE (fun x=>T x K) a:=
 ZA (e:=errV tE) (T:=T) (Uai tE) h
attribute [go_sem] WJ XaO
attribute [go_sem ↓] WJ XaO
def UC (tE:Nat) (l:List AV) (K:AV→Prop):Prop:=
 match l with
 | [a]=>onErr tE (fun c=>K (.one (.lit (.int .i64 (c:Nat))))) a
 | _=>False
theorem yaM (tE:Nat) (a:AV) (K:AV→Prop):UC tE [a] K=(onErr tE (fun c=>K (.one (.lit (.int .i64 (c:Nat))))) a):=propext Iff.rfl
@[congr] theorem XbI (tE:Nat) {K:AV→Prop} {l l' : List AV} (h:l=l'):UC tE l K=UC tE l' K:=by subst h;rfl
attribute [go_sem] yaM
attribute [go_sem ↓] yaM
theorem VaD (tE:Nat):Good (UC tE):=Va fun as=>by
 unfold UC
 split
 ·exact (qbi fun _=>(.ret _))
 ·exact .of fun K hk=>hk.elim
def Uq (l:List AV) (K:AV→Prop):Prop:=
 match l with
 | [a,b]=>onWs (fun x=>onWs (fun y=>x.length≤4294967296∧K (.one (.lit (.bool (decide (x=y)))))) b) a
 | _=>False
theorem W9 (a b:AV) (K:AV→Prop):Uq [a,b] K=(onWs (fun x=>onWs (fun y=>x.length≤4294967296∧K (.one (.lit (.bool (decide (x=y)))))) b) a):=propext Iff.rfl
@[congr] theorem Wbs {K:AV→Prop} {l l' : List AV} (h:l=l'):Uq l K=Uq l' K:=by subst h;rfl
attribute [go_sem] W9
attribute [go_sem ↓] W9
theorem Yaf:Good Uq:=Va fun as=>by
 unfold Uq
 split
 ·exact (Jf fun _=>(Jf fun _=>(.and fun _=>(.ret _))))
 ·exact .of fun K hk=>hk.elim
def VA (l:List AV) (K:AV→Prop):Prop:=
 match l with
 | [a,b]=>onR (fun x=>onR (fun y=>rl x≤4294967296∧K (.one (.lit (.bool (decide (x=y)))))) b) a
 | _=>False
theorem WaW (a b:AV) (K:AV→Prop):VA [a,b] K=(onR (fun x=>onR (fun y=>rl x≤4294967296∧K (.one (.lit (.bool (decide (x=y)))))) b) a):=propext Iff.rfl
@[congr] theorem UbD {K:AV→Prop} {l l' : List AV} (h:l=l'):VA l K=VA l' K:=by subst h;rfl
attribute [go_sem] WaW
attribute [go_sem ↓] WaW
theorem WaZ:Good VA:=Va fun as=>by
 unfold VA
 split
 ·exact (ve fun _=>(ve fun _=>(.and fun _=>(.ret _))))
 ·exact .of fun K hk=>hk.elim
def Ubc (tE:Nat) (l:List AV) (K:AV→Prop):Prop:=
 match l with
 | [a,b]=>onErr tE (fun c=>asInt (fun k n=>k=.i64∧K (.one (.lit (.bool (decide ((c:Int)=n)))))) b) a
 | _=>False
theorem qa8 (tE:Nat) (a b:AV) (K:AV→Prop):Ubc tE [a,b] K=(onErr tE (fun c=>asInt (fun k n=>k=.i64∧K (.one (.lit (.bool (decide ((c:Int)=n)))))) b) a):=propext Iff.rfl
@[congr] theorem JbL (tE:Nat) {K:AV→Prop} {l l' : List AV} (h:l=l'):Ubc tE l K=Ubc tE l' K:=by subst h;rfl
attribute [go_sem] qa8
attribute [go_sem ↓] qa8
def kf (tE:Nat):AC:=(.seq (.ops false [.m 2 (.i 0)])
 (.fg [0] (.seq (.seq (.ops false [.m 5 (.t 0),.u 6 (.binn .eql (.t 5) (.c (.one (.lit .nilIface))))])
 (.fg [0,6] (.cond (.t 6) (.seq (.ops false [.m 2 (.i 0)])
 .ret) .skip)))
 (.fg [0] (.seq (.ops false [.m 8 (.t 0),.u 9 (.tass tE (.one (.lit (.int .i64 0))) (.t 8)),.m 7 (.t 9),.u 10 (.ext 0 (.t 7)),.u 11 (.ext 1 (.t 7)),.m 3 (.t 10),.m 4 (.t 11)])
 (.fg [3,4] (.seq (.seq (.ops false [.m 12 (.t 4),.u 13 (.un .not (.t 12))])
 (.fg [3,13] (.cond (.t 13) (.seq (.ops false [.m 2 (.i (-1))])
 .ret) .skip)))
 (.fg [3] (.seq (.ops false [.m 14 (.t 3),.m 2 (.t 14)])
 .ret)))))))))
def Qi:AC:=(.seq (.ops false [.m 4 .fa])
 (.fg [0,1] (.seq (.seq (.ops false [.m 6 (.t 0),.u 7 (.len (.t 6)),.m 8 (.t 1),.u 9 (.len (.t 8)),.u 10 (.bin .neq (.t 7) (.t 9))])
 (.fg [0,1,10] (.cond (.t 10) (.seq (.ops false [.m 4 .fa])
 .ret) .skip)))
 (.fg [0,1] (.seq (.seq (.ops false [.m 5 (.i 0)])
 (.fg [0,1,5] (.block 0 (.loop (.seq (.seq (.ops false [.m 11 (.t 5),.m 12 (.t 0),.u 13 (.len (.t 12)),.u 14 (.bin .lss (.t 11) (.t 13))])
 (.fg [0,1,5,14] (.cond (.t 14) .skip (.exit 0))))
 (.fg [0,1,5] (.seq (.block 1 (.seq (.ops true [.m 17 (.t 0),.m 18 (.t 5),.u 19 (.idx 1 (.t 17) (.t 18)),.u 20 (.ld none 1 false (.t 19)),.m 21 (.t 1),.m 22 (.t 5),.u 23 (.idx 1 (.t 21) (.t 22)),.u 24 (.ld none 1 false (.t 23)),.u 25 (.bin .neq (.t 20) (.t 24))])
 (.fg [0,1,5,25] (.cond (.t 25) (.seq (.ops false [.m 4 .fa])
 .ret) .skip))))
 (.fg [0,1,5] (.ops false [.m 15 (.t 5),.u 16 (.bin .add (.t 15) (.i 1)),.m 5 (.t 16)])))))))))
 (.fg [] (.seq (.ops false [.m 4 .tr])
 .ret)))))))
def Yl (f0:Nat):AC:=(.seq (.ops false [.u 2 (.box 3 (.t 0)),.u 3 (.box 3 (.t 1)),.m 4 .fa])
 (.fg [2,3] (.seq (.ops false [.u 5 (.fa 0 (.t 2)),.u 6 (.ld none 1 false (.t 5)),.u 7 (.fa 0 (.t 3)),.u 8 (.ld none 1 false (.t 7)),.u 9 (.binb .eql (.t 6) (.t 8)),.m 10 (.t 9),.w 11 10 true (.fa 1 (.t 2)),.w 12 10 true (.ld none 1 false (.t 11)),.w 13 10 true (.fa 1 (.t 3)),.w 14 10 true (.ld none 1 false (.t 13)),.w 15 10 true (.call f0 [(.t 12),(.t 14)]),.u 16 (.pick (.t 10) (.t 15) .fa),.m 17 (.t 16),.w 18 17 true (.fa 2 (.t 2)),.w 19 17 true (.ld none 1 false (.t 18)),.w 20 17 true (.fa 2 (.t 3)),.w 21 17 true (.ld none 1 false (.t 20)),.w 22 17 true (.call f0 [(.t 19),(.t 21)]),.u 23 (.pick (.t 17) (.t 22) .fa),.m 4 (.t 23)])
 .ret)))
theorem waz (hΓ:Holds P Γ) {f tE:Nat} (hc:check P f=some (15,(kf tE).strip,[.tmp 2])):Sound P f (.dat true (UC tE)):=by
 refine va hc (VaD tE) hΓ (fun args K hcl hfi hG=>?_)
 match args,hG with
 | [a],hG=>
  obtain ⟨c,rfl,hK⟩:=hG
  refine ⟨by simp,?_⟩
  by_cases h0:c=0
  ·subst h0
   simp only [go_sem,kf,jb]
   exact hK
  ·simp only [go_sem,kf,Wb tE h0]
   exact ⟨hK,fun h=>absurd rfl h⟩
theorem ZW (hΓ:Holds P Γ) {f:Nat} (hc:check P f=some (26,Qi.strip,[.tmp 4])):Sound P f (.dat true Uq):=by
 refine va hc Yaf hΓ (fun args K hcl hfi hG=>?_)
 match args,hG with
 | [a,b],hG=>
  obtain ⟨x,rfl,hx,y,rfl,hy,hxl,hK⟩:=hG
  refine ⟨by simp,?_⟩
  simp only [go_sem,Qi]
  intro h1 h2
  refine ⟨fun hl=>?_,fun hne=>?_⟩
  rotate_left
  ·rw [decide_eq_false (fun h=>hne (by rw [h]))]at hK;exact hK
  refine ka (fun n:Nat=>⟨mkV [(0,wsA x),(1,wsA y),(5,.one (.lit (.int .i64 n)))],mkH []⟩) (fun n=>n≤x.length∧x.take n=y.take n) (fun n=>x.length-n) 0 ?_ ?_ ?_
  ·exact Qa (by simp [okS,okV,okC,okL,okH,okB,okE,Za,Ja,qa,ja,wsA,ws]) trivial
  ·exact ⟨Nat.zero_le _,rfl⟩
  ·rintro n ⟨hn,hd⟩
   by_cases hlt:n<x.length
   ·have hlt' : n<y.length:=by omega
    simp only [go_sem,hlt,hlt']
    refine fun _=>⟨fun he=>⟨by omega,n+1,Qa (by simp [okS,okV,okC,okL,okH,okB,okE,Za,Ja,qa,ja,wsA,ws]) trivial,⟨by omega,?_⟩,by omega⟩,fun he=>?_⟩
    ·rw [List.getD_eq_getElem?_getD,List.getD_eq_getElem?_getD,List.getElem?_eq_getElem hlt,List.getElem?_eq_getElem hlt']at he
     rw [List.take_add_one,List.take_add_one,List.getElem?_eq_getElem hlt,List.getElem?_eq_getElem hlt',hd]
     simp only [Option.getD_some]at he
     rw [he]
    ·rw [decide_eq_false (fun h=>he (by rw [h]))]at hK;exact hK
   ·simp only [go_sem,hlt]
    rw [List.take_of_length_le (by omega),List.take_of_length_le (by omega)]at hd
    rw [decide_eq_true hd]at hK
    exact fun _=>hK
theorem Uax (hΓ:Holds P Γ) {f fw:Nat} (hw:Γ fw=.dat true Uq) (hc:check P f=some (24,(Yl fw).strip,[.tmp 4])):Sound P f (.dat true VA):=by
 refine va hc WaZ hΓ (fun args K hcl hfi hG=>?_)
 match args,hG with
 | [a,b],hG=>
  obtain ⟨x,rfl,hx,y,rfl,hy,hxl,hK⟩:=hG
  refine ⟨by simp,?_⟩
  have l1:x.2.1.length≤4294967296:=Nat.le_trans (Nat.le_max_left _ _) hxl
  have l2:x.2.2.length≤4294967296:=Nat.le_trans (Nat.le_max_right _ _) hxl
  have e:decide (x=y)=(x.1 == y.1 && (decide (x.2.1=y.2.1) && decide (x.2.2=y.2.2))):=by
   obtain ⟨x1,x2,x3⟩:=x;obtain ⟨y1,y2,y3⟩:=y
   cases x1 <;> cases y1 <;> simp
  rw [e]at hK
  simp only [go_sem,Yl,hw,cb,cn,cd,ws]
  refine ⟨fun h1=>⟨hx.1,hy.1,l1,fun h2=>⟨hx.2,hy.2,l2,?_⟩,fun h2=>?_⟩,fun h1=>?_⟩
  ·rw [h1,decide_eq_true h2]at hK;exact hK
  ·rw [decide_eq_false h2,Bool.false_and,Bool.and_false]at hK;exact hK
  ·rw [h1]at hK;exact hK
end Go.Abs
end
section
namespace Go.Num
abbrev Arc:=R×R
def WLA (x:Arc):Prop:=WLR x.1∧WLR x.2
def al (x:Arc):Nat:=max (rl x.1) (rl x.2)
def a0:Arc:=((false,[],[]),(false,[],[]))
def okA (b:Nat) (x:Arc):Prop:=WLA x∧al x≤b
def okAs (b:Nat) (l:List Arc):Prop:=∀x∈l,okA b x
def av (x:Arc):Rat×Rat:=(rv x.1,rv x.2)
def acan (a:Rat×Rat):Arc:=(rcan a.1,rcan a.2)
theorem ubo (a:Rat×Rat):av (acan a)=a:=by unfold av acan;simp only [Zc]
theorem Yw (a:Rat×Rat):WLA (acan a):=⟨kb _,kb _⟩
theorem gmid {α:Type} (pre u w post:List α) (x d:α):(pre++(u++x::w)++post).getD (pre.length+u.length) d=x:=by
 simp only [List.getD_eq_getElem?_getD]
 rw [List.getElem?_append_left (by simp),List.getElem?_append_right (by omega),List.getElem?_append_right (by omega)]
 simp
theorem gmid1 {α:Type} (pre u w post:List α) (x y d:α):(pre++(u++[y]++x::w)++post).getD (pre.length+u.length) d=y:=by
 simp
theorem smid {α:Type} (pre u w post:List α) (x y:α):((pre++(u++[y]++x::w)++post).set (pre.length+u.length+1) y).set (pre.length+u.length) x=pre++(u++x::(y::w))++post:=by
 have e1:pre++(u++[y]++x::w)++post=(pre++u++[y])++x::(w++post):=by simp
 have e2:pre.length+u.length+1=(pre++u++[y]).length:=by simp [Nat.add_assoc]
 rw [e1,e2,List.set_append_right _ _ (Nat.le_refl _),Nat.sub_self,List.set_cons_zero]
 have e3:(pre++u++[y])++y::(w++post)=(pre++u)++y::(y::(w++post)):=by simp
 have e4:pre.length+u.length=(pre++u).length:=by simp
 rw [e3,e4,List.set_append_right _ _ (Nat.le_refl _),Nat.sub_self,List.set_cons_zero]
 simp
def SortA (l:List Arc):Prop:=l.Pairwise fun x y=>rv x.1≤rv y.1
end Go.Num
namespace Go.Abs
open Go.Num
def aC (x:Arc):List C:=[cb x.1,cn x.1,cd x.1,cb x.2,cn x.2,cd x.2]
def aA (x:Arc):AV:=.agg (aC x)
theorem yl (x:Arc):aC x=[cb x.1,cn x.1,cd x.1,cb x.2,cn x.2,cd x.2]:=eq_of_heq (HEq.refl _)
theorem Ya8 {x y:Arc} (h:aC x=aC y):x=y:=by
 simp only [aC,List.cons.injEq,and_true]at h
 obtain ⟨h1,h2,h3,h4,h5,h6⟩:=h
 have e1:=Yq x.1 y.1 (by simp only [rA];rw [h1,h2,h3])
 have e2:=Yq x.2 y.2 (by simp only [rA];rw [h4,h5,h6])
 exact Prod.ext e1 e2
theorem uaG (x y:Arc) (h:aA x=aA y):x=y:=Ya8 (by simpa [aA] using h)
def as (l:List Arc):C:=.slice (l.map aC)
def asA (l:List Arc):AV:=.one (as l)
theorem zQ {x y:List Arc} (h:x.map aC=y.map aC):x=y:=List.map_inj_right (fun _ _=>Ya8) |>.1 h
theorem jK (x y:List Arc) (h:asA x=asA y):x=y:=by
 simp only [asA,as,AV.one.injEq,C.slice.injEq]at h
 exact zQ h
def onA (k:Arc→Prop) (a:AV):Prop:=onE aA (fun x=>WLA x∧k x) a
@[congr] theorem vbK {k:Arc→Prop} {a a' : AV} (h:a=a'):onA k a=onA k a':=by subst h;rfl
theorem Qbx (k:Arc→Prop) (x:Arc):onA k (.agg (aC x))=(WLA x∧k x):=Yp uaG (fun x=>WLA x∧k x) x
theorem kbs (k:Arc→Prop) (x y:R):onA k (.agg [cb x,cn x,cd x,cb y,cn y,cd y])=(WLA (x,y)∧k (x,y)):=Yp uaG (fun x=>WLA x∧k x) (x,y)
theorem Wt {β:Type} {T:Arc→(β→Prop)→Prop} (h:∀x,GoodT (T x)) {a:AV}:GoodT fun K=>onA (fun x=>T x K) a:=
 ZA (e:=aA) (T:=fun x K=>WLA x∧T x K) uaG fun x=>GoodT.and (c:=WLA x) (T:=T x) fun _=>h x
def onAs (k:List Arc→Prop) (a:AV):Prop:=onE asA (fun l=>(∀x∈l,WLA x)∧k l) a
@[congr] theorem UbC {k:List Arc→Prop} {a a' : AV} (h:a=a'):onAs k a=onAs k a':=by subst h;rfl
theorem UH (k:List Arc→Prop) (l:List Arc):onAs k (.one (.slice (l.map aC)))=((∀x∈l,WLA x)∧k l):=Yp jK (fun l=>(∀x∈l,WLA x)∧k l) l
theorem Zar (k:List Arc→Prop):onAs k (.one (.slice []))=k []:=by
 have:=Yp jK (fun l=>(∀x∈l,WLA x)∧k l) []
 simp only [List.not_mem_nil,false_implies,implies_true,true_and]at this
 exact this
theorem ybs {β:Type} {T:List Arc→(β→Prop)→Prop} (h:∀l,GoodT (T l)) {a:AV}:GoodT fun K=>onAs (fun l=>T l K) a:=
 ZA (e:=asA) (T:=fun l K=>(∀x∈l,WLA x)∧T l K) jK fun l=>GoodT.and (c:=∀x∈l,WLA x) (T:=T l) fun _=>h l
def onAx (k:List Arc→Prop) (a:AV):Prop:=∃l,(a=.one (as l)∨a=.one (.full (l.map aC))∨(a=.one .emp∧l=[]))∧(∀x∈l,WLA x)∧k l
@[congr] theorem ZbF {k:List Arc→Prop} {a a' : AV} (h:a=a'):onAx k a=onAx k a':=by subst h;rfl
theorem Yba (k:List Arc→Prop) (l:List Arc):onAx k (.one (.slice (l.map aC)))=((∀x∈l,WLA x)∧k l):=by
 refine propext ⟨fun ⟨x,h,h1,h2⟩=>?_,fun h=>⟨l,.inl rfl,h⟩⟩
 rcases h with h | h | h
 ·have:=jK l x h;subst this;exact ⟨h1,h2⟩
 ·simp at h
 ·simp at h
theorem Xa6 (k:List Arc→Prop) (l:List Arc):onAx k (.one (.full (l.map aC)))=((∀x∈l,WLA x)∧k l):=by
 refine propext ⟨fun ⟨x,h,h1,h2⟩=>?_,fun h=>⟨l,.inr (.inl rfl),h⟩⟩
 rcases h with h | h | h
 ·simp [as]at h
 ·have:=zQ (x:=l) (y:=x) (by simpa using h);subst this;exact ⟨h1,h2⟩
 ·simp at h
theorem Ubb (k:List Arc→Prop):onAx k (.one .emp)=k []:=by
 refine propext ⟨fun ⟨x,h,h1,h2⟩=>?_,fun h=>⟨[],.inr (.inr ⟨rfl,rfl⟩),by simp,h⟩⟩
 rcases h with h | h | h
 ·simp [as]at h
 ·simp at h
 ·obtain ⟨_,rfl⟩:=h;exact h2
theorem ZaD (K:List C→Prop) (l:List Arc) (i:Nat):getE K (l.map aC) i=(i<l.length∧K (aC (l.getD i a0))):=by
 simp only [getE,List.length_map,List.getElem?_map]
 refine propext ⟨fun h=>⟨h.1,h.2 _ (by simp [h.1,List.getD_eq_getElem?_getD])⟩,fun h=>⟨h.1,fun e he=>?_⟩⟩
 simp [h.1]at he
 subst he
 have:=h.2
 simpa [List.getD_eq_getElem?_getD,h.1] using this
theorem ka0 (x:Arc):CleanL (aC x):=by
 intro c hc
 simp only [aC,List.mem_cons,List.not_mem_nil,or_false]at hc
 rcases hc with rfl | rfl | rfl | rfl | rfl | rfl
 ·exact of_eq_true (vj _)
 ·exact of_eq_true (Xi _)
 ·exact of_eq_true (Ui _)
 ·exact of_eq_true (vj _)
 ·exact of_eq_true (Xi _)
 ·exact of_eq_true (Ui _)
theorem JS (l:List Arc):CleanR (l.map aC)=True:=eq_true fun e he c hc=>by
 obtain ⟨x,_,rfl⟩:=List.mem_map.1 he
 exact ka0 x c hc
theorem uK (l:List Arc):Clean (.slice (l.map aC))=True:=eq_true (.slice _ (of_eq_true (JS l)))
theorem xa5 (x:Arc):(aC x).length=6:=eq_of_heq (HEq.refl _)
theorem kba (l:List Arc):(∀e∈l.map aC,e.length=6)=True:=eq_true fun e he=>by
 obtain ⟨x,_,rfl⟩:=List.mem_map.1 he;rfl
theorem vbv (l:List Arc) (i:Nat) (x y:R):(l.map aC).set i [cb x,cn x,cd x,cb y,cn y,cd y]=(l.set i (x,y)).map aC:=by
 rw [List.map_set];rfl
theorem xbd (l:List Arc) (i:Nat) (x:Arc):(l.map aC).set i (aC x)=(l.set i x).map aC:=by rw [List.map_set]
theorem ka8 (h:Nat→HB) (x:Arc):(aC x).map (datC h)=aC x:=eq_of_heq (HEq.refl _)
theorem Ybb (x:Arc):(aC x).flatMap ownC=[]:=eq_of_heq (HEq.refl _)
theorem Qbj (l:List Arc) (n:Nat):(l.map aC).take n=(l.take n).map aC:=by rw [List.map_take]
theorem Zbf (l:List Arc) (n:Nat):(l.map aC).drop n=(l.drop n).map aC:=by rw [List.map_drop]
theorem qbh (l m:List Arc):l.map aC++m.map aC=(l++m).map aC:=by rw [List.map_append]
theorem Qa9 (l:List Arc):asA l=.one (.slice (l.map aC)):=eq_of_heq (HEq.refl _)
theorem Jbr (l:List Arc):as l=.slice (l.map aC):=eq_of_heq (HEq.refl _)
theorem ubp (x:Arc):aA x=.agg (aC x):=eq_of_heq (HEq.refl _)
attribute [go_sem] Qbx kbs UH Zar Yba Xa6 Ubb ZaD JS uK xa5 kba ka8 Ybb vbv xbd Qbj Zbf qbh Qa9 Jbr ubp
attribute [go_sem ↓] Qbx kbs UH Zar Yba Xa6 Ubb ZaD JS uK xa5 kba ka8 Ybb Qa9 Jbr ubp
def fnV (f:Nat):AV:=.one (.lit (.func (.func f) ⟨[]⟩ ⟨[]⟩))
def QU (l:List AV) (K:AV→Prop):Prop:=
 match l with
 | [a,b]=>onA (fun x=>onA (fun y=>al x≤4294967296∧al y≤4294967296∧K (.one (.lit (.int .i64 (ordQ (rv x.1) (rv y.1)))))) b) a
 | _=>False
theorem VW (a b:AV) (K:AV→Prop):QU [a,b] K=(onA (fun x=>onA (fun y=>al x≤4294967296∧al y≤4294967296∧K (.one (.lit (.int .i64 (ordQ (rv x.1) (rv y.1)))))) b) a):=propext Iff.rfl
@[congr] theorem Wbm {K:AV→Prop} {l l' : List AV} (h:l=l'):QU l K=QU l' K:=by subst h;rfl
attribute [go_sem] VW
attribute [go_sem ↓] VW
def kbm (fc:Nat) (d:Option Nat) (args:List AV) (h:Nat→HB) (K:AV→(Nat→HB)→Prop):Prop:=
 match args with
 | [.one (.own r ver 6 0 len),.one (.lit (.int .i64 a)),.one (.lit (.int .i64 b)),c]=>∃(pre seg post:List Arc),c=fnV fc∧a=pre.length∧b=(pre.length+seg.length:Nat)∧len≤pre.length+seg.length+post.length∧pre.length+seg.length≤len∧len≤68719476736∧
   h r=⟨ver,some ⟨(pre++seg++post).map aC,6,true⟩⟩∧okAs 4294967296 seg∧
   ∀seg' : List Arc,seg.Perm seg'→SortA seg'→K (.tup []) (upd h r ⟨ver,some ⟨(pre++seg'++post).map aC,6,true⟩⟩)
 | _=>False
@[congr] theorem zbL {fc:Nat} {d:Option Nat} {l l' : List AV} {h h' : Nat→HB} {K:AV→(Nat→HB)→Prop} (e1:l=l') (e2:h=h'):kbm fc d l h K=kbm fc d l' h' K:=by subst e1;subst e2;rfl
def JaU (fc m:Nat) (d:Option Nat) (args:List AV) (h:Nat→HB) (K:AV→(Nat→HB)→Prop):Prop:=
 match args with
 | [.one (.own r ver 6 0 len),c]=>∃(l post:List Arc),c=fnV fc∧len=l.length∧len≤m∧h r=⟨ver,some ⟨(l++post).map aC,6,true⟩⟩∧okAs 4294967296 l∧
   ∀l' : List Arc,l.Perm l'→SortA l'→K (.tup []) (upd h r ⟨ver,some ⟨(l'++post).map aC,6,true⟩⟩)
 | _=>False
@[congr] theorem vbB {fc m:Nat} {d:Option Nat} {l l' : List AV} {h h' : Nat→HB} {K:AV→(Nat→HB)→Prop} (e1:l=l') (e2:h=h'):JaU fc m d l h K=JaU fc m d l' h' K:=by subst e1;subst e2;rfl
def Ja5 (fc m:Nat) (d:Option Nat) (args:List AV) (h:Nat→HB) (K:AV→(Nat→HB)→Prop):Prop:=
 match args with
 | [.one (.own r ver 6 0 len),.one (.lit (.int .i64 n)),c]=>n=len∧JaU fc m d [.one (.own r ver 6 0 len),c] h K
 | _=>False
@[congr] theorem JbJ {fc m:Nat} {d:Option Nat} {l l' : List AV} {h h' : Nat→HB} {K:AV→(Nat→HB)→Prop} (e1:l=l') (e2:h=h'):Ja5 fc m d l h K=Ja5 fc m d l' h' K:=by subst e1;subst e2;rfl
def uae (l:List AV) (K:List (List C)→Prop):Prop:=
 match l with
 | [a]=>onAx (fun l=>l.length≤68719476736∧K (l.map aC)) a
 | _=>False
theorem yaj (a:AV) (K:List (List C)→Prop):uae [a] K=(onAx (fun l=>l.length≤68719476736∧K (l.map aC)) a):=propext Iff.rfl
@[congr] theorem vbA {K:List (List C)→Prop} {l l' : List AV} (h:l=l'):uae l K=uae l' K:=by subst h;rfl
attribute [go_sem] yaj
attribute [go_sem ↓] yaj
end Go.Abs
end
section
namespace Go.Num
abbrev Q2:=Rat×Rat
def mem (x:Rat) (a:Q2):Prop:=a.1≤x∧x<a.2
def memL (x:Rat) (l:List Q2):Prop:=∃a∈l,mem x a
theorem lt_of_lt_of_le {a b c:Rat} (h:a<b) (h' : b≤c):a<c:=by grind
theorem lt_of_le_of_lt {a b c:Rat} (h:a≤b) (h' : b<c):a<c:=by grind
abbrev Sw:=Option (List Q2×Q2)
def swOut:Sw→List Q2
 | none=>[]
 | some (o,z)=>o++[z]
def mxQ (p q:Rat):Rat:=if q≤p then p else q
def mnQ (p q:Rat):Rat:=if p≤q then p else q
def swStep:Sw→Q2→Sw
 | none,a=>some ([],a)
 | some (o,z),a=>if a.1≤z.2 then some (o,(z.1,mxQ z.2 a.2)) else some (o++[z],a)
def sweep (l:List Q2):List Q2:=swOut (l.foldl swStep none)
def nrm (l:List Q2):List Q2:=sweep (l.mergeSort fun a b=>decide (a.1≤b.1))
end Go.Num
end
section
namespace Go.Num
def badA (x:Arc):Bool:=!vldR x.1 || (!vldR x.2 || (decide (rv x.1<0) || (decide (1<rv x.2) || decide (rv x.2≤rv x.1))))
def chk1 (l:List Arc):Nat:=if 64<l.length then 4 else if l.any badA then 3 else 0
def chk:List (List Arc)→Nat
 | []=>0
 | l::L=>if chk1 l≠0 then chk1 l else chk L
def vals (l:List Arc):List Q2:=l.map av
def PosA (l:List Arc):Prop:=∀x∈l,rv x.1<rv x.2
structure GoodA (x:Arc):Prop where
 v1:vldR x.1=true
 v2:vldR x.2=true
 lo:0≤rv x.1
 hi:rv x.2≤1
 lt:rv x.1<rv x.2
def frac (q:Rat):Rat:=q-(q.floor:Rat)
end Go.Num
namespace Go.Abs
open Go.Num
def lC (l:List Arc):List C:=[as l]
def lsA (L:List (List Arc)):AV:=.one (.slice (L.map lC))
theorem Wbp {x y:List Arc} (h:lC x=lC y):x=y:=jK x y (by simpa [lC,asA] using h)
theorem ubc (x y:List (List Arc)) (h:lsA x=lsA y):x=y:=by
 simp only [lsA,AV.one.injEq,C.slice.injEq]at h
 exact List.map_inj_right (fun _ _=>Wbp) |>.1 h
def onL (k:List (List Arc)→Prop) (a:AV):Prop:=onE lsA (fun L=>(∀l∈L,∀x∈l,WLA x)∧k L) a
@[congr] theorem QbL {k:List (List Arc)→Prop} {a a' : AV} (h:a=a'):onL k a=onL k a':=by subst h;rfl
theorem ya3 (k:List (List Arc)→Prop) (L:List (List Arc)):onL k (.one (.slice (L.map lC)))=((∀l∈L,∀x∈l,WLA x)∧k L):=Yp ubc (fun L=>(∀l∈L,∀x∈l,WLA x)∧k L) L
theorem zbw (k:List (List Arc)→Prop) (l:List Arc):onL k (.one (.slice [[.slice (l.map aC)]]))=((∀x∈l,WLA x)∧k [l]):=by
 have:=ya3 k [l]
 simp only [List.map_cons,List.map_nil,List.mem_singleton,forall_eq]at this
 exact this
theorem Vbm (k:List (List Arc)→Prop) (l m:List Arc):onL k (.one (.slice [[.slice (l.map aC)],[.slice (m.map aC)]]))=(((∀x∈l,WLA x)∧(∀x∈m,WLA x))∧k [l,m]):=by
 have:=ya3 k [l,m]
 simp only [List.map_cons,List.map_nil,List.mem_cons,List.not_mem_nil,or_false,forall_eq_or_imp,forall_eq]at this
 exact this
theorem Ybe (l:List Arc):lC l=[.slice (l.map aC)]:=eq_of_heq (HEq.refl _)
theorem kbb (L:List (List Arc)):lsA L=.one (.slice (L.map lC)):=eq_of_heq (HEq.refl _)
theorem JaV (K:List C→Prop) (L:List (List Arc)) (i:Nat):getE K (L.map lC) i=(i<L.length∧K (lC (L.getD i []))):=by
 simp only [getE,List.length_map,List.getElem?_map]
 refine propext ⟨fun h=>⟨h.1,h.2 _ (by simp [h.1,List.getD_eq_getElem?_getD])⟩,fun h=>⟨h.1,fun e he=>?_⟩⟩
 simp [h.1]at he
 subst he
 have:=h.2
 simpa [List.getD_eq_getElem?_getD,h.1] using this
theorem kap (L:List (List Arc)):Clean (.slice (L.map lC))=True:=eq_true (.slice _ fun e he c hc=>by
 obtain ⟨l,_,rfl⟩:=List.mem_map.1 he
 rw [Ybe,List.mem_singleton]at hc
 subst hc
 exact of_eq_true (uK l))
theorem Qa6 (l:List Arc):(lC l).length=1:=eq_of_heq (HEq.refl _)
theorem wa8 (L:List (List Arc)):(∀e∈L.map lC,e.length=1)=True:=eq_true fun e he=>by
 obtain ⟨l,_,rfl⟩:=List.mem_map.1 he;rfl
attribute [go_sem] ya3 zbw Vbm kbb JaV kap Qa6 wa8 Ybe
attribute [go_sem ↓] ya3 zbw Vbm kbb JaV kap Qa6 wa8 Ybe
def YaF (l:List AV) (K:AV→Prop):Prop:=
 match l with
 | []=>K (.agg [cb (rcan 1),cn (rcan 1),cd (rcan 1)])
 | _=>False
theorem QaP (K:AV→Prop):YaF [] K=(K (.agg [cb (rcan 1),cn (rcan 1),cd (rcan 1)])):=propext Iff.rfl
@[congr] theorem kbD {K:AV→Prop} {l l' : List AV} (h:l=l'):YaF l K=YaF l' K:=by subst h;rfl
attribute [go_sem] QaP
attribute [go_sem ↓] QaP
def jaM (l:List AV) (K:AV→Prop):Prop:=
 match l with
 | [a,b]=>onR (fun x=>onR (fun y=>rl x≤4294967296∧rl y≤4294967296∧K (.agg [cb (rcan (rv x)),cn (rcan (rv x)),cd (rcan (rv x)),cb (rcan (rv y)),cn (rcan (rv y)),cd (rcan (rv y))])) b) a
 | _=>False
theorem qaO (a b:AV) (K:AV→Prop):jaM [a,b] K=(onR (fun x=>onR (fun y=>rl x≤4294967296∧rl y≤4294967296∧K (.agg [cb (rcan (rv x)),cn (rcan (rv x)),cd (rcan (rv x)),cb (rcan (rv y)),cn (rcan (rv y)),cd (rcan (rv y))])) b) a):=propext Iff.rfl
@[congr] theorem jbC {K:AV→Prop} {l l' : List AV} (h:l=l'):jaM l K=jaM l' K:=by subst h;rfl
attribute [go_sem] qaO
attribute [go_sem ↓] qaO
def xR (tE:Nat) (l:List AV) (K:AV→Prop):Prop:=
 match l with
 | [a]=>onL (fun L=>(∀l∈L,okAs 4294967296 l)∧K (errV tE (chk L))) a
 | _=>False
theorem uZ (tE:Nat) (a:AV) (K:AV→Prop):xR tE [a] K=(onL (fun L=>(∀l∈L,okAs 4294967296 l)∧K (errV tE (chk L))) a):=propext Iff.rfl
@[congr] theorem Vbo (tE:Nat) {K:AV→Prop} {l l' : List AV} (h:l=l'):xR tE l K=xR tE l' K:=by subst h;rfl
attribute [go_sem] uZ
attribute [go_sem ↓] uZ
def Wag (m:Nat) (l:List AV) (K:AV→Prop):Prop:=
 match l with
 | [a]=>onAs (fun l=>l.length≤m∧okAs 4294967296 l∧PosA l∧K (.one (.slice (((nrm (vals l)).map acan).map aC)))) a
 | _=>False
theorem Jam (m:Nat) (a:AV) (K:AV→Prop):Wag m [a] K=(onAs (fun l=>l.length≤m∧okAs 4294967296 l∧PosA l∧K (.one (.slice (((nrm (vals l)).map acan).map aC)))) a):=propext Iff.rfl
@[congr] theorem Vbz (m:Nat) {K:AV→Prop} {l l' : List AV} (h:l=l'):Wag m l K=Wag m l' K:=by subst h;rfl
attribute [go_sem] Jam
attribute [go_sem ↓] Jam
def jad (tE m:Nat) (l:List AV) (K:AV→Prop):Prop:=
 match l with
 | [a]=>onAs (fun l=>(chk [l]=0→l.length≤m)∧okAs 4294967296 l∧K (.tup [.one (.slice (((if chk [l]=0 then nrm (vals l) else []).map acan).map aC)),errV tE (chk [l])])) a
 | _=>False
theorem Xar (tE m:Nat) (a:AV) (K:AV→Prop):jad tE m [a] K=(onAs (fun l=>(chk [l]=0→l.length≤m)∧okAs 4294967296 l∧K (.tup [.one (.slice (((if chk [l]=0 then nrm (vals l) else []).map acan).map aC)),errV tE (chk [l])])) a):=propext Iff.rfl
@[congr] theorem ubA (tE m:Nat) {K:AV→Prop} {l l' : List AV} (h:l=l'):jad tE m l K=jad tE m l' K:=by subst h;rfl
attribute [go_sem] Xar
attribute [go_sem ↓] Xar
def jah (l:List AV) (K:AV→Prop):Prop:=
 match l with
 | [a]=>onR (fun x=>rl x≤1073741824∧K (.tup [.agg [cb (rcan (frac (rv x))),cn (rcan (frac (rv x))),cd (rcan (frac (rv x)))],.one (.lit .nilIface)])) a
 | _=>False
theorem vak (a:AV) (K:AV→Prop):jah [a] K=(onR (fun x=>rl x≤1073741824∧K (.tup [.agg [cb (rcan (frac (rv x))),cn (rcan (frac (rv x))),cd (rcan (frac (rv x)))],.one (.lit .nilIface)])) a):=propext Iff.rfl
@[congr] theorem Qby {K:AV→Prop} {l l' : List AV} (h:l=l'):jah l K=jah l' K:=by subst h;rfl
attribute [go_sem] vak
attribute [go_sem ↓] vak
end Go.Abs
end
