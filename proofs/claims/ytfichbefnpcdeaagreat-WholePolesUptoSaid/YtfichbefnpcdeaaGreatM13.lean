/-
  Parts of the proof, merged: RunF, RunG, AbsZ, AbsZN, RunA, RunB, RunC, RunH, RunI, RunJ, RunM, RunN, RunO, RunP, RunQ, RunR, RunE.
-/
import Derived.Test.YtfichbefnpcdeaaGreatM12
import Derived.LoopN
import Derived.RangeFuncRecord
import Derived.LoopNIn
set_option linter.unusedVariables false
set_option linter.unusedSimpArgs false
set_option linter.unnecessarySimpa false
section
namespace Go.Abs
theorem nos{α:Type}{y:α}{G:Prop}(h:(none:Option α)=some y):G:=by cases h
theorem Xa8{α:Type}(x y:α):sel true x y=x:=rfl
theorem Ua8{α:Type}(x y:α):sel false x y=y:=rfl
theorem Yj{α:Type}(b:Bool)(x y:α):sel b x y=if b=true then x else y:=by cases b <;> rfl
theorem Za{α:Type}{b:Bool}{x:Option α}{y:α}(h:guardE b x=some y):b=true/\x=some y:=by
 cases b
 .exact nos h
 .exact⟨rfl,h⟩
theorem Qa{α β:Type}{x:Option α}{f:α->Option β}{y:β}(h:obind x f=some y):∃a,x=some a/\f a=some y:=by
 cases x with
 | none=>exact nos h
 | some a=>exact⟨a,rfl,h⟩
theorem Qh{α β:Type}{x:Option α}{f:α->β}{y:β}(h:omap f x=some y):∃a,x=some a/\f a=y:=by
 cases x with
 | none=>exact nos h
 | some a=>exact⟨a,rfl,Option.some.inj h⟩
theorem beq_eq{a b:Nat}(h:Nat.beq a b=true):a=b:=Nat.eq_of_beq_eq_true h
theorem Vb{a b:Nat}(h:Nat.ble a b=true):a<=b:=Nat.le_of_ble_eq_true h
theorem XX{a b:Int}:ile a b=true↔a<=b:=by
 cases a <;> cases b <;> simp only [ile,Nat.ble_eq,Int.ofNat_eq_natCast,Int.negSucc_eq,true_iff,false_iff,Bool.false_eq_true] <;> omega
theorem Jh{a b:Int}(h:ile a b=true):a<=b:=XX.1 h
theorem jZ{a b:Int}(h:ilt a b=true):a<b:=by
 unfold ilt at h;have:¬ile b a=true:=by simpa using h
 rw [XX]at this;omega
theorem ZX(a b:Int):ile a b=decide (a<=b):=by
 rw [Bool.eq_iff_iff,XX];simp
theorem Jav(a b:Int):ilt a b=decide (a<b):=by
 unfold ilt;rw [ZX];by_cases h:a<b
 .have:¬b<=a:=by omega
  simp [h,this]
 .have:b<=a:=by omega
  simp [h,this]
theorem zX(a b:Int):ieq a b=decide (a=b):=by
 cases a <;> cases b <;> simp only [ieq] <;> first | (rw [Bool.eq_iff_iff,Nat.beq_eq];simp;done) | (rw [Bool.eq_iff_iff,Nat.beq_eq];simp only [Int.ofNat_eq_natCast,decide_eq_true_eq];omega) | simp
theorem WaW{n:Int}(h:i64 n=true):-9223372036854775808<=n/\n<=9223372036854775807:=by
 cases n <;> (have:=Vb h;simp only [Int.ofNat_eq_natCast,Int.negSucc_eq];omega)
theorem Yy{a b:IntKind}(h:sameK a b=true):a=b:=by cases a <;> cases b <;> first | rfl | exact Bool.noConfusion h
theorem Tr.get_set:∀(D:Nat) (v:Tr) (d k:Nat) (a:AV),d<2 ^ D->k<2 ^ D->(v.set D d a).get k=if k=d then a else v.get k:=by
 intro D
 induction D with
 | zero=>
  intro v d k a hd hk;have h1:d=0:=by simp at hd;exact hd
  have h2:k=0:=by simp at hk;exact hk
  rw [if_pos (by omega)]
  rfl
 | succ D ih=>
  intro v d k a hd hk;have hd2:d / 2<2 ^ D:=by rw [Nat.pow_succ]at hd;omega
  have hk2:k / 2<2 ^ D:=by rw [Nat.pow_succ]at hk;omega
  have hget:∀(x y:Tr),(Tr.n x y).get k=if k % 2=0 then x.get (k / 2) else y.get (k / 2):=by
   intro x y;show sel (Nat.beq (k % 2) 0) (x.get (k / 2)) (y.get (k / 2))=_;rw [Yj];by_cases h:k % 2=0
   .rw [if_pos (by rw [h];rfl),if_pos h]
   .rw [if_neg (λe=>h (beq_eq e)),if_neg h]
  have hset:v.set (D+1) d a=if d % 2=0 then .n (v.lef.set D (d / 2) a) v.rig else .n v.lef (v.rig.set D (d / 2) a):=by
   show sel (Nat.beq (d % 2) 0) (Tr.n (v.lef.set D (d / 2) a) v.rig) (Tr.n v.lef (v.rig.set D (d / 2) a))=_;rw [Yj];by_cases h:d % 2=0
   .rw [if_pos (by rw [h];rfl),if_pos h]
   .rw [if_neg (λe=>h (beq_eq e)),if_neg h]
  have hv:v.get k=if k % 2=0 then v.lef.get (k / 2) else v.rig.get (k / 2):=by
   cases v with
   | e=>split <;> rfl
   | l b=>split <;> rfl
   | n x y=>exact hget x y
  rw [hset];by_cases h:d % 2=0
  .rw [if_pos h,hget];by_cases h' : k % 2=0
   .rw [if_pos h',ih _ _ _ _ hd2 hk2,hv,if_pos h'];by_cases e:k=d
    .rw [if_pos e,if_pos (by rw [e])]
    .rw [if_neg e,if_neg (by omega)]
   .rw [if_neg h',hv,if_neg h',if_neg (by intro e;rw [e]at h';exact h' h)]
  .rw [if_neg h,hget];by_cases h' : k % 2=0
   .rw [if_pos h',hv,if_pos h',if_neg (by intro e;rw [e]at h';exact h h')]
   .rw [if_neg h',ih _ _ _ _ hd2 hk2,hv,if_neg h'];by_cases e:k=d
    .rw [if_pos e,if_pos (by rw [e])]
    .rw [if_neg e,if_neg (by omega)]
theorem Ut(r:Nat):hget [] r=⟨0,none⟩:=rfl
theorem kd(p:Nat×HB)(h:List (Nat×HB))(r:Nat):hget (p::h) r=if r=p.1 then p.2 else hget h r:=by
 show sel (Nat.beq r p.1) p.2 (hget h r)=_;rw [Yj];by_cases e:r=p.1
 .rw [if_pos e,if_pos (by rw [e];exact Nat.beq_refl _)]
 .rw [if_neg e,if_neg (λx=>e (beq_eq x))]
theorem ZK(t:Nat)(c:HB):∀(h:List (Nat×HB)) (r:Nat),hget (hset h t c) r=if r=t then c else hget h r
 | [],r=>by
  show hget [(t,c)] r=_;rw [kd]
 | p::h,r=>by
  have e:hset (p::h) t c=if t=p.1 then (t,c)::h else p::hset h t c:=by
   show sel (Nat.beq t p.1) ((t,c)::h) (p::hset h t c)=_;rw [Yj];by_cases e:t=p.1
   .rw [if_pos e,if_pos (by rw [e];exact Nat.beq_refl _)]
   .rw [if_neg e,if_neg (λx=>e (beq_eq x))]
  rw [e];by_cases e:t=p.1
  .rw [if_pos e,kd,kd];simp only;by_cases e2:r=t
   .rw [if_pos e2,if_pos e2]
   .rw [if_neg e2,if_neg e2,if_neg (by rw [<-e];exact e2)]
  .rw [if_neg e,kd,kd,ZK t c h r];by_cases e2:r=p.1
   .rw [if_pos e2,if_neg (by rw [e2];exact λx=>e x.symm),if_pos e2]
   .rw [if_neg e2,if_neg e2]
theorem UJ(h:List (Nat×HB))(t:Nat)(c:HB):hget (hset h t c)=upd (hget h) t c:=by
 funext r
 rw [ZK];rfl
noncomputable def T.den(t:T):S:=⟨farV (t.v::t.x),hget t.h⟩
theorem Je(v:Tr)(l:List Tr)(k:Nat):farV (v::l) k=if k<256 then v.get k else if pinA<=k then farV l (k-pinA) else .any:=by
 show sel (Nat.ble k 255) (v.get k) (sel (Nat.ble pinA k) (farV l (k-pinA)) .any)=_;rw [Yj,Yj];by_cases h:k<256
 .rw [if_pos h,if_pos (by rw [Nat.ble_eq];omega)]
 .rw [if_neg h,if_neg (by rw [Nat.ble_eq];omega)]
  by_cases h2:pinA<=k
  .rw [if_pos h2,if_pos (by rw [Nat.ble_eq];exact h2)]
  .rw [if_neg h2,if_neg (by rw [Nat.ble_eq];exact h2)]
theorem T.get_den(t:T)(k:Nat):t.get k=t.den.v k:=by
 show sel (Nat.ble k 255) (t.v.get k) (farV (t.v::t.x) k)=farV (t.v::t.x) k;rw [Je,Yj];by_cases h:k<256
 .rw [if_pos h,if_pos (by rw [Nat.ble_eq];omega)]
 .rw [if_neg h,if_neg (by rw [Nat.ble_eq];omega)]
theorem T.ev_den(t:T)(x:Opd):t.ev x=t.den.ev x:=by
 cases x with
 | t n=>exact t.get_den n
 | c a=>rfl
theorem T.evs_den(t:T)(l:List Opd):l.map t.ev=l.map t.den.ev:=List.map_congr_left λx _=>t.ev_den x
def Low(d:Option Nat):Prop:=∀k,d=some k->k<256
theorem T.put_den(t:T){d:Option Nat}(hd:Low d)(x:AV):(t.put d x).den=t.den.put d x:=by
 cases d with
 | none=>rfl
 | some d=>
  have h:=hd d rfl;show S.mk (farV (t.v.set dep d x::t.x)) (hget t.h)=⟨upd (farV (t.v::t.x)) d x,hget t.h⟩;congr 1
  funext k
  rw [Je];unfold upd;rw [Je];by_cases hk:k<256
  .rw [if_pos hk,Tr.get_set dep t.v d k x h hk,if_pos hk]
  .rw [if_neg hk,if_neg (show ¬k=d by omega),if_neg hk]
theorem T.hat_den(t:T)(r ver:Nat):t.hat r ver=(t.den.h r).at ver:=by
 show sel (Nat.beq (hget t.h r).ver ver) (hget t.h r).blk none=_;rw [Yj];unfold HB.at;show _=if (hget t.h r).ver=ver then (hget t.h r).blk else none
 by_cases e:(hget t.h r).ver=ver
 .rw [if_pos e,if_pos (by rw [e];exact Nat.beq_refl _)]
 .rw [if_neg e,if_neg (λx=>e (beq_eq x))]
theorem T.setB_den(t:T)(r ver:Nat)(b:Blk):(t.setB r ver b).den=t.den.setH (upd t.den.h r ⟨ver,some b⟩):=by
 show S.mk (farV (t.v::t.x)) (hget (hset t.h r ⟨ver,some b⟩))=_;rw [UJ];rfl
theorem uK:∀(l:List Nat) (h:List (Nat×HB)),hget (frzH l h)=frz l (hget h)
 | [],h=>rfl
 | r::l,h=>by
  show hget (frzH l _)=frz l (upd (hget h) r (hget h r).dead);rw [uK l];congr 1;cases e:hget h r with
  | mk v b=>
   cases b with
   | none=>
    simp only
    funext k
    unfold upd;by_cases e2:k=r
    .rw [if_pos e2,e2,e];rfl
    .rw [if_neg e2]
   | some b=>
    simp only;rw [UJ];rfl
section vals
variable {K:AV->Prop} {r:AV}
theorem wk{k:IntKind}{n:Int}(h:intE k n=some r)(hk:K r):intR K k n:=by cases h;exact hk
theorem Qe{b:Bool}(h:boolE b=some r)(hk:K r):boolR K b:=by cases h;exact hk
theorem Qt{k:IntKind}{n:Int}(h:numE k n=some r)(hk:K r):numR K k n:=by
 unfold numE at h;split at h
 .obtain⟨h1,h2⟩:=Za h;exact⟨WaW h1,wk h2 hk⟩
 .exact wk h hk
 .exact wk h hk
 .exact wk h hk
 .exact nos h
theorem Wau{op:BinOp}{k:IntKind}{a b:Int}(h:arithE op k a b=some r)(hk:K r):arith K op k a b:=by
 unfold arithE at h;split at h
 .exact Qt h hk
 .exact Qt h hk
 .exact Qt h hk
 .obtain⟨h1,h2⟩:=Za h;simp only [Bool.and_eq_true]at h1;exact⟨⟨Jh h1.1,jZ h1.2⟩,Qt h2 hk⟩
 .obtain⟨h1,h2⟩:=Za h;simp only [Bool.and_eq_true]at h1;exact⟨⟨Jh h1.1,jZ h1.2⟩,wk h2 hk⟩
 .rw [zX]at h;exact Qe h hk
 .rw [zX]at h;exact Qe h hk
 .rw [Jav]at h;exact Qe h hk
 .rw [ZX]at h;exact Qe h hk
 .rw [Jav]at h;exact Qe h hk
 .rw [ZX]at h;exact Qe h hk
 .exact nos h
theorem YaT{op:BinOp}{x y:AV}(h:binE op x y=some r)(hk:K r):binA K op x y:=by
 unfold binE at h;split at h
 .split at h
  .obtain⟨h1,h2⟩:=Za h;simp only [Bool.and_eq_true]at h1;exact⟨⟨Jh h1.1.1,Jh h1.1.2,Jh h1.2⟩,Qt h2 hk⟩
  .obtain⟨h1,h2⟩:=Za h;simp only [Bool.and_eq_true]at h1;exact⟨⟨Jh h1.1.1,Jh h1.1.2,Jh h1.2⟩,wk h2 hk⟩
  .rename_i n1 n2;obtain⟨h1,h2⟩:=Za h;simp only [binA];unfold binI;split
   .exact(n1 rfl).elim
   .exact(n2 rfl).elim
   .exact⟨Yy h1,Wau h2 hk⟩
 .exact nos h
theorem uaF{op:BinOp}{x y:AV}(h:binbE op x y=some r)(hk:K r):binbA K op x y:=by
 unfold binbE at h;split at h
 .exact Qe h hk
 .exact Qe h hk
 .exact nos h
theorem yat{v:Value}{neg:Bool}(h:nilE v neg=some r)(hk:K r):nilR (λb=>boolR K (b != neg)) (isNilV v):=by
 unfold nilE at h;split at h
 .cases neg <;> exact Qe h hk
 .cases neg <;> exact Qe h hk
 .exact nos h
theorem waH{op:BinOp}{c:Bool}{x y:AV}(h:binnE op c x y=some r)(hk:K r):binnA K op c x y:=by
 unfold binnE at h;split at h
 .rename_i a;have:=yat h hk;simp only [binnA];cases e:isNilV a with
  | none=>rw [e]at this;exact this
  | some b=>rw [e]at this;cases b <;> exact this
 .rename_i a;have:=yat h hk;simp only [binnA];cases e:isNilV a with
  | none=>rw [e]at this;exact this
  | some b=>rw [e]at this;cases b <;> exact this
 .exact nos h
theorem za1{op:UnOp}{x:AV}(h:unE op x=some r)(hk:K r):unA K op x:=by
 unfold unE at h;split at h
 .exact Qe h hk
 .exact Qt h hk
 .exact nos h
theorem uaH{k:IntKind}{x:AV}(h:convE k x=some r)(hk:K r):convA K k x:=by
 unfold convE at h;split at h
 .exact Qt h hk
 .exact nos h
theorem qap{t:TypeId}{x:AV}(h:ifaceE t x=some r)(hk:K r):ifaceA K t x:=by
 unfold ifaceE at h;split at h
 .cases h;exact hk
 .exact nos h
theorem kaw{n:Nat}{g:Bool}{cs:List C}(h:ldE n g cs=some r)(hk:K r):ldK K n g cs:=by
 unfold ldE at h;split at h
 .obtain⟨h1,h2⟩:=Za h;cases h2
  exact⟨Vb h1,hk⟩
 .cases h;exact hk
 .exact nos h
theorem zk{t:T}{r ver:Nat}{b:Blk}(h:t.hat r ver=some b):(t.den.h r).at ver=some b:=by rw [<-T.hat_den];exact h
theorem Jaa{n:Nat}{g:Bool}{t:T}{x:AV}(h:loadE n g t x=some r)(hk:K r):ldA K n g t.den.h x:=by
 unfold loadE at h;split at h
 .exact kaw h hk
 .split at h
  .rename_i b hb;split at h
   .rename_i e he;exact⟨b,zk hb,(List.getElem?_eq_some_iff.1 he).1,λe' he'=>by rw [he]at he';cases he';exact kaw h hk⟩
   .exact nos h
  .exact nos h
 .exact nos h
theorem UY{b:Option Nat}{x:AV}(h:baseE b x=true):baseIs b x:=by
 unfold baseE at h;split at h
 .exact trivial
 .exact beq_eq h
 .exact trivial
 .exact Bool.noConfusion h
theorem uaw{x:AV}(h:nilckE x=some r)(hk:K r):nilckA K x:=by
 unfold nilckE at h;split at h
 .cases h;exact hk
 .cases h;exact hk
 .exact nos h
theorem zaJ{off:Nat}{x:AV}(h:faE off x=some r)(hk:K r):faA K off x:=by
 unfold faE at h;split at h
 .cases h;exact hk
 .obtain⟨h1,h2⟩:=Za h;cases h2
  exact⟨Vb h1,hk⟩
 .exact nos h
theorem qav{n:Nat}{g:Bool}{off:Nat}{x:AV}(h:fldE n g off x=some r)(hk:K r):fldA K n g off x:=by
 unfold fldE at h;split at h
 .obtain⟨h1,h2⟩:=Za h;exact⟨Vb h1,kaw h2 hk⟩
 .exact nos h
theorem UaU{z:Nat}{i x:AV}(h:idxE z i x=some r)(hk:K r):idxA K z i x:=by
 unfold idxE at h;split at h
 .split at h
  .rename_i e he;obtain⟨h1,h2⟩:=Za h;simp only [Bool.and_eq_true]at h1;cases h2
   exact⟨Jh h1.1,(List.getElem?_eq_some_iff.1 he).1,λe' he'=>by rw [he]at he';cases he';exact⟨beq_eq h1.2,hk⟩⟩
  .exact nos h
 .split at h
  .rename_i e he;obtain⟨h1,h2⟩:=Za h;simp only [Bool.and_eq_true]at h1;cases h2
   exact⟨Jh h1.1,(List.getElem?_eq_some_iff.1 he).1,λe' he'=>by rw [he]at he';cases he';exact⟨beq_eq h1.2,hk⟩⟩
  .exact nos h
 .obtain⟨h1,h2⟩:=Za h;simp only [Bool.and_eq_true]at h1;cases h2
  exact⟨⟨Jh h1.1.1,jZ h1.1.2,beq_eq h1.2⟩,hk⟩
 .exact nos h
theorem vU{n:Nat}{x:Option AV}{dr:Bool}{Kp:Prop}(h:bndE n x=some r)(hk:x=some r->Kp):bndK dr n Kp:=by
 obtain⟨h1,h2⟩:=Za h;exact⟨λ_=>Vb h1,λ_=>hk h2⟩
theorem QaX{dr:Bool}{x:AV}(h:lenE x=some r)(hk:K r):lenA K dr x:=by
 unfold lenE at h;split at h
 .exact vU h λh=>wk h hk
 .exact vU h λh=>wk h hk
 .exact wk h hk
 .exact vU h λh=>wk h hk
 .exact nos h
theorem VaD{neg:Bool}{x:AV}(h:snilE neg x=some r)(hk:K r):snilA K neg x:=by
 unfold snilE at h;split at h
 .exact⟨λe=>by simp at e,Qe h hk⟩
 .exact⟨λe=>by simp at e,Qe h hk⟩
 .exact⟨λe=>by simp at e,Qe h hk⟩
 .exact nos h
theorem wR{t:T}{dflt n:Nat}{x:Option Opd}{Kn:Nat->Prop}(h:bE t dflt x=some n)(hk:Kn n):bnd Kn t.den.ev dflt x:=by
 unfold bE at h;split at h
 .cases h;exact hk
 .split at h
  .rename_i e;obtain⟨h1,h2⟩:=Za h;cases h2
   rw [T.ev_den]at e;simp only [bnd,e];exact⟨Jh h1,hk⟩
  .exact nos h
theorem Jo{z:Nat}:∀{es:List (List C)},allLen z es=true->∀e∈es,e.length=z
 | [],_,e,he=>by simp at he
 | x::l,h,e,he=>by
  simp only [allLen,Bool.and_eq_true]at h;rcases List.mem_cons.1 he with rfl | he
  .exact beq_eq h.1
  .exact Jo h.2 e he
theorem vP{z:Nat}{t:T}{lo hi:Option Opd}{x:AV}(h:sliceE z t lo hi x=some r)(hk:K r):slA K z t.den.ev lo hi x:=by
 unfold sliceE at h;unfold slA;split at h
 .split at h
  .rename_i e1 e2;obtain⟨h1,h2⟩:=Za h;simp only [Bool.and_eq_true]at h1;cases h2
   refine wR e1 ?_;refine wR e2 ?_;exact⟨⟨Vb h1.1.1,Vb h1.1.2,Jo h1.2⟩,hk⟩
  .exact nos h
 .split at h
  .rename_i e1 e2;obtain⟨h1,h2⟩:=Za h;simp only [Bool.and_eq_true]at h1;cases h2
   refine wR e1 ?_;refine wR e2 ?_;exact⟨⟨Vb h1.1.1,Vb h1.1.2,Jo h1.2⟩,hk⟩
  .exact nos h
 .split at h
  .rename_i e1 e2;obtain⟨h1,h2⟩:=Za h;simp only [Bool.and_eq_true]at h1;cases h2
   refine wR e1 ?_;refine wR e2 ?_;exact⟨⟨Vb h1.1.1,Vb h1.1.2,beq_eq h1.2⟩,hk⟩
  .exact nos h
 .split at h
  .rename_i e1 e2;obtain⟨h1,h2⟩:=Za h;simp only [Bool.and_eq_true]at h1;cases h2
   refine wR e1 ?_;refine wR e2 ?_;exact⟨⟨beq_eq h1.1,beq_eq h1.2⟩,hk⟩
  .exact nos h
 .exact nos h
theorem jE{t:T}{x:AV}{es:List (List C)}{Ke:List (List C)->Prop}(h:elemsE t x=some es)(hk:Ke es):elemsA Ke t.den.h x:=by
 unfold elemsE at h;split at h
 .cases h;exact hk
 .cases h;exact hk
 .cases h;exact hk
 .split at h
  .rename_i b hb;obtain⟨h1,h2⟩:=Za h;cases h2
   exact⟨b,zk hb,Vb h1,hk⟩
  .exact nos h
 .exact nos h
theorem wz{x:AV}{cs:List C}{Kc:List C->Prop}(h:cellsE x=some cs)(hk:Kc cs):asCells Kc x:=by
 unfold cellsE at h;split at h
 .cases h;exact hk
 .cases h;exact hk
 .exact nos h
theorem XaR{x:AV}{c:C}{Kc:C->Prop}(h:oneE x=some c)(hk:Kc c):asOne Kc x:=by
 unfold oneE at h;split at h
 .cases h;exact hk
 .exact nos h
theorem yy{t:T}:∀{l:List Seg} {cs:List C} {Kc:List C->Prop},segsE t l=some cs->Kc cs->segA t.den.ev l Kc
 | [],cs,Kc,h,hk=>by cases h;exact hk
 | .z zs::l,cs,Kc,h,hk=>by
  obtain⟨cs',h1,rfl⟩:=Qh (show omap (zs++·) (segsE t l)=some cs from h);exact yy (Kc:=λl=>Kc (zs++l)) h1 hk
 | .x n o::l,cs,Kc,h,hk=>by
  obtain⟨xs,h1,h2⟩:=Qa (show obind (cellsE (t.ev o)) (λcs=>guardE (Nat.beq cs.length n) (omap (cs++·) (segsE t l)))=some cs from h);obtain⟨h3,h4⟩:=Za h2;obtain⟨cs',h5,rfl⟩:=Qh h4;rw [T.ev_den]at h1;exact wz (Kc:=λcs=>cs.length=n/\segA t.den.ev l λl=>Kc (cs++l)) h1 ⟨beq_eq h3,yy h5 hk⟩
theorem ky{t:T}{z:Nat}:∀{l:List (List Seg)} {es:List (List C)} {Ke:List (List C)->Prop},rowsE t z l=some es->Ke es->rowA t.den.ev z l Ke
 | [],es,Ke,h,hk=>by cases h;exact hk
 | sg::l,es,Ke,h,hk=>by
  obtain⟨cs,h1,h2⟩:=Qa (show obind (segsE t sg) (λcs=>guardE (Nat.beq cs.length z) (omap (cs::·) (rowsE t z l)))=some es from h);obtain⟨h3,h4⟩:=Za h2;obtain⟨es',h5,rfl⟩:=Qh h4;exact yy h1 ⟨beq_eq h3,ky h5 hk⟩
theorem yaA{t:T}:∀{l:List Opd} {cs:List C} {Kc:List C->Prop},capE t l=some cs->Kc cs->capA t.den.ev l Kc
 | [],cs,Kc,h,hk=>by cases h;exact hk
 | o::l,cs,Kc,h,hk=>by
  obtain⟨c,h1,h2⟩:=Qa (show obind (oneE (t.ev o)) (λc=>omap (c::·) (capE t l))=some cs from h);obtain⟨cs',h5,rfl⟩:=Qh h2;rw [T.ev_den]at h1;exact XaR h1 (yaA h5 hk)
theorem YaS{k:Nat}{l:List AV}(h:sopE k l=some r)(hk:K r):sopA K k l:=by
 unfold sopE at h;unfold sopA;cases e:(l.mapM litV).bind (sopV k) with
 | none=>rw [e]at h;exact nos h
 | some v=>rw [e]at h;cases h;exact hk
theorem qaR{i:Nat}{x:AV}(h:extE i x=some r)(hk:K r):extA K i x:=by
 unfold extE at h;split at h
 .exact⟨(List.getElem?_eq_some_iff.1 h).1,λa ha=>by rw [h]at ha;cases ha;exact hk⟩
 .exact nos h
theorem YaG{ty:TypeId}{zero x:AV}(h:tassE ty zero x=some r)(hk:K r):tassA K ty zero x:=by
 unfold tassE at h;split at h
 .rename_i t' u;by_cases e:t' = ty
  .subst e;have hb:Nat.beq t' t' = true:=Nat.beq_refl _;rw [hb]at h;obtain⟨h1,h2⟩:=Za (show guardE (isCell u) (some (.tup [.one (.lit u),.one (.lit (.bool true))]))=some r from h);cases h2
   exact⟨λ_=>⟨h1,hk⟩,λe=>(e rfl).elim⟩
  .have hb:Nat.beq t' ty=false:=by
    cases hx:Nat.beq t' ty with
    | false=>rfl
    | true=>exact(e (beq_eq hx)).elim
   rw [hb]at h;cases h
   exact⟨λe'=>(e e').elim,λ_=>hk⟩
 .cases h;exact hk
 .exact nos h
theorem JaK{n j:Nat}{x:AV}{Kj:Nat->Prop}(h:atE n x=some j)(hk:Kj j):asInt (λ_ i=>(0<=i/\i<(n:Int))/\Kj i.toNat) x:=by
 unfold atE at h;split at h
 .obtain⟨h1,h2⟩:=Za h;simp only [Bool.and_eq_true]at h1;cases h2
  exact⟨⟨Jh h1.1,jZ h1.2⟩,hk⟩
 .exact nos h
theorem jaA{z n:Nat}{x:AV}(h:rslE z n x=some r)(hk:K r):rslA K z n x:=by
 unfold rslE at h;split at h
 .obtain⟨h1,h2⟩:=Za h;simp only [Bool.and_eq_true]at h1;cases h2
  exact⟨⟨beq_eq h1.1,Vb h1.2⟩,hk⟩
 .exact nos h
theorem qaz{pick:Int->Int->Int}{t:T}:∀{l:List Opd} {k:IntKind} {n:Int},maxE pick t l k n=some r->K r->maxK pick t.den.ev K l k n
 | [],k,n,h,hk=>wk h hk
 | y::l,k,n,h,hk=>by
  simp only [maxE]at h;split at h
  .rename_i e;obtain⟨h1,h2⟩:=Za h;rw [T.ev_den]at e;simp only [maxK,e];exact⟨Yy h1,qaz h2 hk⟩
  .exact nos h
theorem QaL{pick:Int->Int->Int}{t:T}{l:List Opd}(h:mmE pick t l=some r)(hk:K r):maxA pick t.den.ev K l:=by
 cases l with
 | nil=>exact nos h
 | cons x l=>
  simp only [mmE]at h;split at h
  .rename_i e;rw [T.ev_den]at e;simp only [maxA,e];exact qaz h hk
  .exact nos h
theorem Vax{b:Nat}{d:Option Nat}{x y:AV}(h:appIsE b d x y=true):appIs b d x y:=by
 unfold appIsE at h;split at h
 .exact beq_eq h
 .split at h
  .show some _=some b;rw [beq_eq h]
  .exact Bool.noConfusion h
 .exact Bool.noConfusion h
theorem qao{x:AV}{b:Bool}(h:lbE x=some b):x=.one (.lit (.bool b)):=by
 unfold lbE at h;split at h
 .cases h;rfl
 .exact nos h
theorem Yam{x:AV}{n:Int}{Kn:IntKind->Int->Prop}(h:liE x=some n)(hk:∀k,Kn k n):asInt Kn x:=by
 unfold liE at h;split at h
 .cases h;exact hk _
 .exact nos h
theorem jV{x:AV}{u:Unit}(h:empE x=some u):x=.one .emp:=by
 unfold empE at h;split at h
 .rfl
 .exact nos h
end vals
section ops
variable {K:S->Prop} {t t' : T} {d:Option Nat}
theorem WaP{x:Option AV}(h:pu d t x=some t'):∃a,x=some a/\t' = t.put d a:=by
 cases x with
 | none=>exact nos h
 | some a=>exact⟨a,rfl,(Option.some.inj h).symm⟩
theorem kat{x:Option T}(h:pt d x=some t'):∃a,x=some a/\t' = a.put d (.tup []):=by
 cases x with
 | none=>exact nos h
 | some a=>exact⟨a,rfl,(Option.some.inj h).symm⟩
theorem Um{b:Blk}{a:Nat->Nat->AV}(hd:Low d)(h:newE t b a d=some t')(hk:K t'.den):newA K t.den b a d:=by
 cases d with
 | none=>exact nos h
 | some d=>
  simp only [newE]at h;split at h
  .rename_i ver e;cases h
   rw [T.put_den _ hd]at hk;have e:t.den.h d=⟨ver,none⟩:=e;simp only [newA,e,newB];have e2:(T.mk t.v t.x (hset t.h d ⟨ver+1,some b⟩) t.n).den=⟨t.den.v,upd t.den.h d ⟨ver+1,some b⟩⟩:=by
    show S.mk (farV (t.v::t.x)) (hget (hset t.h d ⟨ver+1,some b⟩))=_;rw [UJ];rfl
   rw [e2]at hk;exact hk
  .exact nos h
theorem Qa4{n:Nat}{x y:AV}{Kh:(Nat->HB)->Prop}(h:stE n t x y=some t')(hk:∀h',t'.den=t.den.setH h'->Kh h'):stA Kh n t.den.h x y:=by
 unfold stE at h;split at h
 .split at h
  .rename_i xs b e1 e2;split at h
   .rename_i e he;obtain⟨h1,h2⟩:=Za h;simp only [Bool.and_eq_true]at h1;cases h2
    simp only [stA];refine wz e1 ?_;refine⟨b,zk e2,⟨h1.1.1,beq_eq h1.1.2⟩,(List.getElem?_eq_some_iff.1 he).1,λe' he'=>?_⟩;rw [he]at he';cases he'
    exact⟨Vb h1.2,hk _ (T.setB_den ..)⟩
   .exact nos h
  .exact nos h
 .exact nos h
theorem ZU{z:Nat}{x y:AV}(hd:Low d)(h:appE z d t x y=some t')(hk:K t'.den):appA K z d t.den x y:=by
 unfold appE at h;split at h
 .exact nos h
 .rename_i ys e;obtain⟨h1,h⟩:=Za h;unfold appA;refine jE (Ke:=λys=>(∀e∈ys,e.length=z)/\appK K z d t.den ys x) e ?_;refine⟨Jo h1,?_⟩;split at h
  .obtain⟨h2,h⟩:=Za h;exact⟨Vb h2,Um hd h hk⟩
  .split at h
   .exact Um hd h hk
   .obtain⟨h2,h⟩:=Za h;simp only [Bool.and_eq_true]at h2;exact⟨⟨Vb h2.1,Jo h2.2⟩,Um hd h hk⟩
  .split at h
   .rename_i b hb;obtain⟨h2,h⟩:=Za h;simp only [Bool.and_eq_true]at h2;cases h
    obtain⟨⟨⟨⟨⟨q1,q2⟩,q3⟩,q4⟩,q5⟩,q6⟩:=h2;refine⟨b,zk hb,⟨q1,beq_eq q2,beq_eq q3,Vb q4,Vb q5,Vb q6⟩,?_⟩;rw [T.put_den _ hd,T.setB_den]at hk;exact hk
   .exact nos h
  .exact nos h
theorem zaT{z:Nat}{x y:AV}{Kh:(Nat->HB)->Prop}(h:clrE z t x y=some t')(hk:∀h',t'.den=t.den.setH h'->Kh h'):clrK Kh z t.den.h x y:=by
 unfold clrE at h;split at h
 .split at h
  .rename_i b hb;obtain⟨h1,h2⟩:=Za h;simp only [Bool.and_eq_true]at h1;cases h2
   obtain⟨⟨⟨⟨q1,q2⟩,q3⟩,q4⟩,q5⟩:=h1;exact⟨b,zk hb,⟨q1,beq_eq q2,beq_eq q3,beq_eq q4,Vb q5⟩,hk _ (T.setB_den ..)⟩
  .exact nos h
 .exact nos h
theorem ZaS{z:Nat}{x:AV}{ys:List (List C)}{Kh:(Nat->HB)->Prop}(h:cpyE z t ys x=some t')(hk:∀h',t'.den=t.den.setH h'->Kh h'):cpyK Kh z t.den.h ys x:=by
 unfold cpyE at h;split at h
 .split at h
  .rename_i b hb;obtain⟨h1,h2⟩:=Za h;simp only [Bool.and_eq_true]at h1;cases h2
   obtain⟨⟨⟨⟨q1,q2⟩,q3⟩,q4⟩,q5⟩:=h1;exact⟨b,zk hb,⟨q1,beq_eq q2,beq_eq q3,Vb q4,Vb q5⟩,hk _ (T.setB_den ..)⟩
  .exact nos h
 .exact nos h
end ops
end Go.Abs
end
section
namespace Go.Abs
section hand
variable {α:Type}
theorem zr(k:Nat->α)(n:Nat):fNat k n=k n:=by cases n <;> rfl
theorem vaW(k:Int->α)(n:Int):fInt k n=k n:=by cases n <;> simp only [fInt,zr]
theorem xaa(k:Bool->α)(n:Bool):fBool k n=k n:=by cases n <;> rfl
theorem UaF(k:IntKind->α)(n:IntKind):fKind k n=k n:=by cases n <;> rfl
theorem Jan(k:Value->α)(v:Value):fVal k v=k v:=by
 unfold fVal;split
 .rw [UaF,vaW]
 .rw [xaa]
 .rfl
mutual
theorem VaZ:∀(c:C) (k:C->α),fC c k=k c
 | .lit v,k=>by simp only [fC,Jan]
 | .slice es,k=>by simp only [fC,xaX]
 | .full es,k=>by simp only [fC,xaX]
 | .emp,k=>by simp only [fC]
 | .ref cs,k=>by simp only [fC,xat]
 | .clo f cs,k=>by simp only [fC,xat]
 | .own ..,k=>by simp only [fC]
 | .ptr ..,k=>by simp only [fC]
 | .any,k=>by simp only [fC]
theorem xat:∀(l:List C) (k:List C->α),fL l k=k l
 | [],k=>by simp only [fL]
 | c::l,k=>by simp only [fL,VaZ,xat]
theorem xaX:∀(l:List (List C)) (k:List (List C)->α),fR l k=k l
 | [],k=>by simp only [fR]
 | c::l,k=>by simp only [fR,xat,xaX]
end
mutual
theorem Ja6:∀(a:AV) (k:AV->α),fA a k=k a
 | .one c,k=>by simp only [fA,VaZ]
 | .agg cs,k=>by simp only [fA,xat]
 | .tup l,k=>by simp only [fA,zao]
 | .any,k=>by simp only [fA]
theorem zao:∀(l:List AV) (k:List AV->α),fAs l k=k l
 | [],k=>by simp only [fAs]
 | a::l,k=>by simp only [fAs,Ja6,zao]
end
end hand
theorem XK{c c' : C}(h:flatC c=some c'):ownC c=[]/\∀H,datC H c=c':=by
 unfold flatC at h;split at h
 .exact nos h
 .exact nos h
 .cases h;exact⟨rfl,λ_=>rfl⟩
 .cases h;exact⟨rfl,λ_=>rfl⟩
 .cases h;exact⟨rfl,λ_=>rfl⟩
 .exact nos h
 .rename_i n1 n2 n3 n4 n5 n6;cases h
  cases c with
  | own=>exact(n1 _ _ _ _ _ rfl).elim
  | ptr=>exact(n2 _ _ _ _ rfl).elim
  | emp=>exact(n3 rfl).elim
  | full es=>exact(n4 _ rfl).elim
  | clo f cs=>exact(n6 _ _ rfl).elim
  | lit v=>exact⟨rfl,λ_=>rfl⟩
  | slice es=>exact⟨rfl,λ_=>rfl⟩
  | ref cs=>exact⟨rfl,λ_=>rfl⟩
  | any=>exact⟨rfl,λ_=>rfl⟩
theorem waf:∀{cs cs' : List C},flatL cs=some cs'->cs.flatMap ownC=[]/\∀H,cs.map (datC H)=cs'
 | [],cs',h=>by cases h;exact⟨rfl,λ_=>rfl⟩
 | c::l,cs',h=>by
  simp only [flatL]at h;split at h
  .rename_i c' hc;simp only [Option.map_eq_some_iff]at h;obtain⟨l',hl,rfl⟩:=h;obtain⟨h1,h2⟩:=XK hc;obtain⟨h3,h4⟩:=waf hl;exact⟨by rw [List.flatMap_cons,h1,h3];rfl,λH=>by rw [List.map_cons,h2,h4]⟩
  .exact nos h
theorem UaE{a a' : AV}(h:flatA a=some a'):ownA a=[]/\∀H,datA H a=a':=by
 unfold flatA at h;split at h
 .simp only [Option.map_eq_some_iff]at h;obtain⟨c',hc,rfl⟩:=h;obtain⟨h1,h2⟩:=XK hc;exact⟨h1,λH=>by show AV.one (datC H _)=_;rw [h2]⟩
 .simp only [Option.map_eq_some_iff]at h;obtain⟨c',hc,rfl⟩:=h;obtain⟨h1,h2⟩:=waf hc;exact⟨h1,λH=>by show AV.agg (List.map (datC H) _)=_;rw [h2]⟩
 .exact nos h
theorem yz:∀{as as' : List AV},flatAs as=some as'->as.flatMap ownA=[]/\∀H,as.map (datA H)=as'
 | [],as',h=>by cases h;exact⟨rfl,λ_=>rfl⟩
 | a::l,as',h=>by
  simp only [flatAs]at h;split at h
  .rename_i a' ha;simp only [Option.map_eq_some_iff]at h;obtain⟨l',hl,rfl⟩:=h;obtain⟨h1,h2⟩:=UaE ha;obtain⟨h3,h4⟩:=yz hl;exact⟨by rw [List.flatMap_cons,h1,h3];rfl,λH=>by rw [List.map_cons,h2,h4]⟩
  .exact nos h
theorem qo:∀(n:Nat) {c:C},cleanE n c=true->Clean c
 | 0,c,h=>Bool.noConfusion h
 | n+1,c,h=>by
  cases c with
  | own=>exact Bool.noConfusion h
  | ptr=>exact Bool.noConfusion h
  | emp=>exact .emp
  | any=>exact .any
  | lit v=>exact .lit v
  | slice es=>
   simp only [cleanE,List.all_eq_true]at h;exact .slice es λe he c hc=>qo n (h e he c hc)
  | full es=>
   simp only [cleanE,List.all_eq_true]at h;exact .full es λe he c hc=>qo n (h e he c hc)
  | ref cs=>
   simp only [cleanE,List.all_eq_true]at h;exact .ref cs λc hc=>qo n (h c hc)
  | clo f cs=>
   simp only [cleanE,List.all_eq_true]at h;exact .clo f cs λc hc=>qo n (h c hc)
theorem yv{n:Nat}{es:List (List C)}(h:(es.all λe=>e.all (cleanE n))=true):CleanR es:=by
 simp only [List.all_eq_true]at h;exact λe he c hc=>qo n (h e he c hc)
theorem Yak{n:Nat}{cs:List C}(h:cs.all (cleanE n)=true):CleanL cs:=by
 simp only [List.all_eq_true]at h;exact λc hc=>qo n (h c hc)
theorem Yad{h:List (Nat×HB)}{c c' : C}(hc:dataC h c=some c'):datC (hget h) c=c':=by
 unfold dataC at hc;split at hc
 .rename_i r ver z off len;split at hc
  .rename_i v b e;simp only at hc;cases hb:(Nat.beq v ver && Nat.ble (off+len) b.es.length && ((b.es.drop off).take len).all λe=>e.all (cleanE 32)) with
   | false=>rw [hb]at hc;exact nos hc
   | true=>
    rw [hb]at hc;simp only [cond_true,Option.some.injEq]at hc;simp only [Bool.and_eq_true]at hb;have hv:=beq_eq hb.1.1;subst hv;show datV (hget h) r v off len=c';unfold datV viewOf;rw [e];simp only [HB.at,if_true,if_pos (Vb hb.1.2),if_pos (yv hb.2)];exact hc
  .exact nos hc
 .rename_i r ver i off;split at hc
  .rename_i v b e;split at hc
   .rename_i e' he;cases hb:(Nat.beq v ver && Nat.ble off e'.length && (e'.drop off).all (cleanE 32)) with
    | false=>rw [hb]at hc;exact nos hc
    | true=>
     rw [hb]at hc;simp only [cond_true,Option.some.injEq]at hc;simp only [Bool.and_eq_true]at hb;have hv:=beq_eq hb.1.1;subst hv;show datP (hget h) r v i off=c';unfold datP;rw [e];simp only [HB.at,if_true,he,if_pos (show off<=e'.length/\CleanL (e'.drop off) from ⟨Vb hb.1.2,Yak hb.2⟩)];exact hc
   .exact nos hc
  .exact nos hc
 .exact(XK hc).2 _
theorem XC{h:List (Nat×HB)}:∀{cs cs' : List C},cs.mapM (dataC h)=some cs'->cs.map (datC (hget h))=cs'
 | [],cs',hc=>by simp at hc;subst hc;rfl
 | c::l,cs',hc=>by
  simp only [List.mapM_cons,Option.bind_eq_bind,Option.bind_eq_some_iff,Option.pure_def,Option.some.injEq]at hc;obtain⟨c',h1,l',h2,rfl⟩:=hc;rw [List.map_cons,Yad h1,XC h2]
theorem zac{h:List (Nat×HB)}:∀{es es' : List (List C)},rows2 h es=some es'->es.map (·.map (datC (hget h)))=es'
 | [],es',hc=>by cases hc;rfl
 | e::l,es',hc=>by
  simp only [rows2]at hc;split at hc
  .rename_i e' he;simp only [Option.map_eq_some_iff]at hc;obtain⟨l',hl,rfl⟩:=hc;rw [List.map_cons,XC he,zac hl]
  .exact nos hc
theorem vay:∀(e:List C),ownE e=e.flatMap ownC
 | []=>rfl
 | c::l=>by rw [ownE,vay l,List.flatMap_cons]
theorem QM:∀(e:List (List C)),ownEs e=e.flatMap (·.flatMap ownC)
 | []=>rfl
 | c::l=>by rw [ownEs,QM l,vay,List.flatMap_cons]
theorem zaI{h:List (Nat×HB)}{a a' : AV}(hc:dataE h a=some a'):Abs.datE (hget h) a=a':=by
 unfold dataE at hc;unfold Abs.datE;split at hc
 .cases hc;rfl
 .cases hc;rfl
 .rename_i c n1 n2;simp only [Option.map_eq_some_iff]at hc;obtain⟨c',h1,rfl⟩:=hc;split
  .rename_i e;cases e;exact(n1 rfl).elim
  .rename_i e;cases e;exact(n2 _ rfl).elim
  .show AV.one (datC _ _)=_;rw [Yad h1]
 .simp only [Option.map_eq_some_iff]at hc;obtain⟨c',h1,rfl⟩:=hc;show AV.agg (List.map (datC _) _)=_;rw [XC h1]
 .exact nos hc
theorem XG{h:List (Nat×HB)}:∀{cs cs' : List AV},cs.mapM (dataE h)=some cs'->cs.map (Abs.datE (hget h))=cs'
 | [],cs',hc=>by simp at hc;subst hc;rfl
 | c::l,cs',hc=>by
  simp only [List.mapM_cons,Option.bind_eq_bind,Option.bind_eq_some_iff,Option.pure_def,Option.some.injEq]at hc;obtain⟨c',h1,l',h2,rfl⟩:=hc;rw [List.map_cons,zaI h1,XG h2]
def datG(L:Lv)(f:Nat)(args:List AV)(K:AV->Prop):Prop:=∃r,L.dat f args=some r/\K r
def lokG(L:Lv)(f:Nat)(es:List (List C))(args:List AV)(K:AV->Prop):Prop:=∃r,L.look f es args=some r/\K r
def freG(L:Lv)(f:Nat)(args:List AV)(K:List (List C)->Prop):Prop:=∃es,L.fresh f args=some es/\K es
def inlG(L:Lv)(f:Nat)(_:Option Nat)(args:List AV)(s:S)(K:AV->S->Prop):Prop:=∃t r t',s=t.den/\L.inl f args t=some (r,t')/\K r t'.den
def iodG(L:Lv)(f:Nat)(_:Option Nat)(args:List AV)(s:S)(K:AV->S->Prop):Prop:=args.flatMap ownA=[]/\datG L f (args.map (datA s.h)) λr=>K r s
def bothG(L:Lv)(f:Nat)(d:Option Nat)(args:List AV)(s:S)(K:AV->S->Prop):Prop:=inlG L f d args s K∨iodG L f d args s K
theorem kg{α β:Type}(F:α->Option β):∀(as:α),(∀{K K' : β->Prop},(∀r,K r->K' r)->(∃r,F as=some r/\K r)->∃r,F as=some r/\K' r)/\
  (∀{K:β->Prop},(∃r,F as=some r/\K r)->∃r,K r)/\(∀{K:β->Prop},(∃r,F as=some r/\K r)->∃r,F as=some r/\∀K:β->Prop,(∃r,F as=some r/\K r)->K r):=λas=>
 ⟨λhm ⟨r,h1,h2⟩=>⟨r,h1,hm r h2⟩,λ⟨r,_,h2⟩=>⟨r,h2⟩,λ⟨r,h1,h2⟩=>⟨r,h1,λK ⟨r',h3,h4⟩=>by rw [h1]at h3;cases h3;exact h4⟩⟩
theorem yM(L:Lv)(f:Nat):Good (datG L f):=by
 constructor
 .intro as K K' hm h;exact(kg (L.dat f) as).1 hm h
 .intro as K h;exact(kg (L.dat f) as).2.1 h
 .intro as K h;exact(kg (L.dat f) as).2.2 h
theorem Zaq(L:Lv)(f:Nat)(es:List (List C)):Good (lokG L f es):=by
 constructor
 .intro as K K' hm h;exact(kg (L.look f es) as).1 hm h
 .intro as K h;exact(kg (L.look f es) as).2.1 h
 .intro as K h;exact(kg (L.look f es) as).2.2 h
theorem uaA(L:Lv)(f:Nat):Good (freG L f):=by
 constructor
 .intro as K K' hm h;exact(kg (L.fresh f) as).1 hm h
 .intro as K h;exact(kg (L.fresh f) as).2.1 h
 .intro as K h;exact(kg (L.fresh f) as).2.2 h
structure LvOk (P:Program) (L:Lv):Prop where
 en:∀f args r,L.dat f args=some r->Enters P f
 eni:∀f args t r,L.inl f args t=some r->Enters P f
 enl:∀f es args r,L.look f es args=some r->Enters P f
 enf:∀f args r,L.fresh f args=some r->Enters P f
 dat:∀f,DSound P f (datG L f)
 inl:∀f,ISound P f (inlG L f)
 look:∀f,OSound P f (lookG (lokG L f))
 fresh:∀f,FSound P f (L.z f) (freG L f)
theorem RAs.any_map{m:M}{I:Nat->Prop}{H:Array Obj}{as:List AV}{vs:List Value}(h:RAs m I H as vs)(hc:∀a∈as,CleanV a)(m' : M):RAs m' I H as vs:=
 ⟨h.1,λi a v ha hv=>(h.2 i a v ha hv).any_mapV (hc a (List.mem_of_getElem? ha)) m'⟩
theorem uaj{P:Program}{f:FuncId}{G:List AV->(AV->Prop)->Prop}(h:DSound P f G):ISound P f λ_ args s K=>args.flatMap ownA=[]/\G (args.map (datA s.h)) λr=>K r s:=by
 intro E args vals s a w m I d K hs hargs ⟨hown,hG⟩;obtain⟨_,hx1⟩:=hs.heap.ret (w':=w) (I':=I) (Nat.le_refl _) (λ_ _=>rfl) (λ_ h=>h) (λ_ h=>.inl h) hs.heap.imb rfl rfl rfl;have free:∀x∈args,ownA x=[]:=by simpa only [List.flatMap_eq_nil_iff] using hown
 have each:∀x v,x∈args->RA m I w.heap x v->RA m I w.heap (datA s.h x) v/\CleanV (datA s.h x):=λx v hx hv=>
  ut hs.heap hx1 hv (λr hr'=>by rw [free x hx]at hr';simp at hr')
 have hcl:∀x∈args.map (datA s.h),CleanV x:=by
  intro x hx;simp only [List.mem_map]at hx;obtain⟨x0,hx0,rfl⟩:=hx;obtain⟨i,hi⟩:=List.getElem?_of_mem hx0;have hlt:i<vals.length:=by rw [<-hargs.1];exact(List.getElem?_eq_some_iff.1 hi).1
  exact(each x0 _ hx0 (hargs.2 i x0 _ hi (List.getElem?_eq_getElem hlt))).2
 have hra:RAs M0 I w.heap (args.map (datA s.h)) vals:=by
  refine RAs.any_map (m:=m) ⟨by simp [hargs.1],λi x v hx hv=>?_⟩ hcl M0
  simp only [List.getElem?_map,Option.map_eq_some_iff]at hx;obtain⟨x0,hx0,rfl⟩:=hx;exact(each x0 v (List.mem_of_getElem? hx0) (hargs.2 i x0 v hx0 hv)).1
 refine Calls.mono (h _ vals w I _ hs.heap.imb hra hcl hG) λe w' ⟨v,r,I',h1,h2,h3,h4,ht⟩=>?_;obtain⟨hh2,hx2⟩:=hs.heap.ret (w':=w') (I':=I') ht.grow ht.keep ht.sub ht.new ht.imb ht.os ht.tape ht.out;have:=hs.move hx2 hh2;exact⟨v,r,s,m,I',h1,h2,h3.any_map h4 m,this⟩
def crs:List AO->List Nat
 | []=>[]
 | o::l=>match o.o with
  | .callr f _=>f::crs l
  | _=>crs l
def cfs:List AO->List Nat
 | []=>[]
 | o::l=>match o.o with
  | .callf f _=>f::cfs l
  | _=>cfs l
def cis:List AO->List Nat
 | []=>[]
 | o::l=>match o.o with
  | .calli f _=>f::cis l
  | _=>cis l
open Classical in
noncomputable def gam(P:Program)(L:Lv)(dr:Bool)(l:List AO)(f:Nat):Spec:=
 if Enters P f then
  if (crs l).contains f then .look (lokG L f) else
  if (cfs l).contains f then .fresh (L.z f) (freG L f) else
  if (cis l).contains f then .inl (inlG L f) else
  if dr then .dat false (datG L f) else .inl (bothG L f)
 else .none
theorem jag{L:Lv}{f:Nat}{d:Option Nat}{args:List AV}{s:S}{K K' : AV->S->Prop}(hm:∀r s,K r s->K' r s):inlG L f d args s K->inlG L f d args s K':=
 λ⟨t,r,t',h1,h2,h3⟩=>⟨t,r,t',h1,h2,hm _ _ h3⟩
theorem Yu{P:Program}{L:Lv}(hL:LvOk P L)(dr:Bool)(l:List AO):Holds P (gam P L dr l):=by
 intro f;unfold gam;split
 rotate_left
 .trivial
 rename_i hent;split
 .exact⟨hent,Zaq L f,hL.look f⟩
 split
 .exact⟨hent,uaA L f,hL.fresh f⟩
 split
 .exact⟨hent,λhm=>jag hm,hL.inl f⟩
 split
 .exact⟨hent,yM L f,hL.dat f⟩
 .refine⟨hent,λhm h=>?_,λE args vals s a w m I d K hs hargs hG=>?_⟩
  .rcases h with h | ⟨h1,h2⟩
   .exact .inl (jag hm h)
   .exact .inr ⟨h1,(yM L f).mono (λr=>hm r _) h2⟩
  .rcases hG with hG | hG
   .exact hL.inl f E args vals s a w m I d K hs hargs hG
   .exact uaj (hL.dat f) E args vals s a w m I d K hs hargs hG
def okAO(l:List AO)(o:AO):Bool:=
 (match o.d with | some d=>Nat.blt d 256 | none=>true) &&
 match o.o with
 | .call f _=>!(crs l).contains f && !(cfs l).contains f && !(cis l).contains f
 | .callv _ _=>(crs l).all spF && (cfs l).all spF && (cis l).all spF
 | .callr f _=>(crs l).contains f
 | .callf f _=>!(crs l).contains f && (cfs l).contains f
 | .calli f _=>!(crs l).contains f && !(cfs l).contains f && (cis l).contains f
 | _=>true
section
variable {P:Program} {L:Lv} {K:S->Prop} {t t' : T} {d:Option Nat} {dr:Bool} {l:List AO}
theorem Wad(hL:LvOk P L)(hd:Low d){f:Nat}{args:List AV}(h1:(crs l).contains f=false)(h2:(cfs l).contains f=false)(h3:(cis l).contains f=false)
  (h:callE L dr d t f args=some t') (hk:K t'.den):callS K dr d args t.den (gam P L dr l f):=by
 unfold callE at h;split at h
 .rename_i as e;obtain⟨g1,g2⟩:=yz e;rw [zao]at h;split at h
  .rename_i r e2;rw [Ja6]at h;cases h
   rw [T.put_den _ hd]at hk;have hent:=hL.en f as r e2;unfold gam;rw [if_pos hent,h1,h2,h3];simp only [Bool.false_eq_true,if_false];cases dr with
   | true=>
    refine⟨λ_=>g1,?_⟩;rw [g2,g1];exact⟨r,e2,hk⟩
   | false=>
    refine⟨rfl,.inr ⟨g1,?_⟩⟩;rw [g2];exact⟨r,e2,hk⟩
  .exact nos h
 .cases dr with
  | true=>exact nos h
  | false=>
   simp only [cond_false]at h;split at h
   .rename_i r t1 e2;cases h
    rw [T.put_den _ hd]at hk;have hent:=hL.eni f args t _ e2;unfold gam;rw [if_pos hent,h1,h2,h3];simp only [Bool.false_eq_true,if_false];exact⟨rfl,.inl ⟨t,r,t1,rfl,e2,hk⟩⟩
   .exact nos h
theorem qaG(hL:LvOk P L){f:Nat}{args:List AV}{r:AV}{Kv:AV->Prop}(h1:(crs l).contains f=true)(h:lookE L t f args=some r)(hk:Kv r):callR Kv args t.den.h (gam P L dr l f):=by
 unfold lookE at h;split at h
 .rename_i r0 ver rest;split at h
  .rename_i b hb;obtain⟨g1,g2⟩:=Za h;simp only [Bool.and_eq_true]at g1;split at g2
   .rename_i as e;obtain⟨q1,q2⟩:=yz e;have hent:=hL.enl f _ _ _ g2;unfold gam;rw [if_pos hent,if_pos h1];refine⟨b,zk hb,⟨g1.1,yv g1.2⟩,q1,?_⟩;rw [q2];exact⟨r,g2,hk⟩
   .exact nos g2
  .exact nos h
 .exact nos h
theorem kam(hL:LvOk P L)(hd:Low d){f:Nat}{args:List AV}(h1:(crs l).contains f=false)(h2:(cfs l).contains f=true)
  (h:freshE L dr d t f args=some t') (hk:K t'.den):callF K dr d args t.den (gam P L dr l f):=by
 unfold freshE at h;simp only at h;obtain⟨g1,g2⟩:=Za h;split at g2
 .rename_i as e;split at g2
  .rename_i es e2;have hent:=hL.enf f _ _ e2;unfold gam;rw [if_pos hent,h1,if_neg Bool.false_ne_true,if_pos h2];refine⟨λhdr=>?_,?_⟩
   .subst hdr;simpa using g1
   .show freG L f (args.map (Abs.datE (hget t.h))) _;rw [XG e];refine⟨es,e2,?_⟩;have:=Um hd g2 hk;have e3:(T.mk t.v t.x (frzH (args.flatMap ownA) t.h) t.n).den=t.den.setH (frz (args.flatMap ownA) t.den.h):=by
     show S.mk (farV (t.v::t.x)) (hget (frzH (args.flatMap ownA) t.h))=_;rw [uK];rfl
    rw [e3]at this;exact this
  .exact nos g2
 .exact nos g2
theorem qaW{x:AV}{args:List AV}{p:Nat×List AV}{Kc:Nat->List AV->Prop}(h:whoE x args=some p)(hk:Kc p.1 p.2):callVA Kc args x:=by
 unfold whoE at h;split at h
 .cases h;exact hk
 .cases h;exact hk
 .rename_i n;cases h
  simp only [callVA];unfold cloA;split
  .exact(n _ rfl).elim
  .exact hk
 .exact nos h
theorem QaI(hL:LvOk P L)(op:AOp)(hd:Low d)(hok:okAO l ⟨d,none,op⟩=true)(h:opE op L dr d t=some t')(hk:K t'.den):wpO (gam P L dr l) dr d t.den K op:=by
 have pu:∀{x:Option AV} {Q:(AV->Prop)->Prop},pu d t x=some t'->(∀a,x=some a->K (t.den.put d a)->Q (λr=>K (t.den.put d r)))->Q (λr=>K (t.den.put d r)):=by
  intro x Q h hq;obtain⟨a,h1,rfl⟩:=WaP h;rw [T.put_den _ hd]at hk;exact hq a h1 hk
 unfold okAO at hok;simp only [Bool.and_eq_true]at hok;obtain⟨_,hok⟩:=hok;cases op with
 | mv x=>
  cases (show some (t.put d (t.ev x))=some t' from h)
  rw [T.put_den _ hd,T.ev_den]at hk;exact hk
 | pick c x y=>
  obtain⟨b,h1,h2⟩:=Qa (show obind (lbE (t.ev c)) (λb=>some (t.put d (sel b (t.ev x) (t.ev y))))=some t' from h);cases h2
  have:=qao h1;rw [T.ev_den]at this;rw [T.put_den _ hd,T.ev_den,T.ev_den]at hk;simp only [wpO,this,asBool];cases b
  .exact⟨λe=>Bool.noConfusion e,λ_=>hk⟩
  .exact⟨λ_=>hk,λe=>Bool.noConfusion e⟩
 | alloc zs=>exact Um hd h hk
 | box n x=>
  obtain⟨cs,h1,h2⟩:=Qa (show obind (cellsE (t.ev x)) _=some t' from h);obtain⟨h3,h4⟩:=Za h2;rw [T.ev_den]at h1;exact wz (Kc:=λcs=>cs.length=n/\newA K t.den ⟨[cs],n,true⟩ (λd ver=>.one (.ptr d ver 0 0)) d) h1 ⟨beq_eq h3,Um hd h4 hk⟩
 | build sg=>
  obtain⟨cs,h1,h2⟩:=Qa (show obind (segsE t sg) (λcs=>some (t.put d (.agg cs)))=some t' from h);cases h2
  rw [T.put_den _ hd]at hk;exact yy h1 hk
 | row z l=>
  obtain⟨es,h1,h2⟩:=Qa (show obind (rowsE t z l) _=some t' from h);obtain⟨es',h3,h4⟩:=Qa h2;obtain⟨h5,h6⟩:=Za (show guardE (!dr || (ownEs es).isEmpty) _=some t' from h4)
  cases h6
  rw [T.put_den _ hd]at hk;refine ky h1 ⟨λhdr=>?_,?_⟩
  .subst hdr;rw [<-QM];simpa using h5
  .rw [<-QM];have e3:(T.mk t.v t.x (frzH (ownEs es) t.h) t.n).den=t.den.setH (frz (ownEs es) t.den.h):=by
    show S.mk (farV (t.v::t.x)) (hget (frzH (ownEs es) t.h))=_;rw [uK];rfl
   rw [e3,<-zac h3]at hk;exact hk
 | rowo z l=>
  obtain⟨h0,h⟩:=Za (show guardE (!dr) (xRowd d t z l)=some t' from h);obtain⟨es,h1,h2⟩:=Qa (show obind (rowsE t z l) _=some t' from h);exact⟨by simpa using h0,ky h1 (Um hd h2 hk)⟩
 | ld b n g a=>
  obtain⟨h0,h⟩:=Za (show guardE (baseE b (t.ev a)) _=some t' from h);rw [T.ev_den]at h0 h;exact⟨UY h0,pu (Q:=λKv=>ldA Kv n g t.den.h (t.den.ev a)) h λr h1 hk=>Jaa h1 hk⟩
 | st b n a x=>
  obtain⟨h0,h⟩:=Za (show guardE (baseE b (t.ev a)) _=some t' from h);rw [T.ev_den]at h0 h;rw [T.ev_den]at h;obtain⟨t1,h1,rfl⟩:=kat h;rw [T.put_den _ hd]at hk;exact⟨UY h0,Qa4 h1 λh' e=>by rw [e]at hk;exact hk⟩
 | nilck x=>exact pu (x:=nilckE (t.ev x)) (Q:=λKv=>nilckA Kv (t.den.ev x)) h λr h1 hk=>by rw [T.ev_den]at h1;exact uaw h1 hk
 | bin o x y=>exact pu (x:=binE o (t.ev x) (t.ev y)) (Q:=λKv=>binA Kv o (t.den.ev x) (t.den.ev y)) h λr h1 hk=>by rw [T.ev_den,T.ev_den]at h1;exact YaT h1 hk
 | binb o x y=>exact pu (x:=binbE o (t.ev x) (t.ev y)) (Q:=λKv=>binbA Kv o (t.den.ev x) (t.den.ev y)) h λr h1 hk=>by rw [T.ev_den,T.ev_den]at h1;exact uaF h1 hk
 | binn o x y=>exact pu (x:=binnE o (isConst y) (t.ev x) (t.ev y)) (Q:=λKv=>binnA Kv o (isConst y) (t.den.ev x) (t.den.ev y)) h λr h1 hk=>by rw [T.ev_den,T.ev_den]at h1;exact waH h1 hk
 | un o x=>exact pu (x:=unE o (t.ev x)) (Q:=λKv=>unA Kv o (t.den.ev x)) h λr h1 hk=>by rw [T.ev_den]at h1;exact za1 h1 hk
 | conv k x=>exact pu (x:=convE k (t.ev x)) (Q:=λKv=>convA Kv k (t.den.ev x)) h λr h1 hk=>by rw [T.ev_den]at h1;exact uaH h1 hk
 | iface ty x=>exact pu (x:=ifaceE ty (t.ev x)) (Q:=λKv=>ifaceA Kv ty (t.den.ev x)) h λr h1 hk=>by rw [T.ev_den]at h1;exact qap h1 hk
 | clo f l=>
  obtain⟨cs,h1,h2⟩:=Qa (show obind (capE t l) (λcs=>some (t.put d (.one (.clo f cs))))=some t' from h);cases h2
  rw [T.put_den _ hd]at hk;exact yaA h1 hk
 | mk z zs a c=>
  obtain⟨i,h1,h2⟩:=Qa (show obind (liE (t.ev a)) _=some t' from h);obtain⟨j,h3,h4⟩:=Qa h2;obtain⟨h5,h6⟩:=Za (show guardE (ile 0 i && ile i j && ile j roomA && Nat.beq zs.length z) _=some t' from h4);simp only [Bool.and_eq_true]at h5;rw [T.ev_den]at h1 h3;refine Yam h1 λ_=>?_;refine Yam h3 λ_=>?_;exact⟨⟨Jh h5.1.1.1,Jh h5.1.1.2,Jh h5.1.2,beq_eq h5.2⟩,Um hd h6 hk⟩
 | sl z x lo hi=>exact pu (x:=sliceE z t lo hi (t.ev x)) (Q:=λKv=>slA Kv z t.den.ev lo hi (t.den.ev x)) h λr h1 hk=>by rw [T.ev_den]at h1;exact vP h1 hk
 | sl0 x=>
  obtain⟨es,h1,h2⟩:=Qa (show obind (elemsE t (t.ev x)) (λ_=>some (t.put d (.one .emp)))=some t' from h);cases h2
  rw [T.put_den _ hd]at hk;rw [T.ev_den]at h1;exact jE (Ke:=λ_=>K (t.den.put d (.one .emp))) h1 hk
 | fa off x=>exact pu (x:=faE off (t.ev x)) (Q:=λKv=>faA Kv off (t.den.ev x)) h λr h1 hk=>by rw [T.ev_den]at h1;exact zaJ h1 hk
 | fld n g off x=>exact pu (x:=fldE n g off (t.ev x)) (Q:=λKv=>fldA Kv n g off (t.den.ev x)) h λr h1 hk=>by rw [T.ev_den]at h1;exact qav h1 hk
 | idx z x i=>exact pu (x:=idxE z (t.ev i) (t.ev x)) (Q:=λKv=>idxA Kv z (t.den.ev i) (t.den.ev x)) h λr h1 hk=>by rw [T.ev_den,T.ev_den]at h1;exact UaU h1 hk
 | ext i x=>exact pu (x:=extE i (t.ev x)) (Q:=λKv=>extA Kv i (t.den.ev x)) h λr h1 hk=>by rw [T.ev_den]at h1;exact qaR h1 hk
 | tass ty zero x=>exact pu (x:=tassE ty zero (t.ev x)) (Q:=λKv=>tassA Kv ty zero (t.den.ev x)) h λr h1 hk=>by rw [T.ev_den]at h1;exact YaG h1 hk
 | len x=>exact pu (x:=lenE (t.ev x)) (Q:=λKv=>lenA Kv dr (t.den.ev x)) h λr h1 hk=>by rw [T.ev_den]at h1;exact QaX h1 hk
 | app z x y=>
  have h:appE z d t (t.ev x) (t.ev y)=some t':=h;rw [T.ev_den,T.ev_den]at h;exact ZU hd h hk
 | app0 z x y=>
  obtain⟨u,h1,h2⟩:=Qa (show obind (empE (t.ev x)) _=some t' from h);rw [T.ev_den]at h1 h2;have:=jV h1;simp only [wpO,this,isEmp];exact ZU hd h2 hk
 | appb b z x y=>
  obtain⟨h0,h⟩:=Za (show guardE (appIsE b d (t.ev x) (t.ev y)) (appE z d t (t.ev x) (t.ev y))=some t' from h);rw [T.ev_den,T.ev_den]at h0 h;exact⟨Vax h0,ZU hd h hk⟩
 | copy z x y=>
  obtain⟨h0,h⟩:=Za (show guardE (!dr) (pt d (clrE z t (t.ev x) (t.ev y)))=some t' from h);rw [T.ev_den,T.ev_den]at h;obtain⟨t1,h1,rfl⟩:=kat h;rw [T.put_den _ hd]at hk;exact⟨by simpa using h0,zaT h1 λh' e=>by rw [e]at hk;exact hk⟩
 | cpy z x y=>
  obtain⟨h0,h⟩:=Za (show guardE (!dr) _=some t' from h);obtain⟨ys,h1,h2⟩:=Qa h;obtain⟨h3,h4⟩:=Za h2;obtain⟨t1,h5,h6⟩:=Qa h4;cases h6
  rw [T.put_den _ hd]at hk;rw [T.ev_den]at h1 h5;refine⟨by simpa using h0,?_⟩
  refine jE (Ke:=λys=>(∀e∈ys,e.length=z)/\cpyK (λh=>K ((t.den.setH h).put d (.one (.lit (.int .i64 (ys.length:Nat)))))) z t.den.h ys (t.den.ev x)) h1 ?_;exact⟨Jo h3,ZaS h5 λh' e=>by rw [e]at hk;exact hk⟩
 | max l=>exact pu (x:=mmE mx t l) (Q:=λKv=>maxA mx t.den.ev Kv l) h λr h1 hk=>QaL h1 hk
 | min l=>exact pu (x:=mmE mn t l) (Q:=λKv=>maxA mn t.den.ev Kv l) h λr h1 hk=>QaL h1 hk
 | call f l=>
  simp only [Bool.and_eq_true,Bool.not_eq_true']at hok;have h:callE L dr d t f (l.map t.ev)=some t':=h;rw [T.evs_den]at h;exact Wad hL hd hok.1.1 hok.1.2 hok.2 h hk
 | callv f as=>
  simp only [Bool.and_eq_true]at hok;obtain⟨p,h1,h2⟩:=Qa (show obind (whoE (t.ev f) (as.map t.ev)) _=some t' from h);obtain⟨h3,h2⟩:=Za h2;have nin:∀{xs:List Nat},xs.all spF=true->xs.contains p.1=false:=λ{xs} hx=>by
   cases hc:xs.contains p.1 with
   | false=>rfl
   | true=>
    have hm:p.1∈xs:=by simpa using hc
    rw [List.all_eq_true.1 hx _ hm]at h3;exact Bool.noConfusion h3
  rw [T.evs_den,T.ev_den]at h1;exact qaW (Kc:=λf args=>callS K dr d args t.den (gam P L dr l f)) h1 (Wad hL hd (nin hok.1.1) (nin hok.1.2) (nin hok.2) h2 hk)
 | callf f l=>
  simp only [Bool.and_eq_true,Bool.not_eq_true']at hok;have h:freshE L dr d t f (l.map t.ev)=some t':=h;rw [T.evs_den]at h;exact kam hL hd hok.1 hok.2 h hk
 | snil neg x=>exact pu (x:=snilE neg (t.ev x)) (Q:=λKv=>snilA Kv neg (t.den.ev x)) h λr h1 hk=>by rw [T.ev_den]at h1;exact VaD h1 hk
 | cap x=>
  obtain⟨u,h1,h2⟩:=Qa (show obind (empE (t.ev x)) _=some t' from h);cases h2
  rw [T.ev_den]at h1;have:=jV h1;rw [T.put_den _ hd]at hk;simp only [wpO,this,capZ,intR];exact hk
 | appz z zs x n=>
  obtain⟨u,h1,h2⟩:=Qa (show obind (empE (t.ev x)) _=some t' from h);obtain⟨i,h3,h4⟩:=Qa h2;obtain⟨h5,h6⟩:=Za h4;simp only [Bool.and_eq_true]at h5;rw [T.ev_den]at h1 h3;have:=jV h1;simp only [wpO,this,isEmp];refine Yam h3 λ_=>?_;exact⟨⟨Jh h5.1.1,Jh h5.1.2,beq_eq h5.2⟩,Um hd h6 hk⟩
 | sop k l=>exact pu (x:=sopE k (l.map t.ev)) (Q:=λKv=>sopA Kv k (l.map t.den.ev)) h λr h1 hk=>by rw [T.evs_den]at h1;exact YaS h1 hk
 | ai z n x i=>
  obtain⟨j,h1,h2⟩:=Qa (show obind (atE n (t.ev i)) (λj=>Abs.pu d t (faE (j*z) (t.ev x)))=some t' from h);rw [T.ev_den]at h1 h2;refine JaK (Kj:=λj=>faA (λr=>K (t.den.put d r)) (j*z) (t.den.ev x)) h1 ?_;exact pu (Q:=λKv=>faA Kv (j*z) (t.den.ev x)) h2 λr h1 hk=>zaJ h1 hk
 | aix z g n x i=>
  obtain⟨j,h1,h2⟩:=Qa (show obind (atE n (t.ev i)) (λj=>Abs.pu d t (fldE z g (j*z) (t.ev x)))=some t' from h);rw [T.ev_den]at h1 h2;refine JaK (Kj:=λj=>fldA (λr=>K (t.den.put d r)) z g (j*z) (t.den.ev x)) h1 ?_;exact pu (Q:=λKv=>fldA Kv z g (j*z) (t.den.ev x)) h2 λr h1 hk=>qav h1 hk
 | rsl z n x=>exact pu (x:=rslE z n (t.ev x)) (Q:=λKv=>rslA Kv z n (t.den.ev x)) h λr h1 hk=>by rw [T.ev_den]at h1;exact jaA h1 hk
 | callr f l=>
  exact pu (x:=lookE L t f (l.map t.ev)) (Q:=λKv=>callR Kv (l.map t.den.ev) t.den.h (gam P L dr _ f)) h λr h1 hk=>by rw [T.evs_den]at h1;exact qaG hL hok h1 hk
 | rsb z n x lo hi=>
  obtain⟨r,h1,h2⟩:=Qa (show obind (rslE z n (t.ev x)) (λr=>Abs.pu d t (sliceE z t lo hi r))=some t' from h);rw [T.ev_den]at h1;refine jaA (K:=λr=>slA (λr=>K (t.den.put d r)) z t.den.ev lo hi r) h1 ?_;exact pu (Q:=λKv=>slA Kv z t.den.ev lo hi r) h2 λr h1 hk=>vP h1 hk
 | bad=>exact nos h
 | rowf z x=>exact nos h
 | calli f l=>
  simp only [Bool.and_eq_true,Bool.not_eq_true']at hok;obtain⟨p,h1,h2⟩:=Qa (show obind (L.inl f (l.map t.ev) t) (λp=>some (p.2.put d p.1))=some t' from h);cases h2
  rw [T.evs_den]at h1;rw [T.put_den _ hd]at hk;have hent:=hL.eni f _ _ _ h1;simp only [wpO];unfold gam;rw [if_pos hent,hok.1.1,if_neg Bool.false_ne_true,hok.1.2,if_neg Bool.false_ne_true,if_pos hok.2];exact⟨t,p.1,p.2,rfl,h1,hk⟩
 | rowd z l=>
  obtain⟨es,h1,h2⟩:=Qa (show obind (rowsE t z l) _=some t' from h);exact ky h1 (Um hd h2 hk)
theorem UaH{w b:Bool}{x:AV}(h:wantE w x=some b):(x=.tup []/\b=false)∨∃c,x=.one (.lit (.bool c))/\b=(c == w):=by
 unfold wantE at h;split at h
 .cases h;exact .inr ⟨_,rfl,rfl⟩
 .cases h;exact .inl ⟨rfl,rfl⟩
 .exact nos h
theorem Wa7{o:AO}(hok:okAO l o=true):Low o.d:=by
 intro k hk;unfold okAO at hok;rw [hk]at hok;simp only [Bool.and_eq_true]at hok;exact Vb hok.1
theorem uaZ(hL:LvOk P L){o:AO}(hok:okAO l o=true)(h:aoE o L dr t=some t')(hk:K t'.den):wpG (gam P L dr l) dr t.den K o:=by
 have hd:=Wa7 hok;obtain⟨d,g,op⟩:=o;cases g with
 | none=>exact QaI hL op hd hok h hk
 | some gw=>
  obtain⟨g,want⟩:=gw;obtain⟨b,h1,h2⟩:=Qa (show obind (wantE want (t.get g)) (λb=>sel b (opE op L dr d t) (some (t.put d (.tup []))))=some t' from h);rw [T.get_den]at h1;simp only [wpG];rcases UaH h1 with⟨e,rfl⟩ | ⟨c,e,rfl⟩
  .rw [e];cases h2
   rw [T.put_den _ hd]at hk;exact hk
  .rw [e];simp only [grd];refine⟨λec=>?_,λec=>?_⟩
   .subst ec;have e1:(c == c)=true:=by cases c <;> rfl
    rw [e1,Xa8]at h2;rw [zu e];exact QaI hL op hd hok h2 hk
   .have e1:(c == want)=false:=by subst ec;cases want <;> rfl
    rw [e1,Ua8]at h2;cases h2
    rw [T.put_den _ hd]at hk;rw [<-ec,zu e];exact hk
theorem yE(hL:LvOk P L):∀(l' : List AO) {t t' : T},(∀o∈l',okAO l o=true)->aosE L dr l' t=some t'->K t'.den->wpL (gam P L dr l) dr K l' t.den
 | [],t,t',hok,h,hk=>by cases h;exact hk
 | o::l',t,t',hok,h,hk=>by
  obtain⟨t1,h1,h2⟩:=Qa (show obind (aoE o L dr t) (aosE L dr l')=some t' from h);exact uaZ hL (hok o (List.mem_cons_self ..)) h1 (yE hL l' (λo ho=>hok o (List.mem_cons_of_mem _ ho)) h2 hk)
end
end Go.Abs
end
section
namespace Go.Abs
variable {Γ:Nat->Spec} {body:AC} {Q:Ex->S->Prop} {s:S}
def kpH(k:List (Nat×HB))(bs:List Nat):List (Nat×HB):=bs.map λr=>(r,mkH k r)
theorem Ya6(k:List (Nat×HB))(r:Nat)(bs:List Nat):kpH k (r::bs)=(r,mkH k r)::kpH k bs:=rfl
theorem ya6(k:List (Nat×HB)):kpH k []=[]:=rfl
theorem YaF{c:C}{l:List C}:CleanL (c::l)=(Clean c/\CleanL l):=propext ⟨λh=>⟨h c (by simp),λx hx=>h x (by simp [hx])⟩,λh x hx=>by
 rcases List.mem_cons.1 hx with rfl | hx
 .exact h.1
 .exact h.2 x hx⟩
theorem UaB:CleanL []=True:=eq_true λc hc=>by simp at hc
theorem VaE{e:List C}{l:List (List C)}:CleanR (e::l)=(CleanL e/\CleanR l):=propext ⟨λh=>⟨h e (by simp),λx hx=>h x (by simp [hx])⟩,λh x hx=>by
 rcases List.mem_cons.1 hx with rfl | hx
 .exact h.1
 .exact h.2 x hx⟩
theorem jaG:CleanR []=True:=eq_true λc hc=>by simp at hc
def cleanK:List (Nat×HB)->Prop
 | []=>True
 | x::r=>(match x.2.blk with | none=>True | some b=>CleanR b.es)/\cleanK r
theorem WC.trans{ρ σ:Nat->Nat}{h h1 h2:Nat->HB}{c1 c2:C}(y:WC σ h1 h2 c1 c2):∀{c:C},WC ρ h h1 c c1->WC (λr=>ρ (σ r)) h h2 c c2:=by
 induction y with
 | any c=>exact λ_=>.any _
 | lit v=>intro c x;cases x;exact .lit v
 | slice es=>
  intro c x;cases x with
  | slice=>exact .slice es
  | es=>exact .es
  | fs=>exact .fs es
 | full es=>intro c x;cases x;exact .full es
 | emp=>intro c x;cases x;exact .emp
 | es=>intro c x;cases x;exact .es
 | fs es=>intro c x;cases x;exact .fs es
 | ref cs=>intro c x;cases x;exact .ref cs
 | own r z off len hne=>intro c x;cases x;exact .own (ρ:=λr=>ρ (σ r)) r z off len hne
 | ptr r i off hne=>intro c x;cases x;exact .ptr (ρ:=λr=>ρ (σ r)) r i off hne
 | clo f l l' hm hl _ ih=>
  intro c x;cases x with
  | clo _ l0 _ hm0 hl0 h0=>
   refine .clo f l0 l' (λe=>hm (hm0 e)) (hl0.trans hl) λi c c' hc hc'=>?_;have hlt:i<l.length:=by rw [<-hl0];exact(List.getElem?_eq_some_iff.1 hc).1
   exact ih i _ c' (List.getElem?_eq_getElem hlt) hc' (h0 i c _ hc (List.getElem?_eq_getElem hlt))
theorem Weak.trans{s s1 s2:S}(x:Weak s s1)(y:Weak s1 s2):Weak s s2:=by
 obtain⟨ρ,x⟩:=x;obtain⟨σ,y⟩:=y;refine⟨λr=>ρ (σ r),λt=>?_,λr=>?_,λr r' e=>y.inj _ _ (x.inj _ _ e),λr hr=>?_⟩
 .have h1:=x.v t;have h2:=y.v t;generalize s.v t=a at h1;generalize s1.v t=a1 at h1 h2;generalize s2.v t=a2 at h2;cases h2 with
  | any=>exact .any _
  | one c c' hc=>cases h1 with | one c0 _ hc0=>exact .one _ _ (hc.trans hc0)
  | agg l l' hl hc=>
   cases h1 with
   | agg l0 _ hl0 hc0=>
    refine .agg _ _ (hl0.trans hl) λi c c' h1 h2=>?_;have hlt:i<l.length:=by rw [<-hl0];exact(List.getElem?_eq_some_iff.1 h1).1
    exact(hc i _ c' (List.getElem?_eq_getElem hlt) h2).trans (hc0 i c _ h1 (List.getElem?_eq_getElem hlt))
 .rcases y.h r with e | ⟨b,b',g1,g2,g3,g4,g5,g6⟩
  .exact .inl e
  .rcases x.h (σ r) with e | ⟨a,a',k1,k2,k3,k4,k5,k6⟩
   .rw [e]at g1;simp at g1
   .rw [g1]at k2;simp only [Option.some.injEq]at k2;subst k2;refine .inr ⟨a,b',k1,g2,g3.trans k3,g4.trans k4,k5.trans g5,λi e e' h1 h2=>?_⟩;have hlt:i<b.es.length:=by rw [<-k5];exact(List.getElem?_eq_some_iff.1 h1).1
    obtain⟨p1,p2⟩:=k6 i e _ h1 (List.getElem?_eq_getElem hlt);obtain⟨q1,q2⟩:=g6 i _ e' (List.getElem?_eq_getElem hlt) h2;refine⟨p1.trans q1,λj c c' m1 m2=>?_⟩;have hlt2:j<(b.es[i]).length:=by rw [<-p1];exact(List.getElem?_eq_some_iff.1 m1).1
    exact(q2 j _ c' (List.getElem?_eq_getElem hlt2) m2).trans (p2 j c _ m1 (List.getElem?_eq_getElem hlt2))
 .show ρ (σ r)=r;rw [y.pin r hr,x.pin r hr]
def sw(a b r:Nat):Nat:=if r=a then b else if r=b then a else r
def swC(a b:Nat):C->C
 | .own r ver z off len=>.own (sw a b r) ver z off len
 | .ptr r ver i off=>.ptr (sw a b r) ver i off
 | .clo _ _=>.any
 | c=>c
def swA(a b:Nat):AV->AV
 | .one c=>.one (swC a b c)
 | .agg l=>.agg (l.map (swC a b))
 | _=>.any
def swB(a b:Nat)(x:HB):HB:=⟨x.ver,x.blk.map λy=>⟨y.es.map λe=>e.map (swC a b),y.z,y.live⟩⟩
def swL(a b:Nat)(l:List (Nat×AV)):List (Nat×AV):=l.map λx=>(x.1,swA a b x.2)
def swK(a b:Nat)(k:List (Nat×HB)):List (Nat×HB):=k.map λx=>(sw a b x.1,swB a b x.2)
theorem JaL(v:Value):nrmC (.lit v)=.lit v:=eq_of_heq (HEq.refl _)
theorem zaO(es:List (List C)):nrmC (.slice es)=.slice es:=eq_of_heq (HEq.refl _)
theorem jaJ:nrmC .emp=.slice []:=eq_of_heq (HEq.refl _)
theorem WaO(e:List C)(l:List (List C)):nrmR (e::l)=e.map nrmC::nrmR l:=eq_of_heq (HEq.refl _)
theorem xaJ:nrmR []=[]:=eq_of_heq (HEq.refl _)
attribute [go_sem,go_sem ↓] JaL zaO jaJ WaO xaJ
attribute [go_sem] Ya6 ya6 okS okV okC cleanK YaF UaB VaE jaG uB VA
attribute [go_sem ↓] Ya6 ya6
theorem qa9(a b t:Nat)(v:AV)(l:List (Nat×AV)):swL a b ((t,v)::l)=(t,swA a b v)::swL a b l:=eq_of_heq (HEq.refl _)
theorem Wbb(a b:Nat):swL a b []=[]:=eq_of_heq (HEq.refl _)
theorem zba(a b r:Nat)(v:HB)(k:List (Nat×HB)):swK a b ((r,v)::k)=(sw a b r,swB a b v)::swK a b k:=eq_of_heq (HEq.refl _)
theorem Ya8(a b:Nat):swK a b []=[]:=eq_of_heq (HEq.refl _)
theorem Qbb(a b r:Nat):sw a b r=if r=a then b else if r=b then a else r:=eq_of_heq (HEq.refl _)
theorem ya8(a b:Nat)(c:C):swA a b (.one c)=.one (swC a b c):=eq_of_heq (HEq.refl _)
theorem wa9(a b:Nat)(l:List C):swA a b (.agg l)=.agg (l.map (swC a b)):=eq_of_heq (HEq.refl _)
theorem wbc(a b:Nat):swA a b .any=.any:=eq_of_heq (HEq.refl _)
theorem ybc(a b r ver z off len:Nat):swC a b (.own r ver z off len)=.own (sw a b r) ver z off len:=eq_of_heq (HEq.refl _)
theorem kbc(a b r ver i off:Nat):swC a b (.ptr r ver i off)=.ptr (sw a b r) ver i off:=eq_of_heq (HEq.refl _)
theorem jbb(a b:Nat)(v:Value):swC a b (.lit v)=.lit v:=eq_of_heq (HEq.refl _)
theorem qbc(a b:Nat)(es:List (List C)):swC a b (.slice es)=.slice es:=eq_of_heq (HEq.refl _)
theorem wbb(a b:Nat)(es:List (List C)):swC a b (.full es)=.full es:=eq_of_heq (HEq.refl _)
theorem ya9(a b:Nat):swC a b .emp=.emp:=eq_of_heq (HEq.refl _)
theorem zbc(a b:Nat)(cs:List C):swC a b (.ref cs)=.ref cs:=eq_of_heq (HEq.refl _)
theorem xa8(a b:Nat):swC a b .any=.any:=eq_of_heq (HEq.refl _)
def swR(a b:Nat)(es:List (List C)):List (List C):=es.map λe=>e.map (swC a b)
theorem Wa8(a b:Nat)(e:List C)(es:List (List C)):swR a b (e::es)=e.map (swC a b)::swR a b es:=eq_of_heq (HEq.refl _)
theorem Za9(a b:Nat):swR a b []=[]:=eq_of_heq (HEq.refl _)
theorem Uba(a b ver z:Nat)(es:List (List C))(live:Bool):swB a b ⟨ver,some ⟨es,z,live⟩⟩=⟨ver,some ⟨swR a b es,z,live⟩⟩:=eq_of_heq (HEq.refl _)
theorem Qba(a b ver:Nat):swB a b ⟨ver,none⟩=⟨ver,none⟩:=eq_of_heq (HEq.refl _)
theorem Uaq(r ver z off len:Nat):Clean (.own r ver z off len)=False:=eq_false λh=>by cases h
theorem vax(r ver i off:Nat):Clean (.ptr r ver i off)=False:=eq_false λh=>by cases h
attribute [go_sem] qa9 Wbb zba Ya8 Qbb ya8 wa9 wbc ybc kbc jbb qbc wbb ya9 zbc xa8 Wa8 Za9 Uba Qba Uaq vax
end Go.Abs
end
section
namespace Go.Abs
variable {P:Program} {Γ:Nat->Spec}
end Go.Abs
end
section
namespace Go.Abs
variable {P:Program} {E:Env} {s:S} {a:Act} {w:World} {m m' : M} {I:Nat->Prop} {π π' : Nat->Nat}
mutual
def rn(π:Nat->Nat):C->C
 | .own r ver z off len=>.own (π r) ver z off len
 | .ptr r ver i off=>.ptr (π r) ver i off
 | .clo f caps=>.clo f (rnL π caps)
 | .lit v=>.lit v
 | .slice es=>.slice es
 | .full es=>.full es
 | .emp=>.emp
 | .ref cs=>.ref cs
 | .any=>.any
def rnL(π:Nat->Nat):List C->List C
 | []=>[]
 | c::l=>rn π c::rnL π l
end
theorem zw:∀(l:List C),rnL π l=l.map (rn π)
 | []=>by simp only [rnL,List.map_nil]
 | c::l=>by simp only [rnL,List.map_cons,zw l]
theorem wZ{c:C}(h:Clean c):rn π c=c:=by
 induction h with
 | clo f cs _ ih=>
  simp only [rn,zw];congr 1;rw [List.map_congr_left (λc hc=>ih c hc),List.map_id']
 | _=>simp only [rn]
theorem RC.rn{H:Array Obj}(hv:∀r,m'.ver (π r)=m.ver r)(hb:∀r,m'.blk (π r)=m.blk r){c:C}{v:Value}(h:RC m I H c v):RC m' I H (Abs.rn π c) v:=by
 induction h with
 | lit v hv=>simp only [Abs.rn];exact .lit v hv
 | any v hv=>simp only [Abs.rn];exact .any v hv
 | snil a cap=>simp only [Abs.rn];exact .snil a cap
 | slice es sz b off cap arr ty fz vs h0 h1 h1' h2 h3 h4 h5 _ ih=>
  simp only [Abs.rn];refine .slice es sz b off cap arr ty fz vs h0 h1 h1' h2 h3 h4 h5 (λi j e c he hc=>?_);have:=ih i j e c he hc
  rwa [wZ (h0 e (List.mem_of_getElem? he) c (List.mem_of_getElem? hc))]at this
 | full es a _ ih=>simp only [Abs.rn]at ih ⊢;exact .full es a ih
 | emp a=>simp only [Abs.rn];exact .emp a
 | own r ver z off len cap a h1 h2 h3 h4 h5 h6=>
  simp only [Abs.rn];exact .own (π r) ver z off len cap a (by rw [hv];exact h1) h2 (λe b z' hb'=>h3 (by rw [e,hv]) b z' (by rw [<-hb];exact hb')) (λe hb'=>h4 (by rw [e,hv]) (by rw [<-hb];exact hb')) h5 h6
 | ptr r ver i off a h1 h2=>
  simp only [Abs.rn];exact .ptr (π r) ver i off a (by rw [hv];exact h1) (λe b z hb'=>h2 (by rw [e,hv]) b z (by rw [<-hb];exact hb'))
 | ref cs b off arr ty fz vs h0 h1 h2 h3 _ ih=>
  simp only [Abs.rn];refine .ref cs b off arr ty fz vs h0 h1 h2 h3 (λj c hc=>?_);have:=ih j c hc
  rwa [wZ (h0 c (List.mem_of_getElem? hc))]at this
 | clo f caps cv h1 _ ih=>
  simp only [Abs.rn,zw];refine .clo f _ cv (by simpa using h1) (λi c v hc hv'=>?_)
  simp only [List.getElem?_map,Option.map_eq_some_iff]at hc;obtain⟨c0,hc0,rfl⟩:=hc;exact ih i c0 v hc0 hv'
 | bnd f caps cv h1 _ ih=>
  simp only [Abs.rn,rnL,zw];refine .bnd f _ cv (by simpa using h1) (λi c v hc hv'=>?_)
  simp only [List.getElem?_map,Option.map_eq_some_iff]at hc;obtain⟨c0,hc0,rfl⟩:=hc;exact ih i c0 v hc0 hv'
mutual
def rnA(π:Nat->Nat):AV->AV
 | .one c=>.one (rn π c)
 | .agg cs=>.agg (cs.map (rn π))
 | .tup l=>.tup (rnAL π l)
 | .any=>.any
def rnAL(π:Nat->Nat):List AV->List AV
 | []=>[]
 | x::l=>rnA π x::rnAL π l
end
theorem Yac:∀(l:List AV),rnAL π l=l.map (rnA π)
 | []=>by simp only [rnAL,List.map_nil]
 | c::l=>by simp only [rnAL,List.map_cons,Yac l]
theorem RA.rn{H:Array Obj}(hv:∀r,m'.ver (π r)=m.ver r)(hb:∀r,m'.blk (π r)=m.blk r){x:AV}{v:Value}(h:RA m I H x v):RA m' I H (rnA π x) v:=by
 induction h with
 | any v=>simp only [rnA];exact .any v
 | one c v h=>simp only [rnA];exact .one _ _ (h.rn hv hb)
 | agg cs vs h=>
  simp only [rnA];refine .agg _ vs ⟨by simpa using h.1,λi c v hc hv'=>?_⟩
  simp only [List.getElem?_map,Option.map_eq_some_iff]at hc;obtain⟨c0,hc0,rfl⟩:=hc;exact(h.2 i c0 v hc0 hv').rn hv hb
 | tup l vs h1 _ ih=>
  simp only [rnA,Yac];refine .tup _ vs (by simpa using h1) (λi x v hx hv'=>?_)
  simp only [List.getElem?_map,Option.map_eq_some_iff]at hx;obtain⟨x0,hx0,rfl⟩:=hx;exact ih i x0 v hx0 hv'
def rnR(π:Nat->Nat)(es:List (List C)):List (List C):=es.map λe=>e.map (rn π)
def rnB(π:Nat->Nat)(b:Blk):Blk:=⟨rnR π b.es,b.z,b.live⟩
def rnH(π π' : Nat->Nat)(h:Nat->HB):Nat->HB:=λr=>⟨(h (π' r)).ver,(h (π' r)).blk.map (rnB π)⟩
def rnS(π π' : Nat->Nat)(s:S):S:=⟨λt=>rnA π (s.v t),rnH π π' s.h⟩
structure Bij (π π' : Nat->Nat):Prop where
 l:∀r,π' (π r)=r
 r:∀r,π (π' r)=r
 fix:∀r,pinA<=r->π r=r
theorem Bij.fix'(b:Bij π π'){r:Nat}(h:pinA<=r):π' r=r:=by
 have:=b.l r
 rwa [b.fix r h]at this
theorem Sim.rn(b:Bij π π')(h:Sim E s a w m I):Sim E (rnS π π' s) a w ⟨λr=>m.ver (π' r),λr=>m.blk (π' r)⟩ I:=by
  have hv:∀r,(M.mk (λr=>m.ver (π' r)) (λr=>m.blk (π' r))).ver (π r)=m.ver r:=λr=>by simp only [b.l]
  have hb:∀r,(M.mk (λr=>m.ver (π' r)) (λr=>m.blk (π' r))).blk (π r)=m.blk r:=λr=>by simp only [b.l]
  have inv:∀{r:Nat} {x:Blk},(rnH π π' s.h r).blk=some x->∃y,(s.h (π' r)).blk=some y/\x=rnB π y:=by
    intro r x hx;simp only [rnH,Option.map_eq_some_iff]at hx;obtain⟨y,h1,h2⟩:=hx;exact⟨y,h1,h2.symm⟩
  refine⟨h.dfr,h.siz,λt=>(h.slot t).rn hv hb,{ h.heap with
    ver:=λr=>h.heap.ver (π' r),blk:=λr x hx=>?_,inj:=λr r' k z z' h1 h2=>?_,lt:=λr k z hm=>h.heap.lt (π' r) k z hm,liv:=λr x k z hx hm=>?_,fx:=λr x hp hx=>?_ }⟩
  . obtain⟨y,hy,rfl⟩:=inv hx
    have hrb:=h.heap.blk _ y hy;refine⟨λe he=>?_,λhm=>?_,λk z hm=>?_⟩
    . simp only [rnB,rnR,List.mem_map]at he
      obtain⟨e0,he0,rfl⟩:=he;rw [List.length_map];exact hrb.sz e0 he0
    . have:=hrb.virt hm
      simp only [rnB,rnR,this,List.map_nil]
    . obtain⟨g1,g2,g3,arr,ty,g4,g5⟩:=hrb.real k z hm
      refine⟨g1,g2,g3,arr,ty,g4,λi j e c he hc=>?_⟩;simp only [rnB,rnR,List.getElem?_map,Option.map_eq_some_iff]at he;obtain⟨e0,he0,rfl⟩:=he;simp only [List.getElem?_map,Option.map_eq_some_iff]at hc;obtain⟨c0,hc0,rfl⟩:=hc;obtain⟨v,q1,q2⟩:=g5 i j e0 c0 he0 hc0;exact⟨v,q1,q2.rn hv hb⟩
  . have:=h.heap.inj _ _ k z z' h1 h2
    rw [<-b.r r,<-b.r r',this]
  . obtain⟨y,hy,rfl⟩:=inv hx
    exact h.heap.liv _ y k z hy hm
  . obtain⟨y,hy,rfl⟩:=inv hx
    rw [b.fix' hp]at hy;have:=h.heap.fx r y hp hy;simp only [b.fix' hp];exact this
end Go.Abs
end
section
namespace Go.Abs
variable {P:Program} {E:Env} {s:S} {a:Act} {w:World} {m m' : M} {I:Nat->Prop} {π π' ρ σ:Nat->Nat}
mutual
theorem vaF(h:∀r,ρ (σ r)=π r):∀c,rn ρ (rn σ c)=rn π c
 | .own r ver z off len=>by simp only [rn,h]
 | .ptr r ver i off=>by simp only [rn,h]
 | .clo f caps=>by simp only [rn];rw [kaK h caps]
 | .lit v=>by simp only [rn]
 | .slice es=>by simp only [rn]
 | .full es=>by simp only [rn]
 | .emp=>by simp only [rn]
 | .ref cs=>by simp only [rn]
 | .any=>by simp only [rn]
theorem kaK(h:∀r,ρ (σ r)=π r):∀l,rnL ρ (rnL σ l)=rnL π l
 | []=>by simp only [rnL]
 | c::l=>by simp only [rnL];rw [vaF h c,kaK h l]
end
mutual
theorem XaI(h:∀r,ρ (σ r)=π r):∀x,rnA ρ (rnA σ x)=rnA π x
 | .one c=>by simp only [rnA,vaF h]
 | .agg cs=>by
  simp only [rnA,List.map_map];congr 1;exact List.map_congr_left λc _=>vaF h c
 | .tup l=>by simp only [rnA];rw [Jal h l]
 | .any=>by simp only [rnA]
theorem Jal(h:∀r,ρ (σ r)=π r):∀l,rnAL ρ (rnAL σ l)=rnAL π l
 | []=>by simp only [rnAL]
 | c::l=>by simp only [rnAL];rw [XaI h c,Jal h l]
end
theorem ka4(h:∀r,ρ (σ r)=π r)(b:Blk):rnB ρ (rnB σ b)=rnB π b:=by
 simp only [rnB,rnR,List.map_map];congr 1;refine List.map_congr_left λe _=>?_;simp only [Function.comp,List.map_map];exact List.map_congr_left λc _=>vaF h c
def Sp(E:Env)(s:S)(a:Act)(w:World):Prop:=∃π π' m I,Bij π π'/\Sim E (rnS π π' s) a w m I
theorem Sp.to(b:Bij π π')(h:Sp E s a w):∃m I,Sim E (rnS π π' s) a w m I:=by
 obtain⟨σ,σ',m,I,c,h⟩:=h;have b2:Bij (λr=>π (σ' r)) (λr=>σ (π' r)):=⟨λr=>by simp only [b.l,c.r],λr=>by simp only [c.l,b.r],λr hr=>by simp only [c.fix' hr,b.fix r hr]⟩
 have h2:=h.rn b2;have e:rnS (λr=>π (σ' r)) (λr=>σ (π' r)) (rnS σ σ' s)=rnS π π' s:=by
  have hh:∀r,(λr=>π (σ' r)) (σ r)=π r:=λr=>by simp only [c.l]
  refine S.ext' ?_ ?_
  .funext t
   exact XaI (ρ:=λr=>π (σ' r)) (σ:=σ) (π:=π) hh _
  .funext r
   simp only [rnS,rnH,c.l,Option.map_map];congr 1;congr 1
   funext x
   exact ka4 (ρ:=λr=>π (σ' r)) (σ:=σ) (π:=π) hh x
 rw [e]at h2;exact⟨_,_,h2⟩
def GW(P:Program)(N:Nat)(c:Code)(s:S)(Q:Ex->S->Prop):Prop:=
 ∀(E:Env) (a:Act) (w:World) (R:Exit->Act->World->Prop),E.N=N->Sp E s a w->(∀e s' a' w',Q e s'->Sp E s' a' w'->R (exOf e) a' w')->c.wp P R a w
theorem Wa4{N:Nat}{x y:Code}{s:S}{Q:Ex->S->Prop}(h:GW P N x s (Ex.seq (λs'=>GW P N y s' Q) Q)):GW P N (.seq x y) s Q:=by
 intro E a w R hN hs hR;refine wp_seq (h E a w _ hN hs λe s' a' w' hq hs'=>?_);cases e with
 | nrm=>exact hq E a' w' R hN hs' hR
 | exit i=>exact hR (.exit i) s' a' w' hq hs'
 | ret=>exact hR .ret s' a' w' hq hs'
theorem uaD{N id:Nat}{x:Code}{s:S}{Q:Ex->S->Prop}(h:GW P N x s (Ex.blk id Q)):GW P N (.block id x) s Q:=by
 intro E a w R hN hs hR;refine wp_block (h E a w _ hN hs λe s' a' w' hq hs'=>?_);cases e with
 | nrm=>exact hR .nrm s' a' w' hq hs'
 | ret=>exact hR .ret s' a' w' hq hs'
 | exit i=>
  simp only [Ex.blk]at hq;simp only [exOf,Exit.inBlock];split
  .rename_i e;rw [if_pos e]at hq;exact hR .nrm s' a' w' hq hs'
  .rename_i e;rw [if_neg e]at hq;exact hR (.exit i) s' a' w' hq hs'
theorem WaQ{N:Nat}{s:S}{Q:Ex->S->Prop}(h:Q .nrm s):GW P N .skip s Q:=λE a w R hN hs hR=>wp_skip (hR .nrm s a w h hs)
theorem kaE{N l:Nat}{s:S}{Q:Ex->S->Prop}(h:Q .nrm s):GW P N (.label l) s Q:=λE a w R hN hs hR=>wp_label (hR .nrm s a w h hs)
theorem Xa6{N:Nat}{s:S}{Q:Ex->S->Prop}(h:Q .ret s):GW P N .ret s Q:=λE a w R hN hs hR=>wp_ret (hR .ret s a w h hs)
theorem uaS{N id:Nat}{s:S}{Q:Ex->S->Prop}(h:Q (.exit id) s):GW P N (.exit id) s Q:=λE a w R hN hs hR=>wp_exit (hR (.exit id) s a w h hs)
theorem wa7{x:Opd}{v:Value}(h:s.ev x=.one (.lit v)):(rnS π π' s).ev x=.one (.lit v):=by
 cases x with
 | t n=>
  have h:s.v n=.one (.lit v):=h;show rnA π (s.v n)=_;rw [h];simp only [rnA,rn]
 | c a=>exact h
theorem JaQ{N:Nat}{c0:Operand}{c1:Opd}{x y:Code}{s:S}{Q:Ex->S->Prop}{t:Bool}(hc:cOpd c0=some c1)(he:s.ev c1=.one (.lit (.bool t)))
  (h1:t=true->GW P N x s Q) (h2:t=false->GW P N y s Q):GW P N (.cond c0 x y) s Q:=by
 intro E a w R hN hs hR;have hs0:=hs;obtain⟨π,π',m,I,b,h⟩:=hs0;have hv:=h.ev hc;rw [wa7 he]at hv;exact wp_cond_split hv.lit_inv.1 (λe=>h1 e E a w R hN hs hR) (λe=>h2 e E a w R hN hs hR)
def GWn(P:Program)(N:Nat)(x:Code)(Q:Ex->S->Prop):Nat->S->Prop
 | 0,_=>False
 | n+1,s=>GW P N x s (Ex.seq (GWn P N x Q n) Q)
theorem qaS{N:Nat}{x:Code}{Q:Ex->S->Prop}(n:Nat){s:S}(h:GWn P N x Q n s):GW P N (.loop x) s Q:=by
 intro E a w R hN hs hR;refine wp_loop_rounds n ?_
 induction n generalizing s a w with
 | zero=>exact h.elim
 | succ n ih=>
  refine h E a w _ hN hs λe s' a' w' hq hs'=>?_;cases e with
  | nrm=>exact ih hq a' w' hs'
  | exit i=>exact hR (.exit i) s' a' w' hq hs'
  | ret=>exact hR .ret s' a' w' hq hs'
end Go.Abs
end
section
namespace Go.Abs
variable {P:Program} {E:Env} {s:S} {a:Act} {w:World} {m m' : M} {I:Nat->Prop} {π π' : Nat->Nat}
def inV(args:List AV)(u:Nat->AV):Nat->AV:=λt=>if t<pinA then mkV (argL 0 args) t else u (t-pinA)
theorem Za4(args:List AV)(u:Nat->AV)(t:Nat):rnA π (inV args u t)=inV (args.map (rnA π)) (λt=>rnA π (u t)) t:=by
 unfold inV;split
 .rw [Ur,Ur,if_pos (Nat.zero_le _),if_pos (Nat.zero_le _),List.getElem?_map];cases args[t-0]? with
  | none=>simp only [Option.map_none,Option.getD_none,rnA]
  | some x=>simp only [Option.map_some,Option.getD_some]
 .rfl
theorem HR.env{E' : Env}{h:Nat->HB}(hr:HR E m I w h)(h0:E'.w0=E.w0)(h1:E'.I0=E.I0)(h2:E'.Ow=E.Ow)(h3:E'.F=E.F)(hn:E'.N<=pinA):HR E' m I w h:=by
 cases E;cases E'
 simp only at h0 h1 h2 h3;subst h0 h1 h2 h3;exact⟨hr.ver,hr.blk,hr.inj,hr.lt,hr.imb,hr.grow,hr.keep,hr.imm,hr.sup,hr.i0,hr.liv,hn,hr.fx,hr.os,hr.tape,hr.out⟩
theorem isound{f:FuncId}{fn:Func}{c:Code}{n:Nat}{rv:List RV}{G:Option Nat->List AV->S->(AV->S->Prop)->Prop}(hf:P.funcs[f]?=some fn)(hb:fn.body=some c)(hn:fn.ntmps=n)(hrv:cRes P fn=some rv)(hpin:n<=pinA)
  (hG:∀d args s K,G d args s K->∃(args0:List AV) (s0:S) (π π' : Nat->Nat),Bij π π'/\s=rnS π π' s0/\args=args0.map (rnA π)/\args0.length<=n/\
   GW P n c ⟨inV args0 s0.v,s0.h⟩ λe s'=>(∀i,e≠.exit i)/\rawK (rnS π π' s') rv λl=>K (resOf l) ⟨λt=>(rnS π π' s').v (t+pinA),(rnS π π' s').h⟩):ISound P f G:=by
 intro E args vals s a w m I d K h hargs hg;obtain⟨args0,s0,π,π',b,rfl,rfl,hlen,hgw⟩:=hG d args s K hg;refine calls_of_wp hf hb ?_;have hlv:args0.length=vals.length:=by simpa using hargs.1
 have hE:Sim ⟨E.w0,E.I0,E.Ow,n,E.F,λt=>E.val a (t-pinA)⟩ (rnS π π' ⟨inV args0 s0.v,s0.h⟩) { tmps:=(⟨vals⟩:Array Value)++Array.replicate (fn.ntmps-(⟨vals⟩:Array Value).size) undef,defers:=[] } w m I:=by
  refine⟨rfl,?_,λt=>?_,h.heap.env rfl rfl rfl rfl hpin⟩
  .show Array.size _=n;have hl2:vals.length<=n:=by rw [<-hlv];exact hlen
   rw [Array.size_append,Array.size_replicate,hn];show vals.length+(n-vals.length)=n;exact Nat.add_sub_cancel' hl2
  .show RA m I w.heap (rnA π (inV args0 s0.v t)) _;rw [Za4];by_cases ht:t<pinA
   .rw [inV,if_pos ht,Env.val,if_pos ht];have q:=xh (n:=fn.ntmps-(⟨vals⟩:Array Value).size) hargs t;show RA m I w.heap (mkV (argL 0 (args0.map (rnA π))) t) (((⟨vals⟩:Array Value)++Array.replicate (fn.ntmps-(⟨vals⟩:Array Value).size) undef).getD t undef);exact q
   .rw [inV,if_neg ht,Env.val,if_neg ht];have q:=h.slot (t-pinA);dsimp only [rnS]at q ⊢;generalize t-pinA=k at q ⊢;exact q
 refine hgw ⟨E.w0,E.I0,E.Ow,n,E.F,λt=>E.val a (t-pinA)⟩ _ w _ rfl ⟨π,π',m,I,b,hE⟩ (λe s' a' w' ⟨hne,hk⟩ hs'=>?_);obtain⟨m',I',hs⟩:=hs'.to b;have fin:a'.defers=[]/\∃v,(results fn a'.tmps).run P w' = .ok v w'/\∃v' r s' m' I',Ending.returned v=.returned v'/\K r s'/\RA m' I' w'.heap r v'/\Sim E s' a w' m' I':=by
  obtain⟨xs,vs,hres,hra,hk⟩:=Qd hs hrv hk;refine⟨hs.dfr,_,hres,_,_,_,m',I',rfl,hk,kF hra,h.dfr,h.siz,λt=>?_,hs.heap.env rfl rfl rfl rfl h.heap.np⟩;have:=hs.slot (t+pinA);rw [Env.val,if_neg (by omega)]at this
  simpa using this
 cases e with
 | nrm=>exact fin
 | ret=>exact fin
 | exit i=>exact(hne i rfl).elim
end Go.Abs
end
section
namespace Go.Abs
variable {P:Program} {π π' : Nat->Nat}
mutual
theorem VaY:∀c,rn (λr=>r) c=c
 | .own r ver z off len=>by simp only [rn]
 | .ptr r ver i off=>by simp only [rn]
 | .clo f caps=>by simp only [rn];rw [YaK caps]
 | .lit v=>by simp only [rn]
 | .slice es=>by simp only [rn]
 | .full es=>by simp only [rn]
 | .emp=>by simp only [rn]
 | .ref cs=>by simp only [rn]
 | .any=>by simp only [rn]
theorem YaK:∀l,rnL (λr=>r) l=l
 | []=>by simp only [rnL]
 | c::l=>by simp only [rnL];rw [VaY c,YaK l]
end
theorem xP(l:List C):l.map (rn (λr=>r))=l:=by
 rw [List.map_congr_left (λc _=>VaY c),List.map_id']
mutual
theorem Qan:∀x,rnA (λr=>r) x=x
 | .one c=>by simp only [rnA,VaY]
 | .agg cs=>by simp only [rnA,xP]
 | .tup l=>by simp only [rnA];rw [xau l]
 | .any=>by simp only [rnA]
theorem xau:∀l,rnAL (λr=>r) l=l
 | []=>by simp only [rnAL]
 | x::l=>by simp only [rnAL];rw [Qan x,xau l]
end
theorem qa0(b:Blk):rnB (λr=>r) b=b:=by
 obtain⟨es,z,l⟩:=b;simp only [rnB,rnR];congr 1;rw [List.map_congr_left (λe _=>xP e),List.map_id']
theorem uN(s:S):rnS (λr=>r) (λr=>r) s=s:=by
 refine S.ext' ?_ ?_
 .funext t
  exact Qan _
 .funext r
  show HB.mk _ ((s.h r).blk.map (rnB λr=>r))=s.h r;rw [show(rnB λr=>r)=id from funext qa0,Option.map_id];rfl
theorem Bij.id:Bij (λr=>r) (λr=>r):=⟨λ_=>rfl,λ_=>rfl,λ_ _=>rfl⟩
variable {E:Env} {s:S} {a:Act} {w:World}
theorem Zy{m:M}{I:Nat->Prop}(h:Sim E s a w m I):Sp E s a w:=⟨λr=>r,λr=>r,m,I,Bij.id,by rw [uN];exact h⟩
theorem Sp.sim(h:Sp E s a w):∃m I,Sim E s a w m I:=by
 obtain⟨m,I,h⟩:=h.to Bij.id;rw [uN]at h;exact⟨m,I,h⟩
theorem ka2{N:Nat}{c:Code}{Q:Ex->S->Prop}(b:Bij π π')(h:GW P N c (rnS π π' s) Q):GW P N c s Q:=by
 intro E a w R hN hs hR;obtain⟨m,I,h1⟩:=hs.to b;exact h E a w R hN (Zy h1) hR
theorem Vbb{Γ:Nat->Spec}(hΓ:Holds P Γ){N:Nat}{c:Code}{ac:AC}(hc:compile P N c=some ac.strip){Q:Ex->S->Prop}(hk:wpA Γ ac Q s):GW P N c s Q:=by
 intro E a w R hN hs hR;obtain⟨m,I,hs⟩:=hs.sim;exact ZL hΓ ac c (by rw [hN];exact hc) hs hk (λe s' a' w' m' I' hq h'=>hR e s' a' w' hq (Zy h'))
mutual
theorem WaK(π:Nat->Nat):∀c,rnC π c=rn π c
 | .own r ver z off len=>by simp only [rnC,rn]
 | .ptr r ver i off=>by simp only [rnC,rn]
 | .clo f caps=>by simp only [rnC,rn];rw [UK π caps]
 | .lit v=>by simp only [rnC,rn]
 | .slice es=>by simp only [rnC,rn]
 | .full es=>by simp only [rnC,rn]
 | .emp=>by simp only [rnC,rn]
 | .ref cs=>by simp only [rnC,rn]
 | .any=>by simp only [rnC,rn]
theorem UK(π:Nat->Nat):∀l,rnCs π l=rnL π l
 | []=>by simp only [rnCs,rnL]
 | c::l=>by simp only [rnCs,rnL];rw [WaK π c,UK π l]
end
mutual
theorem U9(π:Nat->Nat):∀x,rnV π x=rnA π x
 | .one c=>by simp only [rnV,rnA,WaK]
 | .agg cs=>by simp only [rnV,rnA,UK,zw]
 | .tup l=>by simp only [rnV,rnA];rw [wao π l]
 | .any=>by simp only [rnV,rnA]
theorem wao(π:Nat->Nat):∀l,rnVs π l=rnAL π l
 | []=>by simp only [rnVs,rnAL]
 | x::l=>by simp only [rnVs,rnAL];rw [U9 π x,wao π l]
end
theorem VW(π:Nat->Nat):∀(v:Tr) (k:Nat),(rnT π v).get k=rnA π (v.get k)
 | .e,k=>by simp only [rnT];show AV.any=rnA π .any;simp only [rnA]
 | .l a,k=>by simp only [rnT];exact U9 π a
 | .n x y,k=>by
  simp only [rnT];show sel (Nat.beq (Nat.mod k 2) 0) ((rnT π x).get (Nat.div k 2)) ((rnT π y).get (Nat.div k 2))=rnA π (sel (Nat.beq (Nat.mod k 2) 0) (x.get (Nat.div k 2)) (y.get (Nat.div k 2)));cases Nat.beq (Nat.mod k 2) 0
  .exact VW π y _
  .exact VW π x _
theorem Zaz(π:Nat->Nat):∀(l:List Tr) (k:Nat),farV (l.map (rnT π)) k=rnA π (farV l k)
 | [],k=>by show AV.any=rnA π .any;simp only [rnA]
 | v::l,k=>by
  rw [List.map_cons,Je,Je];split
  .exact VW π v k
  .split
   .exact Zaz π l _
   .simp only [rnA]
theorem xaA(b:Bij π π'):∀(h:List (Nat×HB)) (r:Nat),hget (rnK π h) r=⟨(hget h (π' r)).ver,(hget h (π' r)).blk.map (rnB π)⟩
 | [],r=>rfl
 | (k,⟨v,x⟩)::h,r=>by
  simp only [rnK];rw [kd,kd];simp only;by_cases e:r=π k
  .rw [if_pos e,if_pos (by rw [e,b.l])]
   simp only;congr 1;congr 1
   funext y
   simp only [rnB,rnR];congr 1;refine List.map_congr_left λe _=>?_;rw [UK,zw]
  .rw [if_neg e,if_neg (λe2=>e (by rw [<-e2,b.r])),xaA b h r]
theorem Qav(a b r:Nat):swN a b r=if r=a then b else if r=b then a else r:=by
 unfold swN;rw [Yj,Yj];by_cases e:r=a
 .rw [if_pos (by rw [e];exact Nat.beq_refl _),if_pos e]
 .rw [if_neg (λx=>e (beq_eq x)),if_neg e];by_cases e2:r=b
  .rw [if_pos (by rw [e2];exact Nat.beq_refl _),if_pos e2]
  .rw [if_neg (λx=>e2 (beq_eq x)),if_neg e2]
theorem xax(a b r:Nat):swN a b (swN a b r)=r:=by
 rw [Qav,Qav];split <;> split <;> (try split) <;> omega
theorem Vx:∀(l:List (Nat×Nat)),(∀p∈l,p.1<pinA/\p.2<pinA)->Bij (swp l) (swq l)
 | [],_=>Bij.id
 | p::l,h=>by
  have ih:=Vx l λq hq=>h q (List.mem_cons_of_mem _ hq);have hp:=h p (List.mem_cons_self ..);refine⟨λr=>?_,λr=>?_,λr hr=>?_⟩
  .show swN p.1 p.2 (swq l (swp l (swN p.1 p.2 r)))=r;rw [ih.l,xax]
  .show swp l (swN p.1 p.2 (swN p.1 p.2 (swq l r)))=r;rw [xax,ih.r]
  .show swp l (swN p.1 p.2 r)=r;rw [Qav,if_neg (by omega),if_neg (by omega)]
   exact ih.fix r hr
theorem yr(h:List (Nat×HB)):∀(l:List Nat) (n:Nat),∀p∈swaps h l n,p.1<pinA/\p.2<pinA
 | [],n,p,hp=>by simp [swaps]at hp
 | d::l,n,p,hp=>by
  simp only [swaps]at hp;split at hp
  .rw [Yj]at hp;split at hp
   .rename_i hb;simp only [Bool.and_eq_true]at hb;rcases List.mem_cons.1 hp with rfl | hp
    .exact⟨Vb hb.1,Vb hb.2⟩
    .exact yr h l _ p hp
   .simp at hp
  .exact yr h l _ p hp
theorem vaI{α:Type}:∀(l:List (Nat×Nat)) (k:List (Nat×Nat)->α),fPs l k=k l
 | [],k=>rfl
 | (a,b)::l,k=>by simp only [fPs,zr,vaI l]
theorem T.move_cons(t:T)(p:Nat×Nat)(l:List (Nat×Nat)):t.move (p::l)=⟨rnT (swp (p::l)) t.v,t.x.map (rnT (swp (p::l))),rnK (swp (p::l)) t.h,t.n+(p::l).length⟩:=by
 simp only [T.move];rw [vaI]
theorem T.move_den(t:T){l:List (Nat×Nat)}(h:∀p∈l,p.1<pinA/\p.2<pinA):(t.move l).den=rnS (swp l) (swq l) t.den:=by
 have b:=Vx l h;cases l with
 | nil=>exact(uN t.den).symm
 | cons p l=>
  rw [T.move_cons];refine S.ext' ?_ ?_
  .funext k
   have:=Zaz (swp (p::l)) (t.v::t.x) k;exact this
  .funext r
   exact xaA b t.h r
def okAC:AC->Bool
 | .ops _ l=>l.all (okAO l)
 | .seq a b=>okAC a && okAC b
 | .cond _ a b=>okAC a && okAC b
 | .block _ a=>okAC a
 | .loop a=>okAC a
 | _=>true
theorem Wy{L:Lv}(hL:LvOk P L){N:Nat}:∀(n:Nat),
  (∀(ac:AC) (c:Code) (t:T) (e:Ex) (t' : T) (Q:Ex->S->Prop),compile P N c=some ac->okAC ac=true->codeE L n ac t=some (e,t')->Q e t'.den->GW P N c t.den Q)/\
  (∀(a:AC) (x:Code) (t:T) (e:Ex) (t' : T) (Q:Ex->S->Prop),compile P N x=some a->okAC a=true->codeE L n (.loop a) t=some (e,t')->Q e t'.den->GWn P N x Q n t.den):=by
 intro n
 induction n with
 | zero=>exact⟨λac c t e t' Q hc hok h hq=>nos h,λa x t e t' Q hc hok h hq=>nos h⟩
 | succ n ih=>
  obtain⟨ih1,ih2⟩:=ih;have seq:∀{x:Code} {a:AC} {t:T} {g:T->Option (Ex×T)} {p:Ex×T} {Q R:Ex->S->Prop},compile P N x=some a->okAC a=true->obind (codeE L n a t) (seqK g)=some p->Q p.1 p.2.den->
    (∀t1,g t1=some p->R .nrm t1.den)->(∀i,R (.exit i)=Q (.exit i))->R .ret=Q .ret->GW P N x t.den R:=by
   intro x a t g p Q R hc hok h hq h1 h2 h3;obtain⟨⟨e1,t1⟩,g1,g2⟩:=Qa h;refine ih1 a x t e1 t1 R hc hok g1 ?_;cases e1 with
   | nrm=>exact h1 t1 g2
   | exit i=>
    cases (show some ((Ex.exit i,t1):Ex×T)=some p from g2)
    rw [h2];exact hq
   | ret=>
    cases (show some ((Ex.ret,t1):Ex×T)=some p from g2)
    rw [h3];exact hq
  have loop:∀(a:AC) (x:Code) (t:T) (e:Ex) (t' : T) (Q:Ex->S->Prop),compile P N x=some a->okAC a=true->codeE L (n+1) (.loop a) t=some (e,t')->Q e t'.den->GWn P N x Q (n+1) t.den:=by
   intro a x t e t' Q hc hok h hq;show GW P N x t.den (Ex.seq (GWn P N x Q n) Q);exact seq (Q:=Q) hc hok (show obind (codeE L n a t) (seqK (codeE L n (.loop a)))=some (e,t') from h) hq (λt1 h1=>ih2 a x t1 e t' Q hc hok h1 hq) (λ_=>rfl) rfl
  refine⟨λac c t e t' Q hc hok h hq=>?_,loop⟩;cases c with
  | skip=>
   simp only [compile,Option.some.injEq]at hc;subst hc;cases (show some ((Ex.nrm,t):Ex×T)=some (e,t') from h)
   exact WaQ hq
  | label l=>
   simp only [compile,Option.some.injEq]at hc;subst hc;cases (show some ((Ex.nrm,t):Ex×T)=some (e,t') from h)
   exact kaE hq
  | ret=>
   simp only [compile,Option.some.injEq]at hc;subst hc;cases (show some ((Ex.ret,t):Ex×T)=some (e,t') from h)
   exact Xa6 hq
  | exit id=>
   simp only [compile,Option.some.injEq]at hc;subst hc;cases (show some ((Ex.exit id,t):Ex×T)=some (e,t') from h)
   exact uaS hq
  | region id ops dr=>
   have hc0:=hc;simp only [compile,Option.bind_eq_bind,Option.bind_eq_some_iff]at hc;obtain⟨l0,hl0,hc⟩:=hc;have:∃l,ac=.ops dr l:=by
    repeat (split at hc <;> first | (simp at hc;done) | (simp only [Option.pure_def,Option.some.injEq]at hc;exact⟨_,hc.symm⟩) | skip)
   obtain⟨l,rfl⟩:=this;simp only [okAC,List.all_eq_true]at hok;obtain⟨t1,h1,h2⟩:=Qh (show omap (λt=>((Ex.nrm,t):Ex×T)) (aosE L dr l (prep t l))=some (e,t') from h);cases h2
   have hsw:=yr t.h (mades l) t.n;refine ka2 (Vx _ hsw) ?_;rw [<-T.move_den t hsw];refine Vbb (Yu hL dr l) (ac:=.ops dr l) hc0 ?_;exact yE hL l hok h1 hq
  | seq x y=>
   simp only [compile,Option.bind_eq_bind,Option.bind_eq_some_iff,Option.pure_def,Option.some.injEq]at hc;obtain⟨a,ha,b,hb,rfl⟩:=hc;simp only [okAC,Bool.and_eq_true]at hok;refine Wa4 ?_;exact seq (Q:=Q) ha hok.1 (show obind (codeE L n a t) (seqK (codeE L n b))=some (e,t') from h) hq (λt1 h1=>ih1 b y t1 e t' Q hb hok.2 h1 hq) (λ_=>rfl) rfl
  | cond c0 x y=>
   simp only [compile,Option.bind_eq_bind,Option.bind_eq_some_iff,Option.pure_def,Option.some.injEq]at hc;obtain⟨c1,hc1,a,ha,b,hb,rfl⟩:=hc;simp only [okAC,Bool.and_eq_true]at hok;obtain⟨v,h1,h2⟩:=Qa (show obind (lbE (t.ev c1)) (λw=>sel w (codeE L n a t) (codeE L n b t))=some (e,t') from h);have:=qao h1;rw [T.ev_den]at this;refine JaQ hc1 this (λev=>?_) (λev=>?_)
   .subst ev;exact ih1 a x t e t' Q ha hok.1 h2 hq
   .subst ev;exact ih1 b y t e t' Q hb hok.2 h2 hq
  | block id x=>
   simp only [compile,Option.map_eq_some_iff]at hc;obtain⟨a,ha,rfl⟩:=hc;obtain⟨⟨e1,t1⟩,h1,h2⟩:=Qa (show obind (codeE L n a t) (blkK id)=some (e,t') from h);refine uaD (ih1 a x t e1 t1 _ ha hok h1 ?_);cases e1 with
   | nrm=>
    cases (show some ((Ex.nrm,t1):Ex×T)=some (e,t') from h2)
    exact hq
   | ret=>
    cases (show some ((Ex.ret,t1):Ex×T)=some (e,t') from h2)
    exact hq
   | exit i=>
    have h2:sel (Nat.beq i id) (some ((Ex.nrm,t1):Ex×T)) (some (.exit i,t1))=some (e,t'):=h2;simp only [Ex.blk];rw [Yj]at h2;split at h2
    .rename_i hb;cases h2
     rw [if_pos (beq_eq hb)];exact hq
    .rename_i hb;cases h2
     rw [if_neg (λe=>hb (by rw [e];exact Nat.beq_refl _))]
     exact hq
  | loop x=>
   simp only [compile,Option.map_eq_some_iff]at hc;obtain⟨a,ha,rfl⟩:=hc;exact qaS (n+1) (loop a x t e t' Q ha hok h hq)
  | _=>simp [compile]at hc
end Go.Abs
end
section
namespace Go.Abs
variable {P:Program} {E:Env} {m:M} {I I' : Nat->Prop} {w:World} {h:Nat->HB}
def Froz(m:M)(I' : Nat->Prop)(h:Nat->HB)(kl:List (Nat×HB)):Prop:=
 ∀r v b,hget kl r=⟨v,some b⟩->h r=⟨v,some b⟩/\∀k z,m.blk r=some (k,z)->I' k
theorem YaW(hr:HR E m I w h)(x:Ext m I w.heap m I' w.heap){kl:List (Nat×HB)}(hf:Froz m I' h kl):∀(n:Nat),
  (∀(c c' : C) (v:Value),deepC kl n c=some c'->RC m I w.heap c v->RC m I' w.heap c' v/\Clean c')/\
  (∀(l l' : List C),deepL kl n l=some l'->l'.length=l.length/\∀(i:Nat) c c',l[i]?=some c->l'[i]?=some c'->∀v,RC m I w.heap c v->RC m I' w.heap c' v/\Clean c')/\
  (∀(es es' : List (List C)),deepR kl n es=some es'->es'.length=es.length/\∀(i:Nat) e e',es[i]?=some e->es'[i]?=some e'->e'.length=e.length/\∀(j:Nat) c c',e[j]?=some c->e'[j]?=some c'->∀v,RC m I w.heap c v->RC m I' w.heap c' v/\Clean c'):=by
 intro n
 induction n with
 | zero=>exact⟨λc c' v h=>nos (by simpa only [deepC] using h),λl l' h=>nos (by simpa only [deepL] using h),λl l' h=>nos (by simpa only [deepR] using h)⟩
 | succ n ih=>
  obtain⟨ihC,ihL,ihR⟩:=ih;refine⟨λc c' v hd hc=>?_,λl l' hd=>?_,λes es' hd=>?_⟩
  .have hc':=hc.ext x;cases c with
   | lit u=>simp only [deepC,Option.some.injEq]at hd;subst hd;exact⟨hc',.lit _⟩
   | any=>simp only [deepC,Option.some.injEq]at hd;subst hd;exact⟨hc',.any⟩
   | slice es=>
    simp only [deepC,Option.some.injEq]at hd;subst hd;refine⟨hc',?_⟩;cases hc with
    | snil=>exact .slice _ (λe he=>by simp at he)
    | slice _ _ _ _ _ _ _ _ _ h0=>exact .slice _ h0
   | ref cs=>
    simp only [deepC,Option.some.injEq]at hd;subst hd;refine⟨hc',?_⟩;cases hc with
    | ref _ _ _ _ _ _ _ h0=>exact .ref _ h0
   | emp=>
    simp only [deepC,Option.some.injEq]at hd;subst hd;cases hc
    exact⟨.snil _ _,.slice _ (λe he=>by simp at he)⟩
   | full es=>
    simp only [deepC,Option.some.injEq]at hd;subst hd;cases hc' with
    | full _ a hin=>
     refine⟨hin,?_⟩;cases hin with
     | snil=>exact .slice _ (λe he=>by simp at he)
     | slice _ _ _ _ _ _ _ _ _ h0=>exact .slice _ h0
   | clo f cs=>
    simp only [deepC,Option.map_eq_some_iff]at hd;obtain⟨cs',hd,rfl⟩:=hd;obtain⟨h1,h2⟩:=ihL cs cs' hd;cases hc with
    | clo _ _ cv hlen hcells=>
     have each:∀(i:Nat) c' u,cs'[i]?=some c'->cv[i]?=some u->RC m I' w.heap c' u/\Clean c':=by
      intro i c' u hi hu;have hlt:i<cs.length:=by rw [<-h1];exact(List.getElem?_eq_some_iff.1 hi).1
      exact h2 i _ c' (List.getElem?_eq_getElem hlt) hi u (hcells i _ u (List.getElem?_eq_getElem hlt) hu)
     refine⟨.clo f cs' cv (by omega) (λi c' u hi hu=>(each i c' u hi hu).1),.clo f cs' λc' hc'=>?_⟩
     obtain⟨i,hi⟩:=List.getElem?_of_mem hc';have hlt:i<cv.length:=by rw [hlen,<-h1];exact(List.getElem?_eq_some_iff.1 hi).1
     exact(each i c' _ hi (List.getElem?_eq_getElem hlt)).2
    | bnd _ cs cv hlen hcells=>
     match cs',h1,h2,hd with
     | [],h1,_,_=>simp at h1
     | c0::cs',h1,h2,hd=>
      have e0:c0=.lit (.agg ⟨[]⟩):=by
       cases n with
       | zero=>simp [deepL]at hd
       | succ n=>
        simp only [deepL]at hd;split at hd
        .rename_i c1 hc1;simp only [Option.map_eq_some_iff,List.cons.injEq]at hd;obtain⟨_,_,rfl,_⟩:=hd;cases n with
         | zero=>simp [deepC]at hc1
         | succ n=>simp only [deepC,Option.some.injEq]at hc1;exact hc1.symm
        .exact nos hd
      subst e0;have hl:cs'.length=cs.length:=by simpa using h1
      have each:∀(i:Nat) c' u,cs'[i]?=some c'->cv[i]?=some u->RC m I' w.heap c' u/\Clean c':=by
       intro i c' u hi hu;have hlt:i<cs.length:=by rw [<-hl];exact(List.getElem?_eq_some_iff.1 hi).1
       exact h2 (i+1) (cs[i]) c' (by simp [hlt]) (by simpa using hi) u (hcells i _ u (List.getElem?_eq_getElem hlt) hu)
      refine⟨.bnd f cs' cv (by omega) (λi c' u hi hu=>(each i c' u hi hu).1),.clo f _ λc' hc'=>?_⟩
      rcases List.mem_cons.1 hc' with rfl | hc'
      .exact .lit _
      .obtain⟨i,hi⟩:=List.getElem?_of_mem hc';have hlt:i<cv.length:=by rw [hlen,<-hl];exact(List.getElem?_eq_some_iff.1 hi).1
       exact(each i c' _ hi (List.getElem?_eq_getElem hlt)).2
   | own r ver z off len=>
    simp only [deepC]at hd;split at hd
    rotate_left
    .exact nos hd
    rename_i v0 b e;cases hb:(Nat.beq v0 ver && Nat.ble (off+len) b.es.length) with
    | false=>rw [hb]at hd;exact nos hd
    | true=>
     rw [hb]at hd;simp only [cond_true,Option.map_eq_some_iff]at hd;simp only [Bool.and_eq_true]at hb;obtain⟨hv,hle⟩:=hb;have hv:=beq_eq hv;have hle:=Vb hle;subst hv;obtain⟨es',hd,rfl⟩:=hd;obtain⟨r1,r2⟩:=ihR _ es' hd;obtain⟨g0,hI⟩:=hf r v0 b e;obtain⟨A,cap,rfl,g1,g2,g3,g4,g5,g6⟩:=xm hc;have hlen:((b.es.drop off).take len).length=len:=by simp;omega
     have hl' : es'.length=len:=by rw [r1,hlen]
     have hcur:v0=m.ver r:=by rw [hr.ver,g0]
     by_cases hl0:len=0
     .have:es' = []:=List.length_eq_zero_iff.1 (by omega)
      subst this;subst hl0;exact⟨.snil _ _,.slice _ (λe he=>by simp at he)⟩
     .have hrb:=hr.blk r b (by rw [g0])
      cases hm:m.blk r with
      | none=>have:=hrb.virt hm;rw [this]at hle;simp at hle;omega
      | some kz=>
       obtain⟨k,z1⟩:=kz;obtain⟨hz1,_,_,arr,ty,hh,hcell⟩:=hrb.real k z1 hm;obtain⟨hz2,hcap | ⟨hA,hbs⟩⟩:=g3 hcur k z1 hm
       .omega
       .subst hA;have hI:=hI k z1 hm;have hzz:z=b.z:=by omega
        subst hzz;have hch:∀i j,i<len->j<b.z->∃u,arr[off*b.z+i*b.z+j]?=some u:=by
         intro i j hi hj;have he:b.es[off+i]?=some (b.es[off+i]'(by omega)):=List.getElem?_eq_getElem (by omega)
         have hj' : j<(b.es[off+i]'(by omega)).length:=by rw [hrb.sz _ (List.mem_of_getElem? he)];exact hj
         obtain⟨u,q1,_⟩:=hcell _ j _ _ he (List.getElem?_eq_getElem hj');exact⟨u,by rw [<-Nat.add_mul,<-hz2];exact q1⟩
        have row:∀(i:Nat) e',es'[i]?=some e'->∃e,((b.es.drop off).take len)[i]?=some e/\b.es[off+i]?=some e/\e.length=b.z/\e'.length=b.z/\∀(j:Nat) c c',e[j]?=some c->e'[j]?=some c'->∀v,RC m I w.heap c v->RC m I' w.heap c' v/\Clean c':=by
         intro i e' hi;have hlt:i<((b.es.drop off).take len).length:=by rw [<-r1];exact(List.getElem?_eq_some_iff.1 hi).1
         have he:=List.getElem?_eq_getElem hlt;obtain⟨q1,q2⟩:=r2 i _ e' he hi;obtain⟨_,he'⟩:=jz he;have hz:=hrb.sz _ (List.mem_of_getElem? he');exact⟨_,he,he',hz,by rw [q1];exact hz,q2⟩
        have cell:∀(i j:Nat) e' c',es'[i]?=some e'->e'[j]?=some c'->∃u,arr[off*b.z+i*b.z+j]?=some u/\RC m I' w.heap c' u/\Clean c':=by
         intro i j e' c' hi hj;obtain⟨e,q1,q2,q3,q4,q5⟩:=row i e' hi;have hjl:j<e.length:=by rw [q3,<-q4];exact(List.getElem?_eq_some_iff.1 hj).1
         obtain⟨u,p1,p2⟩:=hcell _ j _ _ q2 (List.getElem?_eq_getElem hjl);rw [hz2,Nat.add_mul]at p1;exact⟨u,p1,q5 j _ c' (List.getElem?_eq_getElem hjl) hj u p2⟩
        have hclean:CleanR es':=by
         intro e' he' c' hc';obtain⟨i,hi⟩:=List.getElem?_of_mem he';obtain⟨j,hj⟩:=List.getElem?_of_mem hc';exact(cell i j e' c' hi hj).choose_spec.2.2
        have key:=RC.slice (m:=m) (I:=I') (H:=w.heap) es' b.z k (off*b.z) cap arr ty (0,0) (λi j=>(arr[off*b.z+i*b.z+j]?).getD undef)
         hclean (by rw [hl'];exact g2) (by rw [hl'];exact g6) hI hh (λe he=>by
          obtain⟨i,hi⟩:=List.getElem?_of_mem he;obtain⟨_,_,_,_,q4,_⟩:=row i e hi;exact q4)
         (λi j hi hj=>by rw [hl']at hi;obtain⟨u,hu⟩:=hch i j hi hj;simp [hu])
         (λi j e c he hc=>by
          obtain⟨u,q1,q2,_⟩:=cell i j e c he hc;simp only [q1,Option.getD_some];exact q2)
        rw [hl']at key;exact⟨key,.slice _ hclean⟩
   | ptr r ver i off=>
    simp only [deepC]at hd;split at hd
    rotate_left
    .exact nos hd
    rename_i v0 b e;split at hd
    rotate_left
    .exact nos hd
    rename_i e0 he0;cases hb:(Nat.beq v0 ver && Nat.ble off e0.length) with
    | false=>rw [hb]at hd;exact nos hd
    | true=>
     rw [hb]at hd;simp only [cond_true,Option.map_eq_some_iff]at hd;simp only [Bool.and_eq_true]at hb;have hv:=beq_eq hb.1;subst hv;obtain⟨cs',hd,rfl⟩:=hd;obtain⟨r1,r2⟩:=ihL _ cs' hd;obtain⟨g0,hI⟩:=hf r v0 b e;have hcur:v0=m.ver r:=by rw [hr.ver,g0]
     have hrb:=hr.blk r b (by rw [g0])
     cases hc with
     | ptr _ _ _ _ A g1 g2=>
      cases hm:m.blk r with
      | none=>have:=hrb.virt hm;rw [this]at he0;simp at he0
      | some kz=>
       obtain⟨k,z1⟩:=kz;obtain⟨hz1,_,_,arr,ty,hh,hcell⟩:=hrb.real k z1 hm;rw [g2 hcur k z1 hm];have hget:∀(j:Nat) (c' : C),cs'[j]?=some c'->∃u,arr[i*z1+off+j]?=some u/\RC m I' w.heap c' u/\Clean c':=by
        intro j c' hj;have hlt:j<(e0.drop off).length:=by rw [<-r1];exact(List.getElem?_eq_some_iff.1 hj).1
        have hj0:=List.getElem?_eq_getElem hlt;have hj1:=hj0;rw [List.getElem?_drop]at hj1;obtain⟨u,q1,q2⟩:=hcell i (off+j) e0 _ he0 hj1;exact⟨u,by rw [Nat.add_assoc];exact q1,r2 j _ c' hj0 hj u q2⟩
       have hclean:CleanL cs':=by
        intro c' hc';obtain⟨j,hj⟩:=List.getElem?_of_mem hc';exact(hget j c' hj).choose_spec.2.2
       refine⟨.ref cs' k (i*z1+off) arr ty (0,0) (λj=>(arr[i*z1+off+j]?).getD undef) hclean (hI k z1 hm) hh (λj hj=>?_) (λj c hj=>?_),.ref _ hclean⟩
       .obtain⟨u,q1,_⟩:=hget j _ (List.getElem?_eq_getElem hj);simp [q1]
       .obtain⟨u,q1,q2,_⟩:=hget j c hj;simp only [q1,Option.getD_some];exact q2
  .cases l with
   | nil=>simp only [deepL,Option.some.injEq]at hd;subst hd;exact⟨rfl,λi c c' hi=>by simp at hi⟩
   | cons c l=>
    simp only [deepL]at hd;split at hd
    .rename_i c1 hc1;simp only [Option.map_eq_some_iff]at hd;obtain⟨l1,hl1,rfl⟩:=hd;obtain⟨q1,q2⟩:=ihL l l1 hl1;refine⟨by simp [q1],λi a a' ha ha' v hv=>?_⟩
     cases i with
     | zero=>
      simp only [List.getElem?_cons_zero,Option.some.injEq]at ha ha';subst ha ha';exact ihC c c1 v hc1 hv
     | succ i=>
      simp only [List.getElem?_cons_succ]at ha ha';exact q2 i a a' ha ha' v hv
    .exact nos hd
  .cases es with
   | nil=>simp only [deepR,Option.some.injEq]at hd;subst hd;exact⟨rfl,λi c c' hi=>by simp at hi⟩
   | cons e l=>
    simp only [deepR]at hd;split at hd
    .rename_i e1 he1;simp only [Option.map_eq_some_iff]at hd;obtain⟨l1,hl1,rfl⟩:=hd;obtain⟨p1,p2⟩:=ihL e e1 he1;obtain⟨q1,q2⟩:=ihR l l1 hl1;refine⟨by simp [q1],λi a a' ha ha'=>?_⟩
     cases i with
     | zero=>
      simp only [List.getElem?_cons_zero,Option.some.injEq]at ha ha';subst ha ha';exact⟨p1,p2⟩
     | succ i=>
      simp only [List.getElem?_cons_succ]at ha ha';exact q2 i a a' ha ha'
    .exact nos hd
theorem xaB(hr:HR E m I w h)(x:Ext m I w.heap m I' w.heap){kl:List (Nat×HB)}(hf:Froz m I' h kl){a a' : AV}{v:Value}(hd:deepA kl a=some a')(ha:RA m I w.heap a v):RA m I' w.heap a' v/\CleanV a':=by
 obtain⟨hC,hL,_⟩:=YaW hr x hf deepF;cases ha with
 | any v=>simp only [deepA,Option.some.injEq]at hd;subst hd;exact⟨.any v,trivial⟩
 | one c v hc=>
  simp only [deepA,Option.map_eq_some_iff]at hd;obtain⟨c',hd,rfl⟩:=hd;obtain⟨h1,h2⟩:=hC c c' v hd hc;exact⟨.one _ _ h1,h2⟩
 | agg cs vs hc=>
  simp only [deepA,Option.map_eq_some_iff]at hd;obtain⟨cs',hd,rfl⟩:=hd;obtain⟨h1,h2⟩:=hL cs cs' hd;have each:∀(i:Nat) c' u,cs'[i]?=some c'->vs[i]?=some u->RC m I' w.heap c' u/\Clean c':=by
   intro i c' u hi hu;have hlt:i<cs.length:=by rw [<-h1];exact(List.getElem?_eq_some_iff.1 hi).1
   exact h2 i _ c' (List.getElem?_eq_getElem hlt) hi u (hc.2 i _ u (List.getElem?_eq_getElem hlt) hu)
  refine⟨.agg cs' vs ⟨by rw [h1];exact hc.1,λi c' u hi hu=>(each i c' u hi hu).1⟩,λc' hc'=>?_⟩
  obtain⟨i,hi⟩:=List.getElem?_of_mem hc';have hlt:i<vs.length:=by rw [<-hc.1,<-h1];exact(List.getElem?_eq_some_iff.1 hi).1
  exact(each i c' _ hi (List.getElem?_eq_getElem hlt)).2
 | tup=>exact nos (by simpa only [deepA] using hd)
theorem Wz(hr:HR E m I w h)(x:Ext m I w.heap m I' w.heap){kl:List (Nat×HB)}(hf:Froz m I' h kl):∀{as as' : List AV} {vs:List Value},deepAs kl as=some as'->RAs m I w.heap as vs->RAs m I' w.heap as' vs/\∀a∈as',CleanV a
 | [],as',vs,hd,ha=>by
  simp only [deepAs,Option.some.injEq]at hd;subst hd;exact⟨⟨ha.1,λi a v h=>by simp at h⟩,λa h=>by simp at h⟩
 | a::l,as',vs,hd,ha=>by
  simp only [deepAs]at hd;split at hd
  .rename_i a1 ha1;simp only [Option.map_eq_some_iff]at hd;obtain⟨l1,hl1,rfl⟩:=hd;match vs,ha with
   | [],ha=>simp [RAs]at ha
   | v::vs,ha=>
    obtain⟨p1,p2⟩:=xaB hr x hf ha1 (ha.2 0 a v rfl rfl);obtain⟨q1,q2⟩:=Wz hr x hf hl1 (vs:=vs) ⟨by simpa using ha.1,λi b u hb hu=>ha.2 (i+1) b u (by simpa using hb) (by simpa using hu)⟩
    refine⟨⟨by simp [q1.1],λi b u hb hu=>?_⟩,λb hb=>?_⟩
    .cases i with
     | zero=>
      simp only [List.getElem?_cons_zero,Option.some.injEq]at hb hu;subst hb hu;exact p1
     | succ i=>
      simp only [List.getElem?_cons_succ]at hb hu;exact q1.2 i b u hb hu
    .rcases List.mem_cons.1 hb with rfl | hb
     .exact p2
     .exact q2 b hb
  .exact nos hd
theorem VZ:∀(args:List AV) (k0:Nat) (v:Tr) (k:Nat),k0+args.length<=256->k<256->(argT args k0 v).get k=if k0<=k/\k<k0+args.length then (args[k-k0]?).getD .any else v.get k
 | [],k0,v,k,h1,h2=>by
  rw [if_neg (by simp only [List.length_nil];omega)]
  rfl
 | a::l,k0,v,k,h1,h2=>by
  simp only [List.length_cons]at h1;show(argT l (k0+1) (v.set dep k0 a)).get k=_;rw [VZ l (k0+1) _ k (by omega) h2,Tr.get_set dep v k0 k a (show k0<256 by omega) h2]
  simp only [List.length_cons];by_cases e:k=k0
  .subst e;rw [if_neg (by omega),if_pos rfl,if_pos (by omega),Nat.sub_self]
   rfl
  .rw [if_neg e];by_cases h:k0+1<=k/\k<k0+1+l.length
   .rw [if_pos h,if_pos (by omega),show k-k0=(k-(k0+1))+1 by omega,List.getElem?_cons_succ]
   .rw [if_neg h,if_neg (by omega)]
theorem vV{args:List AV}(h:args.length<=256){k:Nat}(hk:k<256):(argT args 0 .e).get k=mkV (argL 0 args) k:=by
 rw [VZ args 0 .e k (by omega) hk,Ur,if_pos (Nat.zero_le _)]
 by_cases h2:0<=k/\k<0+args.length
 .rw [if_pos h2]
 .rw [if_neg h2,List.getElem?_eq_none (by omega)]
  rfl
theorem xay{args:List AV}(h:args.length<=256){k:Nat}(hk:¬k<256):mkV (argL 0 args) k=.any:=by
 rw [Ur,if_pos (Nat.zero_le _),List.getElem?_eq_none (by omega)]
 rfl
theorem VB{args:List AV}(h:args.length<=256)(kl:List (Nat×HB))(n:Nat):(T.mk (argT args 0 .e) [] kl n).den=⟨mkV (argL 0 args),hget kl⟩:=by
 show S.mk (farV [argT args 0 .e]) (hget kl)=_;congr 1
 funext k
 rw [Je];by_cases hk:k<256
 .rw [if_pos hk,vV h hk]
 .rw [if_neg hk,xay h hk];split
  .rfl
  .rfl
theorem zp{t:T}:∀{l:List RV} {xs:List AV} {K:List AV->Prop},rawE t l=some xs->K xs->rawK t.den l K
 | [],xs,K,h,hk=>by cases h;exact hk
 | .tmp k::l,xs,K,h,hk=>by
  obtain⟨ys,h1,rfl⟩:=Qh (show omap (t.get k::·) (rawE t l)=some xs from h);rw [T.get_den]at hk;exact zp (K:=λl=>K (t.den.v k::l)) h1 hk
 | .cell k n b::l,xs,K,h,hk=>by
  obtain⟨x,h1,h2⟩:=Qa (show obind (loadE n b t (t.get k)) (λx=>omap (x::·) (rawE t l))=some xs from h);obtain⟨ys,h3,rfl⟩:=Qh h2;rw [T.get_den]at h1;exact Jaa h1 (zp (K:=λl=>K (x::l)) h3 hk)
theorem VK:∀(h:List (Nat×HB)) (r v:Nat) (b:Blk),hget h r=⟨v,some b⟩->r∈h.map (·.1)
 | [],r,v,b,e=>by simp [Ut]at e
 | p::h,r,v,b,e=>by
  rw [kd]at e;by_cases e2:r=p.1
  .rw [List.map_cons,e2];exact List.mem_cons_self ..
  .rw [if_neg e2]at e;exact List.mem_cons_of_mem _ (VK h r v b e)
theorem yK{e:Ex}(h:endE e=true):∀i,e≠.exit i:=by
 intro i e2;subst e2;exact Bool.noConfusion h
structure TabOk (P:Program) (tab:Nat->Option (Nat×AC×List RV)):Prop where
 ck:∀f x,tab f=some x->check P f=some x
 ok:∀f n ac rv,tab f=some (n,ac,rv)->okAC ac=true
variable {tab:Nat->Option (Nat×AC×List RV)} {L:Lv}
theorem Qm (ht : TabOk P tab) {f n : Nat} {ac : AC} {rv : List RV} (e : tab f = some (n, ac, rv)) : ∃ fn c, P.funcs[f]? = some fn ∧ (fn.name == "runtime.NumGoroutine") = false ∧ fn.body = some c ∧ fn.ntmps = n ∧ compile P n c = some ac ∧ cRes P fn = some rv ∧ n ≤ pinA ∧ okAC ac = true := by
 obtain⟨fn,c,h1,h2,h3,h4,h5,h6,h7⟩:=jo (ht.ck f _ e);exact⟨fn,c,h1,h2,h3,h4,h5,h6,h7,ht.ok f n ac rv e⟩
theorem WP{args:List AV}{vals:List Value}{n:Nat}{fn:Func}(hn:fn.ntmps=n)(himb:∀b,I b->b<w.heap.size)(hargs:RAs M0 I w.heap args vals)(hlen:args.length<=n)(hpin:n<=pinA) :
    Sim ⟨w,I,λ_=>False,n,λ_=>none,λ_=>undef⟩ ⟨mkV (argL 0 args),hget []⟩ { tmps:=(⟨vals⟩:Array Value)++Array.replicate (fn.ntmps-(⟨vals⟩:Array Value).size) undef,defers:=[] } w M0 I:=by
  refine⟨rfl,?_,λt=>Vo rfl (by show Array.size _<=_;have hlv:=hargs.1;simp [hn];omega) (xh hargs t),{
    ver:=λr=>rfl,blk:=λr b hb=>by simp [Ut]at hb,inj:=λr r' k z z' h=>by simp [M0]at h,lt:=λr k z h=>by simp [M0]at h,
    imb:=himb,grow:=Nat.le_refl _,keep:=λb hb _=>rfl,imm:=λb hb=>.inl hb,sup:=λb hb=>hb,i0:=λb hb=>⟨himb b hb,λh=>h⟩,
    liv:=λr b k z hb=>by simp [Ut]at hb,np:=hpin,fx:=λr b _ hb=>by simp [Ut]at hb,os:=rfl,tape:=rfl,out:=rfl }⟩
  have hlv:=hargs.1;simp [hn];omega
theorem qau{n:Nat}{I2:Nat->Prop}{w' : World}{m' : M}{h' : Nat->HB}(hh2:HR ⟨w,I,λ_=>False,n,λ_=>none,λ_=>undef⟩ m' I2 w' h'):Ret w I w' I2:=
 ⟨hh2.grow,λb hb=>hh2.keep b hb (λh=>h),λb hb=>hh2.sup b hb,λb hb=>by
  rcases hh2.imm b hb with h | h | h
  .exact .inl h
  .exact .inr h
  .exact h.elim,hh2.imb,hh2.os,hh2.tape,hh2.out⟩
theorem way(hL:LvOk P L)(ht:TabOk P tab)(f:Nat):DSound P f λargs K=>∃r,datFE tab L f args=some r/\K r:=by
 intro args vals w I K himb hargs hclean ⟨r,hr,hk⟩;unfold datFE at hr;split at hr
 rotate_left
 .exact nos hr
 rename_i n ac rv e;obtain⟨fn,c,h1,h2,h3,h4,h5,h6,h7,h8⟩:=Qm ht e;obtain⟨g1,hr⟩:=Za hr;simp only [Bool.and_eq_true]at g1;have hn256:n<=256:=Vb g1.1;have hlen:args.length<=n:=Vb g1.2;split at hr
 rotate_left
 .exact nos hr
 rename_i e1 t hcode;obtain⟨g2,hr⟩:=Za hr;split at hr
 rotate_left
 .exact nos hr
 rename_i l hraw;simp only [Option.map_eq_some_iff]at hr;obtain⟨ys,hdeep,rfl⟩:=hr;refine calls_of_wp h1 h3 ?_;have hsim:=WP (fn:=fn) h4 himb hargs hlen h7;rw [<-VB (args:=args) (by omega) [] 2048]at hsim
 refine(Wy hL fuelC).1 ac c _ e1 t (λe' s'=>e' = e1/\s' = t.den) h5 h8 hcode ⟨rfl,rfl⟩ _ _ w _ rfl (Zy hsim) (λe' s' a' w' ⟨he,hs'⟩ hsp=>?_);subst he hs';have fin:a'.defers=[]/\∃v,(results fn a'.tmps).run P w' = .ok v w'/\∃v' r I',Ending.returned v=.returned v'/\K r/\RA M0 I' w'.heap r v'/\CleanA r/\Ret w I w' I':=by
  obtain⟨m',I',hs⟩:=hsp.sim;obtain⟨xs,vs,hres,hra,hxs⟩:=Qd (P:=P) hs h6 (zp (K:=λxs=>xs=l) hraw rfl);subst hxs;obtain⟨I2,hh2,hx2,hfz⟩:=hs.heap.frz (t.h.map (·.1));have hf:Froz m' I2 t.den.h t.h:=λr v b hb=>⟨hb,λk z hm=>hfz r (VK _ _ _ _ hb) b k z (by show(hget t.h r).blk=_;rw [hb]) hm⟩
  obtain⟨q1,q2⟩:=Wz hs.heap hx2 hf hdeep hra;exact⟨hs.dfr,_,hres,_,resOf ys,I2,rfl,hk,kF (q1.any_map q2 M0),ZT q2,qau hh2⟩
 have hne:=yK g2;cases e' with
 | nrm=>exact fin
 | ret=>exact fin
 | exit i=>exact(hne i rfl).elim
theorem qV(hL:LvOk P L)(ht:TabOk P tab)(f:Nat):FSound P f (L.z f) λargs K=>∃r,freshF tab L f args=some r/\K r:=by
 intro args vals w I K himb hargs hclean ⟨r,hr,hk⟩;unfold freshF at hr;split at hr
 rotate_left
 .exact nos hr
 rename_i n ac rv e;obtain⟨fn,c,h1,h2,h3,h4,h5,h6,h7,h8⟩:=Qm ht e;obtain⟨g1,hr⟩:=Za hr;simp only [Bool.and_eq_true]at g1;have hn256:n<=256:=Vb g1.1;have hlen:args.length<=n:=Vb g1.2;split at hr
 rotate_left
 .exact nos hr
 rename_i e1 t hcode;have hr2:=(Za hr).2;have g2:=(Za hr).1;clear hr;have hr:=hr2;clear hr2;refine calls_of_wp h1 h3 ?_;have hsim:=WP (fn:=fn) h4 himb hargs hlen h7;rw [<-VB (args:=args) (by omega) [] 2048]at hsim
 refine(Wy hL fuelC).1 ac c _ e1 t (λe' s'=>e' = e1/\s' = t.den) h5 h8 hcode ⟨rfl,rfl⟩ _ _ w _ rfl (Zy hsim) (λe' s' a' w' ⟨he,hs'⟩ hsp=>?_);subst he hs';have fin:a'.defers=[]/\∃v,(results fn a'.tmps).run P w' = .ok v w'/\∃A cap es I',Ending.returned v=.returned (.slice A es.length cap)/\K es/\CleanR es/\NewRow w w' I' (L.z f) es A cap/\Ret w I w' I':=by
  obtain⟨m',I',hs⟩:=hsp.sim;split at hr
  .rename_i hraw;cases hr
   obtain⟨xs,vs,hres,hra,hxs⟩:=Qd (P:=P) hs h6 (zp (K:=λxs=>xs=_) hraw rfl);subst hxs;refine⟨hs.dfr,_,hres,?_⟩;match vs,hra with
   | [v],hra=>
    have:=(hra.2 0 _ v rfl rfl).one_inv;cases this with
    | emp A=>exact⟨A,0,[],I',rfl,hk,λe he=>by simp at he,⟨Nat.le_refl _,Nat.zero_le _,λ_=>rfl,λe he=>by simp at he,.inl rfl⟩,qau hs.heap⟩
   | [],hra=>simp [RAs]at hra
   | v::u::vs,hra=>simp [RAs]at hra
  .rename_i r0 ver z len hraw;split at hr
   rotate_left
   .exact nos hr
   rename_i b hb;obtain⟨g3,hr⟩:=Za hr;simp only [Bool.and_eq_true]at g3;obtain⟨⟨⟨⟨hlive,hz0⟩,hzb⟩,hle⟩,hcl⟩:=g3;have hz0:=beq_eq hz0;have hzb:=beq_eq hzb;have hle:=Vb hle;have hcl:CleanR (b.es.take len):=yv hcl;cases hr
   obtain⟨xs,vs,hres,hra,hxs⟩:=Qd (P:=P) hs h6 (zp (K:=λxs=>xs=_) hraw rfl);subst hxs;refine⟨hs.dfr,_,hres,?_⟩;match vs,hra with
   | [v],hra=>
    have hx:=hra.2 0 _ v rfl rfl;obtain⟨A,cap,rfl,g1,g2,g3,g4,g5,g6⟩:=xm hx.one_inv;obtain⟨e1,e2⟩:=wo (zk hb);have hcur:ver=m'.ver r0:=by rw [hs.heap.ver,e1]
    have hrb:=hs.heap.blk r0 b e2;have htl:(b.es.take len).length=len:=by simp;omega
    refine⟨A,cap,b.es.take len,I',by rw [htl];simp,hk,hcl,⟨by omega,by omega,λh=>by rw [htl];exact g5 h,λe he=>by rw [hz0,hzb];exact hrb.sz e (List.mem_of_mem_take he),?_⟩,qau hs.heap⟩
    cases hm:m'.blk r0 with
    | none=>exact .inl (g4 hcur hm)
    | some kz=>
     obtain⟨k,z1⟩:=kz;obtain⟨hz1,hnI,_,arr,ty,hh,hc⟩:=hrb.real k z1 hm;obtain⟨hz2,hcap | ⟨hA,hbs⟩⟩:=g3 hcur k z1 hm
     .exact .inl hcap
     .refine .inr ⟨k,arr,ty,by simpa using hA,?_,hnI hlive,hh,by rw [hz0];simpa [bsize,hh] using hbs,λi j e c he hc'=>?_⟩
      .rcases hs.heap.liv r0 b k z1 e2 hm with h | h
       .exact h
       .exact h.elim
      .have hi:i<len:=by have:=(List.getElem?_eq_some_iff.1 he).1;omega
       have hmem:=List.mem_of_getElem? he;rw [List.getElem?_take_of_lt hi]at he;obtain⟨v,q1,q2⟩:=hc i j e c he hc';rw [hz2,<-hz0]at q1;exact⟨v,q1,q2.any_map (hcl e hmem c (List.mem_of_getElem? hc')) M0⟩
   | [],hra=>simp [RAs]at hra
   | v::u::vs,hra=>simp [RAs]at hra
  .exact nos hr
 have hne:=yK g2;cases e' with
 | nrm=>exact fin
 | ret=>exact fin
 | exit i=>exact(hne i rfl).elim
end Go.Abs
end
section
namespace Go.Abs
variable {P:Program} {tab:Nat->Option (Nat×AC×List RV)} {L:Lv}
theorem yW(v:Tr)(l:List Tr)(k:Nat):farV (v::l) (k+pinA)=farV l k:=by
 rw [Je];have hp:256<=pinA:=by decide
 generalize pinA=p at hp ⊢;rw [if_neg (by omega),if_pos (by omega),Nat.add_sub_cancel]
theorem qam(hL:LvOk P L)(ht:TabOk P tab)(f:Nat):ISound P f λ_ args s K=>∃t r t',s=t.den/\inlE tab L f args t=some (r,t')/\K r t'.den:=by
 intro E args vals s a w m I d K hs hargs ⟨t,r,t',hst,hr,hk⟩;unfold inlE at hr;split at hr
 rotate_left
 .exact nos hr
 rename_i n ac rv e;obtain⟨fn,c,h1,h2,h3,h4,h5,h6,h7,h8⟩:=Qm ht e;have hr2:=(Za hr).2;have g1:=(Za hr).1;clear hr;simp only [Bool.and_eq_true]at g1;have hn256:n<=256:=Vb g1.1;have hlen:args.length<=n:=Vb g1.2;split at hr2
 rotate_left
 .exact nos hr2
 rename_i e1 t1 hcode;have g2:=(Za hr2).1;have hr:=(Za hr2).2;clear hr2;split at hr
 rotate_left
 .exact nos hr
 rename_i l v x hraw hx;simp only [Option.some.injEq,Prod.mk.injEq]at hr;obtain⟨rfl,rfl⟩:=hr;have hne:=yK g2;have hsw:=yr t1.h (lows t1.h) t1.n;have b:=Vx _ hsw;generalize hsg:swaps t1.h (lows t1.h) t1.n=sw at hk hsw b;rw [T.move_den _ hsw,U9]at hk;have key:=isound (P:=P) (f:=f) (fn:=fn) (c:=c) (n:=n) (rv:=rv) (G:=λ_ args' s' K'=>args' = args/\s' = s/\K' (resOf l) (T.mk v x t1.h t1.n).den) h1 h3 h4 h6 h7
  (λd' args' s' K' ⟨ea,es,hk'⟩=>by
   subst ea es;refine⟨args',s',λr=>r,λr=>r,Bij.id,(uN s').symm,?_,hlen,?_⟩
   .rw [show rnA (λr=>r)=id from funext Qan,List.map_id]
   .have hstart:(⟨inV args' s'.v,s'.h⟩:S)=(T.mk (argT args' 0 .e) (t.v::t.x) t.h t.n).den:=by
     rw [hst];show S.mk (inV args' (farV (t.v::t.x))) (hget t.h)=S.mk (farV (argT args' 0 .e::t.v::t.x)) (hget t.h);congr 1
     funext k
     rw [Je];unfold inV;by_cases hk2:k<256
     .rw [if_pos hk2,if_pos (by unfold pinA;omega),vV (by omega) hk2]
     .rw [if_neg hk2];by_cases hk3:k<pinA
      .rw [if_pos hk3,if_neg (by omega),xay (by omega) hk2]
      .rw [if_neg hk3,if_pos (by omega)]
    rw [hstart];refine(Wy hL fuelC).1 ac c _ e1 t1 _ h5 h8 hcode ⟨hne,?_⟩;rw [uN];refine zp hraw ?_;have hend:(⟨λk=>t1.den.v (k+pinA),t1.den.h⟩:S)=(T.mk v x t1.h t1.n).den:=by
     have hv:t1.den.v=farV (t1.v::t1.x):=rfl;have hw:(T.mk v x t1.h t1.n).den.v=farV (v::x):=rfl;have hx:∀k,farV (t1.v::t1.x) (k+pinA)=farV (v::x) k:=by
      intro k;rw [yW,hx]
     have hy:(λk=>t1.den.v (k+pinA))=(T.mk v x t1.h t1.n).den.v:=by
      rw [hv,hw];generalize pinA=p at hx ⊢;exact funext hx
     rw [hy];rfl
    rw [hend];exact hk')
 refine Calls.mono (key E args vals s a w m I d (λr s'=>r=resOf l/\s' = (T.mk v x t1.h t1.n).den) hs hargs ⟨rfl,rfl,rfl,rfl⟩) λe2 w' ⟨v',r,s',m',I',q1,⟨q2,q3⟩,q4,q5⟩=>?_;subst q2 q3;have q6:=q5.rn b;exact⟨v',_,_,_,I',q1,hk,q4.rn (λr=>by simp only [b.l]) (λr=>by simp only [b.l]),q6⟩
theorem Yas:∀{a b:List UInt8},eqNs a b=true->a=b
 | [],[],_=>rfl
 | a::l,b::m,h=>by
  simp only [eqNs,Bool.and_eq_true]at h;rw [UInt8.toNat_inj.1 (beq_eq h.1),Yas h.2]
 | [],_::_,h=>by simp [eqNs]at h
 | _::_,[],h=>by simp [eqNs]at h
theorem QaJ{a b:Int}(h:ieq a b=true):a=b:=by rw [zX]at h;simpa using h
theorem ka1{v u:Value}(h:eqV v u=true):v=u:=by
 unfold eqV at h;split at h
 .simp only [Bool.and_eq_true]at h;rw [Yy h.1,QaJ h.2]
 .simp only [beq_iff_eq]at h;rw [h]
 .rename_i a b;have:=Yas h;congr 1;obtain⟨⟨a⟩⟩:=a;obtain⟨⟨b⟩⟩:=b;simp only at this;rw [this]
 .rfl
 .rfl
 .rfl
 .rw [beq_eq h]
 .simp only [Bool.and_eq_true]at h;rw [beq_eq h.1,Yy h.2.1,QaJ h.2.2]
 .rw [beq_eq h]
 .exact Bool.noConfusion h
mutual
theorem QaM:∀{c d:C},eqC c d=true->c=d
 | .lit v,d,h=>by
  cases d <;> simp only [eqC,Bool.false_eq_true]at h
  rw [ka1 h]
 | .slice es,d,h=>by
  cases d <;> simp only [eqC,Bool.false_eq_true]at h
  rw [JQ h]
 | .full es,d,h=>by
  cases d <;> simp only [eqC,Bool.false_eq_true]at h
  rw [JQ h]
 | .emp,d,h=>by
  cases d <;> simp only [eqC,Bool.false_eq_true]at h
  rfl
 | .ref cs,d,h=>by
  cases d <;> simp only [eqC,Bool.false_eq_true]at h
  rw [zO h]
 | .clo f cs,d,h=>by
  cases d <;> simp only [eqC,Bool.false_eq_true,Bool.and_eq_true]at h
  rw [beq_eq h.1,zO h.2]
 | .own r v z o l,d,h=>by
  cases d <;> simp only [eqC,Bool.false_eq_true,Bool.and_eq_true]at h
  obtain⟨⟨⟨⟨h1,h2⟩,h3⟩,h4⟩,h5⟩:=h;rw [beq_eq h1,beq_eq h2,beq_eq h3,beq_eq h4,beq_eq h5]
 | .ptr r v i o,d,h=>by
  cases d <;> simp only [eqC,Bool.false_eq_true,Bool.and_eq_true]at h
  obtain⟨⟨⟨h1,h2⟩,h3⟩,h4⟩:=h;rw [beq_eq h1,beq_eq h2,beq_eq h3,beq_eq h4]
 | .any,d,h=>by cases d <;> simp only [eqC,Bool.false_eq_true]at h
theorem zO:∀{c d:List C},eqL c d=true->c=d
 | [],d,h=>by
  cases d <;> simp only [eqL,Bool.false_eq_true]at h
  rfl
 | c::l,d,h=>by
  cases d <;> simp only [eqL,Bool.false_eq_true,Bool.and_eq_true]at h
  rw [QaM h.1,zO h.2]
theorem JQ:∀{c d:List (List C)},eqR c d=true->c=d
 | [],d,h=>by
  cases d <;> simp only [eqR,Bool.false_eq_true]at h
  rfl
 | c::l,d,h=>by
  cases d <;> simp only [eqR,Bool.false_eq_true,Bool.and_eq_true]at h
  rw [zO h.1,JQ h.2]
end
theorem Ua7:∀{a b:AV},eqA a b=true->a=b
 | .one c,.one d,h=>by rw [QaM (show eqC c d=true from h)]
 | .agg l,.agg m,h=>by rw [zO (show eqL l m=true from h)]
 | .one _,.agg _,h=>Bool.noConfusion h
 | .one _,.tup _,h=>Bool.noConfusion h
 | .one _,.any,h=>Bool.noConfusion h
 | .agg _,.one _,h=>Bool.noConfusion h
 | .agg _,.tup _,h=>Bool.noConfusion h
 | .agg _,.any,h=>Bool.noConfusion h
 | .tup _,b,h=>by cases b <;> exact Bool.noConfusion h
 | .any,b,h=>by cases b <;> exact Bool.noConfusion h
theorem Jaw:∀{a b:List AV},eqAs a b=true->a=b
 | [],[],_=>rfl
 | a::l,b::m,h=>by
  simp only [eqAs,Bool.and_eq_true]at h;rw [Ua7 h.1,Jaw h.2]
 | [],_::_,h=>Bool.noConfusion h
 | _::_,[],h=>Bool.noConfusion h
theorem yaY:∀{a b:Option Blk},eqB a b=true->a=b
 | none,none,_=>rfl
 | some ⟨es,z,l⟩,some ⟨es',z',l'⟩,h=>by
  simp only [eqB,Bool.and_eq_true,beq_iff_eq]at h;rw [JQ h.1.1,beq_eq h.1.2,h.2]
 | none,some _,h=>Bool.noConfusion h
 | some _,none,h=>Bool.noConfusion h
theorem yaO:∀{a b:List (Nat×HB)},eqH a b=true->a=b
 | [],[],_=>rfl
 | (k,⟨v,b⟩)::l,(k',⟨v',b'⟩)::m,h=>by
  simp only [eqH,Bool.and_eq_true]at h;rw [beq_eq h.1.1.1,beq_eq h.1.1.2,yaY h.1.2,yaO h.2]
 | [],_::_,h=>Bool.noConfusion h
 | _::_,[],h=>Bool.noConfusion h
theorem Vap:∀{l:List Nat} {h:Nat->HB} {r:Nat},r∉l->frz l h r=h r
 | [],h,r,_=>rfl
 | x::l,h,r,hr=>by
  simp only [List.mem_cons,not_or]at hr;show frz l (upd h x (h x).dead) r=h r;rw [Vap hr.2];simp only [upd,if_neg hr.1]
theorem Jah(hL:LvOk P L)(ht:TabOk P tab)(f:Nat):OSound P f (lookG λes args K=>∃r,lookF tab L f es args=some r/\K r):=by
  intro E args vals w I m h d K hr hargs hG;obtain⟨r,ver,es,z,rest,rfl,hb0,hes,hcl,y,hy,hk⟩:=hG;unfold lookF at hy;split at hy
  rotate_left
  . exact nos hy
  rename_i n ac rv e;obtain⟨fn,c,h1,h2,h3,h4,h5,h6,h7,h8⟩:=Qm ht e;have hr2:=(Za hy).2;have g1:=(Za hy).1;clear hy;simp only [Bool.and_eq_true]at g1;have hn256:n<=256:=Vb g1.1;have hlen:rest.length+1<=n:=Vb g1.2;split at hr2
  rotate_left
  . exact nos hr2
  rename_i e1 t hcode;have g2:=(Za hr2).1;have hy:=(Za hr2).2;clear hr2;split at hy
  rotate_left
  . exact nos hy
  rename_i l b hraw hhat;have g3:=(Za hy).1;have hy:=(Za hy).2;simp only [Option.map_eq_some_iff]at hy;obtain⟨ys,hdeep,rfl⟩:=hy;simp only [Bool.and_eq_true,Bool.not_eq_true',List.isEmpty_eq_false_iff]at g3;obtain⟨⟨⟨g3,g4⟩,g5⟩,g6⟩:=g3;have k4:=beq_eq g4;have k5:=JQ g5;have hrb0:=hr.blk r ⟨es,z,true⟩ (by rw [hb0])
  have hz:(es.headD []).length=z:=by
    cases es with
    | nil=>exact(g6 rfl).elim
    | cons e0 l=>exact hrb0.sz e0 (List.mem_cons_self ..)
  rw [hz]at k4 hcode;have hbe:b=⟨es,z,true⟩:=by
    have:b=⟨b.es,b.z,b.live⟩:=rfl;rw [this,k5,k4,g3]
  subst hbe;have hver:m.ver r=ver:=by rw [hr.ver,hb0]
  generalize hF:(λt=>if t=pinA then m.blk r else none:Nat->Option (Nat×Nat))=F
  have hFp:F pinA=m.blk r:=by rw [<-hF];simp
  have hFs:∀t k z,F t=some (k,z)->t=pinA/\m.blk r=some (k,z):=by
    intro t k z ht;rw [<-hF]at ht;simp only at ht;split at ht
    . rename_i e;exact⟨e,ht⟩
    . simp at ht
  generalize hH:hget [(pinA,(⟨0,some ⟨es,z,true⟩⟩:HB))]=hh;have hHp:hh pinA=⟨0,some ⟨es,z,true⟩⟩:=by rw [<-hH,kd];simp
  have hHs:∀t b,(hh t).blk=some b->t=pinA/\b=⟨es,z,true⟩:=by
    intro t b ht;rw [<-hH,kd]at ht;split at ht
    . rename_i e;simp only [Option.some.injEq]at ht;exact⟨e,ht.symm⟩
    . simp [Ut]at ht
  have hHv:∀t,(hh t).ver=0:=by
    intro t;rw [<-hH,kd];split <;> rfl
  generalize hm2:(⟨λ_=>0,F⟩:M)=m2;generalize hE:(⟨w,I,λk=>∃z,m.blk r=some (k,z),n,F,λ_=>undef⟩:Env)=E2;have ow:∀k,E2.Ow k->∃z,m.blk r=some (k,z):=by
    intro k hk;rw [<-hE]at hk;exact hk
  have hptr:∀v,RA m I w.heap (.one (.ptr r ver 0 0)) v->RA m2 I w.heap (.one (.ptr pinA 0 0 0)) v:=by
    intro v hv;cases hv.one_inv with
    | ptr _ _ _ _ A q1 q2=>
      refine .one _ _ (.ptr pinA 0 0 0 A (Nat.zero_le _) λ_ b' z' hb'=>q2 hver.symm b' z' ?_);rw [<-hm2]at hb';rw [<-hFp];exact hb'
  have hargs2:RAs m2 I w.heap (.one (.ptr pinA 0 0 0)::rest) vals:=by
    refine⟨by simpa using hargs.1,λi a v ha hv=>?_⟩
    cases i with
    | zero=>
      simp only [List.getElem?_cons_zero,Option.some.injEq]at ha;subst ha;exact hptr v (hargs.2 0 _ v rfl hv)
    | succ i=>
      simp only [List.getElem?_cons_succ]at ha;exact(hargs.2 (i+1) a v (by simpa using ha) hv).any_mapV (hcl a (List.mem_of_getElem? ha)) m2
  refine calls_of_wp h1 h3 ?_;have hsim:Sim E2 ⟨mkV (argL 0 (.one (.ptr pinA 0 0 0)::rest)),hh⟩ { tmps:=(⟨vals⟩:Array Value)++Array.replicate (fn.ntmps-(⟨vals⟩:Array Value).size) undef,defers:=[] } w m2 I:=by
    have hlv:=hargs2.1;have hvl:vals.length<=n:=by rw [<-hlv];simpa using hlen
    refine⟨rfl,?_,λt=>Vo (E:=E2) (by rw [<-hE]) (by show Array.size _<=_;simp [h4];omega) (xh hargs2 t),?_⟩
    . rw [<-hE]
      simp [h4];omega
    . rw [<-hE,<-hm2]
      refine {
        ver:=λr'=>(hHv r').symm,blk:=λt' b hb=>?_,inj:=λt1 t2 k z z' q1 q2=>?_,lt:=λt' k z hm=>?_,
        imb:=hr.imb,grow:=Nat.le_refl _,keep:=λb hb _=>rfl,imm:=λb hb=>.inl hb,sup:=λb hb=>hb,i0:=λb hb=>⟨hr.imb b hb,λh=>?_⟩,
        liv:=λt' b k z hb hm=>?_,np:=h7,fx:=λt' b _ hb=>⟨rfl,λ_ _ _=>rfl⟩,os:=rfl,tape:=rfl,out:=rfl }
      . obtain⟨rfl,rfl⟩:=hHs t' b hb
        refine⟨hrb0.sz,λhm=>hrb0.virt (by rw [<-hFp];exact hm),λk z' hm=>?_⟩
        have hm' : m.blk r=some (k,z'):=by rw [<-hFp];exact hm
        obtain⟨q1,q2,q3,arr,ty,q4,q5⟩:=hrb0.real k z' hm';exact⟨q1,q2,q3,arr,ty,q4,λi j e c he hc=>let ⟨v,p1,p2⟩:=q5 i j e c he hc;⟨v,p1,p2.any_map (hes e (List.mem_of_getElem? he) c (List.mem_of_getElem? hc)) _⟩⟩
      . rw [(hFs _ _ _ q1).1,(hFs _ _ _ q2).1]
      . exact hr.lt _ _ _ (hFs _ _ _ hm).2
      . obtain⟨z',hz'⟩:=h
        exact(hrb0.real _ _ hz').2.1 rfl hb
      . exact .inr ⟨z,(hFs _ _ _ hm).2⟩
  have hw0:E2.w0=w:=by rw [<-hE]
  have hI0:E2.I0=I:=by rw [<-hE]
  have hEF:E2.F=F:=by rw [<-hE]
  have hEN:E2.N=n:=by rw [<-hE]
  have hstart:=VB (args:=.one (.ptr pinA 0 0 0)::rest) (by simp only [List.length_cons];omega) [(pinA,⟨0,some ⟨es,z,true⟩⟩)] 2048
  rw [hH]at hstart;rw [<-hstart]at hsim;refine(Wy hL fuelC).1 ac c _ e1 t (λe' s'=>e' = e1/\s' = t.den) h5 h8 hcode ⟨rfl,rfl⟩ E2 _ w _ hEN (Zy hsim) (λe' s' a' w' ⟨he,hs'⟩ hsp=>?_);subst he hs';have fin:a'.defers=[]/\∃v,(results fn a'.tmps).run P w' = .ok v w'/\∃v' r' h' m3 I3,Ending.returned v=.returned v'/\K r' h'/\RA m3 I3 w'.heap r' v'/\HR E m3 I3 w' h'/\Ext m I w.heap m3 I3 w'.heap:=by
    obtain⟨m',I',hs⟩:=hsp.sim;obtain⟨xs,vs,hres,hra,hxs⟩:=Qd (P:=P) hs h6 (zp (K:=λxs=>xs=l) hraw rfl);subst hxs;obtain⟨I2,hh2,hx2,hfz⟩:=hs.heap.frz ((t.h.map (·.1)).filter λk=>k != pinA);have hnp:pinA∉(t.h.map (·.1)).filter λk=>k != pinA:=by simp
    have hf:Froz m' I2 t.den.h (hset t.h pinA ⟨0,none⟩):=λr v b hb=>by
      rw [ZK]at hb;split at hb
      . simp at hb
      . rename_i hne
        refine⟨hb,λk z hm=>hfz r ?_ b k z (by show(hget t.h r).blk=_;rw [hb]) hm⟩
        rw [List.mem_filter];exact⟨VK _ _ _ _ hb,by simpa using hne⟩
    obtain⟨q1,q2⟩:=Wz hs.heap hx2 hf hdeep hra;obtain⟨e2,e3⟩:=wo (zk hhat);have hpb:(frz ((t.h.map (·.1)).filter λk=>k != pinA) t.den.h pinA).blk=some ⟨es,z,true⟩:=by rw [Vap hnp];exact e3
    have place:m'.blk pinA=m.blk r/\∀k z,m.blk r=some (k,z)->bsize w'.heap k=bsize w.heap k:=by
      have:=hh2.fx pinA _ (Nat.le_refl _) hpb;rw [hEF,hFp]at this;exact⟨this.1,λk z hm=>by rw [<-hw0];exact this.2 k z hm⟩
    have notow:∀r' k z,r'≠r->m.blk r' = some (k,z)->¬E2.Ow k:=by
      intro r' k z hr' hm ho;obtain⟨z2,g2⟩:=ow k ho;exact hr' (hr.inj _ _ _ _ _ hm g2)
    have same:∀k,k<w.heap.size->¬E2.Ow k->w'.heap[k]?=w.heap[k]?:=λk hk ho=>by
      have:=hh2.keep k (by rw [hw0];exact hk) ho
      rwa [hw0]at this
    have ext:Ext m I w.heap m I2 w'.heap:=by
      refine⟨λr'=>.inl ⟨rfl,rfl,λk z hm=>?_⟩,λb hb=>hh2.sup b (by rw [hI0];exact hb),λb hb=>same b (hr.imb b hb) (λho=>?_)⟩
      . by_cases hmem:r' = r
        . subst hmem;exact place.2 k z hm
        . simp only [bsize,same k (hr.lt _ _ _ hm) (notow r' k z hmem hm)]
      . obtain⟨z2,g4⟩:=ow b ho
        exact(hrb0.real _ _ g4).2.1 rfl hb
    have imm2:∀b,I2 b->I b∨w.heap.size<=b∨E2.Ow b:=λb hb=>by
      have:=hh2.imm b hb
      rwa [hI0,hw0]at this
    have size:w.heap.size<=w'.heap.size:=by have:=hh2.grow;rwa [hw0]at this
    have liv:∀k,E2.Ow k->E.w0.heap.size<=k∨E.Ow k:=λk ho=>by
      obtain⟨z2,g4⟩:=ow k ho;exact hr.liv r ⟨es,z,true⟩ k z2 (by rw [hb0]) g4
    refine⟨hs.dfr,_,hres,_,resOf ys,h,m,I2,rfl,hk,kF (q1.any_map q2 m),?_,ext⟩;refine {
      ver:=hr.ver,blk:=λr' b hb=>?_,inj:=hr.inj,lt:=λr k z hm=>Nat.lt_of_lt_of_le (hr.lt _ _ _ hm) size,imb:=hh2.imb,grow:=Nat.le_trans hr.grow size,keep:=λb hb ho=>?_,imm:=λb hb=>?_,
      sup:=λb hb=>hh2.sup b (by rw [hI0];exact hr.sup b hb),i0:=hr.i0,liv:=hr.liv,np:=hr.np,fx:=λr' b hp hb=>?_,
      os:=by rw [hh2.os,hw0];exact hr.os,tape:=by rw [hh2.tape,hw0];exact hr.tape,out:=by rw [hh2.out,hw0];exact hr.out }
    . by_cases hmem:r' = r
      . subst hmem
        rw [hb0]at hb;simp only [Option.some.injEq]at hb;subst hb;have hrb:=hh2.blk pinA _ hpb;have hp:=place.1;refine⟨hrb.sz,λhm=>hrb.virt (by rw [hp];exact hm),λk z' hm=>?_⟩
        obtain⟨p1,p2,p3,arr,ty,p4,p5⟩:=hrb.real k z' (by rw [hp];exact hm)
        exact⟨p1,p2,p3,arr,ty,p4,λi j e c he hc=>let ⟨v,t1,t2⟩:=p5 i j e c he hc;⟨v,t1,t2.any_map (hes e (List.mem_of_getElem? he) c (List.mem_of_getElem? hc)) _⟩⟩
      . have hrb:=hr.blk r' b hb
        refine⟨hrb.sz,hrb.virt,λk z hm=>?_⟩;obtain⟨p1,p2,p3,arr,ty,p4,p5⟩:=hrb.real k z hm;have hlt:=hr.lt _ _ _ hm;have hno:=notow r' k z hmem hm;refine⟨p1,λhl hi=>?_,λhl=>ext.i k (p3 hl),arr,ty,by rw [same k hlt hno];exact p4,λi j e c he hc=>let ⟨v,t1,t2⟩:=p5 i j e c he hc;⟨v,t1,t2.ext ext⟩⟩
        rcases imm2 k hi with h | h | h
        . exact p2 hl h
        . omega
        . exact hno h
    . by_cases ho2:E2.Ow b
      . rcases liv b ho2 with h | h
        . omega
        . exact(ho h).elim
      . rw [same b (Nat.lt_of_lt_of_le hb hr.grow) ho2]
        exact hr.keep b hb ho
    . rcases imm2 b hb with h | h | h
      . exact hr.imm b h
      . exact .inr (.inl (Nat.le_trans hr.grow h))
      . exact .inr (liv b h)
    . obtain⟨q1,q2⟩:=hr.fx r' b hp hb
      refine⟨q1,λk z hF=>?_⟩;rw [<-q2 k z hF];rcases ext.m r' with⟨_,_,q⟩ | q
      . exact q k z (by rw [q1];exact hF)
      . omega
  have hne:=yK g2;cases e' with
  | nrm=>exact fin
  | ret=>exact fin
  | exit i=>exact(hne i rfl).elim
structure BaseOk (P:Program) (B:Base):Prop where
 en:∀f args r,B.dat f args=some r->Enters P f
 eni:∀f args t r,B.inl f args t=some r->Enters P f
 enf:∀f args r,B.fresh f args=some r->Enters P f
 dat:∀f,DSound P f λargs K=>∃r,B.dat f args=some r/\K r
 inl:∀f,ISound P f λ_ args s K=>∃t r t',s=t.den/\B.inl f args t=some (r,t')/\K r t'.den
 fresh:∀f,FSound P f (B.z f) λargs K=>∃r,B.fresh f args=some r/\K r
theorem WaC(ht:TabOk P tab){f:Nat}{args:List AV}{r:AV}(h:datFE tab L f args=some r):Enters P f:=by
 unfold datFE at h;split at h
 .rename_i n ac rv e;obtain⟨fn,c,h1,h2,h3,_⟩:=Qm ht e;exact Vd h1 h2 (by rw [h3];rfl)
 .exact nos h
theorem zaS(ht:TabOk P tab){f:Nat}{args:List AV}{t:T}{r:AV×T}(h:inlE tab L f args t=some r):Enters P f:=by
 unfold inlE at h;split at h
 .rename_i n ac rv e;obtain⟨fn,c,h1,h2,h3,_⟩:=Qm ht e;exact Vd h1 h2 (by rw [h3];rfl)
 .exact nos h
theorem qaD(ht:TabOk P tab){f:Nat}{es:List (List C)}{args:List AV}{r:AV}(h:lookF tab L f es args=some r):Enters P f:=by
 unfold lookF at h;split at h
 .rename_i n ac rv e;obtain⟨fn,c,h1,h2,h3,_⟩:=Qm ht e;exact Vd h1 h2 (by rw [h3];rfl)
 .exact nos h
theorem qay(ht:TabOk P tab){f:Nat}{args:List AV}{r:List (List C)}(h:freshF tab L f args=some r):Enters P f:=by
 unfold freshF at h;split at h
 .rename_i n ac rv e;obtain⟨fn,c,h1,h2,h3,_⟩:=Qm ht e;exact Vd h1 h2 (by rw [h3];rfl)
 .exact nos h
variable {B:Base}
theorem ka5(ht:TabOk P tab)(hB:BaseOk P B)(hL:LvOk P L)(hz:L.z=B.z)(k:Nat):LvOk P (lvS tab B k L):=by
 have dcase:∀{f:Nat} {args:List AV} {r:AV},(lvS tab B k L).dat f args=some r->L.dat f args=some r∨B.dat f args=some r∨datFE tab L f args=some r:=by
  intro f args r h;have h:sel (Nat.ble (B.rk f) k) (L.dat f args) (@Option.rec AV (λ_=>Option AV) (datFE tab L f args) some (B.dat f args))=some r:=h;rw [Yj]at h;split at h
  .exact .inl h
  .cases e:B.dat f args with
   | none=>rw [e]at h;exact .inr (.inr h)
   | some x=>rw [e]at h;exact .inr (.inl h)
 have icase:∀{f:Nat} {args:List AV} {t:T} {r:AV×T},(lvS tab B k L).inl f args t=some r->B.inl f args t=some r∨inlE tab L f args t=some r:=by
  intro f args t r h;have h:@Option.rec (AV×T) (λ_=>Option (AV×T)) (inlE tab L f args t) some (B.inl f args t)=some r:=h;cases e:B.inl f args t with
  | none=>rw [e]at h;exact .inr h
  | some x=>rw [e]at h;exact .inl h
 have fcase:∀{f:Nat} {args:List AV} {r:List (List C)},(lvS tab B k L).fresh f args=some r->B.fresh f args=some r∨freshF tab L f args=some r:=by
  intro f args r h;have h:@Option.rec (List (List C)) (λ_=>Option (List (List C))) (freshF tab L f args) some (B.fresh f args)=some r:=h;cases e:B.fresh f args with
  | none=>rw [e]at h;exact .inr h
  | some x=>rw [e]at h;exact .inl h
 refine⟨λf args r h=>?_,λf args t r h=>?_,λf es args r h=>qaD ht h,λf args r h=>?_,λf=>?_,λf=>?_,Jah hL ht,λf=>?_⟩
 .rcases dcase h with h | h | h
  .exact hL.en f args r h
  .exact hB.en f args r h
  .exact WaC ht h
 .rcases icase h with h | h
  .exact hB.eni f args t _ h
  .exact zaS ht h
 .rcases fcase h with h | h
  .exact hB.enf f args r h
  .exact qay ht h
 .intro args vals w I K h1 h2 h3 ⟨r,h,hk⟩;rcases dcase h with h | h | h
  .exact hL.dat f args vals w I K h1 h2 h3 ⟨r,h,hk⟩
  .exact hB.dat f args vals w I K h1 h2 h3 ⟨r,h,hk⟩
  .exact way hL ht f args vals w I K h1 h2 h3 ⟨r,h,hk⟩
 .intro E args vals s a w m I d K hs hargs ⟨t,r,t',e,h,hk⟩;rcases icase h with h | h
  .exact hB.inl f E args vals s a w m I d K hs hargs ⟨t,r,t',e,h,hk⟩
  .exact qam hL ht f E args vals s a w m I d K hs hargs ⟨t,r,t',e,h,hk⟩
 .intro args vals w I K h1 h2 h3 ⟨r,h,hk⟩;rcases fcase h with h | h
  .exact hB.fresh f args vals w I K h1 h2 h3 ⟨r,h,hk⟩
  .have:=qV hL ht f args vals w I K h1 h2 h3 ⟨r,h,hk⟩;rw [hz]at this;exact this
theorem zab(ht:TabOk P tab)(hB:BaseOk P B):∀n,LvOk P (lvE tab B n)/\(lvE tab B n).z=B.z
 | 0=>⟨⟨hB.en,λ_ _ _ _ h=>nos h,λ_ _ _ _ h=>nos h,hB.enf,hB.dat,λf E args vals s a w m I d K hs hargs ⟨t,r,t',e,h,hk⟩=>nos h,
   λf E args vals w I m h d K hr hargs ⟨r,ver,es,z,rest,_,_,_,_,y,hy,hk⟩=>nos hy,hB.fresh⟩,rfl⟩
 | n+1=>⟨ka5 ht hB (zab ht hB n).1 (zab ht hB n).2 n,rfl⟩
end Go.Abs
end
section
namespace Go.Abs
variable {P:Program} {F:Fence}
def Wd(F:Fence):Prop:=F=Fence.wide∨∃l,F=Fence.wide.inRound l
theorem Wd.fn(h:Wd F)(f:FuncId):F.fn f:=by rcases h with rfl | ⟨l,rfl⟩ <;> trivial
theorem Wd.dep(h:Wd F){p:Prop}:F.depth.isSome=true->p:=by rcases h with rfl | ⟨l,rfl⟩ <;> exact λh=>Bool.noConfusion h
theorem Wd.calls(h:Wd F){n:Nat}{f:FuncId}{args:Array Value}{w:World}{R:Ending->World->Prop}(hc:Calls P f args w R):CallsIn F n P f args w R:=by
 rcases h with rfl | ⟨l,rfl⟩
 .exact callsIn_wide.2 hc
 .exact callsIn_wide.2 hc
theorem ZS{n:Nat}{row:String}{args:Array Value}{w:World}{R:Value->World->Prop}(hc:Rows P row args w R):RowsIn Fence.wide n P row args w R:=
 λc cs _=>let ⟨v,w',h1,h2⟩:=hc c cs;⟨v,w',h1,stepsIn_wide.2 h2⟩
theorem Wd.rows(h:Wd F){n:Nat}{row:String}{args:Array Value}{w:World}{R:Value->World->Prop}(hc:Rows P row args w R):RowsIn F n P row args w R:=by
 rcases h with rfl | ⟨l,rfl⟩
 .exact ZS hc
 .exact ZS hc
theorem YC(a:Act)(ds:List Deferred):(⟨a.tmps,ds⟩:Act).eval=a.eval:=funext λx=>by cases x <;> rfl
theorem Vk(a:Act)(ds:List Deferred)(d:Option Tmp)(v:Value):(⟨a.tmps,a.defers++ds⟩:Act).put d v=⟨(a.put d v).tmps,(a.put d v).defers++ds⟩:=by
 cases d <;> rfl
theorem Xbb(hF:Wd F){o:Oper}{a:Act}{w:World}{next next' : Act->World->Prop}{Q Q' : Exit->Act->World->Prop}(hd:∀c,o.op≠.defer c)(ds:List Deferred){n:Nat}
  (hQ:∀e a w,Q e a w->e=.normal) (hn:∀a' w',next a' w'->next' ⟨a'.tmps,a'.defers++ds⟩ w') (h:o.wp P a w next Q):o.wpIn F n P ⟨a.tmps,a.defers++ds⟩ w next' Q':=by
 refine⟨λf _=>hF.fn f,?_⟩;rw [Oper.semAt_eq _ _ _ hd,YC];unfold Oper.wp at h;generalize (execOp a.eval o).run P w=r at h ⊢;have hlo:LetsOut Q->False:=λ⟨a,w,hq⟩=>by have:=hQ _ _ _ hq;simp at this
 have hcall:∀{f:FuncId} {args:Array Value} {w' : World},o.upon P a next Q (.ok (.enter f args) w')->o.uponIn F n P ⟨a.tmps,a.defers++ds⟩ next' Q' (.ok (.enter f args) w'):=by
  intro f args w' h;rw [Oper.uponIn_enter];rw [Oper.upon_enter]at h;refine⟨hF.dep,(hF.calls h).mono λe w'' hr=>?_⟩;cases e with
  | returned v=>simp only at hr ⊢;rw [Vk];exact hn _ _ hr
  | panicked ch=>have:=hQ _ _ _ hr;simp at this
  | outgrown=>exact(hlo hr).elim
 cases r with
 | halt hh w'=>
  cases hh with
  | panic v=>have:=hQ _ _ _ (show Q (.panic [{ v,recovered:=false }]) a w' from h);simp at this
  | _=>exact(show False from h).elim
 | ok x w'=>
  cases x with
  | value v=>rw [Oper.uponIn_value,Vk];exact hn _ _ h
  | skip=>rw [Oper.uponIn_skip,Vk];exact hn _ _ h
  | defer d=>
   have h:next ({ a with defers:=d::a.defers }.put o.dst undef) w':=h
   rw [Oper.uponIn_defer];have:=Vk { a with defers:=d::a.defers } ds o.dst undef
   simp only [List.cons_append]at this;rw [this];exact hn _ _ h
  | enter f args=>exact hcall h
  | row row args=>
   rw [Oper.uponIn_row];rw [Oper.upon_row]at h;exact⟨hF.dep,(hF.rows h).mono λv w'' hr=>by rw [Vk];exact hn _ _ hr⟩
  | _=>exact(show False from h).elim
theorem xR(hF:Wd F){ops:Array Oper}{K:Act->World->Prop}{Q:Exit->Act->World->Prop}(ds:List Deferred){n:Nat}(hn:∀a' w',K a' w'->Q .normal ⟨a'.tmps,a'.defers++ds⟩ w') :
  ∀(L:List Nat),(∀i∈L,∀o,ops[i]?=some o->∀c,o.op≠.defer c)->∀(a:Act) (w:World),wpOps P ops (λe a w=>e=.normal/\K a w) L a w->wpOpsIn F n P ops Q L ⟨a.tmps,a.defers++ds⟩ w
 | [],_,a,w,h=>hn a w h.2
 | i::L,hL,a,w,h=>by
  have ih:=xR hF (Q:=Q) (n:=n) ds hn L λj hj=>hL j (List.mem_cons_of_mem _ hj);simp only [wpOps]at h;simp only [wpOpsIn];cases ho:ops[i]? with
  | none=>
   simp only [ho]at h;exact ih a w h
  | some o=>
   simp only [ho]at h;have hd:=hL i (List.mem_cons_self ..) o ho;by_cases hw:Region.wanted o (yielded ops a.tmps)=true
   .simp only [hw,if_true]at h;dsimp only;rw [if_pos hw];rcases h with h | ⟨_,a2,w2,h,_⟩
    .exact Xbb hF hd ds (λ_ _ _ h=>h.1) (λa' w' hk=>ih a' w' hk) h
    .simp at h
   .simp only [hw,if_false,Bool.false_eq_true]at h;dsimp only;rw [if_neg hw];refine⟨λf _=>hF.fn f,?_⟩;rw [Vk];exact ih _ _ h
theorem Yc{ops:Array Oper}{Q:Exit->Act->World->Prop}{n:Nat}:∀(L L' : List Nat) (a:Act) (w:World),wpOpsIn F n P ops (Exit.then (wpOpsIn F n P ops Q L') Q) L a w->wpOpsIn F n P ops Q (L++L') a w
 | [],L',a,w,h=>h
 | i::L,L',a,w,h=>by
  simp only [wpOpsIn,List.cons_append]at h ⊢;cases ho:ops[i]? with
  | none=>
   simp only [ho]at h;exact Yc L L' a w h
  | some o=>
   simp only [ho]at h ⊢;have mono:∀{o:Oper} {a:Act} {w:World},o.wpIn F n P a w (wpOpsIn F n P ops (Exit.then (wpOpsIn F n P ops Q L') Q) L) (Exit.then (wpOpsIn F n P ops Q L') Q)->o.wpIn F n P a w (wpOpsIn F n P ops Q (L++L')) Q:=by
    intro o a w ⟨h1,h2⟩;refine⟨h1,?_⟩;generalize (o.semAt F.round a.eval).run P w=r at h2 ⊢;have hlo:LetsOut (Exit.then (wpOpsIn F n P ops Q L') Q)->LetsOut Q:=λh=>h;cases r with
    | halt hh w'=>cases hh <;> exact h2
    | ok x w'=>
     cases x with
     | value v=>exact Yc L L' _ _ h2
     | skip=>exact Yc L L' _ _ h2
     | defer d=>exact Yc L L' _ _ h2
     | enter f args=>
      rw [Oper.uponIn_enter]at h2 ⊢;refine⟨h2.1,h2.2.mono λe w'' hr=>?_⟩;cases e with
      | returned v=>exact Yc L L' _ _ hr
      | panicked ch=>exact hr
      | outgrown=>exact hr
     | row row args=>
      rw [Oper.uponIn_row]at h2 ⊢;exact⟨h2.1,h2.2.mono λv w'' hr=>Yc L L' _ _ hr⟩
     | round l f tmps assign body=>
      rw [Oper.uponIn_round]at h2 ⊢;refine⟨h2.1,h2.2.mono λe w'' hr=>?_⟩;cases e with
      | returned v=>exact Yc L L' _ _ hr
      | panicked ch=>exact hr
      | outgrown=>exact hr
     | _=>exact h2
   by_cases hw:Region.wanted o (yielded ops a.tmps)=true
   .rw [if_pos hw]at h ⊢;exact mono h
   .rw [if_neg hw]at h ⊢;exact⟨h.1,Yc L L' _ _ h.2⟩
theorem qw{N id:Nat}{ops:Array Oper}{dr dr' : Bool}{l:List AO}(hc:compile P N (.region id ops dr)=some (.ops dr' l)) :
  dr' = dr/\∃l0,ops.toList.mapM (cAO P ops)=some l0/\(l=l0∨l=l0.map (claim l0)∨l=l0.map (claim2 l0)∨l=l0.map (claim3 l0)∨l=l0.map (claim4 l0)∨l=l0.map (claim5 l0)∨l=l0.map (claim6 l0))/\dstOk N l0=true/\(dr=true->orderOk ops l=true):=by
 simp only [compile,Option.bind_eq_bind,Option.bind_eq_some_iff]at hc;obtain⟨l0,hl0,hc⟩:=hc;have fin:∀{l1:List AO} {b:Bool},(pure (AC.ops dr l1):Option AC)=some (.ops dr' l)->(l1=l0∨l1=l0.map (claim l0)∨l1=l0.map (claim2 l0)∨l1=l0.map (claim3 l0)∨l1=l0.map (claim4 l0)∨l1=l0.map (claim5 l0)∨l1=l0.map (claim6 l0))->dstOk N l0=true->(dr=true->orderOkB b ops l1=true)->
   dr' = dr/\∃l0,ops.toList.mapM (cAO P ops)=some l0/\(l=l0∨l=l0.map (claim l0)∨l=l0.map (claim2 l0)∨l=l0.map (claim3 l0)∨l=l0.map (claim4 l0)∨l=l0.map (claim5 l0)∨l=l0.map (claim6 l0))/\dstOk N l0=true/\(dr=true->orderOk ops l=true):=by
  intro l1 b h h1 h2 h3;simp only [Option.pure_def,Option.some.injEq,AC.ops.injEq]at h;obtain⟨rfl,rfl⟩:=h;exact⟨rfl,l0,hl0,h1,h2,λhd=>Ue (h3 hd)⟩
 split at hc
 .simp at hc
 rename_i hdst;have hdst:dstOk N l0=true:=by simpa using hdst
 split at hc
 .rename_i hord;exact fin hc (.inr (.inr (.inr (.inr (.inl rfl))))) hdst (b:=false) λ_=>by simp only [Bool.and_eq_true]at hord;exact hord.2
 split at hc
 .rename_i hord;exact fin hc (.inr (.inr (.inr (.inr (.inr (.inr rfl)))))) hdst (b:=true) λ_=>by simp only [Bool.and_eq_true]at hord;exact hord.2
 split at hc
 .rename_i hord;exact fin hc (.inl rfl) hdst (b:=false) λhd=>by subst hd;simpa using hord
 split at hc
 .rename_i hord;exact fin hc (.inr (.inl rfl)) hdst (b:=false) λ_=>hord
 split at hc
 .rename_i hord;exact fin hc (.inr (.inr (.inl rfl))) hdst (b:=false) λ_=>hord
 split at hc
 .rename_i hord;exact fin hc (.inr (.inr (.inr (.inl rfl)))) hdst (b:=false) λ_=>hord
 split at hc
 .rename_i hord;exact fin hc (.inr (.inl rfl)) hdst (b:=true) λ_=>hord
 split at hc
 .rename_i hord;exact fin hc (.inr (.inr (.inr (.inr (.inr (.inl rfl)))))) hdst (b:=true) λ_=>hord
 .simp at hc
theorem Zt{N id:Nat}{ops:Array Oper}{dr dr' : Bool}{l:List AO}(hc:compile P N (.region id ops dr)=some (.ops dr' l)) :
  l.length=ops.size/\∀i,i<ops.size->∃o,ops[i]?=some o/\Does P ops o ((l[i]?).getD default)/\∀k,o.dst=some k->k<N:=by
 obtain⟨_,l0,hl0,hl,hdst,_⟩:=qw hc;obtain⟨hlen0,hget⟩:=uJ hl0;refine⟨by rcases hl with rfl | rfl | rfl | rfl | rfl | rfl | rfl <;> simp [hlen0],λi hi=>?_⟩
 obtain⟨ao,h1,h2⟩:=hget i ops[i] (by simp [hi])
 have hd0:=Was h2;refine⟨ops[i],by simp [hi],?_,λk hk=>?_⟩
 .rcases hl with rfl | rfl | rfl | rfl | rfl | rfl | rfl
  .rw [h1];exact hd0
  .rw [List.getElem?_map,h1];exact hd0.claim l0
  .rw [List.getElem?_map,h1];exact hd0.claim2 l0
  .rw [List.getElem?_map,h1];exact hd0.claim3 l0
  .rw [List.getElem?_map,h1];exact hd0.claim4 l0
  .rw [List.getElem?_map,h1];exact hd0.claim5 l0
  .rw [List.getElem?_map,h1];exact hd0.claim6 l0
 .unfold dstOk at hdst;simp only [List.all_eq_true]at hdst;have:=hdst ao (List.mem_of_getElem? h1);rw [hd0.d,hk]at this;simpa using this
theorem kR{l:List AO}{n:Nat}(h:l.length=n):(List.range n).map (λi=>(l[i]?).getD default)=l:=by
 apply List.ext_getElem
 .simp [h]
 .intro i h1 h2;simp [h2]
def isBad:AOp->Bool
 | .bad=>true
 | _=>false
theorem Does.plain{ops:Array Oper}{o:Oper}{ao:AO}(h:Does P ops o ao)(hb:isBad ao.o=false)(c:Call):o.op≠.defer c:=by
 intro e;rcases h.op with h | ⟨op,h,_⟩
 .rw [h]at hb;exact Bool.noConfusion hb
 .simp [cOp,e]at h
variable {Γ:Nat->Spec} {E:Env} {s:S} {a:Act} {w:World} {m:M} {I:Nat->Prop} {K:S->Prop}
theorem uaE(hΓ:Holds P Γ)(hF:Wd F){N id:Nat}(hN:E.N=N){ops:Array Oper}{dr:Bool}{l:List AO}(hc:compile P N (.region id ops dr)=some (.ops dr l))(hnb:l.all (λo=>!isBad o.o)=true)
  (h:Sim E s a w m I) (hk:wpL Γ dr K l s) (ds:List Deferred) {n:Nat} {Q:Exit->Act->World->Prop} (hq:∀s' a' w' m' I',K s'->Sim E s' a' w' m' I'->Q .normal ⟨a'.tmps,ds⟩ w') :
  (Code.region id ops dr).wpIn F n P Q ⟨a.tmps,ds⟩ w:=by
 obtain⟨hlen,hdoes⟩:=Zt hc;obtain⟨_,l0,hl0,hl,hdst,hord⟩:=qw hc;have hmap:=kR hlen;have hbad:∀i,i<ops.size->isBad ((l[i]?).getD default).o=false:=by
  intro i hi;have:l[i]?=some l[i]:=List.getElem?_eq_getElem (by omega)
  rw [this];simp only [List.all_eq_true]at hnb;have:=hnb l[i] (List.getElem_mem _);simpa using this
 have hnd:∀L:List Nat,(∀i∈L,i<ops.size)->∀i∈L,∀o,ops[i]?=some o->∀c,o.op≠.defer c:=by
  intro L hL i hi o ho c;obtain⟨o',h1,h2,_⟩:=hdoes i (hL i hi);rw [ho]at h1;cases h1
  exact h2.plain (hbad i (hL i hi)) c
 have hw:∀{L:List Nat} {l:List AO} {w:World},Stands P ops E.N L l->Sim E s a w m I->wpL Γ dr K l s->wpOps P ops (λe a' w'=>e=.normal/\∃s' m' I',K s'/\Sim E s' a' w' m' I') L a w:=
  λhl h hk=>JS hΓ hl (λs' a' w' m' I' hk hs=>⟨rfl,s',m',I',hk,hs⟩) h hk
 have e0:(⟨a.tmps,ds⟩:Act)=⟨a.tmps,a.defers++ds⟩:=by rw [h.dfr];rfl
 have fin:∀(a' : Act) (w' : World),(∃s' m' I',K s'/\Sim E s' a' w' m' I')->Q .normal ⟨a'.tmps,a'.defers++ds⟩ w':=by
  intro a' w' ⟨s',m',I',hk,hs⟩;rw [hs.dfr];exact hq s' a' w' m' I' hk hs
 cases dr with
 | false=>
  refine wpIn_region ?_;rw [e0];refine xR hF ds fin _ (hnd _ λi hi=>List.mem_range.1 hi) a w (hw (l:=l) ?_ h hk);have:=Vl (P:=P) (ops:=ops) (N:=E.N) (f:=λi=>(l[i]?).getD default) (List.range ops.size) λi hi=>by rw [hN];exact hdoes i (List.mem_range.1 hi)
  rw [hmap]at this;exact this
 | true=>
  refine wpIn_region_draw λt=>?_;obtain⟨g1,g2,g3⟩:=orders hlen (hord rfl) (P.follows .mixedOrders) t;rw [e0];refine xR hF ds fin _ (hnd _ λi hi=>List.mem_range.1 ((g2 i).2 hi)) a _ (hw (Vl (P:=P) (f:=λi=>(l[i]?).getD default) _ λi hi=>by rw [hN];exact hdoes i (List.mem_range.1 ((g2 i).2 hi))) (h.draw _) ?_)
  rw [<-hmap]at hk;exact reorder hΓ.goods _ _ _ g1 List.pairwise_lt_range g2 g3 hk
def noBad:AC->Bool
 | .ops _ l=>l.all λo=>!isBad o.o
 | .seq a b=>noBad a && noBad b
 | .cond _ a b=>noBad a && noBad b
 | .block _ a=>noBad a
 | .loop a=>noBad a
 | _=>true
def After(E:Env)(ds:List Deferred)(R:Exit->Act->World->Prop)(e:Ex)(t:T):Prop:=∀a' w',Sp E t.den a' w'->R (exOf e) ⟨a'.tmps,ds⟩ w'
theorem uu{L:Lv}(hL:LvOk P L)(hF:Wd F){N:Nat}:∀(n:Nat),
  (∀(ac:AC) (c:Code) (t:T) (e:Ex) (t' : T),compile P N c=some ac->okAC ac=true->noBad ac=true->codeE L n ac t=some (e,t')->∀(E:Env) (a:Act) (w:World) (ds:List Deferred) (k:Nat) (R:Exit->Act->World->Prop),E.N=N->Sp E t.den a w->After E ds R e t'->
   c.wpIn F k P R ⟨a.tmps,ds⟩ w)/\
  (∀(ac:AC) (c:Code) (t:T) (e:Ex) (t' : T),compile P N c=some ac->okAC ac=true->noBad ac=true->codeE L n (.loop ac) t=some (e,t')->∀(E:Env) (a:Act) (w:World) (ds:List Deferred) (k:Nat) (R:Exit->Act->World->Prop),E.N=N->Sp E t.den a w->After E ds R e t'->
   Code.roundsIn F k P c R n ⟨a.tmps,ds⟩ w):=by
 intro n
 induction n with
 | zero=>exact⟨λac c t e t' _ _ _ h=>nos h,λac c t e t' _ _ _ h=>nos h⟩
 | succ n ih=>
  obtain⟨ih1,ih2⟩:=ih;have seq:∀{x:Code} {a0:AC} {t:T} {g:T->Option (Ex×T)} {p:Ex×T},compile P N x=some a0->okAC a0=true->noBad a0=true->obind (codeE L n a0 t) (seqK g)=some p->
    ∀(E:Env) (a:Act) (w:World) (ds:List Deferred) (k:Nat) (R:Exit->Act->World->Prop) (M:Act->World->Prop),E.N=N->Sp E t.den a w->After E ds R p.1 p.2->(∀t1,g t1=some p->∀a' w',Sp E t1.den a' w'->M ⟨a'.tmps,ds⟩ w')->
    x.wpIn F k P (Exit.then M R) ⟨a.tmps,ds⟩ w:=by
   intro x a0 t g p hc hok hnb h E a w ds k R M hN hs hR hM;obtain⟨⟨e1,t1⟩,g1,g2⟩:=Qa h;refine ih1 a0 x t e1 t1 hc hok hnb g1 E a w ds k _ hN hs λa' w' hs'=>?_;cases e1 with
   | nrm=>exact hM t1 g2 a' w' hs'
   | exit i=>
    cases (show some ((Ex.exit i,t1):Ex×T)=some p from g2)
    exact hR a' w' hs'
   | ret=>
    cases (show some ((Ex.ret,t1):Ex×T)=some p from g2)
    exact hR a' w' hs'
  have loop:∀(ac:AC) (c:Code) (t:T) (e:Ex) (t' : T),compile P N c=some ac->okAC ac=true->noBad ac=true->codeE L (n+1) (.loop ac) t=some (e,t')->∀(E:Env) (a:Act) (w:World) (ds:List Deferred) (k:Nat) (R:Exit->Act->World->Prop),E.N=N->Sp E t.den a w->After E ds R e t'->
    Code.roundsIn F k P c R (n+1) ⟨a.tmps,ds⟩ w:=by
   intro ac c t e t' hc hok hnb h E a w ds k R hN hs hR;rw [roundsIn_succ];exact seq hc hok hnb (show obind (codeE L n ac t) (seqK (codeE L n (.loop ac)))=some (e,t') from h) E a w ds k R _ hN hs hR λt1 h1 a' w' hs'=>ih2 ac c t1 e t' hc hok hnb h1 E a' w' ds k R hN hs' hR
  refine⟨λac c t e t' hc hok hnb h E a w ds k R hN hs hR=>?_,loop⟩;cases c with
  | skip=>
   simp only [compile,Option.some.injEq]at hc;subst hc;cases (show some ((Ex.nrm,t):Ex×T)=some (e,t') from h)
   exact wpIn_skip (hR a w hs)
  | label l=>
   simp only [compile,Option.some.injEq]at hc;subst hc;cases (show some ((Ex.nrm,t):Ex×T)=some (e,t') from h)
   exact wpIn_label (hR a w hs)
  | ret=>
   simp only [compile,Option.some.injEq]at hc;subst hc;cases (show some ((Ex.ret,t):Ex×T)=some (e,t') from h)
   exact wpIn_ret (hR a w hs)
  | exit id=>
   simp only [compile,Option.some.injEq]at hc;subst hc;cases (show some ((Ex.exit id,t):Ex×T)=some (e,t') from h)
   exact wpIn_exit (hR a w hs)
  | region id ops dr=>
   have hc0:=hc;simp only [compile,Option.bind_eq_bind,Option.bind_eq_some_iff]at hc;obtain⟨l0,hl0,hc⟩:=hc;have:∃l,ac=.ops dr l:=by
    repeat (split at hc <;> first | (simp at hc;done) | (simp only [Option.pure_def,Option.some.injEq]at hc;exact⟨_,hc.symm⟩) | skip)
   obtain⟨l,rfl⟩:=this;simp only [okAC,List.all_eq_true]at hok;obtain⟨t1,h1,h2⟩:=Qh (show omap (λt=>((Ex.nrm,t):Ex×T)) (aosE L dr l (prep t l))=some (e,t') from h);cases h2
   have hsw:=yr t.h (mades l) t.n;obtain⟨m,I,hs1⟩:=hs.to (Vx _ hsw);rw [<-T.move_den t hsw]at hs1;exact uaE (K:=λs=>s=t'.den) (Yu hL dr l) hF hN hc0 hnb hs1 (yE hL l hok h1 rfl) ds λs' a' w' m' I' hk hs'=>by subst hk;exact hR a' w' (Zy hs')
  | seq x y=>
   simp only [compile,Option.bind_eq_bind,Option.bind_eq_some_iff,Option.pure_def,Option.some.injEq]at hc;obtain⟨a0,ha,b,hb,rfl⟩:=hc;simp only [okAC,noBad,Bool.and_eq_true]at hok hnb;refine wpIn_seq ?_;exact seq ha hok.1 hnb.1 (show obind (codeE L n a0 t) (seqK (codeE L n b))=some (e,t') from h) E a w ds k R _ hN hs hR λt1 h1 a' w' hs'=>ih1 b y t1 e t' hb hok.2 hnb.2 h1 E a' w' ds k R hN hs' hR
  | cond c0 x y=>
   simp only [compile,Option.bind_eq_bind,Option.bind_eq_some_iff,Option.pure_def,Option.some.injEq]at hc;obtain⟨c1,hc1,a0,ha,b,hb,rfl⟩:=hc;simp only [okAC,noBad,Bool.and_eq_true]at hok hnb;obtain⟨v,h1,h2⟩:=Qa (show obind (lbE (t.ev c1)) (λw=>sel w (codeE L n a0 t) (codeE L n b t))=some (e,t') from h);have h1:=qao h1;rw [T.ev_den]at h1;obtain⟨m,I,hs1⟩:=hs.sim;have hv:=hs1.ev hc1;rw [h1]at hv;refine wpIn_cond_split (t:=v) (by rw [YC];exact hv.lit_inv.1) (λev=>?_) (λev=>?_)
   .subst ev;exact ih1 a0 x t e t' ha hok.1 hnb.1 h2 E a w ds k R hN hs hR
   .subst ev;exact ih1 b y t e t' hb hok.2 hnb.2 h2 E a w ds k R hN hs hR
  | block id x=>
   simp only [compile,Option.map_eq_some_iff]at hc;obtain⟨a0,ha,rfl⟩:=hc;obtain⟨⟨e1,t1⟩,h1,h2⟩:=Qa (show obind (codeE L n a0 t) (blkK id)=some (e,t') from h);refine wpIn_block (ih1 a0 x t e1 t1 ha hok hnb h1 E a w ds k _ hN hs λa' w' hs'=>?_);cases e1 with
   | nrm=>
    cases (show some ((Ex.nrm,t1):Ex×T)=some (e,t') from h2)
    exact hR a' w' hs'
   | ret=>
    cases (show some ((Ex.ret,t1):Ex×T)=some (e,t') from h2)
    exact hR a' w' hs'
   | exit i=>
    have h2:sel (Nat.beq i id) (some ((Ex.nrm,t1):Ex×T)) (some (.exit i,t1))=some (e,t'):=h2;simp only [exOf,Exit.inBlock];rw [Yj]at h2;split at h2
    .rename_i hb;cases h2
     rw [if_pos (beq_eq hb)];exact hR a' w' hs'
    .rename_i hb;cases h2
     rw [if_neg (λe=>hb (by rw [e];exact Nat.beq_refl _))]
     exact hR a' w' hs'
  | loop x=>
   simp only [compile,Option.map_eq_some_iff]at hc;obtain⟨a0,ha,rfl⟩:=hc;exact wpIn_loop_rounds (n+1) (loop a0 x t e t' ha hok hnb h E a w ds k R hN hs hR)
  | _=>simp [compile]at hc
end Go.Abs
end
section
namespace Go.Abs
variable {P:Program} {E E' : Env} {s:S} {a:Act} {w w' : World} {m:M} {I:Nat->Prop} {h:Nat->HB}
theorem HR.turn(hr:HR E m I w h)(hN:E'.N<=pinA)(h0:E'.I0=E.I0)(h1:E'.Ow=E.Ow)(h2:E'.F=E.F)(hs:E'.w0.heap.size=E.w0.heap.size)(hsz:w.heap.size<=w'.heap.size)(hI:∀b,I b->w'.heap[b]?=w.heap[b]?)(hM:∀r k z,m.blk r=some (k,z)->w'.heap[k]?=w.heap[k]?)
  (hk:∀b,b<E.w0.heap.size->¬E.Ow b->w'.heap[b]?=E'.w0.heap[b]?) (hb:∀k,bsize E'.w0.heap k=bsize E.w0.heap k) (ho:w'.os=E'.w0.os) (ht:w'.tape=E'.w0.tape) (hout:w'.output=E'.w0.output) :
  HR E' m I w' h/\Ext m I w.heap m I w'.heap:=by
 have hx:Ext m I w.heap m I w'.heap:=⟨λr=>.inl ⟨rfl,rfl,λb z hbz=>by simp only [bsize,hM r b z hbz]⟩,λ_ hb=>hb,hI⟩
 refine⟨⟨hr.ver,λr b hb=>?_,hr.inj,λr k z hm=>Nat.lt_of_lt_of_le (hr.lt r k z hm) hsz,λb hb=>Nat.lt_of_lt_of_le (hr.imb b hb) hsz,by rw [hs];exact Nat.le_trans hr.grow hsz,λb hb ho=>?_,λb hb=>?_,λb hb=>hr.sup b (by rw [<-h0];exact hb),
  λb hb=>?_,λr b k z hb hm=>?_,hN,λr b hp hb'=>?_,ho,ht,hout⟩,hx⟩
 .have q:=hr.blk r b hb;refine⟨q.sz,q.virt,λk z hm=>?_⟩;obtain⟨q1,q2,q3,arr,ty,q4,q5⟩:=q.real k z hm;exact⟨q1,q2,q3,arr,ty,(hM r k z hm).trans q4,λi j e c he hc=>let ⟨v,t1,t2⟩:=q5 i j e c he hc;⟨v,t1,t2.ext hx⟩⟩
 .rw [hs]at hb;rw [h1]at ho;exact hk b hb ho
 .rw [h0,hs,h1];exact hr.imm b hb
 .rw [hs,h1];exact hr.i0 b (by rw [<-h0];exact hb)
 .rw [hs,h1];exact hr.liv r b k z hb hm
 .obtain⟨q1,q2⟩:=hr.fx r b hp hb';rw [h2];refine⟨q1,λk z hF=>?_⟩;rw [hb k,<-q2 k z hF];simp only [bsize,hM r k z (by rw [q1];exact hF)]
theorem Sim.turn(hs:Sim E s a w m I)(hEN:E'.N=E.N)(hEX:E'.X=E.X)(hr:HR E' m I w' s.h/\Ext m I w.heap m I w'.heap):Sim E' s a w' m I:=
 ⟨hs.dfr,hs.siz.trans hEN.symm,λt=>by
  have:E'.val a t=E.val a t:=by simp only [Env.val,hEX]
  rw [this];exact(hs.slot t).ext hr.2,hr.1⟩
theorem Sim.more(hs:Sim E s a w m I)(hsz:w.heap.size<=w'.heap.size)(he:∀b,b<w.heap.size->w'.heap[b]?=w.heap[b]?)(ho:w'.os=w.os)(ht:w'.tape=w.tape)(hout:w'.output=w.output):Sim E s a w' m I:=
 hs.turn rfl rfl (hs.heap.turn hs.heap.np rfl rfl rfl rfl hsz (λb hb=>he b (hs.heap.imb b hb)) (λr k z hm=>he k (hs.heap.lt r k z hm)) (λb hb h=>(he b (Nat.lt_of_lt_of_le hb hs.heap.grow)).trans (hs.heap.keep b hb h)) (λ_=>rfl) (ho.trans hs.heap.os) (ht.trans hs.heap.tape) (hout.trans hs.heap.out))
def Env.root(E:Env)(w:World)(m:M)(I:Nat->Prop)(h:Nat->HB):Env:=
 ⟨w,λb=>I b/\¬∃r x z,(h r).blk=some x/\m.blk r=some (b,z),λk=>∃r x z,(h r).blk=some x/\m.blk r=some (k,z),E.N,E.F,E.X⟩
theorem Sim.root(hs:Sim E s a w m I):Sim (E.root w m I s.h) s a w m I:=by
 have hr:=hs.heap;exact⟨hs.dfr,hs.siz,hs.slot,hr.ver,hr.blk,hr.inj,hr.lt,hr.imb,Nat.le_refl _,λb _ _=>rfl,λb hb=>(Classical.em (∃r x z,(s.h r).blk=some x/\m.blk r=some (b,z))).elim (λh=>.inr (.inr h)) (λh=>.inl ⟨hb,h⟩),λb hb=>hb.1,
  λb hb=>⟨hr.imb b hb.1,hb.2⟩,λr b k z hb hm=>.inr ⟨r,b,z,hb,hm⟩,hr.np,λr b hp hb=>⟨(hr.fx r b hp hb).1,λ_ _ _=>rfl⟩,rfl,rfl,rfl⟩
theorem HR.unroot(h0:HR E m I w h){E2:Env}{w1:World}{m' : M}{I' : Nat->Prop}{h' : Nat->HB}(hE:E2.I0=(E.root w1 m I h).I0/\E2.Ow=(E.root w1 m I h).Ow/\E2.F=E.F)(hsz:w.heap.size<=E2.w0.heap.size)(he:∀b,b<w.heap.size->E2.w0.heap[b]?=w.heap[b]?)
  (ho:E2.w0.os=w.os) (ht:E2.w0.tape=w.tape) (hout:E2.w0.output=w.output) (hr:HR E2 m' I' w' h') (hpin:∀r,pinA<=r->(h' r).blk=none):HR E m' I' w' h':=by
 obtain⟨e1,e2,e3⟩:=hE;have liv:∀b,E2.Ow b->E.w0.heap.size<=b∨E.Ow b:=λb hb=>by
  rw [e2]at hb;obtain⟨r,x,z,g1,g2⟩:=hb;exact h0.liv r x b z g1 g2
 have hg:E.w0.heap.size<=E2.w0.heap.size:=Nat.le_trans h0.grow hsz;refine⟨hr.ver,hr.blk,hr.inj,hr.lt,hr.imb,Nat.le_trans hg hr.grow,λb hb hno=>?_,λb hb=>?_,λb hb=>?_,h0.i0,λr b k z hb hm=>?_,h0.np,λr b hp hb=>?_,?_,?_,?_⟩
 .have hno2:¬E2.Ow b:=λh=>by
   rcases liv b h with h | h
   .omega
   .exact hno h
  have hbw:b<w.heap.size:=Nat.lt_of_lt_of_le hb h0.grow;rw [hr.keep b (Nat.lt_of_lt_of_le hb hg) hno2,he b hbw];exact h0.keep b hb hno
 .rcases hr.imm b hb with h | h | h
  .rw [e1]at h;exact h0.imm b h.1
  .exact .inr (.inl (Nat.le_trans hg h))
  .exact .inr (liv b h)
 .refine hr.sup b ?_;rw [e1];refine⟨h0.sup b hb,λ⟨r,x,z,g1,g2⟩=>?_⟩;obtain⟨q1,q2⟩:=h0.i0 b hb;rcases h0.liv r x b z g1 g2 with h | h
  .omega
  .exact q2 h
 .rcases hr.liv r b k z hb hm with h | h
  .exact .inl (Nat.le_trans hg h)
  .exact liv k h
 .rw [hpin r hp]at hb;simp at hb
 .rw [hr.os,ho,h0.os]
 .rw [hr.tape,ht,h0.tape]
 .rw [hr.out,hout,h0.out]
structure Free (E:Env) (l:Nat) (o:Obj):Prop where
 lt:E.w0.heap[l]?=some o
 ow:¬E.Ow l
 i0:¬E.I0 l
 no:bsize E.w0.heap l=0
theorem Free.at{l:Nat}{o:Obj}(hf:Free E l o)(hr:HR E m I w h):w.heap[l]?=some o:=by
 have:=hf.lt;rw [hr.keep l (Array.getElem?_eq_some_iff.1 this).1 hf.ow];exact this
theorem YE{w:World}{l:Nat}{o o' : Obj}(hl:w.heap[l]?=some o)(h0:bsize w.heap l=0)(h1:∀arr ty fz,o'≠.cells arr ty fz)(k:Nat):bsize (w.putObj l o').heap k=bsize w.heap k:=by
 by_cases e:k=l
 .subst e;rw [h0];simp only [bsize,World.putObj_heap_same (Array.getElem?_eq_some_iff.1 hl).1];cases o' <;> simp_all
 .simp only [bsize,World.putObj_heap_other e]
theorem Sim.putO(hs:Sim E s a w m I){l:Nat}{o o' : Obj}(hf:Free E l o)(h1:∀arr ty fz,o'≠.cells arr ty fz):Sim { E with w0:=E.w0.putObj l o' } s a (w.putObj l o') m I:=by
 have hr:=hs.heap;have hlt:=(Array.getElem?_eq_some_iff.1 hf.lt).1;have hni:¬I l:=λh=>by
  rcases hr.imm l h with h | h | h
  .exact hf.i0 h
  .omega
  .exact hf.ow h
 have hnm:∀r k z,m.blk r=some (k,z)->(s.h r).blk≠none->k≠l:=by
  intro r k z hm hb e;subst e;cases hx:(s.h r).blk with
  | none=>exact hb hx
  | some x=>
   rcases hr.liv r x k z hx hm with h | h
   .omega
   .exact hf.ow h
 have hx:Ext m I w.heap m I (w.putObj l o').heap:=by
  refine⟨λr=>.inl ⟨rfl,rfl,λb z hm=>?_⟩,λ_ h=>h,λb hb=>World.putObj_heap_other λe=>hni (e▸hb)⟩;by_cases e:b=l
  .subst e;have hz:bsize w.heap b=0:=by
    have e2:=hf.at hr;have e3:=hf.lt;have:=hf.no;simp only [bsize,e2,e3]at this ⊢;exact this
   exact YE (hf.at hr) hz h1 b
  .simp only [bsize,World.putObj_heap_other e]
 refine⟨hs.dfr,hs.siz,λt=>(hs.slot t).ext hx,hr.ver,λr b hb=>?_,hr.inj,λr k z hm=>by rw [World.putObj_size];exact hr.lt r k z hm,λb hb=>by rw [World.putObj_size];exact hr.imb b hb,by rw [World.putObj_size,World.putObj_size];exact hr.grow,
  λb hb ho=>?_,λb hb=>by rw [World.putObj_size];exact hr.imm b hb,hr.sup,λb hb=>by rw [World.putObj_size];exact hr.i0 b hb,λr b k z hb hm=>by rw [World.putObj_size];exact hr.liv r b k z hb hm,hr.np,λr b hp hb=>?_,hr.os,hr.tape,hr.out⟩
 .have q:=hr.blk r b hb;refine⟨q.sz,q.virt,λk z hm=>?_⟩;obtain⟨q1,q2,q3,arr,ty,q4,q5⟩:=q.real k z hm;have hne:k≠l:=hnm r k z hm (by rw [hb];simp)
  exact⟨q1,q2,q3,arr,ty,by rw [World.putObj_heap_other hne];exact q4,λi j e c he hc=>let ⟨v,t1,t2⟩:=q5 i j e c he hc;⟨v,t1,t2.ext hx⟩⟩
 .rw [World.putObj_size]at hb;by_cases e:b=l
  .subst e;rw [World.putObj_heap_same hlt,World.putObj_heap_same (Nat.lt_of_lt_of_le hlt hr.grow)]
  .rw [World.putObj_heap_other e,World.putObj_heap_other e];exact hr.keep b hb ho
 .obtain⟨q1,q2⟩:=hr.fx r b hp hb;refine⟨q1,λk z hF=>?_⟩;have hm:m.blk r=some (k,z):=by rw [q1];exact hF
  have hne:k≠l:=hnm r k z hm (by rw [hb];simp)
  have:=q2 k z hF;simp only [bsize,World.putObj_heap_other hne]at this ⊢;exact this
theorem Free.putSame{l:Nat}{o o' : Obj}(hf:Free E l o)(h1:∀arr ty fz,o'≠.cells arr ty fz):Free { E with w0:=E.w0.putObj l o' } l o':=
 ⟨World.putObj_heap_same (Array.getElem?_eq_some_iff.1 hf.lt).1,hf.ow,hf.i0,by rw [YE hf.lt hf.no h1];exact hf.no⟩
theorem Free.putOther{l k:Nat}{o o' o2:Obj}(hf:Free E k o2)(hl:Free E l o)(hne:k≠l)(h1:∀arr ty fz,o'≠.cells arr ty fz):Free { E with w0:=E.w0.putObj l o' } k o2:=
 ⟨by rw [World.putObj_heap_other hne];exact hf.lt,hf.ow,hf.i0,by rw [YE hl.lt hl.no h1];exact hf.no⟩
theorem pin256:256<=pinA:=by decide
attribute [local irreducible] pinA
def Env.up(E:Env)(a:Act)(n:Nat):Env:=⟨E.w0,E.I0,E.Ow,n,E.F,λt=>E.val a (t-pinA)⟩
def Env.dn(E:Env)(E0:Env):Env:=⟨E.w0,E.I0,E.Ow,E0.N,E.F,E0.X⟩
theorem US{t:T}{args:List AV}{vals:List Value}{n:Nat}(hs:Sim E t.den a w m I)(hargs:RAs m I w.heap args vals)(hlen:args.length<=n)(hn:n<=256) :
  Sim (E.up a n) (T.mk (argT args 0 .e) (t.v::t.x) t.h t.n).den { tmps:=(⟨vals⟩:Array Value)++Array.replicate (n-(⟨vals⟩:Array Value).size) undef,defers:=[] } w m I:=by
 have hlv:args.length=vals.length:=hargs.1;refine⟨rfl,?_,λk=>?_,hs.heap.env rfl rfl rfl rfl (Nat.le_trans hn pin256)⟩
 .show Array.size _=n;have hl2:vals.length<=n:=by rw [<-hlv];exact hlen
  rw [Array.size_append,Array.size_replicate];show vals.length+(n-vals.length)=n;exact Nat.add_sub_cancel' hl2
 .show RA m I w.heap (farV (argT args 0 .e::t.v::t.x) k) _;rw [Je];have hp:=pin256;by_cases hk:k<256
  .rw [if_pos hk,vV (by omega) hk]
   have q:=xh (n:=n-(⟨vals⟩:Array Value).size) hargs k;rw [Env.val,if_pos (Nat.lt_of_lt_of_le hk hp)];exact q
  .rw [if_neg hk];by_cases hk3:pinA<=k
   .rw [if_pos hk3,Env.val,if_neg (by omega)]
    exact hs.slot (k-pinA)
   .rw [if_neg hk3];exact .any _
theorem zE{E0:Env}{t:T}{a' : Act}{v:Tr}{x:List Tr}(hX:E.X=λt=>E0.val a (t-pinA))(hs:Sim E t.den a' w m I)(hx:t.x=v::x)(hd:a.defers=[])(hz:a.tmps.size=E0.N)(hp:E0.N<=pinA) :
  Sim (E.dn E0) (T.mk v x t.h t.n).den a w m I:=by
 refine⟨hd,hz,λk=>?_,hs.heap.env rfl rfl rfl rfl hp⟩;have q:=hs.slot (k+pinA);have e1:t.den.v (k+pinA)=(T.mk v x t.h t.n).den.v k:=by
  show farV (t.v::t.x) (k+pinA)=farV (v::x) k;rw [yW,hx]
 have e2:E.val a' (k+pinA)=(E.dn E0).val a k:=by
  rw [Env.val,if_neg (by omega),hX]
  show E0.val a (k+pinA-pinA)=_;rw [Nat.add_sub_cancel];rfl
 rw [e1,e2]at q;exact q
theorem uaz{E0:Env}{t:T}{a' : Act}{v:Tr}{x:List Tr}(hX:E.X=λt=>E0.val a (t-pinA))(hs:Sim E t.den a' w m I)(hx:t.x=v::x)(hz:a.tmps.size=E0.N)(hp:E0.N<=pinA) :
  Sim (E.up a' E0.N) (T.mk v (t.v::t.x) t.h t.n).den { tmps:=a.tmps,defers:=[] } w m I:=by
 refine⟨rfl,hz,λk=>?_,hs.heap.env rfl rfl rfl rfl hp⟩;show RA m I w.heap (farV (v::t.v::t.x) k) _;rw [Je];have hp:=pin256;by_cases hk:k<256
 .rw [if_pos hk,Env.val,if_pos (Nat.lt_of_lt_of_le hk hp)];have q:=hs.slot (k+pinA);have e1:t.den.v (k+pinA)=v.get k:=by
   show farV (t.v::t.x) (k+pinA)=_;rw [yW,hx,Je,if_pos hk]
  rw [e1,Env.val,if_neg (by omega),hX]at q
  have e3:E0.val a (k+pinA-pinA)=a.tmps.getD k undef:=by
   rw [Nat.add_sub_cancel,Env.val,if_pos (Nat.lt_of_lt_of_le hk hp)]
  simp only [e3]at q;exact q
 .rw [if_neg hk];by_cases hk3:pinA<=k
  .rw [if_pos hk3,Env.val,if_neg (by omega)]
   exact hs.slot (k-pinA)
  .rw [if_neg hk3];exact .any _
end Go.Abs
end
section
namespace Go.Abs
variable {P:Program} {E:Env} {s:S} {a:Act} {w:World} {m:M} {I:Nat->Prop}
theorem Uas{o:Oper}{f' : Opd}{l' : List Opd}(h:cOp P o=some (.callv f' l')):∃c f,o.op=.call c/\c.callee=.value f/\cOpd f=some f'/\cOpds c.args.toList=some l':=by
 cases ho:o.op with
 | call c=>
  cases hc:c.callee with
  | value f=>
   cases f with
   | func g=>
    simp only [cOp,ho,hc,Option.bind_eq_bind,Option.bind_eq_some_iff]at h;obtain⟨fn,_,h⟩:=h;repeat' (first | contradiction | (simp [Option.bind_eq_some_iff,Option.map_eq_some_iff]at h;done) | split at h)
   | _=>
    simp only [cOp,ho,hc,Option.bind_eq_bind,Option.bind_eq_some_iff,Option.pure_def,Option.some.injEq,AOp.callv.injEq]at h;obtain⟨x,h1,y,h2,rfl,rfl⟩:=h;exact⟨c,_,rfl,hc,h1,h2⟩
  | builtin b=>
   cases b <;> simp only [cOp,ho,hc]at h <;> (repeat' (first | contradiction | (simp [Option.bind_eq_some_iff,Option.map_eq_some_iff]at h;done) | split at h))
  | _=>
   simp only [cOp,ho,hc]at h;repeat' (first | contradiction | (simp [Option.bind_eq_some_iff,Option.map_eq_some_iff]at h;done) | split at h)
 | _=>
  simp only [cOp,ho]at h;repeat' (first | contradiction | (simp [Option.bind_eq_some_iff,Option.map_eq_some_iff]at h;done) | split at h)
attribute [local irreducible] pinA
theorem kV{op:AOp}{f:Opd}{l:List Opd}(h:plainOp (.callv f l)=plainOp op):op=.callv f l:=by
 cases op <;> simp_all [plainOp]
def recB(r:Loop):Loop:={ r with state:=.busy }
def recD(r:Loop):Loop:={ recB r with state:=.done,pending:=some .ret }
def Env.done(E:Env)(l:Nat)(r:Loop):Env:={ E with w0:=(E.w0.putObj l (.loop (recB r))).putObj l (.loop (recD r)) }
theorem ji(r:Loop):∀arr ty fz,Obj.loop r≠.cells arr ty fz:=λ_ _ _ h=>by cases h
theorem Free.done{l:Nat}{r:Loop}(h:Free E l (.loop r)):Free (E.done l r) l (.loop (recD r)):=Free.putSame (E:={ E with w0:=E.w0.putObj l (.loop (recB r)) }) (h.putSame (ji _)) (ji _)
theorem Free.done_other{l k:Nat}{r:Loop}{o:Obj}(h:Free E l (.loop r))(hk:Free E k o)(hne:k≠l):Free (E.done l r) k o:=
 Free.putOther (E:={ E with w0:=E.w0.putObj l (.loop (recB r)) }) (hk.putOther h hne (ji _)) (h.putSame (ji _)) hne (ji _)
structure Rnd (P:Program) (N p1 p2:Nat) (cA:Code) (aA:AC):Prop where
 cA:compile P N cA=some aA
 okA:okAC aA=true
 nbA:noBad aA=true
 p1:p1<N
 p2:p2<N
 N:N<=256
def Walks(F:Fence)(P:Program)(N:Nat)(c:Code)(t:T)(e:Ex)(t' : T):Prop:=
 ∀(E:Env) (a:Act) (w:World) (k:Nat) (R:Exit->Act->World->Prop),E.N=N->Sp E t.den a w->(∀a' w',Sp E t'.den a' w'->R (exOf e) a' w')->c.wpIn F k P R a w
theorem Yw{a:Act}(h:a.defers=[]):a=⟨a.tmps,[]⟩:=by cases a;simp only at h;rw [h]
theorem yaD{L:Lv}(hL:LvOk P L){n k l d j p q:Nat}{E2 E0:Env}{aP aI:Act}{t t2 t3:T}{v v4:Tr}{x x4:List Tr}{g:Option (Nat×Bool)}{r:Loop}{p1 p2:Nat}{aA:AC}{ops:Array Oper}{o:Oper}{next:Act->World->Prop}{Q:Exit->Act->World->Prop}
  (hX:E2.X=λt=>E0.val aP (t-pinA)) (hz:aP.tmps.size=E0.N) (hR:Rnd P E0.N p1 p2 r.assign aA) (hrt:r.tmps=aP.tmps) (hrs:r.state=.ready) (hrp:r.params = #[p1,p2])
  (hs:Sim E2 t.den aI w m I) (hx:t.x=v::x) (hf:Free E2 l (.loop r)) (hdo:Does P ops o ⟨some d,g,.callv (.t j) [.t p,.t q]⟩) (hd:d<E2.N) (hd2:d<256)
  (hj:t.get j=.one (.lit (.func (.yield l) #[] #[])))
  (hA:codeE L n aA (((T.mk v (t.v::t.x) t.h t.n).put (some p1) (t.get p)).put (some p2) (t.get q))=some (.nrm,t2)) (hB:Walks (Fence.wide.inRound l) P E0.N r.body t2 .ret t3) (hx3:t3.x=v4::x4)
  (hK:∀w' m' I',Sim (E2.done l r) ((T.mk v4 x4 t3.h t3.n).put (some d) (.one (.lit (.bool false)))).den (aI.put (some d) (.bool false)) w' m' I'->next (aI.put (some d) (.bool false)) w') :
  o.wpIn Fence.wide k P aI w next Q:=by
 have hdst:o.dst=some d:=hdo.d.symm;obtain⟨op,hop,hpl⟩:=hdo.op.resolve_left (by simp)
 have:=kV hpl;subst this;obtain⟨c,f,hoc,hcal,hf',hl'⟩:=Uas hop;have hv:=hs.ev hf';rw [show t.den.ev (.t j)=.one (.lit (.func (.yield l) #[] #[])) by rw [<-T.ev_den];exact hj]at hv
 have hv:=hv.lit_inv.1;have hargs:=Jx hs _ _ hl';have hlen:c.args.size=2:=by
  have:=hargs.1;simpa using this.symm
 obtain⟨y1,y2,hys⟩:∃y1 y2,c.args.map aI.eval = #[y1,y2]:=by
  have h2:(c.args.map aI.eval).size=2:=by simp [hlen]
  refine⟨(c.args.map aI.eval)[0],(c.args.map aI.eval)[1],?_⟩;apply Array.ext
  .simp [hlen]
  .intro i h3 h4;have:i=0∨i=1:=by omega
   rcases this with rfl | rfl <;> rfl
 have hyl:c.args.toList.map aI.eval=[y1,y2]:=by
  have:=congrArg Array.toList hys;simpa using this
 rw [hyl]at hargs;have ha1:RA m I w.heap (t.get p) y1:=by
  have:=hargs.2 0 _ _ rfl rfl;rw [T.get_den];exact this
 have ha2:RA m I w.heap (t.get q) y2:=by
  have:=hargs.2 1 _ _ rfl rfl;rw [T.get_den];exact this
 have hrec:=hf.at hs.heap;refine⟨λ_ _=>trivial,?_⟩;have hrun:(o.semAt Fence.wide.round aI.eval).run P w=.ok (.round l r.fn (((aP.tmps).setIfInBounds p1 y1).setIfInBounds p2 y2) r.assign r.body) w:=by
  have hy:=run_yield (P:=P) (args:=#[y1,y2]) hrec (by rw [hrp];rfl)
  rw [hrp,hrt]at hy;show(execOp aI.eval o).run P w=_;simp only [execOp,hoc,resolve,hcal,hv,Deferred.ofValue,invoke,Sem.run_bind,Sem.run_pure,Result.andThen];simp [hys];simp at hy;exact hy
 rw [hrun,Oper.uponIn_round];refine⟨λh=>(by cases h),?_⟩
 refine roundIn_of_wpIn trivial ?_;have hW:Wd (Fence.wide.inRound l):=.inr ⟨l,rfl⟩;have hs0:=uaz hX hs hx hz (Nat.le_trans hR.N pin256);have hlow:∀{p1:Nat},p1<E0.N->∀k,some p1=some k->k<256:=λh k e=>by cases e;exact Nat.lt_of_lt_of_le h hR.N
 have hs1:=(hs0.put (d:=some p1) ha1 (λk e=>by cases e;exact hR.p1)).put (d:=some p2) ha2 (λk e=>by cases e;exact hR.p2)
 rw [<-T.put_den _ (hlow hR.p1),<-T.put_den _ (hlow hR.p2)]at hs1;refine(uu hL hW n).1 aA r.assign _ .nrm t2 hR.cA hR.okA hR.nbA hA (E2.up aI E0.N) ⟨(aP.tmps.setIfInBounds p1 y1).setIfInBounds p2 y2,[]⟩ w [] (k-1) _ rfl (Zy hs1) λa' w1 hs2=>?_;obtain⟨m2,I2,hs2⟩:=hs2.sim;have hfu:Free (E2.up aI E0.N) l (.loop r):=⟨hf.lt,hf.ow,hf.i0,hf.no⟩;refine⟨_,run_beginRound (hfu.at hs2.heap) hrs,?_⟩;have hs3:=hs2.putO hfu (ji (recB r));have hfb:=hfu.putSame (ji (recB r));rw [<-Yw hs3.dfr];refine hB { E2.up aI E0.N with w0:=(E2.up aI E0.N).w0.putObj l (.loop (recB r)) } a' _ (k-1) _ rfl (Zy hs3) λa'' w2 hs4=>?_
 obtain⟨m4,I4,hs4⟩:=hs4.sim;refine⟨_,_,run_endRound (some .ret) (hfb.at hs4.heap),?_⟩;have hs5:=hs4.putO hfb (ji (recD r));have hs6:=zE (a:=aI) (E0:=E2) rfl hs5 hx3 hs.dfr hs.siz hs.heap.np;have hs7:=hs6.put (d:=some d) (v:=.bool false) (.one _ _ (.lit _ rfl)) (λk e=>by cases e;exact hd)
 rw [<-T.put_den _ (λk e=>by cases e;exact hd2)]at hs7
 show next (aI.put o.dst (.bool false)) _
 rw [hdst];exact hK _ _ _ hs7
end Go.Abs
end
section
namespace Go.Abs
variable {P:Program} {E:Env} {s:S} {a:Act} {w:World} {m:M} {I:Nat->Prop}
attribute [local irreducible] pinA
theorem vL{N id:Nat}{ops:Array Oper}{dr:Bool}{ac:AC}(hc:compile P N (.region id ops dr)=some ac):∃l,ac=.ops dr l:=by
 simp only [compile,Option.bind_eq_bind,Option.bind_eq_some_iff]at hc;obtain⟨l0,hl0,hc⟩:=hc;repeat (split at hc <;> first | (simp at hc;done) | (simp only [Option.pure_def,Option.some.injEq]at hc;exact⟨_,hc.symm⟩) | skip)
theorem qn{N:Nat}{c:Code}{x y:AC}(h:compile P N c=some (.seq x y)):∃c1 c2,c=.seq c1 c2/\compile P N c1=some x/\compile P N c2=some y:=by
 cases c with
 | seq c1 c2=>
  simp only [compile,Option.bind_eq_bind,Option.bind_eq_some_iff,Option.pure_def,Option.some.injEq,AC.seq.injEq]at h;obtain⟨a,ha,b,hb,rfl,rfl⟩:=h;exact⟨c1,c2,rfl,ha,hb⟩
 | region id ops dr=>obtain⟨l,hl⟩:=vL h;simp at hl
 | _=>simp [compile,Option.bind_eq_some_iff]at h
theorem uq{N id:Nat}{c:Code}{x:AC}(h:compile P N c=some (.block id x)):∃c1,c=.block id c1/\compile P N c1=some x:=by
 cases c with
 | block id' c1=>
  simp only [compile,Option.map_eq_some_iff,AC.block.injEq]at h;obtain⟨a,ha,rfl,rfl⟩:=h;exact⟨c1,rfl,ha⟩
 | region id ops dr=>obtain⟨l,hl⟩:=vL h;simp at hl
 | _=>simp [compile,Option.bind_eq_some_iff]at h
theorem V7{N:Nat}{c:Code}{x:AC}(h:compile P N c=some (.loop x)):∃c1,c=.loop c1/\compile P N c1=some x:=by
 cases c with
 | loop c1=>
  simp only [compile,Option.map_eq_some_iff,AC.loop.injEq]at h;obtain⟨a,ha,rfl⟩:=h;exact⟨c1,rfl,ha⟩
 | region id ops dr=>obtain⟨l,hl⟩:=vL h;simp at hl
 | _=>simp [compile,Option.bind_eq_some_iff]at h
theorem qaw{N:Nat}{c:Code}{dr:Bool}{l:List AO}(h:compile P N c=some (.ops dr l)):∃id ops,c=.region id ops dr:=by
 cases c with
 | region id ops dr'=>obtain⟨l,hl⟩:=vL h;simp at hl;exact⟨id,ops,by rw [hl.1]⟩
 | _=>simp [compile,Option.bind_eq_some_iff]at h
theorem Stands.split{ops:Array Oper}{N:Nat}:∀{l1 l2:List AO} {L:List Nat},Stands P ops N L (l1++l2)->∃L1 L2,L=L1++L2/\Stands P ops N L1 l1/\Stands P ops N L2 l2
 | [],l2,L,h=>⟨[],L,rfl,.nil,h⟩
 | x::l1,l2,L,h=>by
  cases h with
  | cons h1 h2 h3 h4=>
   obtain⟨L1,L2,rfl,g1,g2⟩:=h4.split;exact⟨_::L1,L2,rfl,.cons h1 h2 h3 g1,g2⟩
theorem Stands.plain{ops:Array Oper}{N:Nat}{L:List Nat}{l:List AO}(h:Stands P ops N L l)(hnb:l.all (λo=>!isBad o.o)=true):∀i∈L,∀o,ops[i]?=some o->∀c,o.op≠.defer c:=by
 induction h with
 | nil=>intro i hi;simp at hi
 | cons h1 h2 h3 h4 ih=>
  simp only [List.all_cons,Bool.and_eq_true,Bool.not_eq_true']at hnb;intro i hi o ho c;rcases List.mem_cons.1 hi with rfl | hi
  .rw [h1]at ho;cases ho;exact h2.plain hnb.1 c
  .exact ih hnb.2 i hi o ho c
theorem opsF{L:Lv}(hL:LvOk P L){ops:Array Oper}{Ls:List Nat}{l:List AO}{t t' : T}{Q:Exit->Act->World->Prop}{k:Nat}(hst:Stands P ops E.N Ls l)(hnb:l.all (λo=>!isBad o.o)=true)(hok:l.all (okAO l)=true)(h:aosE L false l t=some t')
  (hs:Sim E t.den a w m I) (hq:∀a' w' m' I',Sim E t'.den a' w' m' I'->Q .normal a' w'):wpOpsIn Fence.wide k P ops Q Ls a w:=by
 have e0:a=⟨a.tmps,a.defers++[]⟩:=by simp
 rw [e0];simp only [List.all_eq_true]at hok;refine xR (K:=λa' w'=>∃m' I',Sim E t'.den a' w' m' I') (.inl rfl) [] (λa' w' ⟨m',I',hs'⟩=>by rw [List.append_nil];exact hq a' w' m' I' hs') Ls (hst.plain hnb) a w ?_
 exact JS (K:=λs=>s=t'.den) (Yu hL false l) hst (λs' a' w' m' I' hk hs'=>⟨rfl,m',I',by subst hk;exact hs'⟩) hs (yE hL l hok h rfl)
theorem qP{L:Lv}(hL:LvOk P L){n k l d j p q id g:Nat}{E2 E0:Env}{aP aI:Act}{t t1 t2 t3 t5:T}{v v4:Tr}{x x4:List Tr}{r:Loop}{p1 p2:Nat}{aA:AC}{ops:Array Oper}{l1 l2:List AO}{Q:Exit->Act->World->Prop}
  (hX:E2.X=λt=>E0.val aP (t-pinA)) (hz:aP.tmps.size=E0.N) (hR:Rnd P E0.N p1 p2 r.assign aA) (hrt:r.tmps=aP.tmps) (hrs:r.state=.ready) (hrp:r.params = #[p1,p2])
  (hc:compile P E2.N (.region id ops false)=some (.ops false (l1++⟨some d,some (g,true),.callv (.t j) [.t p,.t q]⟩::l2))) (hnb:(l1.all λo=>!isBad o.o)=true/\(l2.all λo=>!isBad o.o)=true) (hok:l1.all (okAO l1)=true/\l2.all (okAO l2)=true)
  (hs:Sim E2 t.den aI w m I) (hf:Free E2 l (.loop r)) (hd:d<E2.N) (hd2:d<256) (h1:aosE L false l1 t=some t1) (hg:t1.get g=.one (.lit (.bool true))) (hx:t1.x=v::x)
  (hj:t1.get j=.one (.lit (.func (.yield l) #[] #[])))
  (hA:codeE L n aA (((T.mk v (t1.v::t1.x) t1.h t1.n).put (some p1) (t1.get p)).put (some p2) (t1.get q))=some (.nrm,t2)) (hB:Walks (Fence.wide.inRound l) P E0.N r.body t2 .ret t3) (hx3:t3.x=v4::x4)
  (h2:aosE L false l2 ((T.mk v4 x4 t3.h t3.n).put (some d) (.one (.lit (.bool false))))=some t5)
  (hK:∀a' w' m' I',Sim (E2.done l r) t5.den a' w' m' I'->Q .normal a' w') :
  (Code.region id ops false).wpIn Fence.wide k P Q aI w:=by
 refine wpIn_region ?_;obtain⟨hlen,hdoes⟩:=Zt hc;have hst:=Vl (P:=P) (ops:=ops) (N:=E2.N) (f:=λi=>((l1++⟨some d,some (g,true),.callv (.t j) [.t p,.t q]⟩::l2)[i]?).getD default) (List.range ops.size) λi hi=>hdoes i (List.mem_range.1 hi);rw [kR hlen]at hst;obtain⟨L1,L2,e,s1,s2⟩:=hst.split;rw [e];refine Yc L1 L2 _ _ ?_;refine opsF hL s1 hnb.1 hok.1 h1 hs λa1 w1 m1 I1 hs1=>?_;cases s2 with
 | @cons i L2 o _ _ g1 g2 g3 g4=>
  show wpOpsIn Fence.wide k P ops Q (i::L2) a1 w1;simp only [wpOpsIn,g1];have hw:Region.wanted o (yielded ops a1.tmps)=true:=by
   rcases g2.g with⟨_,h⟩ | ⟨j',want,oj,t',hgo,hoj,hdj,htp,h⟩
   .simp at h
   .simp only [Option.some.injEq,Prod.mk.injEq]at h;obtain⟨rfl,rfl⟩:=h;have hv:=hs1.at htp;rw [show t1.den.v g=.one (.lit (.bool true)) by rw [<-T.get_den];exact hg]at hv
    have hv:=hv.lit_inv.1;have hv2:a1.tmps[g]?=some (.bool true):=by
     rw [Array.getD_eq_getD_getElem?]at hv;cases hx:a1.tmps[g]? with
     | none=>rw [hx]at hv;simp [undef]at hv
     | some v=>rw [hx]at hv;simp at hv;rw [hv]
    simp only [Region.wanted,hgo,yielded,hoj,hdj,Option.bind_some,hv2];rfl
  rw [if_pos hw];refine yaD hL hX hz hR hrt hrs hrp hs1 hx hf g2 hd hd2 hj hA hB hx3 λw' m' I' hs'=>?_;exact opsF (E:=E2.done l r) hL g4 hnb.2 hok.2 h2 hs' hK
theorem once{L:Lv}(hL:LvOk P L){n k l d j p q g b0 b1 b2 b3:Nat}{E2 E0:Env}{aP aI:Act}{t0 t1 t2 t3 t4 t5 t6 t7 t8 t9 t10 t11 u2 u3:T}{v v4:Tr}{x x4:List Tr}{r:Loop}{p1 p2:Nat}{aA r0 r1 cn1 r2 r3 r45 cn6 r5 r7:AC}{l1 l2:List AO}{c:Code}{R:Exit->Act->World->Prop}
  (hX:E2.X=λt=>E0.val aP (t-pinA)) (hz:aP.tmps.size=E0.N) (hR:Rnd P E0.N p1 p2 r.assign aA) (hrt:r.tmps=aP.tmps) (hrs:r.state=.ready) (hrp:r.params = #[p1,p2])
  {X Y Z:AC} (eX:X=.seq r1 (.seq cn1 (.seq (.block b1 Y) r7))) (eY:Y=.seq r2 (.seq r3 (.block b2 (.loop Z)))) (eZ:Z=.seq r45 (.seq (.block b3 (.seq (.ops false (l1++⟨some d,some (g,true),.callv (.t j) [.t p,.t q]⟩::l2)) cn6)) r5))
  (hc:compile P E2.N c=some (.seq r0 (.block b0 (.loop X)))) (hok:okAC (.seq r0 (.block b0 (.loop X)))=true) (hnb:noBad (.seq r0 (.block b0 (.loop X)))=true) (hok2:l1.all (okAO l1)=true/\l2.all (okAO l2)=true)
  (hs:Sim E2 t0.den aI w m I) (hf:Free E2 l (.loop r)) (hd:d<E2.N) (hd2:d<256)
  (e0:codeE L n r0 t0=some (.nrm,t1)) (f1:codeE L n X t1=some (.nrm,t2)) (f2:codeE L n X t2=some (.nrm,t3)) (e1:codeE L n r1 t3=some (.nrm,t4)) (ec:codeE L n cn1 t4=some (.nrm,t5)) (e2:codeE L n r2 t5=some (.nrm,t6)) (e3:codeE L n r3 t6=some (.nrm,t7)) (e4:codeE L n r45 t7=some (.nrm,t8))
  (h1:aosE L false l1 t8=some t9) (hg:t9.get g=.one (.lit (.bool true))) (hx:t9.x=v::x) (hj:t9.get j=.one (.lit (.func (.yield l) #[] #[])))
  (hA:codeE L n aA (((T.mk v (t9.v::t9.x) t9.h t9.n).put (some p1) (t9.get p)).put (some p2) (t9.get q))=some (.nrm,u2)) (hB:Walks (Fence.wide.inRound l) P E0.N r.body u2 .ret u3) (hx3:u3.x=v4::x4)
  (h2:aosE L false l2 ((T.mk v4 x4 u3.h u3.n).put (some d) (.one (.lit (.bool false))))=some t10) (e6:codeE L n cn6 t10=some (.ret,t11))
  (hK:∀a' w' m' I',Sim (E2.done l r) t11.den a' w' m' I'->R .ret a' w'):c.wpIn Fence.wide k P R aI w:=by
 have hW:Wd Fence.wide:=.inl rfl;have plain:∀{ac:AC} {c:Code} {t t' : T} {e:Ex} {a:Act} {w:World} {k:Nat} {E' : Env} {R:Exit->Act->World->Prop},E'.N=E2.N->compile P E2.N c=some ac->okAC ac=true->noBad ac=true->codeE L n ac t=some (e,t')->(∃m I,Sim E' t.den a w m I)->
   (∀a' w' m' I',Sim E' t'.den a' w' m' I'->R (exOf e) a' w')->c.wpIn Fence.wide k P R a w:=by
  intro ac c t t' e a w k E' R hN hc hok hnb h ⟨m,I,hs⟩ hR;have e0:a=⟨a.tmps,[]⟩:=by
   have:=hs.dfr;cases a
   simp only at this;rw [this]
  rw [e0];refine(uu hL hW n).1 ac c t e t' hc hok hnb h E' a w [] k R hN (Zy hs) λa' w' hs'=>?_;obtain⟨m',I',hs'⟩:=hs'.sim;have e1:a' = ⟨a'.tmps,[]⟩:=by
   have:=hs'.dfr;cases a'
   simp only at this;rw [this]
  rw [<-e1];exact hR a' w' m' I' hs'
 simp only [okAC,noBad,Bool.and_eq_true]at hok hnb;obtain⟨c0,c1,rfl,k0,k1⟩:=qn hc;obtain⟨c2,rfl,k2⟩:=uq k1;obtain⟨cX,rfl,kX⟩:=V7 k2;refine wpIn_seq (plain rfl k0 hok.1 hnb.1 e0 ⟨m,I,hs⟩ λa1 w1 m1 I1 s1=>?_);refine wpIn_block (wpIn_loop_rounds 3 ?_);rw [roundsIn_succ];refine plain rfl kX hok.2 hnb.2 f1 ⟨m1,I1,s1⟩ λa2 w2 m2 I2 s2=>?_;show Code.roundsIn Fence.wide k P cX _ 2 a2 w2;rw [roundsIn_succ];refine plain rfl kX hok.2 hnb.2 f2 ⟨m2,I2,s2⟩ λa3 w3 m3 I3 s3=>?_;show Code.roundsIn Fence.wide k P cX _ 1 a3 w3;rw [roundsIn_succ];clear f1 f2;subst eX;simp only [okAC,noBad,Bool.and_eq_true]at hok hnb;obtain⟨-,o1,o2,o3,o4⟩:=hok;obtain⟨-,n1,n2,n3,n4⟩:=hnb;obtain⟨cr1,d1,rfl,k3,k4⟩:=qn kX;obtain⟨cc1,d2,rfl,k5,k6⟩:=qn k4;obtain⟨d3,cr7,rfl,k7,k8⟩:=qn k6;obtain⟨cY,rfl,kY⟩:=uq k7;refine wpIn_seq (plain rfl k3 o1 n1 e1 ⟨m3,I3,s3⟩ λa4 w4 m4 I4 s4=>?_);refine wpIn_seq (plain rfl k5 o2 n2 ec ⟨m4,I4,s4⟩ λa5 w5 m5 I5 s5=>?_);refine wpIn_seq (wpIn_block ?_);subst eY;simp only [okAC,noBad,Bool.and_eq_true]at o3 n3;obtain⟨o5,o6,o7⟩:=o3;obtain⟨n5,n6,n7⟩:=n3;obtain⟨cr2,d4,rfl,k9,k10⟩:=qn kY;obtain⟨cr3,d5,rfl,k11,k12⟩:=qn k10;obtain⟨d6,rfl,k13⟩:=uq k12;obtain⟨cZ,rfl,kZ⟩:=V7 k13;refine wpIn_seq (plain rfl k9 o5 n5 e2 ⟨m5,I5,s5⟩ λa6 w6 m6 I6 s6=>?_);refine wpIn_seq (plain rfl k11 o6 n6 e3 ⟨m6,I6,s6⟩ λa7 w7 m7 I7 s7=>?_);refine wpIn_block (wpIn_loop_rounds 1 ?_);rw [roundsIn_succ];subst eZ;simp only [okAC,noBad,Bool.and_eq_true]at o7 n7;obtain⟨o8,⟨o9,o10⟩,o11⟩:=o7;obtain⟨n8,⟨n9,n10⟩,n11⟩:=n7;obtain⟨cr4,d7,rfl,k16,k14⟩:=qn kZ;obtain⟨d8,cr5,rfl,k17,k15⟩:=qn k14;obtain⟨d9,rfl,k18⟩:=uq k17;obtain⟨cR,cc6,rfl,k19,k20⟩:=qn k18;refine wpIn_seq (plain rfl k16 o8 n8 e4 ⟨m7,I7,s7⟩ λa8 w8 m8 I8 s8=>?_);refine wpIn_seq (wpIn_block (wpIn_seq ?_));obtain⟨id,ops,rfl⟩:=qaw k19;have n9' : (l1.all λo=>!isBad o.o)=true/\(l2.all λo=>!isBad o.o)=true:=by
  rw [List.all_append,Bool.and_eq_true]at n9;refine⟨n9.1,?_⟩;have:=n9.2;rw [List.all_cons,Bool.and_eq_true]at this;exact this.2
 refine qP hL hX hz hR hrt hrs hrp k19 n9' hok2 s8 hf hd hd2 h1 hg hx hj hA hB hx3 h2 λa9 w9 m9 I9 s9=>?_;refine plain (E':=E2.done l r) rfl k20 o10 n10 e6 ⟨m9,I9,s9⟩ λa10 w10 m10 I10 s10=>?_;exact hK a10 w10 m10 I10 s10
end Go.Abs
end
section
namespace Go.Abs
variable {P:Program} {E:Env} {s:S} {a:Act} {w:World} {m:M} {I:Nat->Prop}
attribute [local irreducible] pinA
structure PairCode (P:Program) (f fi b g p1 p2 N Ni:Nat) (fn fni:Func) (c0 c1 cA cB c2 ci:Code) (a0 a1 aA a2:AC) (rv:List RV):Prop where
 hf:P.funcs[f]?=some fn
 hb:fn.body=some (.seq c0 (.seq (.seq c1 (.block b (.rangeFunc (.tmp g) #[p1,p2] cA cB))) c2))
 hn:fn.ntmps=N
 k0:compile P N c0=some a0
 k1:compile P N c1=some a1
 k2:compile P N c2=some a2
 ok:okAC a0=true/\okAC a1=true/\okAC a2=true
 nb:noBad a0=true/\noBad a1=true/\noBad a2=true
 rnd:Rnd P N p1 p2 cA aA
 hrv:cRes P fn=some rv
 hfi:P.funcs[fi]?=some fni
 hbi:fni.body=some ci
 hni:fni.ntmps=Ni
 Ni:Ni<=256/\2<=Ni
 ri:cRes P fni=some []
 eni:Enters P fi
 hg:g<256
def Env.aft(E:Env)(once:Bool)(l:Nat)(r:Loop):Env:=bif once then E.done l r else E
def recA(once:Bool)(r:Loop):Loop:=bif once then recD r else r
def Iter(once:Bool)(P:Program)(N p1 p2:Nat)(cA cB ci:Code)(Ni:Nat)(i0 i1:Nat->T):Prop:=
 ∀(l k:Nat) (E2 E0:Env) (aP aI:Act) (w:World) (m:M) (I:Nat->Prop) (r:Loop) (R:Exit->Act->World->Prop),E2.N=Ni->E0.N=N->E2.X=(λt=>E0.val aP (t-pinA))->aP.tmps.size=E0.N->r.tmps=aP.tmps->r.state=.ready->r.params = #[p1,p2]->r.assign=cA->r.body=cB->
  Sim E2 (i0 l).den aI w m I->Free E2 l (.loop r)->(∀e a' w' m' I',(∀i,e≠Ex.exit i)->Sim (E2.aft once l r) (i1 l).den a' w' m' I'->R (exOf e) a' w')->ci.wpIn Fence.wide k P R aI w
theorem uaG(E:Env)(once:Bool)(l:Nat)(r:Loop):(E.aft once l r).I0=E.I0/\(E.aft once l r).Ow=E.Ow/\(E.aft once l r).F=E.F/\(E.aft once l r).N=E.N/\(E.aft once l r).X=E.X/\(E.aft once l r).w0.heap.size=E.w0.heap.size/\
  (∀b,b≠l->(E.aft once l r).w0.heap[b]?=E.w0.heap[b]?)/\(E.aft once l r).w0.os=E.w0.os/\(E.aft once l r).w0.tape=E.w0.tape/\(E.aft once l r).w0.output=E.w0.output:=by
 cases once with
 | false=>exact⟨rfl,rfl,rfl,rfl,rfl,rfl,λ_ _=>rfl,rfl,rfl,rfl⟩
 | true=>
  refine⟨rfl,rfl,rfl,rfl,rfl,?_,λb hb=>?_,rfl,rfl,rfl⟩
  .show((E.w0.putObj l _).putObj l _).heap.size=_;rw [World.putObj_size,World.putObj_size]
  .show((E.w0.putObj l _).putObj l _).heap[b]?=_;rw [World.putObj_heap_other hb,World.putObj_heap_other hb]
theorem Free.aft{once:Bool}{l:Nat}{r:Loop}(h:Free E l (.loop r)):Free (E.aft once l r) l (.loop (recA once r)):=by
 cases once with
 | false=>exact h
 | true=>exact h.done
theorem Free.aft_other{once:Bool}{l k:Nat}{r:Loop}{o:Obj}(h:Free E l (.loop r))(hk:Free E k o)(hne:k≠l):Free (E.aft once l r) k o:=by
 cases once with
 | false=>exact hk
 | true=>exact h.done_other hk hne
theorem plainF{L:Lv}(hL:LvOk P L){n N k:Nat}{ac:AC}{c:Code}{t t' : T}{e:Ex}{R:Exit->Act->World->Prop}(ds:List Deferred)(hN:E.N=N)(hc:compile P N c=some ac)(hok:okAC ac=true)(hnb:noBad ac=true)(h:codeE L n ac t=some (e,t'))(hs:Sim E t.den a w m I)
  (hR:∀a' w' m' I',Sim E t'.den a' w' m' I'->R (exOf e) ⟨a'.tmps,ds⟩ w'):c.wpIn Fence.wide k P R ⟨a.tmps,ds⟩ w:=by
 refine(uu hL (.inl rfl) n).1 ac c t e t' hc hok hnb h E a w ds k R hN (Zy hs) λa' w' hs'=>?_;obtain⟨m',I',hs'⟩:=hs'.sim;exact hR a' w' m' I' hs'
theorem jai{L:Lv}(hL:LvOk P L){f fi b g p1 p2 N Ni n:Nat}{fn fni:Func}{c0 c1 cA cB c2 ci:Code}{a0 a1 aA a2:AC}{rv:List RV}(hc:PairCode P f fi b g p1 p2 N Ni fn fni c0 c1 cA cB c2 ci a0 a1 aA a2 rv)
  {once:Bool} {i0 i1:Nat->T} (hit:Iter once P N p1 p2 cA cB ci Ni i0 i1) {args:List AV} (hlen:args.length<=N) {t s1 s2:T} (q0:codeE L n a0 (T.mk (argT args 0 .e) (t.v::t.x) t.h t.n)=some (.nrm,s1)) (q1:codeE L n a1 s1=some (.nrm,s2))
  {cap:C} (hgv:s2.get g=.one (.clo fi [cap])) (hcap:cap≠.lit (.agg ⟨[]⟩)) (hi0:∀l,i0 l=T.mk (argT [.one (.lit (.func (.yield l) #[] #[])),.one cap] 0 .e) (s2.v::s2.x) s2.h s2.n)
  {rr:AV} {tt:T} (hend:∀l,∃v3 x3 s4 lr v5 x5,(i1 l).x=v3::x3/\((once=true/\s4=T.mk v3 x3 (i1 l).h (i1 l).n)∨(once=false/\codeE L n a2 (T.mk v3 x3 (i1 l).h (i1 l).n)=some (.ret,s4)))/\rawE s4 rv=some lr/\s4.x=v5::x5/\(∀r,pinA<=r->(hget s4.h r).blk=none)/\
   rnV (swp (swaps s4.h (lows s4.h) s4.n)) (resOf lr)=rr/\(T.mk v5 x5 s4.h s4.n).move (swaps s4.h (lows s4.h) s4.n)=tt)
  {vals:List Value} {K:AV->S->Prop} (hs:Sim E t.den a w m I) (hargs:RAs m I w.heap args vals) (hK:K rr tt.den) :
  Calls P f ⟨vals⟩ w λe w'=>∃v' r s' m' I',e=.returned v'/\K r s'/\RA m' I' w'.heap r v'/\Sim E s' a w' m' I':=by
 refine(callsIn_wide (n:=0)).1 (callsIn_of_wp_marks hc.hf hc.hb trivial ?_);have hNp:N<=pinA:=Nat.le_trans hc.rnd.N pin256;have hse:=US hs hargs hlen hc.rnd.N;rw [hc.hn];generalize hEp:E.up a N=Ep at hse;have eN:Ep.N=N:=by rw [<-hEp];rfl
 generalize ha0:({ tmps:=(⟨vals⟩:Array Value)++Array.replicate (N-(⟨vals⟩:Array Value).size) undef,defers:=[] }:Act)=ap0 at hse;have hap0:=Yw hse.dfr;rw [hap0];refine wpIn_seq (plainF hL [] eN hc.k0 hc.ok.1 hc.nb.1 q0 hse λa1 w1 m1 I1 hs1=>?_);refine wpIn_seq (wpIn_seq (plainF hL [] eN hc.k1 hc.ok.2.1 hc.nb.2.1 q1 hs1 λaP w2 m2 I2 hs2=>?_));refine wpIn_block (wpIn_rangeFunc λfn0 _=>?_);obtain⟨r,hr⟩:∃r:Loop,r = { state:=.ready,pending:=none,fn:=fn0,tmps:=aP.tmps,params:=#[p1,p2],assign:=cA,body:=cB,defers:=w2.heap.size }:=⟨_,rfl⟩;obtain⟨w3,hw3⟩:∃w3,(w2.alloc (.deferred (some []))).alloc (.loop r)=w3:=⟨_,rfl⟩;have hz3:w3.heap.size=w2.heap.size+2:=by rw [<-hw3];simp
 have hl3:w3.heap[w2.heap.size+1]?=some (.loop r):=by
  rw [<-hw3];have:=World.alloc_heap_new (w2.alloc (.deferred (some []))) (.loop r);rwa [World.size_alloc]at this
 have hD3:w3.heap[w2.heap.size]?=some (.deferred (some [])):=by
  rw [<-hw3];show((w2.heap.push _).push _)[w2.heap.size]?=_;rw [Array.getElem?_push_lt (by simp)]
  simp
 have he3:∀b,b<w2.heap.size->w3.heap[b]?=w2.heap[b]?:=λb hb=>by
  rw [<-hw3];show((w2.heap.push _).push _)[b]?=_;rw [Array.getElem?_push_lt (by simp;omega),Array.getElem_push_lt hb]
  simp [hb]
 have ho3:w3.os=w2.os/\w3.tape=w2.tape/\w3.output=w2.output:=by rw [<-hw3];exact⟨rfl,rfl,rfl⟩
 have hs3:Sim Ep s2.den aP w3 m2 I2:=hs2.more (by omega) he3 ho3.1 ho3.2.1 ho3.2.2
 have hs4:=hs3.root;generalize hE1:Ep.root w3 m2 I2 s2.den.h=E1 at hs4;have eOw:∀k,E1.Ow k->k<w2.heap.size:=λk hk=>by
  rw [<-hE1]at hk;obtain⟨r',x,z,_,g2⟩:=hk;exact hs2.heap.lt r' k z g2
 have eI0:∀k,E1.I0 k->k<w2.heap.size:=λk hk=>by
  rw [<-hE1]at hk;exact hs2.heap.imb k hk.1
 have ew0:E1.w0=w3:=by rw [<-hE1];rfl
 have hfl:Free E1 (w2.heap.size+1) (.loop r):=⟨by rw [ew0];exact hl3,λh=>by have:=eOw _ h;omega,λh=>by have:=eI0 _ h;omega,by rw [ew0];simp only [bsize,hl3]⟩
 have hfD:Free E1 w2.heap.size (.deferred (some [])):=⟨by rw [ew0];exact hD3,λh=>by have:=eOw _ h;omega,λh=>by have:=eI0 _ h;omega,by rw [ew0];simp only [bsize,hD3]⟩
 have hgev:=hs3.at (t:=g) (Nat.lt_of_lt_of_le hc.hg pin256);rw [show s2.den.v g=.one (.clo fi [cap]) by rw [<-T.get_den];exact hgv]at hgev
 obtain⟨cv,hcv,hrcv⟩:∃cv,aP.tmps.getD g undef=.func (.func fi) #[] #[cv]/\RC m2 I2 w3.heap cap cv:=by
  have hq:=hgev.one_inv;generalize aP.tmps.getD g undef=u at hq;cases hq with
  | clo _ _ cv hl hcells=>
   obtain⟨c,rfl⟩:∃c,cv=[c]:=by
    match cv,hl with
    | [c],_=>exact⟨c,rfl⟩
   exact⟨c,rfl,hcells 0 cap c rfl rfl⟩
  | bnd=>exact(hcap rfl).elim
 refine⟨w2.heap.size+1,[{ target:=.collected w2.heap.size,args:=#[] }],w3,{ target:=.fn (.func fi) #[cv],args:=#[.func (.yield (w2.heap.size+1)) #[] #[]] },w3,fi,
  #[.func (.yield (w2.heap.size+1)) #[] #[],cv],w3,?_,?_,?_,?_,λh=>(by cases h),?_⟩
 .rw [<-hw3,hr];exact run_enterLoop_outer _ _ _ _ _
 .have:(⟨aP.tmps,[]⟩:Act).eval (.tmp g)=.func (.func fi) #[] #[cv]:=hcv;simp only [resolve,this];simp [go_sem]
 .intro f' _;trivial
 .simp [invoke,go_sem,hc.eni _ _]
 have hargs2:RAs m2 I2 w3.heap [.one (.lit (.func (.yield (w2.heap.size+1)) #[] #[])),.one cap] [.func (.yield (w2.heap.size+1)) #[] #[],cv]:=by
  refine⟨rfl,λi x v hx hv=>?_⟩;match i with
  | 0=>simp at hx hv;subst hx hv;exact .one _ _ (.lit _ rfl)
  | 1=>simp at hx hv;subst hx hv;exact .one _ _ hrcv
  | i+2=>simp at hx
 have hs5:=US (n:=Ni) hs4 hargs2 hc.Ni.2 hc.Ni.1;rw [<-hi0]at hs5;refine callsIn_of_wp hc.hfi hc.hbi trivial ?_;rw [hc.hni];have hfu:Free (E1.up aP Ni) (w2.heap.size+1) (.loop r):=⟨hfl.lt,hfl.ow,hfl.i0,hfl.no⟩;have hfuD:Free (E1.up aP Ni) w2.heap.size (.deferred (some [])):=⟨hfD.lt,hfD.ow,hfD.i0,hfD.no⟩;have eN1:E1.N=N:=by rw [<-hE1];exact eN
 refine hit (w2.heap.size+1) (0-1) (E1.up aP Ni) E1 aP _ w3 m2 I2 r _ rfl eN1 rfl hs4.siz (by rw [hr]) (by rw [hr]) (by rw [hr]) (by rw [hr]) (by rw [hr]) hs5 hfu λe a' w' m' I' hne hs6=>?_
 have hres:=Qd (P:=P) hs6 hc.ri (K:=λ_=>True) (zp (t:=i1 (w2.heap.size+1)) (l:=[]) rfl trivial);obtain⟨xs,vs,hres,_,_⟩:=hres;have hfa:=hfu.aft (once:=once);have hfaD:=hfu.aft_other (once:=once) hfuD (by omega)
 have hrest:rangePost Fence.wide 0 P (w2.heap.size+1) (Exit.inBlock b (Exit.then (c2.wpIn Fence.wide 0 P (bodyPostM Fence.wide 0 P fn λe w'=>∃v' r s' m' I',e=.returned v'/\K r s'/\RA m' I' w'.heap r v'/\Sim E s' a w' m' I')) (bodyPostM Fence.wide 0 P fn λe w'=>∃v' r s' m' I',e=.returned v'/\K r s'/\RA m' I' w'.heap r v'/\Sim E s' a w' m' I')))
   ⟨aP.tmps,[{ target:=.collected w2.heap.size,args:=#[] }]⟩ (.returned (if h:(⟨vs⟩:Array Value).size=1 then (⟨vs⟩:Array Value)[0] else .tuple ⟨vs⟩)) w':=by
  have hbusy:(recA once r).state≠.busy:=by cases once <;> rw [hr] <;> exact λh=>by cases h
  refine⟨_,_,run_endLoop (hfa.at hs6.heap) hbusy,?_⟩;obtain⟨f1,f2,f3,f4,f5,f6,f7,f8,f9,f10⟩:=uaG (E1.up aP Ni) once (w2.heap.size+1) r;generalize (E1.up aP Ni).aft once (w2.heap.size+1) r=E2 at f1 f2 f3 f4 f5 f6 f7 f8 f9 f10 hs6 hfa hfaD;have hs7:=hs6.putO hfa (ji { recA once r with state:=.exhausted })
  obtain⟨v3,x3,s4,lr,v5,x5,hi1x,hfin,hraw,hx4,hpin,er,et⟩:=hend (w2.heap.size+1);subst er et;have hs8:=(λh=>zE (a:=aP) (E0:=E1) h hs7 hi1x hs4.dfr hs4.siz hs4.heap.np) f5;generalize hE3:Env.dn { E2 with w0:=E2.w0.putObj (w2.heap.size+1) (.loop { recA once r with state:=.exhausted }) } E1=E3 at hs8
  have hfD3:Free E3 w2.heap.size (.deferred (some [])):=by
   have:=hfaD.putOther hfa (by omega) (ji { recA once r with state:=.exhausted })
   rw [<-hE3];exact⟨this.lt,this.ow,this.i0,this.no⟩
  have fin:∀a'' w5 m5 I5,Sim E3 s4.den a'' w5 m5 I5->LeavesInM Fence.wide 0 P fn a''.tmps (λe w'=>∃v' r s' m' I',e=.returned v'/\K r s'/\RA m' I' w'.heap r v'/\Sim E s' a w' m' I') [{ target:=.collected w2.heap.size,args:=#[] }] .returning w5:=by
   intro a'' w5 m5 I5 hs9;refine⟨by simp,.inl ⟨_,_,rfl,run_takeDeferred (hfD3.at hs9.heap),?_⟩⟩
   have hs10:=hs9.putO hfD3 (o':=.deferred none) (λ_ _ _ h=>by cases h)
   obtain⟨xs,vs,hres,hra,hxs⟩:=Qd (P:=P) hs10 hc.hrv (zp (K:=λxs=>xs=lr) hraw rfl);subst hxs;refine⟨_,hres,?_⟩;have hE4:HR Ep m5 I5 (w5.putObj w2.heap.size (.deferred none)) s4.den.h:=by
    refine hs2.heap.unroot (w1:=w3) ?_ ?_ (λb hb=>?_) ?_ ?_ ?_ hs10.heap hpin
    .rw [<-hE3,hE1];exact⟨f1,f2,f3.trans (by rw [<-hE1];rfl)⟩
    .show w2.heap.size<=(E3.w0.putObj _ _).heap.size;rw [World.putObj_size,<-hE3];show w2.heap.size<=(E2.w0.putObj _ _).heap.size;rw [World.putObj_size,f6];show w2.heap.size<=E1.w0.heap.size;rw [ew0];omega
    .show(E3.w0.putObj _ _).heap[b]?=_;rw [World.putObj_heap_other (by omega),<-hE3]
     show(E2.w0.putObj _ _).heap[b]?=_;rw [World.putObj_heap_other (by omega),f7 b (by omega)]
     show E1.w0.heap[b]?=_;rw [ew0,he3 b hb]
    .show E3.w0.os=_;rw [<-hE3];show E2.w0.os=_;rw [f8];show E1.w0.os=_;rw [ew0,ho3.1]
    .show E3.w0.tape=_;rw [<-hE3];show E2.w0.tape=_;rw [f9];show E1.w0.tape=_;rw [ew0,ho3.2.1]
    .show E3.w0.output=_;rw [<-hE3];show E2.w0.output=_;rw [f10];show E1.w0.output=_;rw [ew0,ho3.2.2]
   have hX3:E3.X=Ep.X:=by rw [<-hE3];show E1.X=Ep.X;rw [<-hE1];rfl
   have hs11:Sim Ep s4.den a'' (w5.putObj w2.heap.size (.deferred none)) m5 I5:=by
    refine⟨hs10.dfr,hs10.siz.trans ?_,λt=>?_,hE4⟩
    .show E3.N=Ep.N;rw [<-hE3];show E1.N=Ep.N;rw [eN1,eN]
    .have:=hs10.slot t;have e:Env.val { E3 with w0:=E3.w0.putObj w2.heap.size (.deferred none) } a'' t=Ep.val a'' t:=by
      simp only [Env.val,hX3]
     rw [e]at this;exact this
   have hs12:=zE (a:=a) (E0:=E) (by rw [<-hEp];rfl) hs11 hx4 hs.dfr hs.siz hs.heap.np
   have eE:Ep.dn E=E:=by rw [<-hEp];rfl
   rw [eE]at hs12;have hsw:=yr s4.h (lows s4.h) s4.n;have b:=Vx _ hsw;generalize hsg:swaps s4.h (lows s4.h) s4.n=sw at hK hsw b;rw [T.move_den _ hsw,U9]at hK;exact⟨_,_,_,_,I5,rfl,hK,(kF hra).rn (λr=>by simp only [b.l]) (λr=>by simp only [b.l]),hs12.rn b⟩
  generalize w'.putObj (w2.heap.size+1) (.loop { recA once r with state:=.exhausted })=w4 at hs8 ⊢
  rcases hfin with⟨ho,e4⟩ | ⟨ho,e4⟩
  .subst ho e4;show Code.wpIn Fence.wide 0 P .ret _ _ _;refine wpIn_ret ?_;exact fin aP _ m' I' hs8
  .subst ho;have:(recA false r).pending=none:=by rw [hr];rfl
   rw [this];have eN3:E3.N=N:=by rw [<-hE3];exact eN1
   exact plainF hL [{ target:=.collected w2.heap.size,args:=#[] }] eN3 hc.k2 hc.ok.2.2 hc.nb.2.2 e4 hs8 λa'' w5 m5 I5 hs9=>fin a'' w5 m5 I5 hs9
 cases e with
 | nrm=>exact⟨hs6.dfr,_,hres,hrest⟩
 | ret=>exact⟨hs6.dfr,_,hres,hrest⟩
 | exit i=>exact(hne i rfl).elim
end Go.Abs
end
section
namespace Go.Abs
variable {P:Program} {E:Env} {s:S} {a:Act} {w:World} {m:M} {I:Nat->Prop} {F:Fence}
def aoP:AO:=⟨some 0,none,.mv (.c .any)⟩
def aoH:AO:=⟨none,none,.mv (.c .any)⟩
theorem wa6:swapOk aoP aoP aoP.looks aoP.looks=false:=by decide
theorem Ua9:swapOkB true aoH aoP aoH.looks aoP.looks=true:=by decide
theorem qbb:swapOkB true aoP aoH aoP.looks aoH.looks=true:=by decide
theorem uaY:swapOkB true aoH aoH aoH.looks aoH.looks=true:=by decide
theorem Yai{ops:Array Oper}{l:List AO}(h:orderOk ops l=true)(mixed:Bool)(t:Nat) :
  (Region.schedule mixed ops t).Nodup/\(∀x,x∈List.range ops.size↔x∈Region.schedule mixed ops t)/\
  (Region.schedule mixed ops t).Pairwise (λa b=>b<a->b∉((anc ops)[a]?).getD []):=by
 have base:∀i0 j0,j0∈((anc ops)[i0]?).getD []->orderOk ops ((List.range ops.size).map λk=>if k=i0∨k=j0 then aoP else aoH)=true->True:=λ_ _ _ _=>trivial
 have hf:∀i0 j0,j0<i0->j0∈((anc ops)[i0]?).getD []->orderOk ops ((List.range ops.size).map λk=>if k=i0∨k=j0 then aoP else aoH)=true:=by
  intro i0 j0 hlt hmem;unfold orderOk orderOkB at h ⊢;simp only [Bool.and_eq_true]at h ⊢;refine⟨h.1,?_⟩;simp only [List.all_eq_true,List.mem_range,List.length_map,List.length_range];intro i hi j hj;simp only [Bool.or_eq_true];by_cases e:i=i0/\j=j0
  .obtain⟨rfl,rfl⟩:=e;exact .inl (by simpa using hmem)
  .right;have e1:((List.range ops.size).map λk=>if k=i0∨k=j0 then aoP else aoH)[i]?=some (if i=i0∨i=j0 then aoP else aoH):=by simp [hi]
   have e2:((List.range ops.size).map λk=>if k=i0∨k=j0 then aoP else aoH)[j]?=some (if j=i0∨j=j0 then aoP else aoH):=by
    have:j<ops.size:=by omega
    simp [this]
   rw [e1,e2];dsimp only;by_cases c1:i=i0∨i=j0
   .by_cases c2:j=i0∨j=j0
    .exfalso;rcases c1 with rfl | rfl <;> rcases c2 with rfl | rfl <;> first | omega | exact e ⟨rfl,rfl⟩
    .rw [if_pos c1,if_neg c2];exact Ua9
   .by_cases c2:j=i0∨j=j0
    .rw [if_neg c1,if_pos c2];exact qbb
    .rw [if_neg c1,if_neg c2];exact uaY
 obtain⟨g1,g2,-⟩:=orders (ops:=ops) (l:=(List.range ops.size).map λ_=>aoH) (by simp) (by
  unfold orderOk orderOkB at h ⊢;simp only [Bool.and_eq_true]at h ⊢;refine⟨h.1,?_⟩;simp only [List.all_eq_true,List.mem_range,List.length_map,List.length_range];intro i hi j hj;simp only [Bool.or_eq_true];right;have e1:((List.range ops.size).map λ_=>aoH)[i]?=some aoH:=by simp [hi]
  have e2:((List.range ops.size).map λ_=>aoH)[j]?=some aoH:=by
   have:j<ops.size:=by omega
   simp [this]
  rw [e1,e2];exact uaY) mixed t
 refine⟨g1,g2,?_⟩;rw [List.pairwise_iff_getElem];intro i j hi hj hij hlt hmem;obtain⟨-,-,g3⟩:=orders (ops:=ops) (l:=(List.range ops.size).map λk=>if k=(Region.schedule mixed ops t)[i]∨k=(Region.schedule mixed ops t)[j] then aoP else aoH) (by simp) (hf _ _ hlt hmem) mixed t
 have:=(List.pairwise_iff_getElem.1 g3) i j hi hj hij hlt;have hsi:(Region.schedule mixed ops t)[i] < ops.size:=List.mem_range.1 ((g2 _).2 (List.getElem_mem _));have hsj:(Region.schedule mixed ops t)[j] < ops.size:=List.mem_range.1 ((g2 _).2 (List.getElem_mem _));simp [hsi,hsj]at this;rw [wa6]at this;exact Bool.noConfusion this
section
variable {α:Type}
mutual
def gC:C->(C->α)->α
 | .lit v,k=>fVal (λv=>k (.lit v)) v
 | .slice es,k=>gR es λes=>k (.slice es)
 | .full es,k=>gR es λes=>k (.full es)
 | .emp,k=>k .emp
 | .ref cs,k=>gL cs λcs=>k (.ref cs)
 | .clo f cs,k=>gL cs λcs=>k (.clo f cs)
 | .own r v z o l,k=>fNat (λr=>fNat (λv=>fNat (λz=>fNat (λo=>fNat (λl=>k (.own r v z o l)) l) o) z) v) r
 | .ptr r v i o,k=>fNat (λr=>fNat (λv=>fNat (λi=>fNat (λo=>k (.ptr r v i o)) o) i) v) r
 | .any,k=>k .any
def gL:List C->(List C->α)->α
 | [],k=>k []
 | c::l,k=>gC c λc=>gL l λl=>k (c::l)
def gR:List (List C)->(List (List C)->α)->α
 | [],k=>k []
 | e::l,k=>gL e λe=>gR l λl=>k (e::l)
end
mutual
def gA:AV->(AV->α)->α
 | .one c,k=>gC c λc=>k (.one c)
 | .agg cs,k=>gL cs λcs=>k (.agg cs)
 | .tup l,k=>gAs l λl=>k (.tup l)
 | .any,k=>k .any
def gAs:List AV->(List AV->α)->α
 | [],k=>k []
 | a::l,k=>gA a λa=>gAs l λl=>k (a::l)
end
def gTr:Tr->(Tr->α)->α
 | .e,k=>k .e
 | .l a,k=>gA a λa=>k (.l a)
 | .n x y,k=>gTr x λx=>gTr y λy=>k (.n x y)
def gX:Nat->List Tr->(List Tr->α)->α
 | 0,x,k=>k x
 | _+1,[],k=>k []
 | n+1,v::x,k=>gTr v λv=>gX n x λx=>k (v::x)
def gB:Option Blk->(Option Blk->α)->α
 | none,k=>k none
 | some ⟨es,z,l⟩,k=>gR es λes=>fNat (λz=>fBool (λl=>k (some ⟨es,z,l⟩)) l) z
def gH:List (Nat×HB)->(List (Nat×HB)->α)->α
 | [],k=>k []
 | (r,⟨v,b⟩)::l,k=>fNat (λr=>fNat (λv=>gB b λb=>gH l λl=>k ((r,⟨v,b⟩)::l)) v) r
def gNs:List Nat->(List Nat->α)->α
 | [],k=>k []
 | r::l,k=>fNat (λr=>gNs l λl=>k (r::l)) r
def gT(n:Nat)(t:T)(k:T->α):α:=gTr t.v λv=>gX n t.x λx=>gH t.h λh=>fNat (λm=>k ⟨v,x,h,m⟩) t.n
mutual
theorem qaZ:∀(c:C) (k:C->α),gC c k=k c
 | .lit v,k=>by simp only [gC,Jan]
 | .slice es,k=>by simp only [gC,zaH]
 | .full es,k=>by simp only [gC,zaH]
 | .emp,k=>by simp only [gC]
 | .ref cs,k=>by simp only [gC,waz]
 | .clo f cs,k=>by simp only [gC,waz]
 | .own r v z o l,k=>by simp only [gC,zr]
 | .ptr r v i o,k=>by simp only [gC,zr]
 | .any,k=>by simp only [gC]
theorem waz:∀(c:List C) (k:List C->α),gL c k=k c
 | [],k=>by simp only [gL]
 | c::l,k=>by simp only [gL,qaZ,waz]
theorem zaH:∀(c:List (List C)) (k:List (List C)->α),gR c k=k c
 | [],k=>by simp only [gR]
 | c::l,k=>by simp only [gR,waz,zaH]
end
mutual
theorem Xa1:∀(a:AV) (k:AV->α),gA a k=k a
 | .one c,k=>by simp only [gA,qaZ]
 | .agg cs,k=>by simp only [gA,waz]
 | .tup l,k=>by simp only [gA,VaO]
 | .any,k=>by simp only [gA]
theorem VaO:∀(a:List AV) (k:List AV->α),gAs a k=k a
 | [],k=>by simp only [gAs]
 | a::l,k=>by simp only [gAs,Xa1,VaO]
end
theorem W3:∀(t:Tr) (k:Tr->α),gTr t k=k t
 | .e,k=>rfl
 | .l a,k=>by simp only [gTr,Xa1]
 | .n x y,k=>by simp only [gTr,W3 x,W3 y]
theorem Ya2:∀(n:Nat) (x:List Tr) (k:List Tr->α),gX n x k=k x
 | 0,x,k=>by simp only [gX]
 | n+1,[],k=>by simp only [gX]
 | n+1,v::x,k=>by simp only [gX,W3,Ya2 n]
theorem Xa9(b:Option Blk)(k:Option Blk->α):gB b k=k b:=by
 cases b with
 | none=>rfl
 | some b=>obtain⟨es,z,l⟩:=b;simp only [gB,zaH,zr,xaa]
theorem xa3:∀(h:List (Nat×HB)) (k:List (Nat×HB)->α),gH h k=k h
 | [],k=>by simp only [gH]
 | (r,⟨v,b⟩)::l,k=>by simp only [gH,zr,Xa9,xa3 l]
theorem YaJ:∀(h:List Nat) (k:List Nat->α),gNs h k=k h
 | [],k=>by simp only [gNs]
 | r::l,k=>by simp only [gNs,zr,YaJ l]
theorem Qa9(n:Nat)(t:T)(k:T->α):gT n t k=k t:=by
 simp only [gT,W3,Ya2,xa3,zr]
end
def readyN(an:List (List Nat))(rem:List Nat)(i:Nat):Bool:=rem.all λj=>!(Nat.blt j i && ((an[i]?).getD []).contains j)
noncomputable def brs(g:Nat->Option (List T))(p:Nat->Bool):List Nat->Option (List T)
 | []=>some []
 | i::r=>sel (p i) (obind (g i) λx=>omap (x++·) (brs g p r)) (brs g p r)
noncomputable def allS(L:Lv)(l:List AO)(an:List (List Nat)):Nat->List Nat->T->Option (List T)
 | 0,_,_=>none
 | _+1,[],t=>some [t]
 | n+1,i::r,t=>brs (λk=>obind (aoE ((l[k]?).getD default) L false t) λt1=>gT 2 t1 λt1=>gNs ((i::r).erase k) λrem=>allS L l an n rem t1) (readyN an (i::r)) (i::r)
theorem Vat{g:Nat->Option (List T)}{p:Nat->Bool}:∀{r:List Nat} {ts:List T},brs g p r=some ts->∀i∈r,p i=true->∃x,g i=some x/\∀y∈x,y∈ts
 | [],ts,h,i,hi,_=>by simp at hi
 | k::r,ts,h,i,hi,hp=>by
  simp only [brs]at h;rw [Yj]at h;by_cases hk:p k=true
  .rw [if_pos hk]at h;obtain⟨x,h1,h2⟩:=Qa h;obtain⟨y,h3,h4⟩:=Qh h2;rcases List.mem_cons.1 hi with rfl | hi
   .exact⟨x,h1,λz hz=>by rw [<-h4];exact List.mem_append_left _ hz⟩
   .obtain⟨x',q1,q2⟩:=Vat h3 i hi hp;exact⟨x',q1,λz hz=>by rw [<-h4];exact List.mem_append_right _ (q2 z hz)⟩
  .rw [if_neg hk]at h;rcases List.mem_cons.1 hi with rfl | hi
   .exact(hk hp).elim
   .exact Vat h i hi hp
theorem Yay{L:Lv}{l:List AO}{an:List (List Nat)}{t' : T}:∀(n:Nat) {rem σ:List Nat} {t:T} {ts:List T},allS L l an n rem t=some ts->(∀x∈ts,x=t')->rem.Nodup->σ.Nodup->(∀x,x∈rem↔x∈σ)->σ.Pairwise (λa b=>b<a->b∉((an[a]?).getD []))->
  aosE L false (σ.map λi=>(l[i]?).getD default) t=some t'
 | 0,rem,σ,t,ts,h,_,_,_,_,_=>nos h
 | n+1,[],σ,t,ts,h,ht,_,_,hm,_=>by
  have:σ=[]:=List.eq_nil_iff_forall_not_mem.2 λx hx=>by have:=(hm x).2 hx;simp at this
  subst this;cases (show some [t]=some ts from h)
  rw [ht t (by simp)]
  rfl
 | n+1,i0::r,σ,t,ts,h,ht,hr,hs,hm,hp=>by
  cases σ with
  | nil=>have:=(hm i0).1 (List.mem_cons_self ..);simp at this
  | cons i σ=>
   obtain⟨hp1,hp2⟩:=List.pairwise_cons.1 hp;obtain⟨hs1,hs2⟩:=List.nodup_cons.1 hs;have hi:i∈i0::r:=(hm i).2 (List.mem_cons_self ..);have hready:readyN an (i0::r) i=true:=by
    unfold readyN;simp only [List.all_eq_true,Bool.not_eq_true',Bool.and_eq_false_iff];intro j hj;by_cases hlt:j<i
    .right;have:j∈i::σ:=(hm j).1 hj;rcases List.mem_cons.1 this with rfl | hj2
     .omega
     .have:=hp1 j hj2 hlt;simpa using this
    .left;exact Bool.eq_false_iff.2 λh=>hlt (Vb h)
   obtain⟨x,h1,h2⟩:=Vat (show brs (λk=>obind (aoE ((l[k]?).getD default) L false t) λt1=>gT 2 t1 λt1=>gNs ((i0::r).erase k) λrem=>allS L l an n rem t1) (readyN an (i0::r)) (i0::r)=some ts from h) i hi hready;obtain⟨t1,h3,h4⟩:=Qa h1;rw [Qa9,YaJ]at h4;have ih:=Yay n (σ:=σ) h4 (λy hy=>ht y (h2 y hy)) (hr.erase _) hs2 (λy=>by
    rw [hr.mem_erase_iff,hm y];constructor
    .intro ⟨q1,q2⟩;rcases List.mem_cons.1 q2 with q | q
     .exact(q1 q).elim
     .exact q
    .exact λq=>⟨λe=>hs1 (e▸q),List.mem_cons_of_mem _ q⟩) hp2
   show obind (aoE ((l[i]?).getD default) L false t) (aosE L false (σ.map λi=>(l[i]?).getD default))=some t';rw [h3];exact ih
theorem xaj{L:Lv}(hL:LvOk P L)(hF:Wd F){N id n k:Nat}{ops:Array Oper}{l:List AO}{t t' : T}{ts:List T}{R:Exit->Act->World->Prop}(hc:compile P N (.region id ops true)=some (.ops true l))(hnb:l.all (λo=>!isBad o.o)=true)(hok:l.all (okAO l)=true)
  (hall:allS L l (anc ops) n (List.range ops.size) t=some ts) (hts:∀x∈ts,x=t') (hN:E.N=N) (hs:Sp E t.den a w) (hR:∀a' w',Sp E t'.den a' w'->R .normal a' w'):(Code.region id ops true).wpIn F k P R a w:=by
 obtain⟨m,I,hs⟩:=hs.sim;obtain⟨hlen,hdoes⟩:=Zt hc;obtain⟨_,l0,hl0,hl,hdst,hord⟩:=qw hc;refine wpIn_region_draw λtt=>?_;obtain⟨g1,g2,g3⟩:=Yai (hord rfl) (P.follows .mixedOrders) tt;have hst:=Vl (P:=P) (ops:=ops) (N:=E.N) (f:=λi=>(l[i]?).getD default) (Region.schedule (P.follows .mixedOrders) ops tt) λi hi=>by rw [hN];exact hdoes i (List.mem_range.1 ((g2 i).2 hi))
 have hrun:=Yay n hall hts List.nodup_range g1 g2 g3;have hmem:∀o∈(Region.schedule (P.follows .mixedOrders) ops tt).map (λi=>(l[i]?).getD default),o∈l:=by
  intro o ho;obtain⟨i,hi,rfl⟩:=List.mem_map.1 ho;have hi':=List.mem_range.1 ((g2 i).2 hi);have:l[i]?=some l[i]:=List.getElem?_eq_getElem (by omega)
  rw [this];exact List.getElem_mem _
 have hnb' : ((Region.schedule (P.follows .mixedOrders) ops tt).map λi=>(l[i]?).getD default).all (λo=>!isBad o.o)=true:=by
  rw [List.all_eq_true]at hnb ⊢;exact λo ho=>hnb o (hmem o ho)
 rw [List.all_eq_true]at hok;have e0:a=⟨a.tmps,a.defers++[]⟩:=by simp
 rw [e0];refine xR (K:=λa' w'=>∃m' I',Sim E t'.den a' w' m' I') hF [] (λa' w' ⟨m',I',hs'⟩=>by rw [List.append_nil];exact hR a' w' (Zy hs')) _ (hst.plain hnb') a _ ?_
 exact JS (K:=λs=>s=t'.den) (Yu hL false l) hst (λs' a' w' m' I' hk hs'=>⟨rfl,m',I',by subst hk;exact hs'⟩) (hs.draw _) (yE hL _ (λo ho=>hok o (hmem o ho)) hrun rfl)
theorem xak{L:Lv}(hL:LvOk P L)(hF:Wd F){N b n n2:Nat}{c:Code}{l:List AO}{rest:AC}{an:List (List Nat)}{t t1 t2:T}{ts:List T}(hc:compile P N c=some (.block b (.seq (.ops true l) rest)))
  (han:∀id ops y,c=.block b (.seq (.region id ops true) y)->anc ops=an/\ops.size=l.length) (hok:okAC (.seq (.ops true l) rest)=true) (hnb:noBad (.seq (.ops true l) rest)=true) (hall:allS L l an n2 (List.range l.length) t=some ts) (hts:∀x∈ts,x=t1) (h2:codeE L n rest t1=some (.ret,t2)) :
  Walks F P N c t .ret t2:=by
 intro E a w k R hN hs hR;obtain⟨c1,rfl,k1⟩:=uq hc;obtain⟨c2,c3,rfl,k2,k3⟩:=qn k1;obtain⟨id,ops,rfl⟩:=qaw k2;obtain⟨e1,e2⟩:=han id ops c3 rfl;simp only [okAC,noBad,Bool.and_eq_true]at hok hnb;refine wpIn_block (wpIn_seq ?_);refine xaj hL hF k2 hnb.1 hok.1 (by rw [e1,e2];exact hall) hts hN hs λa' w' hs'=>?_
 have e0:=Yw (hs'.sim.choose_spec.choose_spec).dfr;rw [e0];refine(uu hL hF n).1 rest c3 t1 .ret t2 k3 hok.2 hnb.2 h2 E a' w' [] k _ hN hs' λa'' w'' hs''=>?_;have e1:=Yw (hs''.sim.choose_spec.choose_spec).dfr;rw [<-e1];exact hR a'' w'' hs''
theorem Wan{L:Lv}(hL:LvOk P L){n N p1 p2 Ni:Nat}{cA cB ci:Code}{ac:AC}{i0 i1:Nat->T}{e:Ex}(hc:compile P Ni ci=some ac)(hok:okAC ac=true)(hnb:noBad ac=true)(he:∀i,e≠.exit i)(h:∀l,codeE L n ac (i0 l)=some (e,i1 l)) :
  Iter false P N p1 p2 cA cB ci Ni i0 i1:=by
 intro l k E2 E0 aP aI w m I r R hN hN0 hX hz hrt hrs hrp hrA hrB hs hf hR;have e0:=Yw hs.dfr;rw [e0];refine(uu hL (.inl rfl) n).1 ac ci (i0 l) e (i1 l) hc hok hnb (h l) E2 aI w [] k R hN (Zy hs) λa' w' hs'=>?_;obtain⟨m',I',hs'⟩:=hs'.sim;rw [<-Yw hs'.dfr];exact hR e a' w' m' I' he hs'
structure Once (P:Program) (L:Lv) (n N p1 p2:Nat) (aA:AC) (cB:Code) (r0 r1 cn1 r2 r3 r45 cn6 r5 r7:AC) (b1 b2 b3:Nat) (l1 l2:List AO) (d g j p q:Nat) (l:Nat) (t0 t11:T):Prop where
 ev:∃(t1 t2 t3 t4 t5 t6 t7 t8 t9 t10 u2 u3:T) (v v4:Tr) (x x4:List Tr),∃X:AC,X=(.seq r1 (.seq cn1 (.seq (.block b1 (.seq r2 (.seq r3 (.block b2 (.loop (.seq r45 (.seq (.block b3 (.seq (.ops false (l1++⟨some d,some (g,true),.callv (.t j) [.t p,.t q]⟩::l2)) cn6)) r5))))))) r7)))/\
  codeE L n r0 t0=some (.nrm,t1)/\codeE L n X t1=some (.nrm,t2)/\codeE L n X t2=some (.nrm,t3)/\codeE L n r1 t3=some (.nrm,t4)/\codeE L n cn1 t4=some (.nrm,t5)/\codeE L n r2 t5=some (.nrm,t6)/\codeE L n r3 t6=some (.nrm,t7)/\codeE L n r45 t7=some (.nrm,t8)/\
  aosE L false l1 t8=some t9/\t9.get g=.one (.lit (.bool true))/\t9.x=v::x/\t9.get j=.one (.lit (.func (.yield l) #[] #[]))/\
  codeE L n aA (((T.mk v (t9.v::t9.x) t9.h t9.n).put (some p1) (t9.get p)).put (some p2) (t9.get q))=some (.nrm,u2)/\Walks (Fence.wide.inRound l) P N cB u2 .ret u3/\u3.x=v4::x4/\
  aosE L false l2 ((T.mk v4 x4 u3.h u3.n).put (some d) (.one (.lit (.bool false))))=some t10/\codeE L n cn6 t10=some (.ret,t11)
theorem Qat{L:Lv}(hL:LvOk P L){n N p1 p2 Ni b0 b1 b2 b3:Nat}{cA cB ci:Code}{aA r0 r1 cn1 r2 r3 r45 cn6 r5 r7:AC}{l1 l2:List AO}{d g j p q:Nat}{i0 i1:Nat->T}(hR:Rnd P N p1 p2 cA aA)
  (hc:compile P Ni ci=some (.seq r0 (.block b0 (.loop (.seq r1 (.seq cn1 (.seq (.block b1 (.seq r2 (.seq r3 (.block b2 (.loop (.seq r45 (.seq (.block b3 (.seq (.ops false (l1++⟨some d,some (g,true),.callv (.t j) [.t p,.t q]⟩::l2)) cn6)) r5))))))) r7)))))))
  (hok:okAC (.seq r0 (.block b0 (.loop (.seq r1 (.seq cn1 (.seq (.block b1 (.seq r2 (.seq r3 (.block b2 (.loop (.seq r45 (.seq (.block b3 (.seq (.ops false (l1++⟨some d,some (g,true),.callv (.t j) [.t p,.t q]⟩::l2)) cn6)) r5))))))) r7))))))=true)
  (hnb:noBad (.seq r0 (.block b0 (.loop (.seq r1 (.seq cn1 (.seq (.block b1 (.seq r2 (.seq r3 (.block b2 (.loop (.seq r45 (.seq (.block b3 (.seq (.ops false (l1++⟨some d,some (g,true),.callv (.t j) [.t p,.t q]⟩::l2)) cn6)) r5))))))) r7))))))=true)
  (hok2:l1.all (okAO l1)=true/\l2.all (okAO l2)=true) (hd:d<Ni) (hd2:d<256) (h:∀l,Once P L n N p1 p2 aA cB r0 r1 cn1 r2 r3 r45 cn6 r5 r7 b1 b2 b3 l1 l2 d g j p q l (i0 l) (i1 l)) :
  Iter true P N p1 p2 cA cB ci Ni i0 i1:=by
 intro l k E2 E0 aP aI w m I r R hN hN0 hX hz hrt hrs hrp hrA hrB hs hf hK;obtain⟨t1,t2,t3,t4,t5,t6,t7,t8,t9,t10,u2,u3,v,v4,x,x4,X,eX,e0,f1,f2,e1,ec,e2,e3,e4,h1,hg,hx,hj,hA,hB,hx3,h2,e6⟩:=(h l).ev;subst hN hN0 hrA hrB;refine once hL hX hz hR hrt hrs hrp (X:=X) eX rfl rfl (by rw [eX];exact hc) (by rw [eX];exact hok) (by rw [eX];exact hnb) hok2 hs hf hd hd2 e0 f1 f2 e1 ec e2 e3 e4 h1 hg hx hj hA hB hx3 h2 e6 λa' w' m' I' hs'=>?_
 exact hK .ret a' w' m' I' (λi e=>by cases e) hs'
end Go.Abs
end
section
namespace Go.Abs
noncomputable section
abbrev Rw3:=Bool×List Nat×List Nat
def nval:List Nat->Nat
 | []=>0
 | a::l=>a+4294967296*nval l
def decW:List (List C)->Option (List Nat)
 | []=>some []
 | e::r=>match e with
  | [.lit (.int .u32 (.ofNat n))]=>cond (Nat.blt n 4294967296) ((decW r).map (n::·)) none
  | _=>none
def lastNZ:List Nat->Bool
 | []=>true
 | a::l=>match l with
  | []=>!Nat.beq a 0
  | _=>lastNZ l
def nilB{α:Type}:List α->Bool
 | []=>true
 | _=>false
def vldE(x:Rw3):Bool:=
 cond (nilB x.2.1 && nilB x.2.2) (!x.1) (!nilB x.2.1 && !nilB x.2.2 && lastNZ x.2.1 && lastNZ x.2.2 && Nat.beq (Nat.gcd (nval x.2.1) (nval x.2.2)) 1)
def decR:AV->Option Rw3
 | .agg [.lit (.bool b),.slice n,.slice d]=>match decW n,decW d with
  | some n,some d=>cond (Nat.ble n.length 1000000 && Nat.ble d.length 1000000) (some (b,n,d)) none
  | _,_=>none
 | _=>none
def decV(a:AV):Option Rw3:=
 match decR a with
 | some x=>cond (vldE x) (some x) none
 | none=>none
def encR(x:Rw3):AV:=.agg [.lit (.bool x.1),.slice (x.2.1.map λn=>[.lit (.int .u32 (.ofNat n))]),.slice (x.2.2.map λn=>[.lit (.int .u32 (.ofNat n))])]
def dgF:Nat->Nat->List Nat
 | 0,_=>[]
 | f+1,n=>cond (Nat.beq n 0) [] (n % 4294967296::dgF f (n / 4294967296))
def mkR(s:Bool)(n d:Nat):Rw3:=
 cond (Nat.beq n 0) (false,[],[]) (s,dgF (Nat.log2 n+1) (n / Nat.gcd n d),dgF (Nat.log2 d+1) (d / Nat.gcd n d))
def addR(x y:Rw3):Rw3:=
 match x,y with
 | (_,[],_),y=>y
 | x,(_,[],_)=>x
 | (s,n,d),(t,m,e)=>
  let a:=nval n*nval e
  let b:=nval m*nval d
  let g:=nval d*nval e
  cond (s == t) (mkR s (a+b) g) (cond (Nat.ble b a) (mkR s (a-b) g) (mkR t (b-a) g))
def negR(x:Rw3):Rw3:=
 match x with
 | (_,[],_)=>(false,[],[])
 | (s,n,d)=>(!s,n,d)
def mulR(x y:Rw3):Rw3:=
 match x,y with
 | (_,[],_),_=>(false,[],[])
 | _,(_,[],_)=>(false,[],[])
 | (s,n,d),(t,m,e)=>mkR (s != t) (nval n*nval m) (nval d*nval e)
def divR(x y:Rw3):Rw3:=
 match x,y with
 | (_,[],_),_=>(false,[],[])
 | (s,n,d),(t,m,e)=>mkR (s != t) (nval n*nval e) (nval d*nval m)
def signR(x:Rw3):Int:=
 match x with
 | (_,[],_)=>.ofNat 0
 | (s,_,_)=>cond s (.negSucc 0) (.ofNat 1)
inductive FK where
 | add | sub | mul | div | neg | sign | cmp | valid | of
def fracE:FK->List AV->Option AV
 | .add,[a,b]=>match decV a,decV b with
  | some x,some y=>some (encR (addR x y))
  | _,_=>none
 | .sub,[a,b]=>match decV a,decV b with
  | some x,some y=>some (encR (addR x (negR y)))
  | _,_=>none
 | .mul,[a,b]=>match decV a,decV b with
  | some x,some y=>some (encR (mulR x y))
  | _,_=>none
 | .div,[a,b]=>match decV a,decV b with
  | some x,some y=>cond (nilB y.2.1) none (some (.tup [encR (divR x y),.one (.lit .nilIface)]))
  | _,_=>none
 | .neg,[a]=>match decV a with
  | some x=>some (encR (negR x))
  | none=>none
 | .sign,[a]=>match decV a with
  | some x=>some (.one (.lit (.int .i64 (signR x))))
  | none=>none
 | .cmp,[a,b]=>match decV a,decV b with
  | some x,some y=>some (.one (.lit (.int .i64 (signR (addR x (negR y))))))
  | _,_=>none
 | .valid,[a]=>match decR a with
  | some x=>some (.one (.lit (.bool (vldE x))))
  | none=>none
 | .of,[.one (.lit (.int .i64 n))]=>match n with
  | .ofNat k=>cond (Nat.ble k 1000000) (some (encR (mkR false k 1))) none
  | .negSucc k=>cond (Nat.ble k 1000000) (some (encR (mkR true (k+1) 1))) none
 | _,_=>none
def cloneE:List AV->Option (List (List C))
 | [.one (.slice [])]=>some []
 | [.one (.full [])]=>some []
 | [.one .emp]=>some []
 | _=>none
structure PQ where
 h:List (Nat×HB)
 n:Nat
 args:List AV
 r:AV
 mv:List (List (Nat×Nat))
 h' : List (Nat×HB)
 n' : Nat
def mvT:List (List (Nat×Nat))->Tr->Tr
 | [],v=>v
 | l::r,v=>mvT r (rnT (swp l) v)
def mvX:List (List (Nat×Nat))->List Tr->List Tr
 | [],x=>x
 | l::r,x=>mvX r (x.map (rnT (swp l)))
def pairE:List PQ->T->List AV->Option (AV×T)
 | [],_,_=>none
 | q::l,t,args=>sel (Nat.beq t.n q.n && eqAs args q.args && eqH t.h q.h) (some (q.r,⟨mvT q.mv t.v,mvX q.mv t.x,q.h',q.n'⟩)) (pairE l t args)
structure Nums where
 fr:List (Nat×FK)
 clones:List Nat
 wide:Nat
 four:Nat
 pair:Nat
 rk:List (Nat×Nat)
 pq:List PQ
def rankK:List (Nat×Nat)->Nat->Nat
 | [],_=>1000
 | (k,x)::r,f=>cond (Nat.beq f k) x (rankK r f)
def lookK:List (Nat×FK)->Nat->Option FK
 | [],_=>none
 | (k,x)::r,f=>cond (Nat.beq f k) (some x) (lookK r f)
def memN(l:List Nat)(f:Nat):Bool:=l.any (Nat.beq f)
def baseN(N:Nums):Base where
 dat f args:=match lookK N.fr f with
  | some k=>fracE k args
  | none=>none
 inl f args t:=cond (Nat.beq f N.pair) (pairE N.pq t args) none
 fresh f args:=cond (memN N.clones f) (cloneE args) none
 z f:=cond (Nat.beq f N.wide) 3 (cond (Nat.beq f N.four) 4 1)
 rk f:=match lookK N.fr f with
  | some _=>0
  | none=>rankK N.rk f
end
end Go.Abs
end
