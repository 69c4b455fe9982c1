/-
  Parts of the proof, merged: BipL, BipS, BipN, BipE, BipA, BipB, AbsZN, BipC, BipF, BipG, BipR.
-/
import Derived.Test.YthoibmokhnoccaaGreatDoorM10
set_option linter.unusedVariables false
set_option linter.unusedSimpArgs false
set_option maxRecDepth 100000
section
namespace Go.Num
open Go.Abs
theorem xT(x:Rat):∀l:List Rat,hv (trimL l) x=hv l x
 | []=>rfl
 | c::l=>by
  have ih:=xT x l;simp only [trimL];split
  .rename_i h;rw [h]at ih;split
   .rename_i h0;simp only [hv]at ih ⊢;rw [<-ih,h0];grind
   .simp only [hv]at ih ⊢;rw [<-ih]
  .simp only [hv,ih]
theorem vt:∀l:List Rat,trimL (trimL l)=trimL l
 | []=>rfl
 | c::l=>by
  have ih:=vt l;simp only [trimL];by_cases h:trimL l=[]
  .rw [if_pos h];by_cases hc:c=0
   .rw [if_pos hc];rfl
   .rw [if_neg hc];simp only [trimL,if_true];rw [if_neg hc]
  .rw [if_neg h];simp only [trimL];rw [ih,if_neg h]
theorem XG(l:List Rat)(i:Nat):(trimL l).getD i 0=l.getD i 0:=by
 obtain⟨n,h1,h2,h3⟩:=qaF l;rw [h2,List.getD_eq_getElem?_getD,List.getElem?_take];split
 .exact(List.getD_eq_getElem?_getD ..).symm
 .rw [h3 i (by omega)];rfl
theorem WF(l:List Rat):(trimL l).length<=l.length:=by
 obtain⟨n,h1,h2,h3⟩:=qaF l;rw [h2,List.length_take];omega
theorem yH:∀{l:List Rat},trimL l=l->l≠[]->l.getD (l.length-1) 0≠0
 | [],_,h=>(h rfl).elim
 | c::l,e,_=>by
  simp only [trimL]at e;by_cases h:trimL l=[]
  .rw [if_pos h]at e;split at e
   .simp at e
   .rename_i hc;have hl:l=[]:=by simpa using (List.cons.inj e).2.symm
    subst hl;simpa using hc
  .rw [if_neg h]at e;have h1:=(List.cons.inj e).2;have h2:l≠[]:=λe2=>by rw [e2]at h;exact h rfl
   have h3:=yH h1 h2;have h4:l.length≠0:=λe=>h2 (List.length_eq_zero_iff.1 e);obtain⟨m,hm⟩:∃m,l.length=m+1:=⟨l.length-1,by omega⟩
   rw [hm]at h3;simp only [List.length_cons,hm,Nat.add_sub_cancel,List.getD_cons_succ]at h3 ⊢;exact h3
theorem yE{l:List Rat}(h:l≠[]->l.getD (l.length-1) 0≠0):trimL l=l:=by
 by_cases e:l=[]
 .rw [e];rfl
 .have:=Jt (l:=l) (n:=l.length) (Nat.le_refl _) (λi hi=>by rw [List.getD_eq_getElem?_getD,List.getElem?_eq_none hi];rfl) (.inr (h e))
  rwa [List.take_length]at this
theorem zX : ∀(n:Nat) (f:List Rat) (N:Nat),f.length<=n->(∀k:Nat,N<=k->k<N+n->hv f (k:Rat)=0)->∀c∈f,c=0
 | 0,f,N,hl,_,c,hc=>by
  rw [List.length_eq_zero_iff.1 (Nat.le_zero.1 hl)]at hc;simp at hc
 | n+1,f,N,hl,h,c,hc=>by
  refine xaO (N:Rat) f (h N (Nat.le_refl _) (by omega)) (zX n (dv (N:Rat) f) (N+1) (by rw [qaZ];omega) λk hk hk2=>?_) c hc
  have h1:=jbp (N:Rat) (k:Rat) f;rw [h k (by omega) (by omega),h N (Nat.le_refl _) (by omega)]at h1
  have h2:((k:Rat)-(N:Rat))*hv (dv (N:Rat) f) (k:Rat)=0:=by grind
  rcases Rat.mul_eq_zero.1 h2 with h3 | h3
  .exfalso;have h4:(k:Rat)=(N:Rat):=by grind
   have h5:k=N:=by exact_mod_cast h4
   omega
  .exact h3
theorem yV(x:Rat):∀(l:List Rat) (n:Nat),l.length<=n->hv (rowN (λi=>l.getD i 0) 0 n) x=hv l x:=by
 have shift:∀(f:Nat->Rat) (s n:Nat),rowN f (s+1) n=rowN (λi=>f (i+1)) s n:=by
  intro f s n
  induction n generalizing s with
  | zero=>rfl
  | succ n ih=>simp only [rowN,ih]
 intro l
 induction l with
 | nil=>intro n _;exact uaC x 0 n
 | cons c l ih=>
  intro n hn;match n,hn with
  | n+1,hn=>
   simp only [List.length_cons]at hn;simp only [rowN,hv,shift,List.getD_cons_zero,List.getD_cons_succ];rw [ih n (by omega)]
theorem yae(c x:Rat)(f:Nat->Rat):∀s n:Nat,hv (rowN (λi=>c*f i) s n) x=c*hv (rowN f s n) x
 | s,0=>by simp only [rowN,hv];grind
 | s,n+1=>by
  have:=yae c x f (s+1) n;simp only [rowN,hv,this];grind
theorem Wa4{p q:List Rat}(hp:trimL p=p)(hq:trimL q=q){N:Nat}(lp:p.length<=N)(lq:q.length<=N)(h:∀k:Nat,k<N->hv p (k:Rat)=hv q (k:Rat)):p=q:=by
 have hz:=zX N (rowN (λi=>p.getD i 0+(-1)*q.getD i 0) 0 N) 0 (by
  have:∀(f:Nat->Rat) (s n:Nat),(rowN f s n).length=n:=by
   intro f s n
   induction n generalizing s with
   | zero=>rfl
   | succ n ih=>simp only [rowN,List.length_cons,ih]
  rw [this];exact Nat.le_refl _) λk _ hk=>by
   rw [JaR,yae,yV _ p N lp,yV _ q N lq,h k (by omega)];grind
 have hg:∀i,p.getD i 0=q.getD i 0:=by
  intro i;by_cases hi:i<N
  .have:=hz _ (Wan (f:=λi=>p.getD i 0+(-1)*q.getD i 0) (k:=i) (by omega) (by omega))
   grind
  .rw [List.getD_eq_getElem?_getD,List.getD_eq_getElem?_getD,List.getElem?_eq_none (by omega),List.getElem?_eq_none (by omega)]
 have hlen:∀{p q:List Rat},trimL p=p->(∀i,p.getD i 0=q.getD i 0)->p.length<=q.length:=by
  intro p q hp hg;by_cases e:p=[]
  .rw [e];exact Nat.zero_le _
  .have:=yH hp e;apply Classical.byContradiction;intro hn;rw [hg,List.getD_eq_getElem?_getD,List.getElem?_eq_none (by omega)]at this
   exact this rfl
 have l1:=hlen hp hg;have l2:=hlen hq λi=>(hg i).symm;refine List.ext_getElem (by omega) λi h1 h2=>?_
 have:=hg i
 rwa [List.getD_eq_getElem?_getD,List.getD_eq_getElem?_getD,List.getElem?_eq_getElem h1,List.getElem?_eq_getElem h2]at this
def addAt(l:List Rat)(k:Nat)(v:Rat):List Rat:=l.set k (l.getD k 0+v)
theorem ZH(l:List Rat)(k:Nat)(v:Rat):(addAt l k v).length=l.length:=List.length_set
theorem zau(x v:Rat):∀{l:List Rat} {k:Nat},k<l.length->hv (addAt l k v) x=hv l x+v*pw x k
 | c::l,0,_=>by simp only [addAt,List.set_cons_zero,hv,pw,List.getD_cons_zero];grind
 | c::l,k+1,h=>by
  have ih:=zau x v (l:=l) (k:=k) (by simpa using h)
  simp only [addAt,List.set_cons_succ,hv,XaX,List.getD_cons_succ]at ih ⊢;rw [ih];grind
theorem YD{l:List Rat}{k:Nat}(v:Rat)(i:Nat)(h:k<l.length):(addAt l k v).getD i 0=if k=i then l.getD k 0+v else l.getD i 0:=by
 unfold addAt;rw [List.getD_eq_getElem?_getD,List.getElem?_set];by_cases e:k=i
 .rw [if_pos e,if_pos h,if_pos e];rfl
 .rw [if_neg e,if_neg e,<-List.getD_eq_getElem?_getD]
def timI(c:Rat):List Rat->Nat->List Rat->List Rat
 | [],_,o=>o
 | y::q,k,o=>timI c q (k+1) (addAt o k (c*y))
def timO(q:List Rat):List Rat->Nat->List Rat->List Rat
 | [],_,o=>o
 | x::p,i,o=>timO q p (i+1) (timI x q i o)
theorem Yu(c:Rat):∀(q:List Rat) (k:Nat) (o:List Rat),(timI c q k o).length=o.length
 | [],_,_=>rfl
 | y::q,k,o=>by simp only [timI];rw [Yu,ZH]
theorem UA(q:List Rat):∀(p:List Rat) (i:Nat) (o:List Rat),(timO q p i o).length=o.length
 | [],_,_=>rfl
 | x::p,i,o=>by simp only [timO];rw [UA,Yu]
theorem vaB(c x:Rat):∀(q:List Rat) (k:Nat) (o:List Rat),k+q.length<=o.length->hv (timI c q k o) x=hv o x+c*pw x k*hv q x
 | [],k,o,_=>by simp only [timI,hv];grind
 | y::q,k,o,h=>by
  simp only [List.length_cons]at h;simp only [timI];rw [vaB c x q (k+1) _ (by rw [ZH];omega),zau _ _ (by omega)]
  simp only [hv,pw];grind
theorem Wag(x:Rat)(q:List Rat):∀(p:List Rat) (i:Nat) (o:List Rat),i+p.length+q.length<=o.length+1->hv (timO q p i o) x=hv o x+pw x i*hv p x*hv q x
 | [],i,o,_=>by simp only [timO,hv];grind
 | y::p,i,o,h=>by
  simp only [List.length_cons]at h;simp only [timO];rw [Wag x q p (i+1) _ (by rw [Yu];omega),vaB y x q i o (by omega)]
  simp only [hv,pw];grind
theorem UaQ(x:Rat):∀n:Nat,hv (List.replicate n 0) x=0
 | 0=>rfl
 | n+1=>by rw [List.replicate_succ];simp only [hv];rw [UaQ];grind
def timesL(p q:List Rat):List Rat:=if p=[]∨q=[] then [] else trimL (timO q p 0 (List.replicate (p.length+q.length-1) 0))
def prodL(p q:List Rat):List Rat:=trimL (timO q p 0 (List.replicate (p.length+q.length) 0))
theorem yaj(p q:List Rat)(x:Rat):hv (timesL p q) x=hv p x*hv q x:=by
 unfold timesL;split
 .rename_i h;rcases h with h | h <;> rw [h] <;> simp only [hv] <;> grind
 .rename_i h;have h1:p.length≠0:=λe=>h (.inl (List.length_eq_zero_iff.1 e));rw [xT,Wag x q p 0 _ (by rw [List.length_replicate];omega),UaQ]
  simp only [pw];grind
theorem QaR(p q:List Rat)(x:Rat):hv (prodL p q) x=hv p x*hv q x:=by
 unfold prodL;rw [xT,Wag x q p 0 _ (by rw [List.length_replicate];omega),UaQ]
 simp only [pw];grind
def plusP(p q:List Rat)(c:Rat):List Rat:=(List.range (max p.length q.length)).map λi=>p.getD i 0+c*q.getD i 0
def plusT(p q:List Rat)(c:Rat):List Rat:=trimL (plusP p q c)
theorem jaC(f:Nat->Rat)(n:Nat):(List.range n).map f=rowN f 0 n:=by
 have go:∀(n s:Nat),(List.range' s n).map f=rowN f s n:=by
  intro n
  induction n with
  | zero=>intro s;rfl
  | succ n ih=>intro s;rw [List.range'_succ,List.map_cons,ih];rfl
 rw [List.range_eq_range',go]
theorem kaA(p q:List Rat)(c x:Rat):hv (plusT p q c) x=hv p x+c*hv q x:=by
 unfold plusT plusP;rw [xT,jaC,JaR,yae,yV _ p _ (Nat.le_max_left _ _),yV _ q _ (Nat.le_max_right _ _)]
theorem QH(p q:List Rat)(c:Rat):(plusP p q c).length=max p.length q.length:=by unfold plusP;rw [List.length_map,List.length_range]
theorem VH(p q:List Rat)(c:Rat):(plusT p q c).length<=max p.length q.length:=by
 have:=WF (plusP p q c);rw [QH]at this;exact this
theorem zE(p q:List Rat):(timesL p q).length<=p.length+q.length-1:=by
 unfold timesL;split
 .exact Nat.zero_le _
 .have:=WF (timO q p 0 (List.replicate (p.length+q.length-1) 0));rw [UA,List.length_replicate]at this;exact this
theorem UJ(p q:List Rat):trimL (timesL p q)=timesL p q:=by
 unfold timesL;split
 .rfl
 .exact vt _
theorem QD(p q:List Rat):prodL p q=timesL p q:=by
 refine Wa4 (vt _) (UJ p q) (N:=p.length+q.length) ?_ (Nat.le_trans (zE p q) (by omega)) λk _=>by rw [QaR,yaj]
 have:=WF (timO q p 0 (List.replicate (p.length+q.length) 0));rw [UA,List.length_replicate]at this;exact this
theorem JK(p q:List Rat):(prodL p q).length<=p.length+q.length-1:=by rw [QD];exact zE p q
end Go.Num
end
section
namespace Go.Num
open Go.Abs
def Bd(D B:Nat)(x:Rat):Prop:=0<D/\∃a:Int,x*(D:Rat)=(a:Rat)/\a.natAbs<=B
theorem Bd.mono{D B B' : Nat}{x:Rat}(h:Bd D B x)(k:B<=B'):Bd D B' x:=by
 obtain⟨h0,a,h1,h2⟩:=h;exact⟨h0,a,h1,Nat.le_trans h2 k⟩
theorem Bd.zero{D:Nat}(h:0<D)(B:Nat):Bd D B 0:=⟨h,0,by rw [Rat.zero_mul];rfl,Nat.zero_le _⟩
theorem Bd.int(n:Int):Bd 1 n.natAbs (n:Rat):=⟨by decide,n,by rw [show((1:Nat):Rat)=1 from rfl,Rat.mul_one],Nat.le_refl _⟩
theorem Bd.add{D B B' : Nat}{x y:Rat}(h:Bd D B x)(k:Bd D B' y):Bd D (B+B') (x+y):=by
 obtain⟨h0,a,h1,h2⟩:=h;obtain⟨_,b,k1,k2⟩:=k;refine⟨h0,a+b,by rw [Rat.add_mul,h1,k1,Rat.intCast_add],?_⟩
 have:=Int.natAbs_add_le a b;omega
theorem Bd.neg{D B:Nat}{x:Rat}(h:Bd D B x):Bd D B (-x):=by
 obtain⟨h0,a,h1,h2⟩:=h;exact⟨h0,-a,by rw [Rat.neg_mul,h1,Rat.intCast_neg],by rwa [Int.natAbs_neg]⟩
theorem Bd.mul{D D' B B' : Nat}{x y:Rat}(h:Bd D B x)(k:Bd D' B' y):Bd (D*D') (B*B') (x*y):=by
 obtain⟨h0,a,h1,h2⟩:=h;obtain⟨k0,b,k1,k2⟩:=k;refine⟨Nat.mul_pos h0 k0,a*b,?_,?_⟩
 .rw [Rat.intCast_mul,<-h1,<-k1,Rat.natCast_mul];grind
 .rw [Int.natAbs_mul];exact Nat.mul_le_mul h2 k2
theorem Bd.up{D B:Nat}{x:Rat}(h:Bd D B x){k:Nat}(hk:0<k):Bd (D*k) (B*k) x:=by
 have:=h.mul (Bd.int (k:Int) |> λq=>(⟨by decide,(k:Int),by rw [show((1:Nat):Rat)=1 from rfl,Rat.mul_one],by simp⟩:Bd 1 k ((k:Int):Rat)))
 obtain⟨h0,a,h1,h2⟩:=h;refine⟨Nat.mul_pos h0 hk,a*k,?_,?_⟩
 .rw [Rat.intCast_mul,<-h1,Rat.natCast_mul,Rat.intCast_natCast];grind
 .rw [Int.natAbs_mul,Int.natAbs_natCast];exact Nat.mul_le_mul_right _ h2
theorem Ubr{D B s:Nat}{x:Rat}(h:Bd D B x)(hD:D<4294967296 ^ s)(hB:B<4294967296 ^ s):rz x<=s:=by
 obtain⟨h0,a,h1,h2⟩:=h;have hd:(D:Int)≠0:=by omega
 have e:x=Rat.divInt a D:=by
  have h3:(D:Rat)≠0:=by exact_mod_cast hd
  rw [Rat.divInt_eq_div,<-h1,Rat.intCast_natCast];exact(Rat.mul_div_cancel h3).symm
 rw [e];refine VA hd (xad.2 (by omega)) (xad.2 ?_)
 rw [Int.natAbs_natCast];exact hD
def BdL(D B:Nat)(l:List Rat):Prop:=0<D/\∀i,Bd D B (l.getD i 0)
theorem BdL.mem{D B:Nat}{l:List Rat}(h:BdL D B l){x:Rat}(hx:x∈l):Bd D B x:=by
 obtain⟨i,hi⟩:=List.getElem?_of_mem hx;have:=h.2 i;rw [List.getD_eq_getElem?_getD,hi]at this;exact this
theorem BdL.of{D B:Nat}{l:List Rat}(h0:0<D)(h:∀x∈l,Bd D B x):BdL D B l:=⟨h0,λi=>by
 rw [List.getD_eq_getElem?_getD];cases hi:l[i]? with
 | none=>exact .zero h0 B
 | some x=>exact h x (List.mem_of_getElem? hi)⟩
theorem BdL.mono{D B B' : Nat}{l:List Rat}(h:BdL D B l)(k:B<=B'):BdL D B' l:=⟨h.1,λi=>(h.2 i).mono k⟩
theorem BdL.trim{D B:Nat}{l:List Rat}(h:BdL D B l):BdL D B (trimL l):=⟨h.1,λi=>by rw [XG];exact h.2 i⟩
theorem BdL.rep{D B:Nat}(h:0<D)(n:Nat):BdL D B (List.replicate n 0):=.of h λx hx=>by rw [(List.mem_replicate.1 hx).2];exact .zero h B
theorem BdL.nil{D B:Nat}(h:0<D):BdL D B []:=.of h λx hx=>by simp at hx
theorem BdL.addAt{D B B' : Nat}{l:List Rat}(h:BdL D B l)(k:Nat){v:Rat}(hv:Bd D B' v):BdL D (B+B') (addAt l k v):=⟨h.1,λi=>by
 by_cases hk:k<l.length
 .rw [YD v i hk];split
  .exact(h.2 k).add hv
  .exact(h.2 i).mono (Nat.le_add_right _ _)
 .have e:Go.Num.addAt l k v=l:=by unfold Go.Num.addAt;exact List.set_eq_of_length_le (by omega)
  rw [e];exact(h.2 i).mono (Nat.le_add_right _ _)⟩
theorem BdL.timI{D D' B Bc Bq:Nat}{c:Rat}(hc:Bd D Bc c):∀{q:List Rat} {k:Nat} {o:List Rat},BdL D' Bq q->BdL (D*D') B o->BdL (D*D') (B+q.length*(Bc*Bq)) (timI c q k o)
 | [],k,o,_,ho=>by simp only [Go.Num.timI,List.length_nil,Nat.zero_mul,Nat.add_zero];exact ho
 | y::q,k,o,hq,ho=>by
  have hy:=hq.mem (x:=y) (by simp)
  have hq' : BdL D' Bq q:=.of hq.1 λx hx=>hq.mem (by simp [hx])
  have:=BdL.timI hc (k:=k+1) hq' (ho.addAt k (hc.mul hy));simp only [Go.Num.timI];refine this.mono ?_;rw [List.length_cons,Nat.add_mul];omega
theorem BdL.timO{D D' Bp Bq:Nat}{q:List Rat}(hq:BdL D' Bq q):∀{p:List Rat} {i B:Nat} {o:List Rat},BdL D Bp p->BdL (D*D') B o->BdL (D*D') (B+p.length*(q.length*(Bp*Bq))) (timO q p i o)
 | [],i,B,o,_,ho=>by simp only [Go.Num.timO,List.length_nil,Nat.zero_mul,Nat.add_zero];exact ho
 | x::p,i,B,o,hp,ho=>by
  have hx:=hp.mem (x:=x) (by simp)
  have hp' : BdL D Bp p:=.of hp.1 λy hy=>hp.mem (by simp [hy])
  have:=BdL.timO hq (i:=i+1) hp' (BdL.timI hx (k:=i) hq ho);simp only [Go.Num.timO];refine this.mono ?_;rw [List.length_cons,Nat.add_mul p.length];omega
theorem BdL.prod{D D' Bp Bq:Nat}{p q:List Rat}(hp:BdL D Bp p)(hq:BdL D' Bq q):BdL (D*D') (p.length*(q.length*(Bp*Bq))) (prodL p q):=by
 have:=BdL.timO (i:=0) hq hp (BdL.rep (B:=0) (Nat.mul_pos hp.1 hq.1) (p.length+q.length));rw [Nat.zero_add]at this;exact this.trim
theorem BdL.times{D D' Bp Bq:Nat}{p q:List Rat}(hp:BdL D Bp p)(hq:BdL D' Bq q):BdL (D*D') (p.length*(q.length*(Bp*Bq))) (timesL p q):=by
 rw [<-QD];exact hp.prod hq
theorem Bd.sumN{D B:Nat}(h0:0<D){f:Nat->Rat}:∀{n:Nat},(∀k,k<n->Bd D B (f k))->Bd D (n*B) (sumN f n)
 | 0,_=>by rw [Nat.zero_mul];exact .zero h0 0
 | n+1,h=>by
  have:=(Bd.sumN h0 (n:=n) λk hk=>h k (by omega)).add (h n (by omega))
  rw [Nat.add_mul,Nat.one_mul];exact this
theorem Bd.sgn{D B:Nat}{x:Rat}(h:Bd D B x)(k:Nat):Bd D B (sgn k*x):=by
 unfold Go.Num.sgn;split
 .rw [Rat.neg_mul,Rat.one_mul];exact h.neg
 .rw [Rat.one_mul];exact h
def dtB(E:Nat):Nat->Nat
 | 0=>1
 | n+1=>(n+1)*(E*dtB E n)
theorem Bd.dt{D E:Nat}(h0:0<D):∀{n:Nat} {A:MxQ},(∀i j,i<n->j<n->Bd D E (A i j))->Bd (D ^ n) (dtB E n) (dt n A)
 | 0,A,_=>⟨by simp,1,by simp [Go.Num.dt],Nat.le_refl _⟩
 | n+1,A,h=>by
  simp only [Go.Num.dt,dtB];refine Bd.sumN (Nat.pow_pos h0) λk hk=>?_;have h1:=(h 0 k (by omega) hk).mul (Bd.dt h0 (n:=n) (A:=λi j=>A (i+1) (sk k j)) λi j hi hj=>h (i+1) (sk k j) (by omega) (uaw hj))
  rw [show D ^ (n+1)=D*D ^ n by rw [Nat.pow_succ,Nat.mul_comm]]
  exact h1.sgn k
end Go.Num
end
section
namespace Go.Num
open Go.Abs
abbrev PL:=List (List Rat)
abbrev PM:=List (List (List Rat))
def pmG(M:PM)(i j:Nat):List Rat:=(M.getD i []).getD j []
def mnr(M:PM)(k:Nat):PM:=M.tail.map λr=>r.eraseIdx k
def dstep(out c m:List Rat)(k:Nat):List Rat:=if c=[] then out else plusT out (prodL c m) (sgn k)
def detK(f:Nat->List Rat)(M:PM):Nat->List Rat
 | 0=>[]
 | k+1=>dstep (detK f M k) (pmG M 0 k) (f k) k
def detP:Nat->PM->List Rat
 | 0,_=>[1]
 | n+1,M=>detK (λk=>detP n (mnr M k)) M (n+1)
theorem wax{α:Type}(d:α):∀(r:List α) (k j:Nat),(r.eraseIdx k).getD j d=r.getD (sk k j) d:=by
 intro r k j;rw [List.getD_eq_getElem?_getD,List.getD_eq_getElem?_getD,List.getElem?_eraseIdx];unfold sk;split <;> rfl
theorem qI(M:PM)(k i j:Nat):pmG (mnr M k) i j=pmG M (i+1) (sk k j):=by
 unfold pmG mnr;rw [<-wax];congr 1;rw [List.getD_eq_getElem?_getD,List.getElem?_map,List.getElem?_tail];rw [List.getD_eq_getElem?_getD];cases M[i+1]? <;> rfl
theorem vaA{f:Nat->List Rat}{M:PM}(x:Rat):∀k:Nat,hv (detK f M k) x=sumN (λk=>sgn k*(hv (pmG M 0 k) x*hv (f k) x)) k
 | 0=>rfl
 | k+1=>by
  simp only [detK,sumN,dstep];rw [<-vaA x k];split
  .rename_i h;rw [h];simp only [hv];grind
  .rw [kaA,QaR]
theorem zaM(x:Rat):∀(n:Nat) (M:PM),hv (detP n M) x=dt n λi j=>hv (pmG M i j) x
 | 0,M=>by simp only [detP,hv,dt];grind
 | n+1,M=>by
  simp only [detP,dt];rw [vaA];refine wm λk hk=>?_;rw [zaM x n];simp only [qI]
theorem kZ(f:Nat->List Rat)(M:PM):∀k,trimL (detK f M k)=detK f M k
 | 0=>rfl
 | k+1=>by
  simp only [detK,dstep];split
  .exact kZ f M k
  .exact vt _
theorem yaI:∀(n:Nat) (M:PM),trimL (detP n M)=detP n M
 | 0,M=>yE λ_=>by simp [detP]
 | n+1,M=>kZ _ _ _
def LenB(l:List Rat)(d:Int):Prop:=l≠[]->(l.length:Int)<=d+1
def sumZ(f:Nat->Int):Nat->Int
 | 0=>0
 | n+1=>sumZ f n+f n
theorem wx{f g:Nat->Int}:∀{n:Nat},(∀k,k<n->f k=g k)->sumZ f n=sumZ g n
 | 0,_=>rfl
 | n+1,h=>by simp only [sumZ];rw [wx λk hk=>h k (by omega),h n (by omega)]
theorem xO(f:Nat->Int):∀n:Nat,sumZ f (n+1)=f 0+sumZ (λk=>f (k+1)) n
 | 0=>by simp only [sumZ];omega
 | n+1=>by have:=xO f n;simp only [sumZ]at this ⊢;omega
theorem QaI(f:Nat->Int):∀{n k:Nat},k<n+1->sumZ (λj=>f (sk k j)) n+f k=sumZ f (n+1)
 | 0,k,h=>by
  have:k=0:=by omega
  subst this;simp only [sumZ]
 | n+1,k,h=>by
  by_cases e:k=n+1
  .subst e;rw [wx (g:=f) λj hj=>by rw [Qbf hj]]
   rfl
  .have:=QaI f (n:=n) (k:=k) (by omega)
   simp only [sumZ]at this ⊢;rw [qbi (by omega:k<=n)]
   omega
theorem vaD{out c m:List Rat}{k:Nat}{d a b:Int}(h1:LenB out d)(h2:LenB c a)(h3:LenB m b)(h:a+b<=d):LenB (dstep out c m k) d:=by
 unfold dstep;split
 .exact h1
 .rename_i hc;intro _;have l1:=VH out (prodL c m) (sgn k);have l2:=JK c m;have l3:prodL c m≠[]->(prodL c m).length+1<=c.length+m.length/\m≠[]:=λhne=>by
   by_cases hm:m=[]
   .exfalso;rw [QD]at hne;unfold timesL at hne;rw [if_pos (.inr hm)]at hne;exact hne rfl
   .have:c.length≠0:=λe=>hc (List.length_eq_zero_iff.1 e);exact⟨by omega,hm⟩
  by_cases ho:out=[]
  .by_cases hp:prodL c m=[]
   .exfalso;rw [ho,hp]at l1;have hz:plusT out (prodL c m) (sgn k)=[]:=by rw [ho,hp];rfl
    exact ‹plusT out (prodL c m) (sgn k)≠[]› hz
   .obtain⟨l4,hm⟩:=l3 hp;have:=h2 hc;have:=h3 hm;rw [ho]at l1;simp only [List.length_nil,Nat.zero_max]at l1;rw [ho];omega
  .have:=h1 ho;by_cases hp:prodL c m=[]
   .rw [hp]at l1 ⊢;simp only [List.length_nil,Nat.max_zero]at l1;omega
   .obtain⟨l4,hm⟩:=l3 hp;have:=h2 hc;have:=h3 hm;omega
theorem zS:∀{n:Nat} {M:PM} {r w:Nat->Int},(∀i j,i<n->j<n->LenB (pmG M i j) (r i+w j))->LenB (detP n M) (sumZ r n+sumZ w n)
 | 0,M,r,w,_=>λ_=>by simp [detP,sumZ]
 | n+1,M,r,w,h=>by
  simp only [detP];have:∀k,k<=n+1->LenB (detK (λk=>detP n (mnr M k)) M k) (sumZ r (n+1)+sumZ w (n+1)):=by
   intro k
   induction k with
   | zero=>intro _ hne;exact(hne rfl).elim
   | succ k ih=>
    intro hk;have h1:=zS (n:=n) (M:=mnr M k) (r:=λi=>r (i+1)) (w:=λj=>w (sk k j)) λi j hi hj=>by
     rw [qI];exact h (i+1) (sk k j) (by omega) (uaw hj)
    refine vaD (ih (by omega)) (h 0 k (by omega) (by omega)) h1 ?_
    have e1:=QaI w (n:=n) (k:=k) (by omega)
    have e2:=xO r n;omega
  exact this (n+1) (Nat.le_refl _)
theorem Qac:∀{n L:Nat} {M:PM},(∀i j,i<n->j<n->(pmG M i j).length<=L)->(detP n M).length<=n*L+1
 | n,L,M,h=>by
  have h1:=zS (n:=n) (M:=M) (r:=λ_=>(L:Int)) (w:=λ_=>0) λi j hi hj _=>by have:=h i j hi hj;omega
  have e1:∀n:Nat,sumZ (λ_=>(L:Int)) n=((n*L:Nat):Int):=by
   intro n
   induction n with
   | zero=>simp [sumZ]
   | succ n ih=>simp only [sumZ,ih];rw [Nat.add_mul];omega
  have e2:∀n:Nat,sumZ (λ_=>(0:Int)) n=0:=by
   intro n
   induction n with
   | zero=>rfl
   | succ n ih=>simp only [sumZ,ih];rfl
  rw [e1,e2]at h1;by_cases e:detP n M=[]
  .rw [e];simp
  .have:=h1 e;omega
def dpB(L E:Nat):Nat->Nat
 | 0=>1
 | n+1=>(n+1)*(L*((n*L+1)*(E*dpB L E n)))
theorem BdL.plusT{D B B' : Nat}{p q:List Rat}(hp:BdL D B p)(hq:BdL D B' q)(k:Nat):BdL D (B+B') (plusT p q (sgn k)):=by
 refine BdL.trim (BdL.of hp.1 λx hx=>?_);unfold plusP at hx;obtain⟨i,_,rfl⟩:=List.mem_map.1 hx;exact(hp.2 i).add ((hq.2 i).sgn k)
theorem uad{D L E:Nat}(h0:0<D):∀{n:Nat} {M:PM},(∀i j,i<n->j<n->BdL D E (pmG M i j)/\(pmG M i j).length<=L)->BdL (D ^ n) (dpB L E n) (detP n M)/\∀k,k<=n->BdL (D ^ n) (dpB L E n) (match n with | 0=>[] | m+1=>detK (λk=>detP m (mnr M k)) M k)
 | 0,M,_=>⟨BdL.of (by simp) λx hx=>by
   simp only [detP,List.mem_singleton]at hx;subst hx;exact⟨by simp,1,by simp,Nat.le_refl _⟩,λk _=>BdL.nil (by simp)⟩
 | n+1,M,h=>by
  have hp:0<D ^ (n+1):=Nat.pow_pos h0;have this:∀k,k<=n+1->BdL (D ^ (n+1)) (k*(L*((n*L+1)*(E*dpB L E n)))) (detK (λk=>detP n (mnr M k)) M k):=by
   intro k
   induction k with
   | zero=>intro _;exact BdL.nil hp
   | succ k ih=>
    intro hk;have ih:=ih (by omega)
    simp only [detK,dstep];split
    .exact ih.mono (Nat.mul_le_mul_right _ (Nat.le_succ _))
    .obtain⟨h1,h2⟩:=h 0 k (by omega) (by omega)
     have hm:∀i j,i<n->j<n->BdL D E (pmG (mnr M k) i j)/\(pmG (mnr M k) i j).length<=L:=λi j hi hj=>by
      rw [qI];exact h (i+1) (sk k j) (by omega) (uaw hj)
     have h3:=(uad h0 (n:=n) (M:=mnr M k) hm).1;have h4:=Qac (n:=n) (L:=L) (M:=mnr M k) λi j hi hj=>(hm i j hi hj).2;have h5:=BdL.prod h1 h3;have h6:D*D ^ n=D ^ (n+1):=by rw [Nat.pow_succ,Nat.mul_comm]
     rw [h6]at h5;have h7:=BdL.plusT ih (h5.mono (Nat.mul_le_mul h2 (Nat.mul_le_mul_right _ h4))) k;refine h7.mono (Nat.le_of_eq ?_);exact(Nat.succ_mul _ _).symm
  exact⟨this (n+1) (Nat.le_refl _),λk hk=>(this k hk).mono (Nat.mul_le_mul_right _ hk)⟩
end Go.Num
end
section
namespace Go.Num
open Go.Abs
def sylQ(a b:List Rat):MxQ:=λi j=>if i<b.length-1 then (if j<=i+(a.length-1) then a.getD (i+(a.length-1)-j) 0 else 0) else if j<=i then b.getD (i-j) 0 else 0
def sylE(a b:PL)(i j:Nat):List Rat:=if i<b.length-1 then (if j<=i+(a.length-1) then a.getD (i+(a.length-1)-j) [] else []) else if j<=i then b.getD (i-j) [] else []
def sylP(a b:PL):PM:=(List.range (a.length-1+(b.length-1))).map λi=>(List.range (a.length-1+(b.length-1))).map λj=>sylE a b i j
theorem uf{α:Type}(d:α)(f:Nat->α){n i:Nat}(h:i<n):((List.range n).map f).getD i d=f i:=by
 rw [List.getD_eq_getElem?_getD,List.getElem?_map,List.getElem?_range h];rfl
theorem VT{a b:PL}{i j:Nat}(hi:i<a.length-1+(b.length-1))(hj:j<a.length-1+(b.length-1)):pmG (sylP a b) i j=sylE a b i j:=by
 unfold pmG sylP;rw [uf _ _ hi,uf _ _ hj]
theorem QaH(a:PL)(x:Rat)(k:Nat):hv (a.getD k []) x=(a.map λl=>hv l x).getD k 0:=by
 rw [List.getD_eq_getElem?_getD,List.getD_eq_getElem?_getD,List.getElem?_map];cases a[k]? <;> rfl
theorem wbc(a b:PL)(x:Rat)(i j:Nat):hv (sylE a b i j) x=sylQ (a.map λl=>hv l x) (b.map λl=>hv l x) i j:=by
 unfold sylE sylQ;simp only [List.length_map];split
 .split
  .exact QaH a x _
  .rfl
 .split
  .exact QaH b x _
  .rfl
def resP(a b:PL):List Rat:=detP (a.length-1+(b.length-1)) (sylP a b)
def resQ(a b:List Rat):Rat:=dt (a.length-1+(b.length-1)) (sylQ a b)
theorem vbh(a b:PL)(x:Rat):hv (resP a b) x=resQ (a.map λl=>hv l x) (b.map λl=>hv l x):=by
 unfold resP resQ;rw [zaM];simp only [List.length_map];refine Xq λi j hi hj=>?_;rw [VT hi hj,wbc]
theorem Wai(f g:Nat->Int):∀n:Nat,sumZ f n+sumZ g n=sumZ (λi=>f i+g i) n
 | 0=>rfl
 | n+1=>by have:=Wai f g n;simp only [sumZ];omega
theorem uas(c:Int):∀n:Nat,sumZ (λ_=>c) n=n*c
 | 0=>by simp [sumZ]
 | n+1=>by
  simp only [sumZ];rw [uas c n,Int.natCast_succ,Int.add_mul,Int.one_mul]
theorem kas(u v:Int)(n:Nat):∀m:Nat,sumZ (λi=>if i<n then u else v) (m+n)=n*u+m*v
 | 0=>by
  rw [wx (g:=λ_=>u) λk hk=>if_pos (by omega),uas];simp
 | m+1=>by
  rw [show m+1+n=(m+n)+1 by omega]
  simp only [sumZ];rw [kas u v n m,if_neg (by omega),Int.natCast_succ,Int.add_mul,Int.one_mul];omega
theorem Zbb{a b:PL}{p q:Nat}(ha:∀k,LenB (a.getD k []) ((p:Int)-k))(hb:∀k,LenB (b.getD k []) ((q:Int)-k))(hp:a.length-1<=p)(hq:b.length-1<=q):(resP a b).length<=p*q+1:=by
 obtain⟨m,hm⟩:∃m,a.length-1=m:=⟨_,rfl⟩;obtain⟨n,hn⟩:∃n,b.length-1=n:=⟨_,rfl⟩;unfold resP;have h:=zS (n:=a.length-1+(b.length-1)) (M:=sylP a b) (r:=λi=>if i<n then (p:Int)-m-i else (q:Int)-i) (w:=λj=>(j:Int)) λi j hi hj=>by
  rw [VT hi hj];unfold sylE;rw [hm,hn];by_cases h1:i<n
  .rw [if_pos h1];rw [if_pos h1];by_cases h2:j<=i+m
   .rw [if_pos h2];have h3:=ha (i+m-j);have e:((p:Int)-((i+m-j:Nat):Int))=(p:Int)-m-i+j:=by omega
    rw [e]at h3;exact h3
   .rw [if_neg h2];exact λh=>(h rfl).elim
  .rw [if_neg h1];rw [if_neg h1];by_cases h2:j<=i
   .rw [if_pos h2];have h3:=hb (i-j);have e:((q:Int)-((i-j:Nat):Int))=(q:Int)-i+j:=by omega
    rw [e]at h3;exact h3
   .rw [if_neg h2];exact λh=>(h rfl).elim
 rw [Wai,hm,hn,wx (g:=λi=>if i<n then (p:Int)-m else (q:Int)) λk _=>by split <;> omega,kas]at h
 rw [hm,hn];by_cases e:detP (m+n) (sylP a b)=[]
 .rw [e];simp
 .have h1:=h e;have h2:0<=((p:Int)-m)*((q:Int)-n):=Int.mul_nonneg (by omega) (by omega)
  have h3:((p:Int)-m)*((q:Int)-n)=p*q-(n*((p:Int)-m)+m*q):=by
   rw [Int.sub_mul,Int.mul_sub,Int.mul_sub,Int.mul_sub,Int.mul_comm (n:Int) p,Int.mul_comm (n:Int) m];omega
  have h4:((p*q:Nat):Int)=(p:Int)*q:=Int.natCast_mul p q;omega
def nwt(ys:List Rat):Nat->List Rat×List Rat
 | 0=>([],[1])
 | i+1=>(plusT (nwt ys i).1 (nwt ys i).2 ((ys.getD i 0-hv (nwt ys i).1 (i:Rat)) / hv (nwt ys i).2 (i:Rat)),timesL (nwt ys i).2 [-(i:Rat),1])
def thr(ys:List Rat):List Rat:=(nwt ys ys.length).1
def zpr(x:Rat):Nat->Rat
 | 0=>1
 | i+1=>zpr x i*(x-(i:Rat))
theorem zaN(ys:List Rat)(x:Rat):∀i:Nat,hv (nwt ys i).2 x=zpr x i
 | 0=>by simp only [nwt,hv,zpr];grind
 | i+1=>by
  simp only [nwt,zpr];rw [yaj,zaN ys x i];simp only [hv];grind
theorem Vbi{j:Nat}:∀{i:Nat},j<i->zpr (j:Rat) i=0
 | i+1,h=>by
  simp only [zpr];by_cases e:j=i
  .subst e;grind
  .rw [Vbi (by omega)];grind
theorem kat{j:Nat}:∀{i:Nat},i<=j->zpr (j:Rat) i≠0
 | 0,_=>by simp only [zpr];decide
 | i+1,h=>by
  simp only [zpr];intro e;rcases Rat.mul_eq_zero.1 e with e | e
  .exact kat (by omega) e
  .have h4:(j:Rat)=(i:Rat):=by grind
   have h5:j=i:=by exact_mod_cast h4
   omega
theorem vS(ys:List Rat):∀i:Nat,(nwt ys i).1.length<=i/\(nwt ys i).2.length<=i+1
 | 0=>⟨Nat.le_refl _,Nat.le_refl _⟩
 | i+1=>by
  obtain⟨h1,h2⟩:=vS ys i;simp only [nwt];have h3:=VH (nwt ys i).1 (nwt ys i).2 ((ys.getD i 0-hv (nwt ys i).1 (i:Rat)) / hv (nwt ys i).2 (i:Rat));have h4:=zE (nwt ys i).2 [-(i:Rat),1];simp only [List.length_cons,List.length_nil]at h4;exact⟨by omega,by omega⟩
theorem qaj(ys:List Rat):∀i:Nat,trimL (nwt ys i).1=(nwt ys i).1
 | 0=>rfl
 | i+1=>vt _
theorem Ya5(ys:List Rat):∀i j:Nat,j<i->hv (nwt ys i).1 (j:Rat)=ys.getD j 0
 | i+1,j,h=>by
  simp only [nwt];rw [kaA,zaN,zaN];by_cases e:j=i
  .subst e;have:=kat (Nat.le_refl j);rw [Rat.div_mul_cancel this];grind
  .rw [Vbi (by omega:j<i),Ya5 ys i j (by omega)];grind
theorem Ubi{R:List Rat}(hR:trimL R=R){n:Nat}(hl:R.length<=n):thr ((List.range n).map λk:Nat=>hv R (k:Rat))=R:=by
 unfold thr;rw [List.length_map,List.length_range];refine Wa4 (qaj _ n) hR (N:=n) (vS _ n).1 hl λk hk=>?_;rw [Ya5 _ n k hk,uf _ _ hk]
theorem Vbc{a b:PL}{p q:Nat}(ha:∀k,LenB (a.getD k []) ((p:Int)-k))(hb:∀k,LenB (b.getD k []) ((q:Int)-k))(hp:a.length-1<=p)(hq:b.length-1<=q):thr ((List.range (p*q+1)).map λk:Nat=>resQ (a.map λl=>hv l (k:Rat)) (b.map λl=>hv l (k:Rat)))=resP a b:=by
 rw [<-Ubi (R:=resP a b) (yaI _ _) (Zbb ha hb hp hq)];congr 1;exact List.map_congr_left λk _=>(vbh a b _).symm
end Go.Num
end
section
namespace Go.Num
open Go.Abs
theorem Jz(L:List Rat):(L.map rcan).map rv=L:=by
 rw [List.map_map];have:rv ∘ rcan=id:=funext λx=>qc x;rw [this,List.map_id]
theorem zaC(L:List Rat):(∀x∈L.map rcan,WLR x)=True:=eq_true λx hx=>by
 obtain⟨y,_,rfl⟩:=List.mem_map.1 hx;exact xj y
theorem uan(b:Nat)(L:List Rat):okRs b (L.map rcan)=(∀x∈L,rz x<=b):=propext
 ⟨λh x hx=>(h (rcan x) (List.mem_map_of_mem hx)).2,λh x hx=>by
  obtain⟨y,hy,rfl⟩:=List.mem_map.1 hx;exact⟨xj y,h y hy⟩⟩
theorem jR(L:List Rat)(i:Nat):(L.map rcan).getD i (rcan 0)=rcan (L.getD i 0):=by
 rw [List.getD_eq_getElem?_getD,List.getD_eq_getElem?_getD,List.getElem?_map];cases L[i]? <;> rfl
theorem X6(L:List Rat):(L.map rcan).length=L.length:=List.length_map _
theorem jf{L:List Rat}{b:Nat}(h:∀x∈L,rz x<=b)(i:Nat):rz (L.getD i 0)<=b:=by
 rw [List.getD_eq_getElem?_getD];cases hi:L[i]? with
 | none=>have:=rz_0;show rz 0<=b;omega
 | some x=>exact h x (List.mem_of_getElem? hi)
def chkP(L:List Rat):Nat:=if 65<L.length then 4 else if L≠[]/\L.getD (L.length-1) 0=0 then 8 else 0
theorem WaF{L:List Rat}(h:trimL L=L)(hl:L.length<=65):chkP L=0:=by
 unfold chkP;rw [if_neg (by omega),if_neg (λhn=>yH h hn.1 hn.2)]
def fill(M:List Rat)(k:Nat):List Rat:=M.take k++List.replicate (M.length-k) 0
theorem VaY{M:List Rat}{k:Nat}(h:k<=M.length):(fill M k).length=M.length:=by
 unfold fill;rw [List.length_append,List.length_take,List.length_replicate];omega
theorem Jbq(M:List Rat):fill M 0=List.replicate M.length 0:=by unfold fill;simp
theorem yaV(M:List Rat):fill M M.length=M:=by unfold fill;simp
theorem WaS{M:List Rat}{k:Nat}{x:Rat}(h:k<M.length)(hx:M.getD k 0=x):(fill M k).set k x=fill M (k+1):=by
 unfold fill;have e:M.length-k=(M.length-(k+1))+1:=by omega
 have l1:(M.take k).length=k:=by rw [List.length_take];omega
 have hk:M[k]?=some x:=by
  rw [List.getD_eq_getElem?_getD,List.getElem?_eq_getElem h]at hx;rw [List.getElem?_eq_getElem h,<-hx];rfl
 rw [e,List.replicate_succ,List.set_append_right _ _ (by omega),l1,Nat.sub_self,List.set_cons_zero,List.take_add_one,hk]
 simp
theorem QaS{b:Nat}{x:Rat}:∀{l:List Rat},(∀c∈l,rz c<=b)->rz (hv l x)<=l.length*(rz x+b+8)
 | [],_=>by have:=rz_0;simp only [hv];omega
 | c::l,h=>by
  have h1:=QaS (x:=x) (l:=l) λc hc=>h c (by simp [hc])
  have h2:=h c (by simp)
  have h3:=ve x (hv l x);have h4:=qB c (x*hv l x);simp only [hv,List.length_cons,Nat.add_mul];omega
theorem zba{L:List Rat}{k:Nat}(x:Rat)(h:k<L.length):hv (L.drop k) x=hv (L.drop (k+1)) x*x+L.getD k 0:=by
 rw [List.drop_eq_getElem_cons h];simp only [hv];rw [List.getD_eq_getElem?_getD,List.getElem?_eq_getElem h];simp only [Option.getD_some];grind
theorem xA(c y:Rat):∀(q:List Rat) (k:Nat) (o:List Rat),timI c (q++[y]) k o=addAt (timI c q k o) (k+q.length) (c*y)
 | [],k,o=>rfl
 | z::q,k,o=>by
  simp only [List.cons_append,timI,List.length_cons];rw [xA,show k+1+q.length=k+(q.length+1) by omega]
theorem zK(q:List Rat)(x:Rat):∀(p:List Rat) (i:Nat) (o:List Rat),timO q (p++[x]) i o=timI x q (i+p.length) (timO q p i o)
 | [],i,o=>rfl
 | z::p,i,o=>by
  simp only [List.cons_append,timO,List.length_cons];rw [zK,show i+1+p.length=i+(p.length+1) by omega]
theorem uaS{l:List Rat}{s t:Nat}(h:∀i,rz (l.getD i 0)<=s)(k:Nat){v:Rat}(hv:rz v<=t)(i:Nat):rz ((addAt l k v).getD i 0)<=s+t+2:=by
 by_cases hk:k<l.length
 .rw [YD v i hk];split
  .have h1:=h k;have:=qB (l.getD k 0) v;omega
  .have:=h i;omega
 .have e:addAt l k v=l:=by unfold addAt;exact List.set_eq_of_length_le (by omega)
  rw [e];have:=h i;omega
theorem qT{c:Rat}{b:Nat}(hc:rz c<=b):∀{q:List Rat} {k s:Nat} {o:List Rat},(∀x∈q,rz x<=b)->(∀i,rz (o.getD i 0)<=s)->∀i,rz ((timI c q k o).getD i 0)<=s+q.length*(2*b+8)
 | [],k,s,o,_,h,i=>by simp only [timI];have:=h i;omega
 | y::q,k,s,o,hq,h,i=>by
  have h1:=ve c y;have h2:=hq y (by simp)
  have h3:=qT hc (q:=q) (k:=k+1) (λx hx=>hq x (by simp [hx])) (uaS h k (v:=c*y) (t:=2*b+2) (by omega)) i
  simp only [timI,List.length_cons,Nat.add_mul];omega
theorem kT{q:List Rat}{b:Nat}(hq:∀x∈q,rz x<=b):∀{p:List Rat} {k s:Nat} {o:List Rat},(∀x∈p,rz x<=b)->(∀i,rz (o.getD i 0)<=s)->∀i,rz ((timO q p k o).getD i 0)<=s+p.length*(q.length*(2*b+8))
 | [],k,s,o,_,h,i=>by simp only [timO];have:=h i;omega
 | y::p,k,s,o,hp,h,i=>by
  have h2:=kT hq (p:=p) (k:=k+1) (λx hx=>hp x (by simp [hx])) (qT (hp y (by simp)) (k:=k) hq h) i
  simp only [timO,List.length_cons,Nat.add_mul p.length];omega
end Go.Num
namespace Go.Abs
open Go.Num
variable {P:Program} {Γ:Nat->Spec}
def lqA(L:List Rat):AV:=.one (.slice ((L.map rcan).map rC))
theorem VC(x y:List Rat)(h:lqA x=lqA y):x=y:=by
 have:=qaf (x.map rcan) (y.map rcan) h;have h2:=congrArg (List.map rv) this
 rwa [Jz,Jz]at h2
def onLq(k:List Rat->Prop)(a:AV):Prop:=onE lqA k a
@[congr] theorem Qbu{k:List Rat->Prop}{a a'}(h:a=a'):onLq k a=onLq k a':=by subst h;rfl
theorem va1(k:List Rat->Prop)(L:List Rat):onLq k (.one (.slice ((L.map rcan).map rC)))=k L:=yf VC k L
theorem Ya1(k:List Rat->Prop):onLq k (.one (.slice []))=k []:=yf VC k []
theorem xa2(k:List Rat->Prop)(x:Rat):onLq k (.one (.slice [[cb (rcan x),cn (rcan x),cd (rcan x)]]))=k [x]:=yf VC k [x]
theorem ja1(k:List Rat->Prop)(x y:Rat):onLq k (.one (.slice [[cb (rcan x),cn (rcan x),cd (rcan x)],[cb (rcan y),cn (rcan y),cd (rcan y)]]))=k [x,y]:=yf VC k [x,y]
theorem qo{β:Type}{T:List Rat->(β->Prop)->Prop}(h:∀l,GoodT (T l)){a:AV}:GoodT λK=>onLq (λl=>T l K) a:=
 xz (e:=lqA) (T:=T) VC h
theorem xa5(L:List Rat):lqA L=.one (.slice ((L.map rcan).map rC)):=eq_of_heq (HEq.refl _)
attribute [go_sem] va1 Ya1 xa2 ja1 xa5 Jz zaC uan jR X6
attribute [go_sem ↓] va1 Ya1 xa2 ja1 xa5 zaC uan
theorem zf{h h' : Nat->HB}{z:Nat}{b:Bool}{es:List (List C)}{L:List Rat}(e:es=(L.map rcan).map rC):okB h h' (some ⟨es,z,b⟩) (some ⟨(L.map rcan).map rC,z,b⟩):=qC e
theorem J3{h h' : Nat->HB}{b:Bool}{n:Nat}{L:List Rat}(e:L=List.replicate n 0):okB h h' (some ⟨List.replicate n [.lit (.bool false),.emp,.emp],3,b⟩) (some ⟨(L.map rcan).map rC,3,b⟩):=by
 subst e;refine⟨⟨rfl,rfl⟩,.inr ?_⟩;rw [List.map_replicate];exact UC n
theorem UI(L:List Rat)(i:Nat)(x:Rat):((L.map rcan).map rC).set i [cb (rcan x),cn (rcan x),cd (rcan x)]=((L.set i x).map rcan).map rC:=by rw [Q5,List.map_set (f:=rcan)]
def Vv(tE:Nat):q_T:=q_c1 λa K=>onLq (λL=>(∀x∈L,rz x<=4000000000)/\L.length<=1000000/\K (errV tE (chkP L))) a
theorem Jaf(tE:Nat):Good (Vv tE):=q_g1 λ_=>(qo λ_=>(.and λ_=>(.and λ_=>(.ret _))))
def QA(tE:Nat):q_T:=q_c2 λa b K=>onLq (λL=>onR (λx=>(∀x∈L,rz x<=1000000)/\L.length<=65/\trimL L=L/\rl x<=1000000/\K (.tup [rQ (hv L (rv x)),errV tE 0])) b) a
theorem qax(tE:Nat):Good (QA tE):=q_g2 λ_ _=>(qo λ_=>(xk λ_=>(.and λ_=>(.and λ_=>(.and λ_=>(.and λ_=>(.ret _)))))))
def QE:q_T:=q_c2 λa b K=>onLq (λL=>asInt (λk n=>k=.i64/\0<=n/\n<=1000000/\L.length<=1000000/\K (rQ (L.getD n.toNat 0))) b) a
theorem waz:Good QE:=q_g2 λ_ _=>(qo λ_=>(Jc (λ_ _=>(.and λ_=>(.and λ_=>(.and λ_=>(.and λ_=>(.ret _)))))) _))
def XC:q_T:=q_c3 λa b c K=>onLq (λp=>onLq (λq=>onR (λx=>(∀x∈p,rz x<=1000000)/\(∀x∈q,rz x<=1000000)/\p.length<=1000/\q.length<=1000/\rl x<=100000000/\K (lqA (plusT p q (rv x)))) c) b) a
theorem kau:Good XC:=q_g3 λ_ _ _=>(qo λ_=>(qo λ_=>(xk λ_=>(.and λ_=>(.and λ_=>(.and λ_=>(.and λ_=>(.and λ_=>(.ret _)))))))))
def qy:q_T:=q_c2 λa b K=>onLq (λp=>onLq (λq=>(∀x∈p,rz x<=100000)/\(∀x∈q,rz x<=100000)/\p.length<=65/\q.length<=65/\K (lqA (timesL p q))) b) a
theorem Wab:Good qy:=q_g2 λ_ _=>(qo λ_=>(qo λ_=>(.and λ_=>(.and λ_=>(.and λ_=>(.and λ_=>(.ret _)))))))
attribute [go_sem] Vv QA QE XC qy
def wo(f0 f1 tE:Nat):AC:=(.o [.m 2 (.c (.one (.lit .nilIface)))] [0] (.f (.o [.M 5 0,.Z 6 5,.I 7 .gtr 6 65] [0,7] (.cond (.t 7) (.seq (.p [.u 8 (.iface tE (.i 4)),.M 2 8]) .ret) .skip)) [0] (.f (.o [.M 9 0,.Z 10 9,.N 11 0] [0,9,10,11] (.block 0 (.loop (.o [.B 12 .lss 11 10] [0,9,10,11,12] (.f (.cond (.t 12) .skip (.exit 0)) [0,9,10,11] (.f (.block 1 (.o [.J 13 3 9 11,.L 14 3 13,.G 4 [.z,.emp,.emp],.S 3 4 14] [0,4,9,10,11] (.o [.L 15 3 4,.H 16 f0 15,.u 17 (.un .not (.t 16))] [0,9,10,11,17] (.cond (.t 17) (.seq (.p [.u 18 (.iface tE (.i 2)),.M 2 18]) .ret) .skip)))) [0,9,10,11] (.p [.I 19 .add 11 1,.M 11 19]))))))) [0] (.f (.o [.M 20 0,.Z 21 20,.I 22 .gtr 21 0,.M 23 22,.V 24 23 true 0,.V 25 23 true 0,.w 26 23 true (.len (.t 25)),.w 27 23 true (.bin .sub (.t 26) (.i 1)),.w 28 23 true (.idx 3 (.t 24) (.t 27)),.U 29 23 true 3 true 28,.W 30 23 true f1 29,.w 31 23 true (.bin .eql (.t 30) (.i 0)),.P 32 23 31] [32] (.cond (.t 32) (.seq (.p [.u 33 (.iface tE (.i 8)),.M 2 33]) .ret) .skip)) [] (.seq (.p [.m 2 (.c (.one (.lit .nilIface)))]) .ret)))))
def zw(f0 f1 f2:Nat):AC:=(.o [.K 3 3 1,.G 4 [.z,.emp,.emp],.m 5 (.c (.one (.lit .nilIface)))] [0,3,4] (.f (.o [.M 9 0,.H 10 f0 9,.M 6 10] [0,3,4,6] (.o [.M 11 6,.R 12 11] [0,3,4,6,12] (.cond (.t 12) (.seq (.p [.u 13 (.build [.z [.z,.emp,.emp]]),.M 14 6,.S 3 4 13,.M 5 14]) .ret) .skip))) [0,3,4] (.o [.G 7 [.z,.emp,.emp]] [0,3,4,7] (.f (.o [.M 15 0,.Z 16 15,.I 17 .sub 16 1,.M 8 17] [0,3,4,7,8] (.block 0 (.loop (.f (.o [.M 18 8,.I 19 .geq 18 0] [0,3,4,7,8,19] (.cond (.t 19) .skip (.exit 0))) [0,3,4,7,8] (.f (.block 1 (.y [.L 22 3 7,.L 23 3 3,.D 24 f1 22 23,.M 25 0,.M 26 8,.J 27 3 25 26,.L 28 3 27,.D 29 f2 24 28,.S 3 7 29])) [0,3,4,7,8] (.p [.M 20 8,.I 21 .sub 20 1,.M 8 21])))))) [4,7] (.seq (.p [.L 30 3 7,.S 3 4 30,.m 5 (.c (.one (.lit .nilIface)))]) .ret)))))
def Zf:AC:=(.o [.G 4 [.z,.emp,.emp]] [0,1,4] (.f (.o [.M 5 1,.M 6 0,.Z 7 6,.B 8 .lss 5 7] [0,1,4,8] (.cond (.t 8) (.seq (.p [.M 9 0,.M 10 1,.J 11 3 9 10,.L 12 3 11,.S 3 4 12]) .ret) .skip)) [4] (.seq (.p [.u 13 (.build [.z [.z,.emp,.emp]]),.S 3 4 13]) .ret)))
def qx(f0 f1 f2 f3:Nat):AC:=(.o [.K 5 3 2,.m 6 (.c (.one .emp))] [0,1,5] (.o [.M 9 0,.Z 10 9,.M 11 1,.Z 12 11,.u 13 (.max [(.t 10),(.t 12)]),.u 14 (.mk 3 [.z,.emp,.emp] (.t 13) (.t 13)),.M 7 14] [0,1,5,7] (.f (.o [.M 15 7,.Z 16 15,.N 17 0] [0,1,5,7,16,17] (.block 0 (.loop (.o [.B 18 .lss 17 16] [0,1,5,7,16,17,18] (.f (.cond (.t 18) .skip (.exit 0)) [0,1,5,7,16,17] (.f (.block 1 (.o [.M 19 17,.M 8 19] [0,1,5,7,8,16,17] (.y [.M 20 7,.M 21 8,.M 22 0,.M 23 8,.D 24 f0 22 23,.L 25 3 5,.M 26 1,.M 27 8,.D 28 f0 26 27,.D 29 f1 25 28,.D 30 f2 24 29,.J 31 3 20 21,.S 3 31 30]))) [0,1,5,7,16,17] (.p [.I 32 .add 17 1,.M 17 32]))))))) [7] (.seq (.p [.M 33 7,.u 34 (.callf f3 [(.t 33)]),.M 6 34]) .ret))))
def uk(f0 f1 f2:Nat):AC:=(.o [.m 4 (.c (.one .emp))] [0,1] (.f (.o [.M 10 0,.Z 11 10,.I 12 .eql 11 0,.M 13 12,.V 14 13 false 1,.w 15 13 false (.len (.t 14)),.w 16 13 false (.bin .eql (.t 15) (.i 0)),.Q 17 13 16] [0,1,17] (.cond (.t 17) (.seq (.p [.m 4 (.c (.one .emp))]) .ret) .skip)) [0,1] (.o [.M 18 0,.Z 19 18,.M 20 1,.Z 21 20,.B 22 .add 19 21,.I 23 .sub 22 1,.u 24 (.mk 3 [.z,.emp,.emp] (.t 23) (.t 23)),.M 5 24] [0,1,5] (.f (.o [.M 25 0,.Z 26 25,.N 27 0] [1,5,25,26,27] (.block 0 (.loop (.o [.B 28 .lss 27 26] [1,5,25,26,27,28] (.f (.cond (.t 28) .skip (.exit 0)) [1,5,25,26,27] (.f (.block 1 (.o [.M 29 27,.J 30 3 25 27,.L 31 3 30,.G 7 [.z,.emp,.emp],.M 6 29,.S 3 7 31] [1,5,6,7,25,26,27] (.o [.M 32 1,.Z 33 32,.N 34 0] [1,5,6,7,25,26,27,32,33,34] (.block 2 (.loop (.o [.B 35 .lss 34 33] [1,5,6,7,25,26,27,32,33,34,35] (.f (.cond (.t 35) .skip (.exit 2)) [1,5,6,7,25,26,27,32,33,34] (.f (.block 3 (.o [.M 36 34,.J 37 3 32 34,.L 38 3 37,.G 9 [.z,.emp,.emp],.M 8 36,.S 3 9 38] [1,5,6,7,8,9,25,26,27,32,33,34] (.y [.M 39 5,.M 40 6,.M 41 8,.B 42 .add 40 41,.M 43 5,.M 44 6,.M 45 8,.B 46 .add 44 45,.J 47 3 43 46,.L 48 3 47,.L 49 3 7,.L 50 3 9,.D 51 f0 49 50,.D 52 f1 48 51,.J 53 3 39 42,.S 3 53 52]))) [1,5,6,7,25,26,27,32,33,34] (.p [.I 54 .add 34 1,.M 34 54]))))))))) [1,5,25,26,27] (.p [.I 55 .add 27 1,.M 27 55]))))))) [5] (.seq (.p [.M 56 5,.u 57 (.callf f2 [(.t 56)]),.M 4 57]) .ret)))))
theorem Y3(hΓ:Holds P Γ){f fv fs tE:Nat}(hv:Γ fv=.dat true Xg)(hs:Γ fs=.dat true Zk)(hc:check P f=some (34,(wo fv fs tE).strip,[.tmp 2])):Sound P f (.dat false (Vv tE)):=by
 refine Qa hc (Jaf tE) hΓ (λargs K hcl hfi hG=>?_);match args,hG with
 | [a],hG=>
  obtain⟨L,rfl,hr,hl,hK⟩:=hG;refine⟨by simp,?_⟩
  have hl64:(L.length:Int)<=9223372036854775807:=by omega
  by_cases h65:65<L.length
  .have e:chkP L=4:=if_pos h65;have h65' : (65:Int)<(L.length:Int):=by omega
   rw [e,ue tE (by decide)]at hK
   simp only [go_sem,wo,h65'];repeat first | refine q_Wk ?_ | intro _
   exact hK
  have h65' : ¬(65:Int)<(L.length:Int):=by omega
  simp only [go_sem,wo,h65'];repeat first | refine q_Wk ?_ | intro _
  refine ja (λk:Nat=>⟨mkV [(0,lqA L),(9,lqA L),(10,.one (.lit (.int .i64 L.length))),(11,.one (.lit (.int .i64 k)))],mkH []⟩) (λk=>k<=L.length) (λk=>L.length-k) 0 ?_ ?_ ?_
  .exact za (by simp [bitvec_to_nat,lqA]) trivial
  .exact Nat.zero_le _
  .intro k hk;by_cases hlt:k<L.length
   .have hlt' : (k:Int)<(L.length:Int):=by omega
    have hrk:=jf hr k;simp only [go_sem,hlt,hlt',hv,Xf];repeat first | refine q_Wk ?_ | intro _
    exact⟨k+1,za (by simp [bitvec_to_nat,lqA]) trivial,by omega,by omega⟩
   .have hlt' : ¬(k:Int)<(L.length:Int):=by omega
    simp only [go_sem,hlt,hlt',hs];by_cases h0:L=[]
    .subst h0;have e:chkP []=0:=rfl;rw [e,Xd]at hK;simp only [go_sem,List.length_nil];repeat first | refine q_Wk ?_ | intro _
     exact hK
    .have hp:0<L.length:=List.length_pos_iff.2 h0;have hp' : (0:Int)<(L.length:Int):=by omega
     have en:((L.length:Int)-1).toNat=L.length-1:=by omega
     have hrk:=jf hr (L.length-1);by_cases hz:L.getD (L.length-1) 0=0
     .have e:chkP L=8:=by unfold chkP;rw [if_neg h65,if_pos ⟨h0,hz⟩]
      rw [e,ue tE (by decide)]at hK
      have rz0:=rz_0;simp only [go_sem,hp,hp',en,hz,Xf,zR,XT];exact λ_=>⟨λ_=>⟨⟨by omega,by omega⟩,by omega,by omega,by omega,hK,λh=>(h trivial).elim⟩,λh=>(h trivial).elim⟩
     .have e:chkP L=0:=by unfold chkP;rw [if_neg h65,if_neg (λh=>hz h.2)]
      rw [e,Xd]at hK;simp only [go_sem,hp,hp',en,Xf,zR,XT,hz];exact λ_=>⟨λ_=>⟨⟨by omega,by omega⟩,by omega,by omega,by omega,hK⟩,λh=>(h trivial).elim⟩
theorem yag(hΓ:Holds P Γ){f fk fm fa tE:Nat}(hk:Γ fk=.dat false (Vv tE))(hm:Γ fm=.dat false Zj)(ha:Γ fa=.dat false kk)(hc:check P f=some (31,(zw fk fm fa).strip,[.cell 4 3 true,.tmp 5])):Sound P f (.dat false (QA tE)):=by
 refine Qa hc (qax tE) hΓ (λargs K hcl hfi hG=>?_);match args,hG with
 | [a0,a1],hG=>
  obtain⟨L,rfl,c,rfl,wc,hr,hl,ht,lc,hK⟩:=hG;refine⟨by simp,?_⟩
  have ck:=WaF ht hl;have e0:=Xd tE;have zc:=qm wc;have hr4:∀x∈L,rz x<=4000000000:=λx hx=>Nat.le_trans (hr x hx) (by decide)
  rw [e0]at hK;simp only [go_sem,zw,hk,rA,ck,e0];repeat first | refine q_Wk ?_ | intro _
  refine ja (λk:Nat=>⟨mkV [(0,lqA L),(3,.one (.ptr 3 1 0 0)),(4,.one (.ptr 4 1 0 0)),(7,.one (.ptr 7 1 0 0)),(8,.one (.lit (.int .i64 ((k:Int)-1))))],mkH [(3,⟨1,some ⟨[[cb c,cn c,cd c]],3,true⟩⟩),(4,⟨1,some ⟨[[.lit (.bool false),.emp,.emp]],3,true⟩⟩),(7,⟨1,some ⟨[rC (rcan (hv (L.drop k) (rv c)))],3,true⟩⟩)]⟩) (λk=>k<=L.length) (λk=>k) L.length ?_ ?_ ?_
  .refine za (by simp [bitvec_to_nat,lqA]) ⟨Yc,yn,⟨⟨rfl,rfl⟩,.inr ?_⟩,trivial⟩
   rw [List.drop_length];exact UC 1
  .exact Nat.le_refl _
  .intro k hk2;match k,hk2 with
   | 0,hk2=>
    simp only [go_sem,Xf,List.drop_zero];repeat first | refine q_Wk ?_ | intro _
    exact hK
   | m+1,hk2=>
    have em:((m+1:Nat):Int)-1=(m:Int):=by omega
    have e0' : (0:Int)<=(m:Int):=by omega
    have hd:=zba (rv c) (show m<L.length by omega)
    have hrm:=jf hr m;have z1:=QaS (x:=rv c) (l:=L.drop (m+1)) λx hx=>hr x (List.mem_of_mem_drop hx);have z2:(L.drop (m+1)).length*(rz (rv c)+1000000+8)<=65*(rz (rv c)+1000000+8):=Nat.mul_le_mul_right _ (by rw [List.length_drop];omega)
    have z3:=ve (hv (L.drop (m+1)) (rv c)) (rv c);have e5:(m:Int).toNat=m:=Int.toNat_natCast m;simp only [go_sem,em,e0',e5,hm,ha,Xf,decide_true];repeat first | refine q_Wk ?_ | intro _
    refine⟨m,?_,by omega,by omega⟩
    rw [hd];exact za (by simp [bitvec_to_nat,lqA]) ⟨Yc,yn,Yc,trivial⟩
theorem vaf(hΓ:Holds P Γ){f:Nat}(hc:check P f=some (14,(Zf).strip,[.cell 4 3 true])):Sound P f (.dat false QE):=by
 refine Qa hc waz hΓ (λargs K hcl hfi hG=>?_);match args,hG with
 | [a0,a1],hG=>
  obtain⟨L,rfl,hG⟩:=hG;obtain⟨k,n,rfl,rfl,h0,h1,h2,hK⟩:=Xa hG;refine⟨by simp,?_⟩
  by_cases hlt:n<(L.length:Int)
  .have hn:n.toNat<L.length:=by omega
   simp only [go_sem,Zf,hlt,Xf];repeat first | refine q_Wk ?_ | intro _
   exact hK
  .rw [List.getD_eq_getElem?_getD,List.getElem?_eq_none (by omega)]at hK
   have hK:K (rQ 0):=hK;rw [rQ_0]at hK;simp only [go_sem,Zf,hlt];repeat first | refine q_Wk ?_ | intro _
   exact hK
theorem Zac(hΓ:Holds P Γ){f fc fm fa ft:Nat}(hco:Γ fc=.dat false QE)(hm:Γ fm=.dat false Zj)(ha:Γ fa=.dat false kk)(htr:Γ ft=.fresh 3 jk)(hc:check P f=some (35,(qx fc fm fa ft).strip,[.tmp 6])):Sound P f (.dat false XC):=by
 refine Qa hc kau hΓ (λargs K hcl hfi hG=>?_);match args,hG with
 | [a0,a1,a2],hG=>
  obtain⟨p,rfl,q,rfl,c,rfl,wc,hp,hq,lp,lq,lc,hK⟩:=hG;refine⟨by simp,?_⟩
  have zc:=qm wc;obtain⟨N,hN⟩:∃N,max p.length q.length=N:=⟨_,rfl⟩;obtain⟨M,hM⟩:∃M,plusP p q (rv c)=M:=⟨_,rfl⟩;have hMl:M.length=N:=by rw [<-hM,QH,hN]
  have hmx:mx (p.length:Int) (q.length:Int)=(N:Int):=by unfold mx;split <;> omega
  have hrM:∀x∈M,rz x<=200000000:=by
   intro x hx;rw [<-hM]at hx;unfold plusP at hx;obtain⟨i,_,rfl⟩:=List.mem_map.1 hx;have h1:=jf hp i;have h2:=jf hq i;have h3:=ve (rv c) (q.getD i 0);have h4:=qB (p.getD i 0) (rv c*q.getD i 0);omega
  have hK:K (lqA (trimL M)):=by rw [<-hM];exact hK
  simp only [go_sem,qx,rA,hmx];repeat first | refine q_Wk ?_ | intro _
  refine ja (λk:Nat=>⟨mkV [(0,lqA p),(1,lqA q),(5,.one (.ptr 5 1 0 0)),(7,.one (.own 14 1 3 0 N)),(16,.one (.lit (.int .i64 N))),(17,.one (.lit (.int .i64 k)))],mkH [(5,⟨1,some ⟨[[cb c,cn c,cd c]],3,true⟩⟩),(14,⟨1,some ⟨((fill M k).map rcan).map rC,3,true⟩⟩)]⟩) (λk=>k<=N) (λk=>N-k) 0 ?_ ?_ ?_
  .exact za (by simp [bitvec_to_nat,lqA]) ⟨Yc,J3 (by rw [Jbq,hMl]),trivial⟩
  .exact Nat.zero_le _
  .intro k hk;have fl:=VaY (M:=M) (k:=k) (by omega)
   by_cases hlt:k<N
   .have hlt' : (k:Int)<(N:Int):=by omega
    have hMk:M.getD k 0=p.getD k 0+rv c*q.getD k 0:=by rw [<-hM];unfold plusP;exact uf _ _ (by omega)
    have hs:=WaS (M:=M) (k:=k) (by omega) hMk
    have h1:=jf hp k;have h2:=jf hq k;have h3:=ve (rv c) (q.getD k 0);obtain⟨u,hu⟩:∃u,p.getD k 0=u:=⟨_,rfl⟩;obtain⟨v,hv⟩:∃v,q.getD k 0=v:=⟨_,rfl⟩;rw [hu,hv]at hs;rw [hv]at h3;rw [hu]at h1;rw [hv]at h2;simp only [go_sem,hlt,hlt',hco,hm,ha,hu,hv,rQ,Xf,fl,hMl,Int.toNat_natCast,Nat.zero_add,UI,hs];repeat first | refine q_Wk ?_ | intro _
    refine⟨k+1,?_,by omega,by omega⟩
    exact za (by simp [bitvec_to_nat,lqA]) ⟨Yc,zf rfl,trivial⟩
   .have ek:k=N:=by omega
    subst ek;have hf:fill M k=M:=by rw [<-hMl];exact yaV M
    have hlt' : ¬(k:Int)<(k:Int):=by omega
    have ht:((M.map rcan).map rC).take k=(M.map rcan).map rC:=List.take_of_length_le (by rw [List.length_map,List.length_map,hMl];exact Nat.le_refl _)
    have hr4:∀x∈M,rz x<=4000000000:=λx hx=>Nat.le_trans (hrM x hx) (by decide)
    simp only [go_sem,hlt',htr,hf,ht,hMl,List.length_map];repeat first | refine q_Wk ?_ | intro _
    exact hK
theorem zaa(hΓ:Holds P Γ){f fm fa ft:Nat}(hm:Γ fm=.dat false Zj)(ha:Γ fa=.dat false kk)(htr:Γ ft=.fresh 3 jk)(hc:check P f=some (58,(uk fm fa ft).strip,[.tmp 4])):Sound P f (.dat false qy):=by
 refine Qa hc Wab hΓ (λargs K hcl hfi hG=>?_);match args,hG with
 | [a0,a1],hG=>
  obtain⟨p,rfl,q,rfl,hp,hq,lp,lq,hK⟩:=hG;refine⟨by simp,?_⟩
  by_cases h0:p=[]
  .subst h0;have e:timesL [] q=[]:=if_pos (.inl rfl);rw [e]at hK;simp only [go_sem,uk,List.length_nil];repeat first | refine q_Wk ?_ | intro _
   exact hK
  have hp0:¬(p.length:Int)=0:=λe=>h0 (List.length_eq_zero_iff.1 (by omega))
  by_cases h1:q=[]
  .subst h1;have e:timesL p []=[]:=if_pos (.inr rfl);rw [e]at hK;simp only [go_sem,uk,List.length_nil,hp0];repeat first | refine q_Wk ?_ | intro _
   exact hK
  have hq0:¬(q.length:Int)=0:=λe=>h1 (List.length_eq_zero_iff.1 (by omega))
  obtain⟨N,hN⟩:∃N,p.length+q.length-1=N:=⟨_,rfl⟩;have hN' : (p.length:Int)+(q.length:Int)-1=(N:Int):=by omega
  have e:timesL p q=trimL (timO q p 0 (List.replicate N 0)):=by unfold timesL;rw [if_neg (λh=>h.elim h0 h1),hN]
  rw [e]at hK;have r0:∀i,rz ((List.replicate N (0:Rat)).getD i 0)<=10:=λi=>by
   have:=rz_0;rw [List.getD_eq_getElem?_getD,List.getElem?_replicate];split <;> (show rz 0<=10;omega)
  have szO:∀k j,rz ((timO q (p.take k) 0 (List.replicate N 0)).getD j 0)<=900000000:=λk j=>by
   have h2:=kT hq (p:=p.take k) (k:=0) (λx hx=>hp x (List.mem_of_mem_take hx)) r0 j;have h3:(p.take k).length*(q.length*(2*100000+8))<=65*(65*(2*100000+8)):=Nat.mul_le_mul (by rw [List.length_take];omega) (Nat.mul_le_mul_right _ lq)
   omega
  simp only [go_sem,uk,hp0,hq0,hN'];repeat first | refine q_Wk ?_ | intro _
  refine ja (λk:Nat=>⟨mkV [(1,lqA q),(5,.one (.own 24 1 3 0 N)),(25,lqA p),(26,.one (.lit (.int .i64 p.length))),(27,.one (.lit (.int .i64 k)))],mkH [(24,⟨1,some ⟨((timO q (p.take k) 0 (List.replicate N 0)).map rcan).map rC,3,true⟩⟩)]⟩) (λk=>k<=p.length) (λk=>p.length-k) 0 ?_ ?_ ?_
  .have eN:((p.length:Int)+(q.length:Int)).toNat-1=N:=by omega
   exact za (by simp [bitvec_to_nat,lqA,eN]) ⟨J3 (by simp [timO,eN]),trivial⟩
  .exact Nat.zero_le _
  .intro k hk;obtain⟨O,hO⟩:∃O,timO q (p.take k) 0 (List.replicate N 0)=O:=⟨_,rfl⟩;have lO:O.length=N:=by rw [<-hO,UA,List.length_replicate]
   by_cases hlt:k<p.length
   .have hlt' : (k:Int)<(p.length:Int):=by omega
    obtain⟨u,hu⟩:∃u,p.getD k 0=u:=⟨_,rfl⟩;have hu1:rz u<=100000:=by rw [<-hu];exact jf hp k
    have hpk:p.take (k+1)=p.take k++[u]:=by
     rw [List.take_add_one];rw [List.getD_eq_getElem?_getD,List.getElem?_eq_getElem hlt]at hu;rw [List.getElem?_eq_getElem hlt];simp only [Option.getD_some]at hu;rw [hu];rfl
    have hnext:timO q (p.take (k+1)) 0 (List.replicate N 0)=timI u q k O:=by
     rw [hpk,zK,hO,Nat.zero_add,List.length_take,Nat.min_eq_left (by omega)]
    have hO2:∀i,rz (O.getD i 0)<=900000000:=λi=>by rw [<-hO];exact szO k i
    have szI:∀t j,rz ((timI u (q.take t) k O).getD j 0)<=1000000000:=λt j=>by
     have h2:=qT hu1 (q:=q.take t) (k:=k) (λx hx=>hq x (List.mem_of_mem_take hx)) hO2 j;have h3:(q.take t).length*(2*100000+8)<=65*(2*100000+8):=Nat.mul_le_mul_right _ (by rw [List.length_take];omega)
     omega
    simp only [go_sem,hlt,hlt',hu,Xf,hO];repeat first | refine q_Wk ?_ | intro _
    refine ja (λt:Nat=>⟨mkV [(1,lqA q),(5,.one (.own 24 1 3 0 N)),(6,.one (.lit (.int .i64 k))),(7,.one (.ptr 7 1 0 0)),(25,lqA p),(26,.one (.lit (.int .i64 p.length))),(27,.one (.lit (.int .i64 k))),(32,lqA q),(33,.one (.lit (.int .i64 q.length))),(34,.one (.lit (.int .i64 t)))],mkH [(7,⟨1,some ⟨[[cb (rcan u),cn (rcan u),cd (rcan u)]],3,true⟩⟩),(24,⟨1,some ⟨((timI u (q.take t) k O).map rcan).map rC,3,true⟩⟩)]⟩) (λt=>t<=q.length) (λt=>q.length-t) 0 ?_ ?_ ?_
    .exact za (by simp [bitvec_to_nat,lqA]) ⟨Yc,zf rfl,trivial⟩
    .exact Nat.zero_le _
    .intro t ht;obtain⟨I,hI⟩:∃I,timI u (q.take t) k O=I:=⟨_,rfl⟩;have lI:I.length=N:=by rw [<-hI,Yu,lO]
     by_cases htl:t<q.length
     .have htl' : (t:Int)<(q.length:Int):=by omega
      obtain⟨v,hv⟩:∃v,q.getD t 0=v:=⟨_,rfl⟩;have hv1:rz v<=100000:=by rw [<-hv];exact jf hq t
      have hqt:q.take (t+1)=q.take t++[v]:=by
       rw [List.take_add_one];rw [List.getD_eq_getElem?_getD,List.getElem?_eq_getElem htl]at hv;rw [List.getElem?_eq_getElem htl];simp only [Option.getD_some]at hv;rw [hv];rfl
      have hnx:timI u (q.take (t+1)) k O=I.set (k+t) (I.getD (k+t) 0+u*v):=by
       rw [hqt,xA,hI,List.length_take,Nat.min_eq_left (by omega)];rfl
      have h3:=ve u v;have h4:rz (I.getD (k+t) 0)<=1000000000:=by rw [<-hI];exact szI t _
      have e5:((k:Int)+(t:Int)).toNat=k+t:=by omega
      simp only [go_sem,htl,htl',hv,hm,ha,rQ,Xf,hI,lI,e5,Nat.zero_add,UI];repeat first | refine q_Wk ?_ | intro _
      refine⟨t+1,?_,by omega,by omega⟩
      rw [hnx];exact za (by simp [bitvec_to_nat,lqA]) ⟨Yc,zf rfl,trivial⟩
     .have et:q.take t=q:=List.take_of_length_le (by omega)
      have htl' : ¬(t:Int)<(q.length:Int):=by omega
      rw [et]at hI;simp only [go_sem,htl',et,hI];repeat first | refine q_Wk ?_ | intro _
      refine⟨k+1,?_,by omega,by omega⟩
      rw [hnext,hI];exact za (by simp [bitvec_to_nat,lqA]) ⟨zf rfl,trivial⟩
   .have ek:p.take k=p:=List.take_of_length_le (by omega)
    have hlt' : ¬(k:Int)<(p.length:Int):=by omega
    rw [ek]at hO;have ht:((O.map rcan).map rC).take N=(O.map rcan).map rC:=List.take_of_length_le (by rw [List.length_map,List.length_map,lO];exact Nat.le_refl _)
    have hr4:∀x∈O,rz x<=4000000000:=λx hx=>by
     obtain⟨i,hi⟩:=List.getElem?_of_mem hx;have:=szO p.length i;rw [List.take_length,hO,List.getD_eq_getElem?_getD,hi]at this;exact Nat.le_trans this (by decide)
    rw [hO]at hK;simp only [go_sem,hlt',htr,ek,hO,ht,lO,List.length_map];repeat first | refine q_Wk ?_ | intro _
    exact hK
end Go.Abs
end
section
namespace Go.Num
open Go.Abs
def hvB(B:Nat):Nat->Nat
 | 0=>0
 | n+1=>B+10*hvB B n
theorem UT{B m n:Nat}(h:m<=n):hvB B m<=hvB B n:=by
  induction n with
  | zero => have : m = 0 := by omega
            subst this;exact Nat.le_refl _
  | succ n ih=>
    by_cases e:m=n+1
    . subst e;exact Nat.le_refl _
    . have:=ih (by omega)
      simp only [hvB];omega
theorem UaX{D B k:Nat}(hk:k<=10)(h0:0<D):∀{l:List Rat},BdL D B l->Bd D (hvB B l.length) (hv l (k:Rat))
 | [],_=>.zero h0 _
 | c::l,h=>by
  have h1:=h.mem (x:=c) (by simp)
  have h2:=UaX hk h0 (l:=l) (.of h0 λx hx=>h.mem (by simp [hx]))
  have h3:Bd 1 10 ((k:Nat):Rat):=⟨by decide,(k:Int),by rw [show((1:Nat):Rat)=1 from rfl,Rat.mul_one,Rat.intCast_natCast],by simpa using hk⟩
  have h4:=h3.mul h2;rw [Nat.one_mul]at h4;exact h1.add h4
theorem Bd.divI{D N:Nat}{x:Rat}(h:Bd D N x){a:Int}(ha:a≠0):Bd (D*a.natAbs) N (x / (a:Rat)):=by
 obtain⟨h0,n,h1,h2⟩:=h;have hn:0<a.natAbs:=by omega
 have ha' : (a:Rat)≠0:=λe=>ha (by exact_mod_cast e)
 rcases Int.natAbs_eq a with e | e
 .refine⟨Nat.mul_pos h0 hn,n,?_,h2⟩;rw [<-h1,Rat.natCast_mul];have e2:((a.natAbs:Nat):Rat)=(a:Rat):=by rw [<-Rat.intCast_natCast,<-e]
  rw [e2];have:=Rat.div_mul_cancel (a:=x) ha';grind
 .refine⟨Nat.mul_pos h0 hn,-n,?_,by rwa [Int.natAbs_neg]⟩
  rw [Rat.intCast_neg,<-h1,Rat.natCast_mul];have e2:((a.natAbs:Nat):Rat) = -(a:Rat):=by
   rw [<-Rat.intCast_natCast,<-Rat.intCast_neg];congr 1;omega
  rw [e2];have:=Rat.div_mul_cancel (a:=x) ha';grind
def ZB:Nat->Nat
 | 0=>1
 | i+1=>(i+1)*(2*(ZB i*10))
def AT:Nat:=2 ^ 110
def OB(B:Nat):Nat->Nat
 | 0=>0
 | i+1=>OB B i*AT+(B*AT ^ i+hvB (OB B i) i)*ZB i
theorem vbu:∀i,i<=10->hvB (ZB i) (i+1)<=AT:=by decide +kernel
theorem xa3{D B:Nat}{Y:List Rat}(hY:BdL D B Y):∀i:Nat,i<=10->BdL 1 (ZB i) (nwt Y i).2/\∃p,0<p/\p<=AT ^ i/\BdL (D*p) (OB B i) (nwt Y i).1
 | 0,_=>⟨.of (by decide) λx hx=>by
   simp only [nwt,List.mem_singleton]at hx;subst hx;exact⟨by decide,1,by simp,Nat.le_refl _⟩,1,by decide,by simp,.nil (by rw [Nat.mul_one];exact hY.1)⟩
 | i+1,hi=>by
  obtain⟨hz,p,p0,p1,ho⟩:=xa3 hY i (by omega)
  obtain⟨l1,l2⟩:=vS Y i;simp only [nwt];have q2:BdL 1 10 [-(i:Rat),1]:=.of (by decide) λx hx=>by
   simp only [List.mem_cons,List.not_mem_nil,or_false]at hx;rcases hx with rfl | rfl
   .exact⟨by decide,-(i:Int),by rw [show((1:Nat):Rat)=1 from rfl,Rat.mul_one,Rat.intCast_neg,Rat.intCast_natCast],by rw [Int.natAbs_neg,Int.natAbs_natCast];omega⟩
   .exact⟨by decide,1,by simp,by decide⟩
  have hz2:=BdL.times hz q2;refine⟨hz2.mono (Nat.mul_le_mul_right _ l2),?_⟩;obtain⟨_,a,ha,ha2⟩:=UaX (k:=i) (by omega) (by decide) hz
  rw [show((1:Nat):Rat)=1 from rfl,Rat.mul_one]at ha;have hne:a≠0:=λe=>by
   have h:=kat (Nat.le_refl i);rw [<-zaN Y]at h;rw [ha,e]at h;exact h rfl
  have hat:a.natAbs<=AT:=Nat.le_trans ha2 (Nat.le_trans (UT l2) (vbu i (by omega)))
  have hpos:0<a.natAbs:=by omega
  have h0:0<D*p:=Nat.mul_pos hY.1 p0;have hh:=(UaX (k:=i) (by omega) h0 ho).mono (UT l1)
  have hy:=((hY.2 i).up p0).mono (Nat.mul_le_mul_left B p1);have hc:=(hy.add hh.neg).divI hne;rw [<-Rat.sub_eq_add_neg,<-ha]at hc;refine⟨p*a.natAbs,Nat.mul_pos p0 hpos,?_,?_⟩
  .rw [Nat.pow_succ];exact Nat.mul_le_mul p1 hat
  .unfold plusT;refine BdL.trim (BdL.of (Nat.mul_pos hY.1 (Nat.mul_pos p0 hpos)) λx hx=>?_);unfold plusP at hx;obtain⟨j,_,rfl⟩:=List.mem_map.1 hx;have e1:=((ho.2 j).up hpos).mono (Nat.mul_le_mul_left (OB B i) hat);have e2:=hc.mul (hz.2 j);rw [Nat.mul_one]at e2;rw [<-Nat.mul_assoc];exact e1.add e2
def wB:Nat:=4294967296 ^ 200
def w400:Nat:=4294967296 ^ 200*4294967296 ^ 200
theorem ubp:∀i,i<=10->OB wB i<w400/\wB*AT ^ i<w400/\ZB i<w400:=by decide +kernel
def Sml(Y:List Rat):Prop:=∃D B,BdL D B Y/\D<=wB/\B<=wB
theorem vaT:1<w400:=by decide +kernel
theorem rz_w{D B:Nat}{x:Rat}(h:Bd D B x)(hD:D<w400)(hB:B<w400):rz x<=400:=by
 unfold w400 at hD hB;rw [<-Nat.pow_add]at hD hB;exact Ubr (s:=200+200) h hD hB
theorem wbj{Y:List Rat}(hY:Sml Y){i:Nat}(hi:i<=10):(∀x∈(nwt Y i).1,rz x<=400)/\∀x∈(nwt Y i).2,rz x<=400:=by
 obtain⟨D,B,h,hD,hB⟩:=hY;obtain⟨hz,p,p0,p1,ho⟩:=xa3 (h.mono hB) i hi;obtain⟨n1,n2,n3⟩:=ubp i hi;refine⟨λx hx=>rz_w (ho.mem hx) (Nat.lt_of_le_of_lt (Nat.mul_le_mul hD p1) n2) n1,λx hx=>rz_w (hz.mem hx) vaT n3⟩
theorem waG(Y:List Rat):∀i:Nat,trimL (nwt Y i).2=(nwt Y i).2
 | 0=>yE λ_=>by simp [nwt]
 | i+1=>UJ _ _
def xsn(n:Nat):List Rat:=(List.range n).map λk:Nat=>(k:Rat)
theorem Uad(n:Nat):(xsn n).length=n:=by unfold xsn;rw [List.length_map,List.length_range]
theorem ybf{n k:Nat}(h:k<n):(xsn n).getD k 0=(k:Rat):=uf _ _ h
theorem Zv{k:Nat}(h:k<=64):rz (k:Rat)<=2:=by
 have h1:=wa3 (k:Int);have h2:zs (k:Int)<=2:=Jag (by omega)
 rw [<-Rat.intCast_natCast];omega
theorem xbg{n:Nat}(h:n<=64):∀x∈xsn n,rz x<=2:=λx hx=>by
 unfold xsn at hx;obtain⟨k,hk,rfl⟩:=List.mem_map.1 hx;exact Zv (by have:=List.mem_range.1 hk;omega)
theorem ybi{i k:Nat}(h:i≠k):ordQ (i:Rat) (k:Rat)≠0:=by
 intro e;have h1:¬((i:Nat):Rat)<(k:Rat):=λh=>by unfold ordQ at e;rw [if_pos h]at e;exact absurd e (by decide)
 have h2:¬((k:Nat):Rat)<(i:Rat):=λh=>by unfold ordQ at e;rw [if_neg h1,if_pos h]at e;exact absurd e (by decide)
 have h3:((i:Nat):Rat)=(k:Rat):=Rat.le_antisymm (Rat.not_lt.1 h2) (Rat.not_lt.1 h1);exact h (by exact_mod_cast h3)
end Go.Num
namespace Go.Abs
open Go.Num
variable {P:Program} {Γ:Nat->Spec}
def uC(tE:Nat):q_T:=q_c2 λa b K=>onLq (λX=>onLq (λY=>X=xsn Y.length/\Y.length<=10/\Sml Y/\(∀x∈Y,rz x<=10000)/\K (.tup [lqA (thr Y),errV tE 0])) b) a
theorem kay(tE:Nat):Good (uC tE):=q_g2 λ_ _=>(qo λ_=>(qo λ_=>(.and λ_=>(.and λ_=>(.and λ_=>(.and λ_=>(.ret _)))))))
attribute [go_sem] uC
def Zp(f0 f1 f2 f3 f4 f5 f6 f7 f8 tE:Nat):AC:=(.o [.m 4 (.c (.one .emp)),.m 5 (.c (.one (.lit .nilIface)))] [0,1] (.f (.o [.M 19 0,.Z 20 19,.M 21 1,.Z 22 21,.B 23 .neq 20 22] [0,1,23] (.cond (.t 23) (.seq (.p [.u 24 (.iface tE (.i 10)),.m 4 (.c (.one .emp)),.M 5 24]) .ret) .skip)) [0,1] (.f (.o [.M 25 0,.Z 26 25,.I 27 .gtr 26 65] [0,1,27] (.cond (.t 27) (.seq (.p [.u 28 (.iface tE (.i 4)),.m 4 (.c (.one .emp)),.M 5 28]) .ret) .skip)) [0,1] (.f (.o [.M 29 0,.M 30 1,.u 31 (.rowo 1 [[.x 1 (.t 29)],[.x 1 (.t 30)]]),.Z 32 31,.N 33 0] [0,1,31,32,33] (.block 0 (.loop (.o [.B 34 .lss 33 32] [0,1,31,32,33,34] (.f (.cond (.t 34) .skip (.exit 0)) [0,1,31,32,33] (.f (.block 1 (.o [.J 35 1 31 33,.F 36 1 35,.M 7 36] [0,1,7,31,32,33] (.o [.M 37 7,.Z 38 37,.N 39 0] [0,1,31,32,33,37,38,39] (.block 2 (.loop (.o [.B 40 .lss 39 38] [0,1,31,32,33,37,38,39,40] (.f (.cond (.t 40) .skip (.exit 2)) [0,1,31,32,33,37,38,39] (.f (.block 3 (.o [.J 41 3 37 39,.L 42 3 41,.G 9 [.z,.emp,.emp],.S 3 9 42] [0,1,9,31,32,33,37,38,39] (.o [.L 43 3 9,.H 44 f0 43,.u 45 (.un .not (.t 44))] [0,1,31,32,33,37,38,39,45] (.cond (.t 45) (.seq (.p [.u 46 (.iface tE (.i 2)),.m 4 (.c (.one .emp)),.M 5 46]) .ret) .skip)))) [0,1,31,32,33,37,38,39] (.p [.I 47 .add 39 1,.M 39 47]))))))))) [0,1,31,32,33] (.p [.I 48 .add 33 1,.M 33 48]))))))) [0,1] (.f (.o [.M 49 0,.Z 50 49,.N 51 0] [0,1,50,51] (.block 4 (.loop (.o [.B 52 .lss 51 50] [0,1,50,51,52] (.f (.cond (.t 52) .skip (.exit 4)) [0,1,50,51] (.f (.block 5 (.o [.M 53 51,.M 10 53] [0,1,10,50,51] (.o [.M 54 10,.N 55 0] [0,1,10,50,51,54,55] (.block 6 (.loop (.o [.B 56 .lss 55 54] [0,1,10,50,51,54,55,56] (.f (.cond (.t 56) .skip (.exit 6)) [0,1,10,50,51,54,55] (.f (.block 7 (.o [.M 57 55,.M 11 57] [0,1,10,11,50,51,54,55] (.f (.y [.M 58 0,.M 59 10,.J 60 3 58 59,.L 61 3 60,.M 62 0,.M 63 11,.J 64 3 62 63,.L 65 3 64,.D 66 f1 61 65,.I 67 .eql 66 0]) [0,1,10,50,51,54,55,67] (.cond (.t 67) (.seq (.p [.u 68 (.iface tE (.i 6)),.m 4 (.c (.one .emp)),.M 5 68]) .ret) .skip)))) [0,1,10,50,51,54,55] (.p [.I 69 .add 55 1,.M 55 69]))))))))) [0,1,50,51] (.p [.I 70 .add 51 1,.M 51 70]))))))) [0,1] (.o [.m 12 (.c (.one .emp))] [0,1,12] (.o [.u 71 (.call f2 [(.i 1)]),.u 72 (.row 3 [[.x 3 (.t 71)]]),.M 13 72] [0,1,12,13] (.f (.o [.M 73 0,.Z 74 73,.N 75 0] [0,1,12,13,74,75] (.block 8 (.loop (.o [.B 76 .lss 75 74] [0,1,12,13,74,75,76] (.f (.cond (.t 76) .skip (.exit 8)) [0,1,12,13,74,75] (.f (.block 9 (.o [.M 77 75,.M 14 77] [0,1,12,13,14,74,75] (.o [.M 79 12,.M 80 0,.M 81 14,.J 82 3 80 81,.L 83 3 82,.D 84 f3 79 83,.M 78 84,.X 85 0 78,.X 86 1 78,.G 15 [.z,.emp,.emp],.S 3 15 85,.M 16 86] [0,1,12,13,14,15,16,74,75] (.f (.o [.M 87 16,.R 88 87] [0,1,12,13,14,15,16,74,75,88] (.cond (.t 88) (.seq (.p [.M 89 16,.m 4 (.c (.one .emp)),.M 5 89]) .ret) .skip)) [0,1,12,13,14,15,74,75] (.o [.M 91 13,.M 92 0,.M 93 14,.J 94 3 92 93,.L 95 3 94,.D 96 f3 91 95,.M 90 96,.X 97 0 90,.X 98 1 90,.G 17 [.z,.emp,.emp],.S 3 17 97,.M 16 98] [0,1,12,13,14,15,16,17,74,75] (.f (.o [.M 99 16,.R 100 99] [0,1,12,13,14,15,16,17,74,75,100] (.cond (.t 100) (.seq (.p [.M 101 16,.m 4 (.c (.one .emp)),.M 5 101]) .ret) .skip)) [0,1,12,13,14,15,17,74,75] (.f (.y [.M 103 1,.M 104 14,.J 105 3 103 104,.L 106 3 105,.L 107 3 15,.D 108 f4 106 107,.L 109 3 17,.D 110 f5 108 109,.M 102 110,.X 111 0 102,.X 112 1 102,.G 18 [.z,.emp,.emp],.S 3 18 111,.M 16 112]) [0,1,12,13,14,16,18,74,75] (.f (.o [.M 113 16,.R 114 113] [0,1,12,13,14,16,18,74,75,114] (.cond (.t 114) (.seq (.p [.M 115 16,.m 4 (.c (.one .emp)),.M 5 115]) .ret) .skip)) [0,1,12,13,14,18,74,75] (.o [.M 116 12,.M 117 13,.L 118 3 18,.E 119 f6 116 117 118,.M 12 119] [0,1,12,13,14,74,75] (.o [.M 120 14,.I 121 .lss 120 64] [0,1,12,13,14,74,75,121] (.cond (.t 121) (.p [.M 122 13,.M 123 0,.M 124 14,.J 125 3 123 124,.L 126 3 125,.H 127 f7 126,.u 128 (.call f2 [(.i 1)]),.u 129 (.row 3 [[.x 3 (.t 127)],[.x 3 (.t 128)]]),.D 130 f8 122 129,.M 13 130]) .skip))))))))))) [0,1,12,13,74,75] (.p [.I 131 .add 75 1,.M 75 131]))))))) [12] (.seq (.p [.M 132 12,.M 4 132,.m 5 (.c (.one (.lit .nilIface)))]) .ret)))))))))
theorem jae(hΓ:Holds P Γ){f fv fc fo fe fs fd fp fn ft tE:Nat}(hvl:Γ fv=.dat true Xg)(hcm:Γ fc=.dat true zO)(ho:Γ fo=.dat false vw)(he:Γ fe=.dat false (QA tE))(hs:Γ fs=.dat false qG)(hd:Γ fd=.dat false (Yz tE))(hp:Γ fp=.dat false XC)(hn:Γ fn=.dat false Zx)(ht:Γ ft=.dat false qy)(hc:check P f=some (133,(Zp fv fc fo fe fs fd fp fn ft tE).strip,[.tmp 4,.tmp 5])):Sound P f (.dat false (uC tE)):=by
 refine Qa hc (kay tE) hΓ (λargs K hcl hfi hG=>?_);match args,hG with
 | [a0,a1],hG=>
  obtain⟨X,rfl,Y,rfl,rfl,hl,hS,hr,hK⟩:=hG;refine⟨by simp,?_⟩
  obtain⟨n,hn0⟩:∃n,Y.length=n:=⟨_,rfl⟩;rw [hn0]at hl ⊢;have lX:=Uad n;have e0:=Xd tE;have rX:=xbg (n:=n) (by omega)
  have hn65:¬(65:Int)<(n:Int):=by omega
  obtain⟨X,hX⟩:∃X,xsn n=X:=⟨_,rfl⟩;rw [hX]at lX rX ⊢;have gX:∀k,k<n->X.getD k 0=(k:Rat):=λk hk=>by rw [<-hX];exact ybf hk
  rw [e0]at hK;have aX:∀x∈X,rz x<=10000:=λx hx=>Nat.le_trans (rX x hx) (by decide)
  simp only [go_sem,Zp,lX,hn0,hn65];repeat first | refine q_Wk ?_ | intro _
  refine JaY 2 [0,1,31,32,33] [31] (by simp [go_sem,-List.map_map]) ?_
  simp only [go_sem,Int.reduceLT,decide_true,lX];repeat first | refine q_Wk ?_ | intro _
  refine ja (λk:Nat=>⟨mkV [(0,lqA X),(1,lqA Y),(31,.one (.own 31 1 1 0 2)),(32,.one (.lit (.int .i64 2))),(33,.one (.lit (.int .i64 0))),(37,lqA X),(38,.one (.lit (.int .i64 n))),(39,.one (.lit (.int .i64 k)))],mkH [(31,⟨1,some ⟨[[.slice ((X.map rcan).map rC)],[.slice ((Y.map rcan).map rC)]],1,true⟩⟩)]⟩) (λk=>k<=n) (λk=>n-k) 0 ?_ ?_ ?_
  .exact za (by simp [bitvec_to_nat,lqA]) ⟨⟨⟨rfl,rfl⟩,.inr (by simp [bitvec_to_nat])⟩,trivial⟩
  .exact Nat.zero_le _
  .intro k hk;by_cases hlt:k<n
   .have hlt' : (k:Int)<(n:Int):=by omega
    have hrk:=jf aX k;simp only [go_sem,hlt,hlt',hvl,Xf,lX];repeat first | refine q_Wk ?_ | intro _
    exact⟨k+1,za (by simp [bitvec_to_nat,lqA]) ⟨⟨⟨rfl,rfl⟩,.inr (by simp [bitvec_to_nat])⟩,trivial⟩,by omega,by omega⟩
   .have hlt' : ¬(k:Int)<(n:Int):=by omega
    simp only [go_sem,hlt'];repeat first | refine q_Wk ?_ | intro _
    refine ZaI [0,1,31,32,33] [31] (by simp [go_sem,-List.map_map]) ?_
    simp only [go_sem,Int.reduceLT,Int.reduceAdd,decide_true,hn0];repeat first | refine q_Wk ?_ | intro _
    refine ja (λk:Nat=>⟨mkV [(0,lqA X),(1,lqA Y),(31,.one (.own 31 1 1 0 2)),(32,.one (.lit (.int .i64 2))),(33,.one (.lit (.int .i64 1))),(37,lqA Y),(38,.one (.lit (.int .i64 n))),(39,.one (.lit (.int .i64 k)))],mkH [(31,⟨1,some ⟨[[.slice ((X.map rcan).map rC)],[.slice ((Y.map rcan).map rC)]],1,true⟩⟩)]⟩) (λk=>k<=n) (λk=>n-k) 0 ?_ ?_ ?_
    .exact za (by simp [bitvec_to_nat,lqA]) ⟨⟨⟨rfl,rfl⟩,.inr (by simp [bitvec_to_nat])⟩,trivial⟩
    .exact Nat.zero_le _
    .clear hlt hlt' hk k;intro k hk;by_cases hlt:k<n
     .have hlt' : (k:Int)<(n:Int):=by omega
      have hrk:=jf hr k;simp only [go_sem,hlt,hlt',hvl,Xf,hn0];repeat first | refine q_Wk ?_ | intro _
      exact⟨k+1,za (by simp [bitvec_to_nat,lqA]) ⟨⟨⟨rfl,rfl⟩,.inr (by simp [bitvec_to_nat])⟩,trivial⟩,by omega,by omega⟩
     .have hlt' : ¬(k:Int)<(n:Int):=by omega
      simp only [go_sem,hlt'];repeat first | refine q_Wk ?_ | intro _
      refine ZaI [0,1,31,32,33] [31] (by simp [go_sem,-List.map_map]) ?_
      simp only [go_sem,Int.reduceLT,Int.reduceAdd,decide_false,lX];repeat first | refine q_Wk ?_ | intro _
      clear hlt hlt' hk k;refine ja (λi:Nat=>⟨mkV [(0,lqA X),(1,lqA Y),(50,.one (.lit (.int .i64 n))),(51,.one (.lit (.int .i64 i)))],mkH []⟩) (λi=>i<=n) (λi=>n-i) 0 ?_ ?_ ?_
      .exact za (by simp [bitvec_to_nat,lqA]) trivial
      .exact Nat.zero_le _
      .intro i hi;by_cases hlt:i<n
       .have hlt' : (i:Int)<(n:Int):=by omega
        simp only [go_sem,hlt'];repeat first | refine q_Wk ?_ | intro _
        refine ja (λk:Nat=>⟨mkV [(0,lqA X),(1,lqA Y),(10,.one (.lit (.int .i64 i))),(50,.one (.lit (.int .i64 n))),(51,.one (.lit (.int .i64 i))),(54,.one (.lit (.int .i64 i))),(55,.one (.lit (.int .i64 k)))],mkH []⟩) (λk=>k<=i) (λk=>i-k) 0 ?_ ?_ ?_
        .exact za (by simp [bitvec_to_nat,lqA]) trivial
        .exact Nat.zero_le _
        .intro k hk;by_cases hki:k<i
         .have hki' : (k:Int)<(i:Int):=by omega
          have g1:=gX i hlt;have g2:=gX k (by omega)
          have r1:=Zv (k:=i) (by omega)
          have r2:=Zv (k:=k) (by omega)
          have hne:=ybi (i:=i) (k:=k) (by omega)
          have hkn:k<n:=by omega
          simp only [go_sem,hki',hlt,hkn,hcm,Xf,lX,g1,g2,Int.toNat_natCast,hne,decide_false];repeat first | refine q_Wk ?_ | intro _
          exact⟨k+1,za (by simp [bitvec_to_nat,lqA]) trivial,by omega,by omega⟩
         .have hki' : ¬(k:Int)<(i:Int):=by omega
          simp only [go_sem,hki'];repeat first | refine q_Wk ?_ | intro _
          exact⟨i+1,za (by simp [bitvec_to_nat,lqA]) trivial,by omega,by omega⟩
       .have hlt' : ¬(i:Int)<(n:Int):=by omega
        simp only [go_sem,hlt',ho,lX];repeat first | refine q_Wk ?_ | intro _
        clear hlt' hlt hi i;refine ja (λi:Nat=>⟨mkV [(0,lqA X),(1,lqA Y),(12,lqA (nwt Y i).1),(13,lqA (nwt Y i).2),(74,.one (.lit (.int .i64 n))),(75,.one (.lit (.int .i64 i)))],mkH []⟩) (λi=>i<=n) (λi=>n-i) 0 ?_ ?_ ?_
        .exact za (by simp [bitvec_to_nat,lqA,nwt,rC]) trivial
        .exact Nat.zero_le _
        .intro i hi;obtain⟨o,hoo⟩:∃o,(nwt Y i).1=o:=⟨_,rfl⟩;obtain⟨z,hzz⟩:∃z,(nwt Y i).2=z:=⟨_,rfl⟩;obtain⟨s1,s2⟩:=wbj hS (i:=i) (by omega)
         obtain⟨l1,l2⟩:=vS Y i;have t1:=qaj Y i;have t2:=waG Y i;by_cases hlt:i<n
         .have hlt' : (i:Int)<(n:Int):=by omega
          have h64:(i:Int)<64:=by omega
          have hn1:nwt Y (i+1)=(plusT o z ((Y.getD i 0-hv o (i:Rat)) / hv z (i:Rat)),timesL z [-(i:Rat),((1:Int):Rat)]):=by
           rw [rone1,<-hoo,<-hzz];rfl
          have hzn:hv z (i:Rat)≠0:=by
           rw [<-hzz,zaN];exact kat (Nat.le_refl i)
          rw [hoo]at s1 l1 t1;rw [hzz]at s2 l2 t2;have g1:=gX i hlt;have r1:=Zv (k:=i) (by omega)
          have hrk:=jf hr i;have b1:=QaS (x:=(i:Rat)) s1;have b2:=QaS (x:=(i:Rat)) s2;have b3:o.length*(rz (i:Rat)+400+8)<=20*(2+400+8):=Nat.mul_le_mul (by omega) (by omega)
          have b4:z.length*(rz (i:Rat)+400+8)<=20*(2+400+8):=Nat.mul_le_mul (by omega) (by omega)
          obtain⟨y,hy⟩:∃y,Y.getD i 0=y:=⟨_,rfl⟩;obtain⟨u,hu⟩:∃u,hv o (i:Rat)=u:=⟨_,rfl⟩;obtain⟨v,hv'⟩:∃v,hv z (i:Rat)=v:=⟨_,rfl⟩;rw [hy,hu,hv']at hn1;rw [hy]at hrk;rw [hu]at b1;rw [hv']at b2 hzn;have b5:=xaZ y u;have b6:=zaH (y-u) v;have s1' : ∀x∈o,rz x<=1000000:=λx hx=>Nat.le_trans (s1 x hx) (by decide)
          have s2' : ∀x∈z,rz x<=1000000:=λx hx=>Nat.le_trans (s2 x hx) (by decide)
          have s2'' : ∀x∈z,rz x<=100000:=λx hx=>Nat.le_trans (s2 x hx) (by decide)
          have rn:rz (-(i:Rat))<=2:=by rw [zC];exact r1
          have ro:=rz_1;have s3:∀x∈[-(i:Rat),((1:Int):Rat)],rz x<=100000:=λx hx=>by
           simp only [List.mem_cons,List.not_mem_nil,or_false]at hx;rcases hx with rfl | rfl
           .omega
           .rw [rone1];omega
          simp only [go_sem,hlt,hlt',h64,hoo,hzz,he,hs,hd,hp,hn,ho,ht,Xf,lX,hn0,g1,hy,hu,hv',hzn,e0,rQ,Int.toNat_natCast,decide_true];repeat first | refine q_Wk ?_ | intro _
          refine⟨i+1,?_,by omega,by omega⟩
          rw [hn1];exact za (by simp [bitvec_to_nat,lqA]) trivial
         .have hlt' : ¬(i:Int)<(n:Int):=by omega
          have en:i=n:=by omega
          have hth:thr Y=o:=by unfold thr;rw [hn0,<-en];exact hoo
          rw [hth]at hK;simp only [go_sem,hlt',hoo,hzz];repeat first | refine q_Wk ?_ | intro _
          exact hK
end Go.Abs
end
section
namespace Go.Abs
variable {P:Program} {Γ:Nat->Spec}
def exR(rs:List Nat)(es:List (List C)):List (List C):=es.map λe=>e.map (exB rs)
def pasR(rs:List Nat)(es:List (List C)):Prop:=∀e∈es,∀c∈e,pasB rs c
def stayN(h hc:Nat->HB):List Nat->Nat->Prop
 | [],_=>True
 | r::rs,k=>blkA (λ_ _ _=>stayN h hc rs (k+1)) hc k (h r).ver
def forgN(rs:List Nat)(h:Nat->HB):Nat->HB:=λr=>if r∈rs then ⟨(h r).ver,none⟩ else h r
def finN(rv:List RV)(rs:List Nat)(h:Nat->HB)(K:AV->(Nat->HB)->Prop):Ex->S->Prop
 | .exit _,_=>False
 | .nrm,s=>rawK s rv λl=>stayN h s.h rs pinA/\l.flatMap ownA=[]/\K (resOf (l.map (datA s.h))) (forgN rs h)
 | .ret,s=>rawK s rv λl=>stayN h s.h rs pinA/\l.flatMap ownA=[]/\K (resOf (l.map (datA s.h))) (forgN rs h)
theorem J5{h hc:Nat->HB}:∀{rs:List Nat} {k:Nat},stayN h hc rs k->∀(i r:Nat),rs[i]?=some r->∃b,hc (k+i)=⟨(h r).ver,some b⟩
 | [],k,_,i,r,hr=>by simp at hr
 | r0::rs,k,⟨b,hb,hk⟩,i,r,hr=>by
  cases i with
  | zero=>
   simp only [List.getElem?_cons_zero,Option.some.injEq]at hr;subst hr;obtain⟨e1,e2⟩:=Ww hb;refine⟨b,?_⟩;cases hh:hc k with
   | mk ver blk=>rw [hh]at e1 e2;simp only at e1 e2;subst e1 e2;simp [hh]
  | succ i=>
   simp only [List.getElem?_cons_succ]at hr;obtain⟨b',q⟩:=J5 hk i r hr;exact⟨b',by rw [show k+(i+1)=k+1+i by omega];exact q⟩
theorem osoundN{f:FuncId}{fn:Func}{c:Code}{ac:AC}{rv:List RV}{n:Nat}{G:Option Nat->List AV->(Nat->HB)->(AV->(Nat->HB)->Prop)->Prop}(hf:P.funcs[f]?=some fn)(hb:fn.body=some c)(hn:fn.ntmps=n)(hc:compile P n c=some ac.strip)(hrv:cRes P fn=some rv)(hΓ:Holds P Γ)(hpin:n<=pinA)
    (h:∀d args h K,G d args h K->∃(rs:List Nat) (bs:List Blk) (args' : List AV),rs.Nodup/\bs.length=rs.length/\(∀(i r:Nat) (b:Blk),rs[i]?=some r->bs[i]?=some b->(h r).blk=some ⟨exR rs b.es,b.z,b.live⟩/\b.live=true/\pasR rs b.es)/\
      args=args'.map (exA rs)/\(∀a∈args',pasA rs a)/\((∀a∈args',FineA a)->args.length<=n/\wpA Γ ac (finN rv rs h K) ⟨mkV (argL 0 args'),mkH (pinL rs bs h pinA)⟩)):OSound P f G:=by
  intro E args vals w I m h0 d K hr hargs hG;obtain⟨rs,bs,args',hnd,hbl,hblk,rfl,hpas,hwp⟩:=h d args h0 K hG;have getb:∀(i r:Nat),rs[i]?=some r->∃b,bs[i]?=some b/\(h0 r).blk=some ⟨exR rs b.es,b.z,b.live⟩/\b.live=true/\pasR rs b.es:=by
    intro i r hi;have:i<bs.length:=by rw [hbl];exact(List.getElem?_eq_some_iff.1 hi).1
    exact⟨bs[i],List.getElem?_eq_getElem this,hblk i r _ hi (List.getElem?_eq_getElem this)⟩
  generalize hF:(λt=>if pinA<=t then (rs[t-pinA]?).bind m.blk else none:Nat->Option (Nat×Nat))=F
  have hFi:∀i,F (pinA+i)=(rs[i]?).bind m.blk:=λi=>by rw [<-hF];simp
  have hFs:∀t k z,F t=some (k,z)->∃(i r:Nat),t=pinA+i/\rs[i]?=some r/\m.blk r=some (k,z):=by
    intro t k z ht;rw [<-hF]at ht;simp only at ht;split at ht
    . rename_i hle
      simp only [Option.bind_eq_some_iff]at ht;obtain⟨r,h1,h2⟩:=ht;exact⟨t-pinA,r,by omega,h1,h2⟩
    . simp at ht
  generalize hH:mkH (pinL rs bs h0 pinA)=hh at hwp;have hHi:∀(i r:Nat) (b:Blk),rs[i]?=some r->bs[i]?=some b->hh (pinA+i)=⟨(h0 r).ver,some b⟩:=λi r b h1 h2=>by
    rw [<-hH,qA,if_pos (by omega)]
    simp [h1,h2]
  have hHs:∀t b,(hh t).blk=some b->∃(i r:Nat),t=pinA+i/\rs[i]?=some r/\bs[i]?=some b:=by
    intro t b ht;rw [<-hH,qA]at ht;split at ht
    . split at ht
      . rename_i hle r b' h1 h2
        simp only [Option.some.injEq]at ht;subst ht;exact⟨t-pinA,r,by omega,h1,h2⟩
      . simp at ht
    . simp at ht
  generalize hm2:(⟨λt=>(hh t).ver,F⟩:M)=m2;have ren:∀(i r:Nat),rs[i]?=some r->m.ver r=m2.ver (pinA+i)/\m.blk r=m2.blk (pinA+i):=by
    intro i r hi;obtain⟨b,h1,_⟩:=getb i r hi;rw [<-hm2];exact⟨by simp only [hHi i r b hi h1];exact hr.ver r,by simp only [hFi,hi,Option.bind_some]⟩
  generalize hE:(⟨w,I,λk=>∃(i r:Nat) (b:Blk) (z:Nat),rs[i]?=some r/\bs[i]?=some b/\m.blk r=some (k,z),n,F⟩:Env)=E2;have ow:∀k,E2.Ow k->∃(i r:Nat) (b:Blk) (z:Nat),rs[i]?=some r/\(h0 r).blk=some b/\b.live=true/\m.blk r=some (k,z):=by
    intro k hk;rw [<-hE]at hk;obtain⟨i,r,b,z,h1,h2,h3⟩:=hk;obtain⟨g1,g2,_⟩:=hblk i r b h1 h2;exact⟨i,r,_,z,h1,g1,g2,h3⟩
  have hargs2:RAs m2 I w.heap args' vals:=by
    refine⟨by simpa using hargs.1,λi a v ha hv=>?_⟩
    exact Ybp ren (hpas a (List.mem_of_getElem? ha)) (hargs.2 i _ v (by simp [ha]) hv)
  have hfine:∀a∈args',FineA a:=by
    intro a ha;obtain⟨i,hi⟩:=List.getElem?_of_mem ha;have hlt:i<vals.length:=by rw [<-hargs2.1];exact(List.getElem?_eq_some_iff.1 hi).1
    exact(hargs2.2 i a _ hi (List.getElem?_eq_getElem hlt)).fine
  obtain⟨hlen,hwp⟩:=hwp hfine;refine calls_of_wp hf hb ?_;have hsim:Sim E2 ⟨mkV (argL 0 args'),hh⟩ { tmps:=(⟨vals⟩:Array Value)++Array.replicate (fn.ntmps-(⟨vals⟩:Array Value).size) undef,defers:=[] } w m2 I:=by
    refine⟨rfl,?_,λt=>YC hargs2 t,?_⟩
    . have hlv:=hargs2.1
      have:vals.length<=n:=by rw [<-hlv];simpa using hlen
      rw [<-hE];simp [hn];omega
    . rw [<-hE,<-hm2]
      refine {
        ver:=λr=>rfl,blk:=λt b hb=>?_,inj:=λt t' k z z' h1 h2=>?_,lt:=λt k z hm=>?_,
        imb:=hr.imb,grow:=Nat.le_refl _,keep:=λb hb _=>rfl,imm:=λb hb=>.inl hb,sup:=λb hb=>hb,i0:=λb hb=>⟨hr.imb b hb,λh=>?_⟩,
        liv:=λt b k z hb hm=>?_,np:=hpin,fx:=λt b _ hb=>⟨rfl,λ_ _ _=>rfl⟩,os:=rfl,tape:=rfl,out:=rfl }
      . obtain⟨i,r,rfl,h1,h2⟩:=hHs t b hb
        obtain⟨g1,g2,g3⟩:=hblk i r b h1 h2;have hrb:=hr.blk r _ g1;refine⟨λe he=>?_,λhm=>?_,λk z hm=>?_⟩
        . have:=hrb.sz (e.map (exB rs)) (List.mem_map.2 ⟨e,he,rfl⟩)
          rwa [List.length_map]at this
        . have:=hrb.virt (by simpa [hFi,h1] using hm)
          exact List.map_eq_nil_iff.1 this
        . have hm' : m.blk r=some (k,z):=by simpa [hFi,h1] using hm
          obtain⟨q1,q2,q3,arr,ty,q4,q5⟩:=hrb.real k z hm';refine⟨q1,q2,q3,arr,ty,q4,λi j e c he hc=>?_⟩;obtain⟨v,p1,p2⟩:=q5 i j (e.map (exB rs)) (exB rs c) (by unfold exR;rw [List.getElem?_map,he];rfl) (by rw [List.getElem?_map,hc];rfl)
          have ren2:∀(i r:Nat),rs[i]?=some r->m.ver r=(M.mk (λt=>(hh t).ver) F).ver (pinA+i)/\m.blk r=(M.mk (λt=>(hh t).ver) F).blk (pinA+i):=by rw [hm2];exact ren
          exact⟨v,p1,Va6 ren2 (g3 e (List.mem_of_getElem? he) c (List.mem_of_getElem? hc)) p2⟩
      . obtain⟨i,r,rfl,g1,g2⟩:=hFs _ _ _ h1
        obtain⟨i',r',rfl,g1',g2'⟩:=hFs _ _ _ h2;have e:=hr.inj _ _ _ _ _ g2 g2';subst e;have hi:=(List.getElem?_eq_some_iff.1 g1).1;have:i=i':=(List.getElem?_inj hi hnd).1 (g1.trans g1'.symm);rw [this]
      . obtain⟨i,r,rfl,g1,g2⟩:=hFs _ _ _ hm
        exact hr.lt _ _ _ g2
      . obtain⟨i,r,b',z,g1,g2,g3⟩:=h
        obtain⟨q1,q2,_⟩:=hblk i r b' g1 g2;exact((hr.blk r _ q1).real _ _ g3).2.1 q2 hb
      . obtain⟨i,r,rfl,g1,g2⟩:=hFs _ _ _ hm
        obtain⟨b',q1,_⟩:=getb i r g1;exact .inr ⟨i,r,b',z,g1,q1,g2⟩
  have hw0:E2.w0=w:=by rw [<-hE]
  have hI0:E2.I0=I:=by rw [<-hE]
  have hEF:E2.F=F:=by rw [<-hE]
  have fin:∀s' a' w' m' I',(rawK s' rv λl=>stayN h0 s'.h rs pinA/\l.flatMap ownA=[]/\K (resOf (l.map (datA s'.h))) (forgN rs h0))->Sim E2 s' a' w' m' I'->a'.defers=[]/\∃v,(results fn a'.tmps).run P w' = .ok v w'/\
      ∃v' r h' m3 I3,Ending.returned v=.returned v'/\K r h'/\RA m3 I3 w'.heap r v'/\HR E m3 I3 w' h'/\Ext m I w.heap m3 I3 w'.heap:=by
    intro s' a' w' m' I' hk hs;obtain⟨xs,vs,hres,hra,hk⟩:=ZA hs hrv hk;refine⟨hs.dfr,_,hres,?_⟩;obtain⟨hstay,hno,hk⟩:=hk;have hh2:=hs.heap;obtain⟨h3,hh3⟩:∃h3,forgN rs h0=h3:=⟨_,rfl⟩;rw [hh3]at hk;have hout:∀r,r∉rs->h3 r=h0 r:=λr hr'=>by rw [<-hh3];unfold forgN;rw [if_neg hr']
    have hin2:∀r,r∈rs->h3 r=⟨(h0 r).ver,none⟩:=λr hr'=>by rw [<-hh3];unfold forgN;rw [if_pos hr']
    have hin:∀(i r:Nat),rs[i]?=some r->∃b,(s'.h (pinA+i))=⟨(h0 r).ver,some b⟩:=λi r hi=>J5 hstay i r hi;have place:∀(i r:Nat),rs[i]?=some r->m'.blk (pinA+i)=m.blk r/\∀k z,m.blk r=some (k,z)->bsize w'.heap k=bsize w.heap k:=by
      intro i r hi;obtain⟨b,q1⟩:=hin i r hi;have:=hh2.fx (pinA+i) b (by omega) (by rw [q1])
      rw [hEF,hFi,hi]at this;exact⟨this.1,λk z hm=>by rw [<-hw0];exact this.2 k z hm⟩
    have notow:∀r k z,r∉rs->m.blk r=some (k,z)->¬E2.Ow k:=by
      intro r k z hr' hm ho;obtain⟨i,r2,b,z2,g1,_,_,g2⟩:=ow k ho;have:=hr.inj _ _ _ _ _ hm g2;exact hr' (this▸List.mem_of_getElem? g1)
    have same:∀k,k<w.heap.size->¬E2.Ow k->w'.heap[k]?=w.heap[k]?:=λk hk ho=>by
      have:=hh2.keep k (by rw [hw0];exact hk) ho
      rwa [hw0]at this
    have ext:Ext m I w.heap m I' w'.heap:=by
      refine⟨λr=>.inl ⟨rfl,rfl,λk z hm=>?_⟩,λb hb=>hh2.sup b (by rw [hI0];exact hb),λb hb=>same b (hr.imb b hb) (λho=>?_)⟩
      . by_cases hmem:r∈rs
        . obtain⟨i,hi⟩:=List.getElem?_of_mem hmem
          exact(place i r hi).2 k z hm
        . simp only [bsize,same k (hr.lt _ _ _ hm) (notow r k z hmem hm)]
      . obtain⟨i,r2,b2,z2,g1,g2,g3,g4⟩:=ow b ho
        exact((hr.blk r2 b2 g2).real _ _ g4).2.1 g3 hb
    refine⟨_,_,h3,m,I',rfl,hk,yaD ⟨by simp [hra.1],λi x v hx hv=>?_⟩,?_,ext⟩
    . simp only [List.getElem?_map,Option.map_eq_some_iff]at hx
      obtain⟨x0,hx0,rfl⟩:=hx;have ho:ownA x0=[]:=List.flatMap_eq_nil_iff.1 hno x0 (List.mem_of_getElem? hx0);have q:=Xz hs.heap (Ext.refl m' I' w'.heap) (hra.2 i x0 v hx0 hv) (λr hr'=>by rw [ho]at hr';simp at hr')
      exact q.1.any_mapV q.2 m
    . have imm2:∀b,I' b->I b∨w.heap.size<=b∨E2.Ow b:=λb hb=>by
        have:=hh2.imm b hb
        rwa [hI0,hw0]at this
      have size:w.heap.size<=w'.heap.size:=by have:=hh2.grow;rwa [hw0]at this
      have hsome:∀r b,(h3 r).blk=some b->∃b0,(h0 r).blk=some b0:=by
        intro r b hb;by_cases hmem:r∈rs
        . obtain⟨i,hi⟩:=List.getElem?_of_mem hmem
          obtain⟨b0,_,q,_⟩:=getb i r hi;exact⟨_,q⟩
        . rw [hout r hmem]at hb;exact⟨b,hb⟩
      have liv:∀k,E2.Ow k->E.w0.heap.size<=k∨E.Ow k:=λk ho=>by
        obtain⟨i,r2,b2,z2,g1,g2,g3,g4⟩:=ow k ho;exact hr.liv r2 b2 k z2 g2 g4
      refine {
        ver:=λr=>?_,blk:=λr b hb=>?_,inj:=hr.inj,lt:=λr k z hm=>Nat.lt_of_lt_of_le (hr.lt _ _ _ hm) size,imb:=hh2.imb,grow:=Nat.le_trans hr.grow size,keep:=λb hb ho=>?_,imm:=λb hb=>?_,
        sup:=λb hb=>hh2.sup b (by rw [hI0];exact hr.sup b hb),i0:=hr.i0,liv:=λr b k z hb hm=>?_,np:=hr.np,fx:=λr b hp hb=>?_,
        os:=by rw [hh2.os,hw0];exact hr.os,tape:=by rw [hh2.tape,hw0];exact hr.tape,out:=by rw [hh2.out,hw0];exact hr.out }
      . by_cases hmem:r∈rs
        . obtain⟨i,hi⟩:=List.getElem?_of_mem hmem
          rw [hin2 r hmem];exact hr.ver r
        . rw [hout r hmem];exact hr.ver r
      . by_cases hmem:r∈rs
        . rw [hin2 r hmem]at hb;simp at hb
        . rw [hout r hmem]at hb
          have hrb:=hr.blk r b hb;refine⟨hrb.sz,hrb.virt,λk z hm=>?_⟩;obtain⟨p1,p2,p3,arr,ty,p4,p5⟩:=hrb.real k z hm;have hlt:=hr.lt _ _ _ hm;have hno:=notow r k z hmem hm;refine⟨p1,λhl hi=>?_,λhl=>ext.i k (p3 hl),arr,ty,by rw [same k hlt hno];exact p4,λi j e c he hc=>let ⟨v,t1,t2⟩:=p5 i j e c he hc;⟨v,t1,t2.ext ext⟩⟩
          rcases imm2 k hi with h | h | h
          . exact p2 hl h
          . omega
          . exact hno h
      . by_cases ho2:E2.Ow b
        . rcases liv b ho2 with h | h
          . omega
          . exact(ho h).elim
        . rw [same b (Nat.lt_of_lt_of_le hb hr.grow) ho2]
          exact hr.keep b hb ho
      . rcases imm2 b hb with h | h | h
        . exact hr.imm b h
        . exact .inr (.inl (Nat.le_trans hr.grow h))
        . exact .inr (liv b h)
      . obtain⟨b0,hb0⟩:=hsome r b hb
        exact hr.liv r b0 k z hb0 hm
      . obtain⟨b0,hb0⟩:=hsome r b hb
        obtain⟨q1,q2⟩:=hr.fx r b0 hp hb0;refine⟨q1,λk z hF=>?_⟩;rw [<-q2 k z hF];rcases ext.m r with⟨_,_,q⟩ | q
        . exact q k z (by rw [q1];exact hF)
        . omega
  have hsim':=hsim;have hN:E2.N=n:=by rw [<-hE]
  refine QS (E:=E2) hΓ ac c (by rw [hN];exact hc) hsim hwp (λe s' a' w' m' I' hq hs=>?_)
  cases e with
  | nrm=>exact fin s' a' w' m' I' hq hs
  | ret=>exact fin s' a' w' m' I' hq hs
  | exit i=>exact hq.elim
theorem vay{f:FuncId}{n:Nat}{ac:AC}{rv:List RV}{G:Option Nat->List AV->(Nat->HB)->(AV->(Nat->HB)->Prop)->Prop}(hc:check P f=some (n,ac.strip,rv))(hΓ:Holds P Γ)
  (h:∀d args h K,G d args h K->∃(rs:List Nat) (bs:List Blk) (args' : List AV),rs.Nodup/\bs.length=rs.length/\(∀(i r:Nat) (b:Blk),rs[i]?=some r->bs[i]?=some b->(h r).blk=some ⟨exR rs b.es,b.z,b.live⟩/\b.live=true/\pasR rs b.es)/\
   args=args'.map (exA rs)/\(∀a∈args',pasA rs a)/\((∀a∈args',FineA a)->args.length<=n/\wpA Γ ac (finN rv rs h K) ⟨mkV (argL 0 args'),mkH (pinL rs bs h pinA)⟩)):Sound P f (.own G):=by
 obtain⟨fn,c,h1,h2,h3,h4,h5,h6,h7⟩:=xt hc;exact⟨kp h1 h2 (by rw [h3];rfl),osoundN h1 h3 h4 h5 h6 hΓ h7 h⟩
end Go.Abs
end
section
namespace Go.Num
open Go.Abs
theorem UaT{n k:Nat}{out:Rat}{A B:MxQ}(hk:k<=n)(h:∀i j,i<n->j<n->A i j=B i j):gd n k out A=gd n k out B:=by
 rw [ZaS hk,ZaS hk];congr 1;exact Xq λi j hi hj=>h _ _ (by omega) (by omega)
structure Prm (n:Nat) (σ:Nat->Nat):Prop where
 ge:∀i,1048577<=σ i
 inj:∀i j,i<n->j<n->σ i=σ j->i=j
 sur:∀i,i<n->∃j,j<n/\σ j=i+1048577
theorem Prm.ne{n:Nat}{σ:Nat->Nat}(h:Prm n σ)(k:Nat)(hk:k<1048577)(i:Nat):(σ i=k)=False:=eq_false λe=>by have:=h.ge i;omega
theorem Prm.ne'{n:Nat}{σ:Nat->Nat}(h:Prm n σ)(k:Nat)(hk:k<1048577)(i:Nat):(k=σ i)=False:=eq_false λe=>by have:=h.ge i;omega
def swp(a b:Nat)(σ:Nat->Nat):Nat->Nat:=λi=>if i=a then σ b else if i=b then σ a else σ i
theorem Prm.sw{n a b:Nat}{σ:Nat->Nat}(h:Prm n σ)(ha:a<n)(hb:b<n):Prm n (swp a b σ):=by
 refine⟨λi=>?_,λi j hi hj e=>?_,λi hi=>?_⟩
 .unfold swp;split
  .exact h.ge b
  .split
   .exact h.ge a
   .exact h.ge i
 .unfold swp at e;by_cases i1:i=a
  .rw [if_pos i1]at e;by_cases j1:j=a
   .omega
   .rw [if_neg j1]at e;by_cases j2:j=b
    .rw [if_pos j2]at e;have:=h.inj _ _ hb ha e;omega
    .rw [if_neg j2]at e;have:=h.inj _ _ hb hj e;omega
  .rw [if_neg i1]at e;by_cases i2:i=b
   .rw [if_pos i2]at e;by_cases j1:j=a
    .rw [if_pos j1]at e;have:=h.inj _ _ ha hb e;omega
    .rw [if_neg j1]at e;by_cases j2:j=b
     .omega
     .rw [if_neg j2]at e;have:=h.inj _ _ ha hj e;omega
   .rw [if_neg i2]at e;by_cases j1:j=a
    .rw [if_pos j1]at e;have:=h.inj _ _ hi hb e;omega
    .rw [if_neg j1]at e;by_cases j2:j=b
     .rw [if_pos j2]at e;have:=h.inj _ _ hi ha e;omega
     .rw [if_neg j2]at e;exact h.inj _ _ hi hj e
 .obtain⟨j,hj,e⟩:=h.sur i hi;by_cases j1:j=a
  .refine⟨b,hb,?_⟩;unfold swp;by_cases e2:b=a
   .rw [if_pos e2,e2,<-j1];exact e
   .rw [if_neg e2,if_pos rfl,<-j1];exact e
  .by_cases j2:j=b
   .exact⟨a,ha,by unfold swp;rw [if_pos rfl,<-j2];exact e⟩
   .exact⟨j,hj,by unfold swp;rw [if_neg j1,if_neg j2];exact e⟩
def elK(c i k:Nat)(A:MxQ):MxQ:=λx j=>if c<x/\c<=j/\(x<i∨(x=i/\j<k)) then A x j-A x c / A c c*A c j else A x j
theorem VaG(c:Nat)(A:MxQ):elK c (c+1) c A=A:=by
 funext x j;unfold elK;rw [if_neg (by omega)]
theorem Zba(c i n:Nat)(A:MxQ){x j:Nat}(hj:j<n):elK c i n A x j=elK c (i+1) c A x j:=by
 unfold elK;by_cases h:c<x/\c<=j/\(x<i∨(x=i/\j<n))
 .rw [if_pos h,if_pos (by omega)]
 .rw [if_neg h,if_neg (by omega)]
theorem Wa8(c n:Nat)(A:MxQ){x j:Nat}(hx:x<n):elK c n c A x j=elC c A x j:=by
 unfold elK elC;by_cases h:c<x/\c<=j
 .rw [if_pos h,if_pos (by omega)]
 .rw [if_neg h,if_neg (by omega)]
def sbD:Nat->Nat
 | 0=>1000
 | n+1=>4*sbD n+20
theorem kbg:∀n,n<=8->sbD n<=100000000:=by decide
end Go.Num
namespace Go.Abs
open Go.Num
variable {P:Program} {Γ:Nat->Spec}
def rowF(n:Nat)(f:Nat->Rat):List (List C):=(List.range n).map λj=>rC (rcan (f j))
def cellF(n:Nat)(σ vr:Nat->Nat):List (List C):=(List.range n).map λi=>[.own (σ i) (vr (σ i)) 3 0 n]
def rowK(n:Nat)(σ vr:Nat->Nat)(A:MxQ):List (Nat×HB):=(List.range n).map λi=>(σ i,⟨vr (σ i),some ⟨rowF n (A i),3,true⟩⟩)
def matK(pv n:Nat)(σ vr:Nat->Nat)(A:MxQ):List (Nat×HB):=(1048576,⟨pv,some ⟨cellF n σ vr,1,true⟩⟩)::rowK n σ vr A
theorem vI(pv n:Nat)(σ vr:Nat->Nat)(A:MxQ):matK pv n σ vr A=(1048576,⟨pv,some ⟨cellF n σ vr,1,true⟩⟩)::rowK n σ vr A:=rfl
theorem qp{K:List C->Prop}{n i:Nat}{f:Nat->List C}:getE K ((List.range n).map f) i=(i<n/\K (f i)):=by
 unfold getE;rw [List.length_map,List.length_range];refine propext ⟨λh=>⟨h.1,h.2 _ (by rw [List.getElem?_map,List.getElem?_range h.1];rfl)⟩,λh=>⟨h.1,λe he=>?_⟩⟩
 rw [List.getElem?_map,List.getElem?_range h.1]at he;simp only [Option.map_some,Option.some.injEq]at he;subst he;exact h.2
theorem wZ(K:List C->Prop)(n i:Nat)(f:Nat->Rat):getE K (rowF n f) i=(i<n/\K (rC (rcan (f i)))):=qp
theorem WQ(K:List C->Prop)(n i:Nat)(σ vr:Nat->Nat):getE K (cellF n σ vr) i=(i<n/\K [.own (σ i) (vr (σ i)) 3 0 n]):=qp
theorem kF(n:Nat)(f:Nat->Rat):(rowF n f).length=n:=by unfold rowF;rw [List.length_map,List.length_range]
theorem VW(n:Nat)(σ vr:Nat->Nat):(cellF n σ vr).length=n:=by unfold cellF;rw [List.length_map,List.length_range]
theorem vJ{α:Type}(f:Nat->α)(n k:Nat)(x:α):((List.range n).map f).set k x=(List.range n).map λt=>if t=k then x else f t:=by
 refine List.ext_getElem (by simp) λi h1 h2=>?_
 simp only [List.getElem_set,List.getElem_map,List.getElem_range];by_cases e:k=i
 .subst e;simp
 .rw [if_neg e,if_neg (λh=>e h.symm)]
theorem ZS(n:Nat)(f:Nat->Rat)(k:Nat)(x:Rat):(rowF n f).set k [cb (rcan x),cn (rcan x),cd (rcan x)]=rowF n λt=>if t=k then x else f t:=by
 unfold rowF;rw [vJ];refine List.map_congr_left λt _=>?_;simp only;split <;> rfl
theorem Ji{n:Nat}{f g:Nat->Rat}(h:∀j,j<n->f j=g j):rowF n f=rowF n g:=by
 unfold rowF;exact List.map_congr_left λj hj=>by rw [h j (List.mem_range.1 hj)]
theorem vaM(n:Nat)(σ vr:Nat->Nat)(k s:Nat):(cellF n σ vr).set k [.own s (vr s) 3 0 n]=cellF n (λi=>if i=k then s else σ i) vr:=by
 unfold cellF;rw [vJ];refine List.map_congr_left λt _=>?_;simp only;split <;> rfl
theorem Ys(n:Nat)(f:Nat->Rat):CleanR (rowF n f):=λe he c hc=>by
 obtain⟨j,_,rfl⟩:=List.mem_map.1 he;exact of_eq_true (xu [rcan (f j)]) (rC (rcan (f j))) (by simp) c hc
theorem je{n:Nat}{σ vr:Nat->Nat}{A:MxQ}(h:Prm n σ){i:Nat}(hi:i<n):mkH (rowK n σ vr A) (σ i)=⟨vr (σ i),some ⟨rowF n (A i),3,true⟩⟩:=by
 have go:∀(m:Nat),i<m->m<=n->find (⟨0,none⟩:HB) ((List.range m).map λi=>(σ i,(⟨vr (σ i),some ⟨rowF n (A i),3,true⟩⟩:HB))) (σ i)=⟨vr (σ i),some ⟨rowF n (A i),3,true⟩⟩:=by
  intro m;have key:∀(s k:Nat),s<=i->i<s+k->s+k<=n->find (⟨0,none⟩:HB) ((List.range' s k).map λi=>(σ i,(⟨vr (σ i),some ⟨rowF n (A i),3,true⟩⟩:HB))) (σ i)=⟨vr (σ i),some ⟨rowF n (A i),3,true⟩⟩:=by
   intro s k
   induction k generalizing s with
   | zero=>intro h1 h2 _;omega
   | succ k ih=>
    intro h1 h2 h3;rw [List.range'_succ,List.map_cons];simp only [find];by_cases e:σ i=σ s
    .have:=h.inj i s hi (by omega) e
     subst this;rw [if_pos rfl]
    .rw [if_neg e];have:s≠i:=λe2=>e (by rw [e2])
     exact ih (s+1) (by omega) (by omega) (by omega)
  intro h1 h2;rw [List.range_eq_range'];exact key 0 m (Nat.zero_le _) (by omega) (by omega)
 exact go n hi (Nat.le_refl _)
theorem XaU{n:Nat}{σ vr:Nat->Nat}{A:MxQ}{r:Nat}(hσ:Prm n σ)(hr:r<1048577):mkH (rowK n σ vr A) r=⟨0,none⟩:=by
 unfold rowK;generalize List.range n=l
 induction l with
 | nil=>rfl
 | cons i l ih=>
  have hg:=hσ.ge i;rw [List.map_cons,qa,if_neg (by omega),ih]
theorem Vaj{n:Nat}{σ vr:Nat->Nat}{A:MxQ}(h:Prm n σ)(K:List (List C)->Nat->Bool->Prop)(i:Nat)(hi:i<n):blkA K (mkH (rowK n σ vr A)) (σ i) (vr (σ i))=K (rowF n (A i)) 3 true:=by
 unfold blkA;rw [je h hi];simp [HB.at]
theorem jV{n pv:Nat}{σ vr:Nat->Nat}{A:MxQ}{v:Nat->AV}{h:Nat->HB}{l:List (Nat×AV)}{k:List (Nat×HB)}(hσ:Prm n σ)(hk:∀x∈k,x.1<1048576)(h1:okS h (mkH (k++matK pv n σ vr A)) v l)(h2:okH h (mkH (k++matK pv n σ vr A)) k)
  (hP:h 1048576=⟨pv,some ⟨cellF n σ vr,1,true⟩⟩) (hR:∀i,i<n->h (σ i)=⟨vr (σ i),some ⟨rowF n (A i),3,true⟩⟩):Weak ⟨v,h⟩ ⟨mkV l,mkH (k++matK pv n σ vr A)⟩:=by
 have skip:∀(k:List (Nat×HB)) (r:Nat),(∀x∈k,x.1<1048576)->1048576<=r->mkH (k++matK pv n σ vr A) r=mkH (matK pv n σ vr A) r:=by
  intro k r hk hr
  induction k with
  | nil=>rfl
  | cons x k ih=>
   have hx:=hk x (by simp)
   rw [List.cons_append,qa,if_neg (by omega)]
   exact ih λy hy=>hk y (by simp [hy])
 have rowH:∀i,i<n->mkH (k++matK pv n σ vr A) (σ i)=⟨vr (σ i),some ⟨rowF n (A i),3,true⟩⟩:=λi hi=>by
  have hg:=hσ.ge i;rw [skip k _ hk (by omega),vI,qa,if_neg (by omega),je hσ hi]
 refine za h1 ?_;have app:∀(k' m:List (Nat×HB)),okH h (mkH (k++matK pv n σ vr A)) k'->okH h (mkH (k++matK pv n σ vr A)) m->okH h (mkH (k++matK pv n σ vr A)) (k'++m):=by
  intro k' m x y
  induction k' with
  | nil=>exact y
  | cons a k' ih=>exact⟨x.1,ih x.2⟩
 refine app k _ h2 ?_;rw [vI];refine⟨?_,?_⟩
 .rw [hP];refine⟨⟨rfl,rfl⟩,.inr ?_⟩;have:∀s m,s+m<=n->okE h (mkH (k++matK pv n σ vr A)) ((List.range' s m).map λi=>[C.own (σ i) (vr (σ i)) 3 0 n]) ((List.range' s m).map λi=>[C.own (σ i) (vr (σ i)) 3 0 n]):=by
   intro s m
   induction m generalizing s with
   | zero=>intro _;trivial
   | succ m ih=>
    intro hm;rw [List.range'_succ,List.map_cons];refine⟨⟨⟨⟨rfl,rfl,rfl,rfl⟩,?_,?_,?_⟩,trivial⟩,ih (s+1) (by omega)⟩
    .rw [hR s (by omega)]
    .rw [rowH s (by omega)]
    .rw [rowH s (by omega)];simp
  have h0:=this 0 n (by omega)
  rw [<-List.range_eq_range']at h0;exact h0
 .have:∀s m,s+m<=n->okH h (mkH (k++matK pv n σ vr A)) ((List.range' s m).map λi=>(σ i,(⟨vr (σ i),some ⟨rowF n (A i),3,true⟩⟩:HB))):=by
   intro s m
   induction m generalizing s with
   | zero=>intro _;trivial
   | succ m ih=>
    intro hm;rw [List.range'_succ,List.map_cons];refine⟨?_,ih (s+1) (by omega)⟩
    rw [hR s (by omega)]
    exact⟨⟨rfl,rfl⟩,.inl ⟨rfl,Ys _ _⟩⟩
  have h0:=this 0 n (by omega)
  rw [<-List.range_eq_range']at h0;exact h0
theorem Vw{n pv:Nat}{σ vr:Nat->Nat}{A:MxQ}{v:Nat->AV}{h:Nat->HB}{l:List (Nat×AV)}{a b:Nat}{x y:HB}(hσ:Prm n σ)(hk:a<1048576/\b<1048576)
  (h1:okS h (mkH ((a,x)::(b,y)::(1048576,⟨pv,some ⟨cellF n σ vr,1,true⟩⟩)::rowK n σ vr A)) v l) (h2:okH h (mkH ([(a,x),(b,y)]++matK pv n σ vr A)) [(a,x),(b,y)])
  (hP:h 1048576=⟨pv,some ⟨cellF n σ vr,1,true⟩⟩) (hR:∀i,i<n->h (σ i)=⟨vr (σ i),some ⟨rowF n (A i),3,true⟩⟩):Weak ⟨v,h⟩ ⟨mkV l,mkH ((a,x)::(b,y)::(1048576,⟨pv,some ⟨cellF n σ vr,1,true⟩⟩)::rowK n σ vr A)⟩:=
 jV (k:=[(a,x),(b,y)]) hσ (by simp [hk]) h1 h2 hP hR
theorem QW{n pv:Nat}{σ vr:Nat->Nat}{A:MxQ}{v:Nat->AV}{h:Nat->HB}{l:List (Nat×AV)}{a b c:Nat}{x y z:HB}(hσ:Prm n σ)(hk:a<1048576/\b<1048576/\c<1048576)
  (h1:okS h (mkH ((a,x)::(b,y)::(c,z)::(1048576,⟨pv,some ⟨cellF n σ vr,1,true⟩⟩)::rowK n σ vr A)) v l) (h2:okH h (mkH ([(a,x),(b,y),(c,z)]++matK pv n σ vr A)) [(a,x),(b,y),(c,z)])
  (hP:h 1048576=⟨pv,some ⟨cellF n σ vr,1,true⟩⟩) (hR:∀i,i<n->h (σ i)=⟨vr (σ i),some ⟨rowF n (A i),3,true⟩⟩):Weak ⟨v,h⟩ ⟨mkV l,mkH ((a,x)::(b,y)::(c,z)::(1048576,⟨pv,some ⟨cellF n σ vr,1,true⟩⟩)::rowK n σ vr A)⟩:=
 jV (k:=[(a,x),(b,y),(c,z)]) hσ (by simp [hk]) h1 h2 hP hR
theorem Jas{h hc:Nat->HB}:∀{rs:List Nat} {k:Nat},(∀(i r:Nat),rs[i]?=some r->∃b,hc (k+i)=⟨(h r).ver,some b⟩)->stayN h hc rs k
 | [],_,_=>trivial
 | r::rs,k,H=>by
  obtain⟨b,hb⟩:=H 0 r rfl;refine⟨b,by rw [Nat.add_zero]at hb;rw [hb];simp [HB.at],Jas λi t ht=>?_⟩
  obtain⟨b',hb'⟩:=H (i+1) t (by simpa using ht)
  exact⟨b',by rw [show k+1+i=k+(i+1) by omega];exact hb'⟩
theorem vak(rv:List RV)(rs:List Nat)(h:Nat->HB)(K:AV->(Nat->HB)->Prop)(s:S):finN rv rs h K .ret s=rawK s rv λl=>stayN h s.h rs pinA/\l.flatMap ownA=[]/\K (resOf (l.map (datA s.h))) (forgN rs h):=rfl
@[congr] theorem Xbu{rv:List RV}{rs:List Nat}{h}{K:AV->(Nat->HB)->Prop}{e:Ex}{s s'}(hs:s=s'):finN rv rs h K e s=finN rv rs h K e s':=by subst hs;rfl
attribute [go_sem,go_sem ↓] vak wZ WQ kF VW
theorem xbe{rs:List Nat}{t r:Nat}(e:nameOf rs t=some r)(ver z off len:Nat):exB rs (.own t ver z off len)=.own r ver z off len:=by
 unfold exB;simp only [e]
theorem yaT{rs:List Nat}{t r:Nat}(e:nameOf rs t=some r)(ver z off len:Nat):pasB rs (.own t ver z off len):=by
 unfold pasB;simp only [e];simp
def uH(tE:Nat)(d:Option Nat)(args:List AV)(h:Nat->HB)(K:AV->(Nat->HB)->Prop):Prop:=
 match args with
 | [.one (.own r ver 1 0 n)]=>∃(rs:List Nat) (A:MxQ),rs.length=n/\(r::rs).Nodup/\n<=8/\(∀i j,i<n->j<n->rz (A i j)<=1000)/\
   h r=⟨ver,some ⟨rs.map λt=>[.own t (h t).ver 3 0 n],1,true⟩⟩/\(∀(i t:Nat),rs[i]?=some t->(h t).blk=some ⟨rowF n (A i),3,true⟩)/\
   K (.tup [rQ (dt n A),errV tE 0]) (forgN (r::rs) h)
 | _=>False
@[congr] theorem Ybt {tE:Nat} {d:Option Nat} {l l' : List AV} {h h' : Nat->HB} {K:AV->(Nat->HB)->Prop} (e1:l=l') (e2:h=h'):uH tE d l h K=uH tE d l' h' K:=by subst e1;subst e2;rfl
def Vu(f0 f1 f2 f3 f4 f5:Nat):AC:=(.o [.G 2 [.z,.emp,.emp],.m 3 (.c (.one (.lit .nilIface)))] [0,2] (.o [.u 11 (.call f0 [(.i 1)]),.G 4 [.z,.emp,.emp],.S 3 4 11] [0,2,4] (.f (.o [.M 12 0,.Z 13 12,.N 14 0] [0,2,4,13,14] (.block 0 (.loop (.o [.B 15 .lss 14 13] [0,2,4,13,14,15] (.f (.cond (.t 15) .skip (.exit 0)) [0,2,4,13,14] (.f (.block 1 (.o [.M 16 14,.M 5 16] [0,2,4,5,13,14] (.o [.M 17 5,.M 6 17] [0,2,4,5,6,13,14] (.f (.block 2 (.loop (.f (.o [.M 18 6,.M 19 0,.Z 20 19,.B 21 .lss 18 20,.M 22 21,.V 23 22 true 0,.V 24 22 true 6,.w 25 22 true (.idx 1 (.t 23) (.t 24)),.U 26 22 true 1 false 25,.V 27 22 true 5,.w 28 22 true (.idx 3 (.t 26) (.t 27)),.U 29 22 true 3 true 28,.W 30 22 true f1 29,.w 31 22 true (.bin .eql (.t 30) (.i 0)),.P 32 22 31] [0,2,4,5,6,13,14,32] (.cond (.t 32) .skip (.exit 2))) [0,2,4,5,6,13,14] (.block 3 (.p [.M 33 6,.I 34 .add 33 1,.M 6 34]))))) [0,2,4,5,6,13,14] (.f (.o [.M 35 6,.M 36 0,.Z 37 36,.B 38 .eql 35 37] [0,2,4,5,6,13,14,38] (.cond (.t 38) (.seq (.p [.u 39 (.build [.z [.z,.emp,.emp]]),.S 3 2 39,.m 3 (.c (.one (.lit .nilIface)))]) .ret) .skip)) [0,2,4,5,6,13,14] (.f (.o [.M 40 6,.M 41 5,.B 42 .neq 40 41] [0,2,4,5,6,13,14,42] (.cond (.t 42) (.f (.y [.M 43 0,.M 44 6,.M 45 0,.M 46 5,.M 47 0,.M 48 5,.J 49 1 47 48,.F 50 1 49,.M 51 0,.M 52 6,.J 53 1 51 52,.F 54 1 53,.J 55 1 43 44,.S 1 55 50,.J 56 1 45 46,.S 1 56 54]) [0,2,4,5,13,14] (.p [.L 57 3 4,.H 58 f2 57,.S 3 4 58])) .skip)) [0,2,4,5,13,14] (.f (.y [.L 59 3 4,.M 60 0,.M 61 5,.J 62 1 60 61,.F 63 1 62,.M 64 5,.J 65 3 63 64,.L 66 3 65,.D 67 f3 59 66,.S 3 4 67]) [0,2,4,5,13,14] (.o [.M 68 5,.I 69 .add 68 1,.M 7 69] [0,2,4,5,7,13,14] (.block 4 (.loop (.f (.o [.M 70 7,.M 71 0,.Z 72 71,.B 73 .lss 70 72] [0,2,4,5,7,13,14,73] (.cond (.t 73) .skip (.exit 4))) [0,2,4,5,7,13,14] (.f (.block 5 (.f (.y [.M 77 0,.M 78 7,.J 79 1 77 78,.F 80 1 79,.M 81 5,.J 82 3 80 81,.L 83 3 82,.M 84 0,.M 85 5,.J 86 1 84 85,.F 87 1 86,.M 88 5,.J 89 3 87 88,.L 90 3 89,.D 91 f4 83 90,.M 76 91,.X 92 0 76,.X 93 1 76,.G 8 [.z,.emp,.emp],.S 3 8 92,.M 9 93]) [0,2,4,5,7,8,9,13,14] (.f (.o [.M 94 9,.R 95 94] [0,2,4,5,7,8,9,13,14,95] (.cond (.t 95) (.seq (.p [.u 96 (.build [.z [.z,.emp,.emp]]),.M 97 9,.S 3 2 96,.M 3 97]) .ret) .skip)) [0,2,4,5,7,8,13,14] (.o [.M 98 5,.M 10 98] [0,2,4,5,7,8,10,13,14] (.block 6 (.loop (.f (.o [.M 99 10,.M 100 0,.Z 101 100,.B 102 .lss 99 101] [0,2,4,5,7,8,10,13,14,102] (.cond (.t 102) .skip (.exit 6))) [0,2,4,5,7,8,10,13,14] (.f (.block 7 (.y [.M 105 0,.M 106 7,.J 107 1 105 106,.F 108 1 107,.M 109 10,.M 110 0,.M 111 7,.J 112 1 110 111,.F 113 1 112,.M 114 10,.J 115 3 113 114,.L 116 3 115,.L 117 3 8,.M 118 0,.M 119 5,.J 120 1 118 119,.F 121 1 120,.M 122 10,.J 123 3 121 122,.L 124 3 123,.D 125 f3 117 124,.D 126 f5 116 125,.J 127 3 108 109,.S 3 127 126])) [0,2,4,5,7,8,10,13,14] (.p [.M 103 10,.I 104 .add 103 1,.M 10 104]))))))))) [0,2,4,5,7,13,14] (.p [.M 74 7,.I 75 .add 74 1,.M 7 75]))))))))))))) [0,2,4,13,14] (.p [.I 128 .add 14 1,.M 14 128]))))))) [2,4] (.seq (.p [.L 129 3 4,.S 3 2 129,.m 3 (.c (.one (.lit .nilIface)))]) .ret))))
set_option maxHeartbeats 1000000 in
theorem Qaw(hΓ:Holds P Γ){f fo fs fn fm fd fb tE:Nat}(ho:Γ fo=.dat false vw)(hs:Γ fs=.dat true Zk)(hn:Γ fn=.dat false Zx)(hm:Γ fm=.dat false Zj)(hd:Γ fd=.dat false (Yz tE))(hb:Γ fb=.dat false qG)(hc:check P f=some (130,(Vu fo fs fn fm fd fb).strip,[.cell 2 3 true,.tmp 3])):Sound P f (.own (uH tE)):=by
 refine vay hc hΓ (λd args h K hG=>?_);unfold uH at hG;split at hG
 case h_2=>exact hG.elim
 rename_i r pv n;obtain⟨rs,A0,hln,hnd,hn8,hrA,hr,hrow,hK⟩:=hG;obtain⟨σ0,hs0⟩:∃σ0:Nat->Nat,∀i,σ0 i=i+1048577:=⟨_,λ_=>rfl⟩;obtain⟨vr,hvr⟩:∃vr:Nat->Nat,∀i t,rs[i]?=some t->(h t).ver=vr (σ0 i):=⟨λa=>(h (rs.getD (a-1048577) 0)).ver,λi t ht=>by
  have e:rs.getD (σ0 i-1048577) 0=t:=by rw [hs0,Nat.add_sub_cancel,List.getD_eq_getElem?_getD,ht];rfl
  show(h t).ver=(h (rs.getD (σ0 i-1048577) 0)).ver;rw [e]⟩
 have hget:∀i,i<n->∃t,rs[i]?=some t:=λi hi=>⟨_,List.getElem?_eq_getElem (by omega)⟩
 have hid:Prm n σ0:=⟨λi=>by rw [hs0];omega,λi j _ _ h=>by rw [hs0,hs0]at h;omega,λi hi=>⟨i,hi,hs0 i⟩⟩
 have hname:∀i t,rs[i]?=some t->nameOf (r::rs) (σ0 i)=some t:=λi t ht=>by
  rw [hs0];unfold nameOf pinA;rw [if_pos (by omega),show i+1048577-1048576=i+1 by omega,List.getElem?_cons_succ,ht]
 refine⟨r::rs,⟨cellF n σ0 vr,1,true⟩::(List.range n).map (λi=>⟨rowF n (A0 i),3,true⟩),[.one (.own 1048576 pv 1 0 n)],hnd,by simp [hln],?_,?_,?_,λhfi=>⟨by simp,?_⟩⟩
 .intro i t b h1 h2;cases i with
  | zero=>
   simp only [List.getElem?_cons_zero,Option.some.injEq]at h1 h2;subst h1;subst h2;refine⟨?_,rfl,?_⟩
   .rw [hr];simp only [Option.some.injEq,Blk.mk.injEq,and_true];refine List.ext_getElem (by simp [exR,cellF,hln]) λi g1 g2=>?_
    have hi:i<n:=by simpa [hln] using g1
    obtain⟨t,ht⟩:=hget i hi;have ht2:rs[i]=t:=by rw [List.getElem?_eq_getElem (by omega)]at ht;simpa using ht
    simp only [exR,cellF,List.getElem_map,List.getElem_range,List.map_cons,List.map_nil,xbe (hname i t ht),ht2,hvr i t ht]
   .intro e he c hc;obtain⟨i,hi,rfl⟩:=List.mem_map.1 he;simp only [List.mem_singleton]at hc;subst hc;obtain⟨t,ht⟩:=hget i (List.mem_range.1 hi);exact yaT (hname i t ht) _ _ _ _
  | succ i=>
   simp only [List.getElem?_cons_succ]at h1 h2;have hi:i<n:=by rw [<-hln];exact(List.getElem?_eq_some_iff.1 h1).1
   rw [List.getElem?_map,List.getElem?_range hi]at h2;simp only [Option.map_some,Option.some.injEq]at h2;subst h2;have hcl:=Ys n (A0 i);refine⟨?_,rfl,λe he c hc=>?_⟩
   .rw [hrow i t h1];simp only [Option.some.injEq,Blk.mk.injEq,and_true,true_and];unfold exR
    symm
    rw [show rowF n (A0 i)=(rowF n (A0 i)).map id by simp,List.map_map]
    refine List.map_congr_left λe he=>?_;show e.map (exB (r::rs))=e;rw [show e.map (exB (r::rs))=e.map id from List.map_congr_left λc hc=>?_,List.map_id];have:=hcl e he c hc;cases this <;> rfl
   .have:=hcl e he c hc;cases this with
    | lit v=>exact .lit v
    | emp=>exact .emp
    | any=>exact .any
    | slice es h=>exact .slice es h
    | full es h=>exact .full es h
    | ref cs h=>exact .ref cs h
    | clo f cs h=>exact .clo f cs h
 .simp [exA,exC,exB,nameOf,pinA]
 .intro a ha;rw [List.mem_singleton]at ha;subst ha;simp [pasA,pasC,pasB,nameOf,pinA]
 obtain⟨T,hT⟩:∃T,pinL rs ((List.range n).map (λi=>⟨rowF n (A0 i),3,true⟩)) h (pinA+1)=T:=⟨_,rfl⟩;have gT:∀i,i<n->mkH T (σ0 i)=⟨vr (σ0 i),some ⟨rowF n (A0 i),3,true⟩⟩:=λi hi=>by
  obtain⟨t,ht⟩:=hget i hi;have e:σ0 i-(pinA+1)=i:=by rw [hs0];unfold pinA;omega
  rw [<-hT,qA,if_pos (by rw [hs0];unfold pinA;omega),e,ht,List.getElem?_map,List.getElem?_range hi]
  simp only [Option.map_some,hvr i t ht]
 have gT0:∀k,k<1048576->mkH T k=⟨0,none⟩:=λk hk=>by
  rw [<-hT,qA,if_neg (by unfold pinA;omega)]
 have T2:=gT0 2 (by decide)
 have T4:=gT0 4 (by decide)
 have hpin:pinL (r::rs) (⟨cellF n σ0 vr,1,true⟩::(List.range n).map (λi=>⟨rowF n (A0 i),3,true⟩)) h pinA=(1048576,⟨pv,some ⟨cellF n σ0 vr,1,true⟩⟩)::T:=by
  rw [<-hT];show(pinA,(⟨(h r).ver,some ⟨cellF n σ0 vr,1,true⟩⟩:HB))::_=_;rw [hr];rfl
 rw [hpin];have e0:=Xd tE;rw [e0]at hK;simp only [go_sem,Vu,ho,T2,T4];repeat first | refine q_Wk ?_ | intro _
 have hst:∀(σ:Nat->Nat) (A:MxQ) (g:Nat->HB),Prm n σ->g 1048576=⟨pv,some ⟨cellF n σ vr,1,true⟩⟩->(∀i,i<n->g (σ i)=⟨vr (σ i),some ⟨rowF n (A i),3,true⟩⟩)->stayN h g (r::rs) 1048576:=by
  intro σ A g hσ g1 g2;refine Jas λi t ht=>?_;cases i with
  | zero=>
   simp only [List.getElem?_cons_zero,Option.some.injEq]at ht;subst ht;exact⟨_,by rw [Nat.add_zero,g1,hr]⟩
  | succ i=>
   simp only [List.getElem?_cons_succ]at ht;have hi:i<n:=by rw [<-hln];exact(List.getElem?_eq_some_iff.1 ht).1
   obtain⟨j,hj,e⟩:=hσ.sur i hi;have:=g2 j hj;rw [e,<-hs0]at this;exact⟨_,by rw [show 1048576+(i+1)=σ0 i by rw [hs0];omega,this,hvr i t ht]⟩
 refine ja (λx:Nat×(Nat->Nat)×MxQ×Rat=>⟨mkV [(0,.one (.own 1048576 pv 1 0 n)),(2,.one (.ptr 2 1 0 0)),(4,.one (.ptr 4 1 0 0)),(13,.one (.lit (.int .i64 n))),(14,.one (.lit (.int .i64 x.1)))],mkH ([(2,⟨1,some ⟨[[.lit (.bool false),.emp,.emp]],3,true⟩⟩),(4,⟨1,some ⟨[[cb (rcan x.2.2.2),cn (rcan x.2.2.2),cd (rcan x.2.2.2)]],3,true⟩⟩)]++matK pv n x.2.1 vr x.2.2.1)⟩)
  (λx=>x.1<=n/\Prm n x.2.1/\gd n (n-x.1) x.2.2.2 x.2.2.1=dt n A0/\(∀i j,i<n->j<n->rz (x.2.2.1 i j)<=sbD x.1)/\rz x.2.2.2<=x.1*100000010+10) (λx=>n-x.1) (0,σ0,A0,1) ?_ ?_ ?_
 .rw [rone1];refine jV hid (by simp) (by simp [bitvec_to_nat,vI]) ⟨yn,Yc,trivial⟩ (by simp [qa]) λi hi=>?_
  have hg:=hid.ge i;simp only [qa]
  (repeat rw [if_neg (by omega)])
  exact gT i hi
 .refine⟨Nat.zero_le _,hid,?_,hrA,by have:=rz_1;show rz 1<=0*100000010+10;omega⟩
  rw [ZaS (Nat.sub_le _ _),Rat.one_mul];refine Xq λi j _ _=>?_;simp
 .rintro⟨c,σ,A,out⟩ ⟨hcn,hσ,hgd,hrz,hro⟩;simp only at hcn hσ hgd hrz hro ⊢;have hsb:=kbg c (by omega)
  have hoc:c*100000010<=8*100000010:=Nat.mul_le_mul_right _ (by omega)
  have hbr:=λK i hi=>Vaj (vr:=vr) (A:=A) hσ K i hi;have n2:=hσ.ne 2 (by decide)
  have n4:=hσ.ne 4 (by decide)
  have nP:=hσ.ne 1048576 (by decide)
  by_cases hlt:c<n
  .have hlt' : (c:Int)<(n:Int):=by omega
   simp only [go_sem,hlt',vI,List.cons_append,List.nil_append];repeat first | refine q_Wk ?_ | intro _
   obtain⟨p,hp⟩:∃p,piv A c (n-c) c=p:=⟨_,rfl⟩;refine ja (λt:Nat=>⟨mkV [(0,.one (.own 1048576 pv 1 0 n)),(2,.one (.ptr 2 1 0 0)),(4,.one (.ptr 4 1 0 0)),(5,.one (.lit (.int .i64 c))),(6,.one (.lit (.int .i64 t))),(13,.one (.lit (.int .i64 n))),(14,.one (.lit (.int .i64 c)))],mkH ((2,⟨1,some ⟨[[.lit (.bool false),.emp,.emp]],3,true⟩⟩)::(4,⟨1,some ⟨[[cb (rcan out),cn (rcan out),cd (rcan out)]],3,true⟩⟩)::(1048576,⟨pv,some ⟨cellF n σ vr,1,true⟩⟩)::rowK n σ vr A)⟩) (λt=>c<=t/\t<=n/\piv A c (n-t) t=p) (λt=>n-t) c ?_ ?_ ?_
   .exact Vw hσ (by decide) (by simp [bitvec_to_nat]) ⟨yn,Yc,trivial⟩ (by simp [qa]) λi hi=>by(have hg:=hσ.ge i;simp only [qa];(repeat rw [if_neg (by omega)]);exact je hσ hi)
   .exact⟨Nat.le_refl _,hcn,hp⟩
   .rintro t ⟨hct,htn,hpt⟩;by_cases hlt2:t<n
    .have hlt2' : (t:Int)<(n:Int):=by omega
     have hrt:=hrz t c hlt2 hlt;have e1:n-t=n-(t+1)+1:=by omega
     by_cases hz:A t c=0
     .have ho0:ordQ (A t c) 0=0:=Jj.2 hz;simp only [go_sem,hlt2,hlt2',hlt,Nat.zero_add,Int.toNat_natCast,hbr,n2,n4,nP,hs,ho0,decide_true,Xf,not_true_eq_false,false_implies,and_true];repeat first | refine q_Wk ?_ | intro _
      refine⟨t+1,?_,⟨by omega,by omega,?_⟩,by omega⟩
      .exact Vw hσ (by decide) (by simp [bitvec_to_nat]) ⟨yn,Yc,trivial⟩ (by simp [qa]) λi hi=>by(have hg:=hσ.ge i;simp only [qa];(repeat rw [if_neg (by omega)]);exact je hσ hi)
      .rw [e1]at hpt;simp only [piv]at hpt;rw [if_pos hz]at hpt;exact hpt
     .have ho0:¬ordQ (A t c) 0=0:=λe=>hz (Jj.1 e);rw [e1]at hpt;simp only [piv]at hpt;rw [if_neg hz]at hpt;have htn' : ¬(t:Int)=(n:Int):=by omega
      have hgd' : gd n (n-(c+1)) ((if t=c then out else -out)*A t c) (elC c (rsw c t A))=dt n A0:=by
       have e2:n-c=(n-(c+1))+1:=by omega
       rw [e2]at hgd hp;simp only [gd]at hgd;rw [show n-(n-(c+1)+1)=c by omega,hp,<-hpt,if_neg (by omega)]at hgd
       exact hgd
      have hoA:=hrz t c hlt2 hlt;rcases Decidable.em (t=c) with hpc | hpc
      case' inl=>
       have hpc2:=hpc.symm;subst hpc2;obtain⟨σ1,hσ1⟩:∃σ1,σ1=σ:=⟨_,rfl⟩;obtain⟨A1,hA1⟩:∃A1,A1=A:=⟨_,rfl⟩;obtain⟨out1,hout⟩:∃o,o=out*A c c:=⟨_,rfl⟩;have hP1:Prm n σ1:=by rw [hσ1];exact hσ
       have e4:rsw c c A=A:=by
        funext i;unfold rsw
        by_cases e:i=c
        .rw [if_pos e,e]
        .rw [if_neg e,if_neg e]
       rw [if_pos rfl,e4,<-hA1,hA1,<-hout]at hgd';have hz1:A1 c c≠0:=by rw [hA1];exact hz
       have hr1:∀i j,i<n->j<n->rz (A1 i j)<=sbD c:=by rw [hA1];exact hrz
       have hq1:=ve out (A c c);have hR1:∀i,i<n->mkH (rowK n σ vr A) (σ1 i)=⟨vr (σ1 i),some ⟨rowF n (A1 i),3,true⟩⟩:=by rw [hσ1,hA1];exact λi hi=>je hσ hi
       have hcl:cellF n σ vr=cellF n σ1 vr:=by rw [hσ1]
       simp only [go_sem,hlt2,hlt2',hlt,htn',Nat.zero_add,Int.toNat_natCast,hbr,n2,n4,nP,hs,hm,ho0,decide_true,decide_false,Xf,Bool.not_true,rQ];repeat first | refine q_Wk ?_ | intro _
       rw [<-hout]at hq1 ⊢;rw [<-hA1]at hgd';rw [hcl]
      case' inr=>
       have hpc' : ¬(t:Int)=(c:Int):=by omega
       obtain⟨σ1,hσ1⟩:∃σ1,σ1=swp c t σ:=⟨_,rfl⟩;obtain⟨A1,hA1⟩:∃A1,A1=rsw c t A:=⟨_,rfl⟩;obtain⟨out1,hout⟩:∃o,o = -out*A t c:=⟨_,rfl⟩;have hP1:Prm n σ1:=by rw [hσ1];exact hσ.sw hlt hlt2
       rw [if_neg hpc,<-hA1,<-hout]at hgd';have hz1:A1 c c≠0:=by rw [hA1];unfold rsw;rw [if_pos rfl];exact hz
       have hr1:∀i j,i<n->j<n->rz (A1 i j)<=sbD c:=by
        rw [hA1];intro i j hi hj;unfold rsw;split
        .exact hrz t j hlt2 hj
        .split
         .exact hrz c j hlt hj
         .exact hrz i j hi hj
       have hq1:=ve (-out) (A t c);rw [zC]at hq1;have hR1:∀i,i<n->mkH (rowK n σ vr A) (σ1 i)=⟨vr (σ1 i),some ⟨rowF n (A1 i),3,true⟩⟩:=by
        intro i hi;rw [hσ1,hA1];unfold swp rsw;split
        .exact je hσ hlt2
        .split
         .exact je hσ hlt
         .exact je hσ hi
       have hcl:cellF n (λi=>if i=c then σ t else if i=t then σ c else σ i) vr=cellF n σ1 vr:=by rw [hσ1];rfl
       have hct2:¬c=t:=λe=>hpc e.symm;have hro' : rz (-out)<=c*100000010+10:=by rw [zC];exact hro
       simp only [go_sem,hlt2,hlt2',hlt,htn',hpc',hct2,Nat.zero_add,Int.toNat_natCast,hbr,n2,n4,nP,hs,hm,hn,ho0,decide_true,decide_false,Xf,Bool.not_false,rQ,vaM,List.drop_one,List.tail_cons,List.append_nil];repeat first | refine q_Wk ?_ | intro _
       rw [<-hout]at hq1 ⊢;rw [hcl]
      all_goals
       refine ja (λi:Nat=>⟨mkV [(0,.one (.own 1048576 pv 1 0 n)),(2,.one (.ptr 2 1 0 0)),(4,.one (.ptr 4 1 0 0)),(5,.one (.lit (.int .i64 c))),(7,.one (.lit (.int .i64 i))),(13,.one (.lit (.int .i64 n))),(14,.one (.lit (.int .i64 c)))],mkH ((2,⟨1,some ⟨[[.lit (.bool false),.emp,.emp]],3,true⟩⟩)::(4,⟨1,some ⟨[[cb (rcan out1),cn (rcan out1),cd (rcan out1)]],3,true⟩⟩)::(1048576,⟨pv,some ⟨cellF n σ1 vr,1,true⟩⟩)::rowK n σ1 vr (elK c i c A1))⟩) (λi=>c+1<=i/\i<=n) (λi=>n-i) (c+1) ?_ ?_ ?_
       .refine Vw hP1 (by decide) (by simp [bitvec_to_nat]) ⟨yn,Yc,trivial⟩ (by simp [qa]) λi hi=>?_
        have hg:=hP1.ge i;rw [VaG];simp only [qa]
        (repeat rw [if_neg (by omega)])
        exact hR1 i hi
       .exact⟨Nat.le_refl _,hlt⟩
       .rintro i ⟨hci,hin⟩;have hbr1:=λA K i hi=>Vaj (vr:=vr) (A:=A) hP1 K i hi;have m2:=hP1.ne 2 (by decide)
        have m4:=hP1.ne 4 (by decide)
        have m8:=hP1.ne 8 (by decide)
        have mP:=hP1.ne 1048576 (by decide)
        have q2:=hP1.ne' 2 (by decide)
        have q4:=hP1.ne' 4 (by decide)
        have q8:=hP1.ne' 8 (by decide)
        have qP:=hP1.ne' 1048576 (by decide)
        by_cases hi2:i<n
        .have hi2' : (i:Int)<(n:Int):=by omega
         have v1:elK c i c A1 i c=A1 i c:=by unfold elK;rw [if_neg (by omega)]
         have v2:elK c i c A1 c c=A1 c c:=by unfold elK;rw [if_neg (by omega)]
         have z1:=hr1 i c hi2 hlt;have z2:=hr1 c c hlt hlt;have z3:=zaH (A1 i c) (A1 c c);obtain⟨fq,hfq⟩:∃q,A1 i c / A1 c c=q:=⟨_,rfl⟩;have e0':=Xd tE;have r8:=XaU (n:=n) (σ:=σ1) (vr:=vr) (A:=elK c i c A1) (r:=8) hP1 (by decide)
         simp only [go_sem,hi2,hi2',hlt,Nat.zero_add,Int.toNat_natCast,hbr1,m2,m4,m8,mP,v1,v2,hd,hz1,e0',hfq,r8,decide_true,decide_false,Xf,rQ];repeat first | refine q_Wk ?_ | intro _
         refine ja (λk:Nat=>⟨mkV [(0,.one (.own 1048576 pv 1 0 n)),(2,.one (.ptr 2 1 0 0)),(4,.one (.ptr 4 1 0 0)),(5,.one (.lit (.int .i64 c))),(7,.one (.lit (.int .i64 i))),(8,.one (.ptr 8 1 0 0)),(10,.one (.lit (.int .i64 k))),(13,.one (.lit (.int .i64 n))),(14,.one (.lit (.int .i64 c)))],mkH ((2,⟨1,some ⟨[[.lit (.bool false),.emp,.emp]],3,true⟩⟩)::(4,⟨1,some ⟨[[cb (rcan out1),cn (rcan out1),cd (rcan out1)]],3,true⟩⟩)::(8,⟨1,some ⟨[[cb (rcan fq),cn (rcan fq),cd (rcan fq)]],3,true⟩⟩)::(1048576,⟨pv,some ⟨cellF n σ1 vr,1,true⟩⟩)::rowK n σ1 vr (elK c i k A1))⟩) (λk=>c<=k/\k<=n) (λk=>n-k) c ?_ ?_ ?_
         .refine QW hP1 (by decide) (by simp [bitvec_to_nat]) ⟨yn,Yc,Yc,trivial⟩ (by simp [qa]) λx hx=>?_
          have hg:=hP1.ge x;simp only [qa]
          (repeat rw [if_neg (by omega)])
          exact je hP1 hx
         .exact⟨Nat.le_refl _,hcn⟩
         .rintro k ⟨hck,hkn⟩;by_cases hk2:k<n
          .have hk2' : (k:Int)<(n:Int):=by omega
           have v3:elK c i k A1 i k=A1 i k:=by unfold elK;rw [if_neg (by omega)]
           have v4:elK c i k A1 c k=A1 c k:=by unfold elK;rw [if_neg (by omega)]
           have z4:=hr1 i k hi2 hk2;have z5:=hr1 c k hlt hk2;have z6:=ve fq (A1 c k);rw [hfq]at z3;simp only [go_sem,hi2,hi2',hk2,hk2',hlt,Nat.zero_add,Int.toNat_natCast,hbr1,m2,m4,m8,mP,v3,v4,hm,hb,decide_true,Xf,rQ,ZS];repeat first | refine q_Wk ?_ | intro _
           refine⟨k+1,?_,⟨by omega,by omega⟩,by omega⟩
           refine QW hP1 (by decide) (by simp [bitvec_to_nat,q2,q4,q8,qP]) (by simp only [okH,qa,q2,q4,q8,if_false];exact⟨yn,Yc,Yc,trivial⟩) (by simp [qa,qP]) λx hx=>?_
           have hg:=hP1.ge x;simp only [qa];by_cases hxi:x=i
           .subst hxi;rw [if_pos rfl,Ji λj hj=>?_];unfold elK;by_cases hjk:j=k
            .subst hjk;rw [if_pos rfl,if_pos (by omega),hfq]
            .rw [if_neg hjk];by_cases hjk2:c<x/\c<=j/\(x<x∨(x=x/\j<k))
             .rw [if_pos hjk2,if_pos (by omega)]
             .rw [if_neg hjk2,if_neg (by omega)]
           .have hne:¬σ1 x=σ1 i:=λe=>hxi (hP1.inj x i hx hi2 e)
            (repeat rw [if_neg (by omega)])
            rw [je hP1 hx,Ji λj hj=>?_];unfold elK;by_cases hjk2:c<x/\c<=j/\(x<i∨(x=i/\j<k))
            .rw [if_pos hjk2,if_pos (by omega)]
            .rw [if_neg hjk2,if_neg (by omega)]
          .have hk2' : ¬(k:Int)<(n:Int):=by omega
           have ekn:k=n:=by omega
           simp only [go_sem,hk2'];repeat first | refine q_Wk ?_ | intro _
           refine⟨i+1,?_,⟨by omega,by omega⟩,by omega⟩
           refine Vw hP1 (by decide) (by simp [bitvec_to_nat]) ⟨yn,Yc,trivial⟩ (by simp [qa]) λx hx=>?_
           have hg:=hP1.ge x;simp only [qa]
           (repeat rw [if_neg (by omega)])
           rw [je hP1 hx,ekn,Ji λj hj=>Zba c i n A1 hj]
        .have hi2' : ¬(i:Int)<(n:Int):=by omega
         have ein:i=n:=by omega
         simp only [go_sem,hi2'];repeat first | refine q_Wk ?_ | intro _
         refine⟨(c+1,σ1,elK c n c A1,out1),?_,⟨hlt,hP1,?_,?_,?_⟩,by show n-(c+1)<n-c;omega⟩
         .refine Vw hP1 (by decide) (by simp [bitvec_to_nat]) ⟨yn,Yc,trivial⟩ (by simp [qa]) λx hx=>?_
          have hg:=hP1.ge x;simp only [qa]
          (repeat rw [if_neg (by omega)])
          rw [je hP1 hx,ein]
         .rw [<-hgd'];exact UaT (Nat.sub_le _ _) λx j hx hj=>Wa8 c n A1 hx
         .intro x j hx hj;show rz (elK c n c A1 x j)<=sbD (c+1);have y1:=hr1 x j hx hj;have y2:=hr1 x c hx hlt;have y3:=hr1 c c hlt hlt;have y4:=hr1 c j hlt hj;have y5:=zaH (A1 x c) (A1 c c);have y6:=ve (A1 x c / A1 c c) (A1 c j);have y7:=xaZ (A1 x j) (A1 x c / A1 c c*A1 c j);simp only [sbD];unfold elK;split <;> omega
         .show rz out1<=(c+1)*100000010+10;rw [Nat.add_mul];omega
    .have etn:t=n:=by omega
     have hlt2' : ¬(t:Int)<(n:Int):=by omega
     have hz:dt n A0=0:=by
      have e2:n-c=(n-(c+1))+1:=by omega
      rw [<-hgd,e2];rw [e2]at hp;simp only [gd];rw [show n-(n-(c+1)+1)=c by omega,hp,if_pos]
      rw [<-hpt,etn,Nat.sub_self];rfl
     rw [hz,rQ_0]at hK;subst etn;simp only [go_sem,hlt2',decide_true];repeat first | refine q_Wk ?_ | intro _
     refine⟨hst σ A _ hσ (by simp [qa]) λi hi=>?_,hK⟩
     have hg:=hσ.ge i;simp only [qa]
     (repeat rw [if_neg (by omega)])
     exact je hσ hi
  .have ecn:c=n:=by omega
   have hlt' : ¬(c:Int)<(n:Int):=by omega
   rw [ecn,Nat.sub_self]at hgd;simp only [gd]at hgd;rw [<-hgd]at hK;simp only [go_sem,hlt',vI,List.cons_append,List.nil_append];repeat first | refine q_Wk ?_ | intro _
   refine⟨hst σ A _ hσ (by simp [qa]) λi hi=>?_,hK⟩
   have hg:=hσ.ge i;simp only [qa]
   (repeat rw [if_neg (by omega)])
   exact je hσ hi
end Go.Abs
end
section
namespace Go.Num
open Go.Abs
def sylT(l:List Rat)(s t:Nat):Nat->Rat:=λj=>if s<=j/\j<s+t then l.getD (l.length-1-(j-s)) 0 else 0
theorem kbj{p q:List Rat}{i j:Nat}(hi:i<q.length-1)(hp:p≠[]):sylT p i p.length j=sylQ p q i j:=by
 have:p.length≠0:=λe=>hp (List.length_eq_zero_iff.1 e);unfold sylT sylQ;rw [if_pos hi];by_cases h1:i<=j/\j<i+p.length
 .rw [if_pos h1,if_pos (by omega),show p.length-1-(j-i)=i+(p.length-1)-j by omega]
 .rw [if_neg h1];split
  .rw [List.getD_eq_getElem?_getD,List.getElem?_eq_none (by omega)];rfl
  .rfl
theorem zbm{p q:List Rat}{i j:Nat}(hi:¬i<q.length-1)(hq:q≠[]):sylT q (i-(q.length-1)) q.length j=sylQ p q i j:=by
 have:q.length≠0:=λe=>hq (List.length_eq_zero_iff.1 e);unfold sylT sylQ;rw [if_neg hi];by_cases h1:i-(q.length-1)<=j/\j<i-(q.length-1)+q.length
 .rw [if_pos h1,if_pos (by omega),show q.length-1-(j-(i-(q.length-1)))=i-j by omega]
 .rw [if_neg h1];split
  .rw [List.getD_eq_getElem?_getD,List.getElem?_eq_none (by omega)];rfl
  .rfl
theorem waD{l:List Rat}{s t j:Nat}(ht:t<l.length):sylT l s (t+1) j=if j=s+t then l.getD (l.length-1-t) 0 else sylT l s t j:=by
 unfold sylT;by_cases h:j=s+t
 .rw [if_pos h,if_pos (by omega),h,Nat.add_sub_cancel_left]
 .rw [if_neg h];by_cases h1:s<=j/\j<s+t
  .rw [if_pos h1,if_pos (by omega)]
  .rw [if_neg h1,if_neg (by omega)]
end Go.Num
namespace Go.Abs
open Go.Num
variable {P:Program} {Γ:Nat->Spec}
def cellV(k N:Nat)(σ:Nat->Nat):List (List C):=(List.range N).map λi=>if i<k then [.own (σ i) 1 3 0 N] else [.emp]
def cellW(k N:Nat)(σ:Nat->Nat):List (List C):=(List.range N).map λi=>if i<k then [.own (σ i) 1 3 0 N] else if i=k then [.own 33 1 3 0 N] else [.emp]
def rowJ(k N:Nat)(σ:Nat->Nat)(A:MxQ):List (Nat×HB):=(List.range k).map λi=>(σ i,⟨1,some ⟨rowF N (A i),3,true⟩⟩)
theorem XZ{k N:Nat}{σ:Nat->Nat}:(cellV k N σ).set k [.own 33 1 3 0 N]=cellW k N σ:=by
 unfold cellV cellW;rw [vJ];refine List.map_congr_left λt _=>?_;by_cases h:t=k
 .rw [if_pos h,if_neg (by omega),if_pos h]
 .rw [if_neg h,if_neg h]
theorem jN(K:List C->Prop)(k N i:Nat)(σ:Nat->Nat):getE K (cellV k N σ) i=(i<N/\K (if i<k then [.own (σ i) 1 3 0 N] else [.emp])):=qp
theorem kaw(K:List C->Prop)(k N i:Nat)(σ:Nat->Nat):getE K (cellW k N σ) i=(i<N/\K (if i<k then [.own (σ i) 1 3 0 N] else if i=k then [.own 33 1 3 0 N] else [.emp])):=qp
structure Nms (σ:Nat->Nat):Prop where
 ge:∀i,1000<=σ i
 lt:∀i,i<9->σ i<1048576
 inj:∀i j,σ i=σ j->i=j
theorem vc{k N:Nat}{σ:Nat->Nat}{A:MxQ}(h:Nms σ){i:Nat}(hi:i<k):mkH (rowJ k N σ A) (σ i)=⟨1,some ⟨rowF N (A i),3,true⟩⟩:=by
 unfold rowJ;have key:∀(s m:Nat),s<=i->i<s+m->mkH ((List.range' s m).map λi=>(σ i,(⟨1,some ⟨rowF N (A i),3,true⟩⟩:HB))) (σ i)=⟨1,some ⟨rowF N (A i),3,true⟩⟩:=by
  intro s m
  induction m generalizing s with
  | zero=>intro h1 h2;omega
  | succ m ih=>
   intro h1 h2;rw [List.range'_succ,List.map_cons,qa];by_cases e:σ i=σ s
   .have:=h.inj _ _ e;subst this;rw [if_pos rfl]
   .rw [if_neg e];have:s≠i:=λe2=>e (by rw [e2])
    exact ih (s+1) (by omega) (by omega)
 rw [List.range_eq_range'];exact key 0 k (Nat.zero_le _) (by omega)
theorem Vl{k N:Nat}{σ:Nat->Nat}{A:MxQ}{r:Nat}(hr:∀i,i<k->r≠σ i):mkH (rowJ k N σ A) r=⟨0,none⟩:=by
 unfold rowJ;have key:∀(s m:Nat),s+m<=k->mkH ((List.range' s m).map λi=>(σ i,(⟨1,some ⟨rowF N (A i),3,true⟩⟩:HB))) r=⟨0,none⟩:=by
  intro s m
  induction m generalizing s with
  | zero=>intro _;rfl
  | succ m ih=>
   intro h1;rw [List.range'_succ,List.map_cons,qa,if_neg (hr s (by omega))]
   exact ih (s+1) (by omega)
 rw [List.range_eq_range'];exact key 0 k (by omega)
theorem XV{a b ver N:Nat}{f:Nat->Rat}:swB a b ⟨ver,some ⟨rowF N f,3,true⟩⟩=⟨ver,some ⟨rowF N f,3,true⟩⟩:=by
 unfold swB;simp only [Option.map_some,HB.mk.injEq,Option.some.injEq,Blk.mk.injEq,and_true,true_and];unfold rowF;rw [List.map_map];exact List.map_congr_left λj _=>rfl
theorem Yx{k N:Nat}{σ:Nat->Nat}{A B:MxQ}{h h' : Nat->HB}(hR:∀i,i<k->h (σ i)=⟨1,some ⟨rowF N (B i),3,true⟩⟩)(hAB:∀i,i<k->rowF N (B i)=rowF N (A i)):okH h h' (rowJ k N σ A):=by
 unfold rowJ;have:∀s m,s+m<=k->okH h h' ((List.range' s m).map λi=>(σ i,(⟨1,some ⟨rowF N (A i),3,true⟩⟩:HB))):=by
  intro s m
  induction m generalizing s with
  | zero=>intro _;trivial
  | succ m ih=>
   intro hm;rw [List.range'_succ,List.map_cons];refine⟨?_,ih (s+1) (by omega)⟩
   rw [hR s (by omega),hAB s (by omega)]
   exact⟨⟨rfl,rfl⟩,.inl ⟨rfl,Ys _ _⟩⟩
 have h0:=this 0 k (by omega)
 rw [<-List.range_eq_range']at h0;exact h0
theorem vD{h h' : Nat->HB}{N:Nat}{f g:Nat->List C}(H:∀i,i<N->okL h h' (f i) (g i)):okE h h' ((List.range N).map f) ((List.range N).map g):=by
 have:∀s m,s+m<=N->okE h h' ((List.range' s m).map f) ((List.range' s m).map g):=by
  intro s m
  induction m generalizing s with
  | zero=>intro _;trivial
  | succ m ih=>
   intro hm;rw [List.range'_succ,List.map_cons,List.map_cons];exact⟨H s (by omega),ih (s+1) (by omega)⟩
 have h0:=this 0 N (by omega)
 rw [<-List.range_eq_range']at h0;exact h0
def gone(N:Nat)(σ:Nat->Nat):List (Nat×HB):=(List.range N).map λi=>(σ i,⟨1,none⟩)
theorem ZaA{N:Nat}{σ:Nat->Nat}{A:MxQ}{x:HB}{y:Blk}(h:Nms σ):forgN (22::(List.range N).map σ) (mkH ((4,x)::(22,⟨1,some y⟩)::rowJ N N σ A))=mkH ((4,x)::(22,⟨1,none⟩)::gone N σ):=by
 funext r
 unfold forgN;have hgone:∀i,i<N->mkH (gone N σ) (σ i)=⟨1,none⟩:=by
  intro i hi;unfold gone;have key:∀(s m:Nat),s<=i->i<s+m->mkH ((List.range' s m).map λi=>(σ i,(⟨1,none⟩:HB))) (σ i)=⟨1,none⟩:=by
   intro s m
   induction m generalizing s with
   | zero=>intro h1 h2;omega
   | succ m ih=>
    intro h1 h2;rw [List.range'_succ,List.map_cons,qa];by_cases e:σ i=σ s
    .rw [if_pos e]
    .rw [if_neg e];have:s≠i:=λe2=>e (by rw [e2])
     exact ih (s+1) (by omega) (by omega)
  rw [List.range_eq_range'];exact key 0 N (Nat.zero_le _) (by omega)
 by_cases h4:r=4
 .subst h4;rw [if_neg,qa,if_pos rfl,qa,if_pos rfl];simp only [List.mem_cons,List.mem_map,List.mem_range,not_or,not_exists,not_and];exact⟨by decide,λi _ e=>by have:=h.ge i;omega⟩
 by_cases h22:r=22
 .subst h22;rw [if_pos (by simp),qa,if_neg (by decide),qa,if_pos rfl,qa,if_neg (by decide),qa,if_pos rfl]
 by_cases hm:∃i,i<N/\r=σ i
 .obtain⟨i,hi,rfl⟩:=hm;rw [if_pos (by simp only [List.mem_cons,List.mem_map,List.mem_range];exact .inr ⟨i,hi,rfl⟩),qa,if_neg h4,qa,if_neg h22,vc h hi,qa,if_neg h4,qa,if_neg h22,hgone i hi]
 .have hno:∀i,i<N->r≠σ i:=λi hi e=>hm ⟨i,hi,e⟩;rw [if_neg,qa,if_neg h4,qa,if_neg h22,Vl hno,qa,if_neg h4,qa,if_neg h22]
  .unfold gone;have key:∀(s m:Nat),s+m<=N->(⟨0,none⟩:HB)=mkH ((List.range' s m).map λi=>(σ i,(⟨1,none⟩:HB))) r:=by
    intro s m
    induction m generalizing s with
    | zero=>intro _;rfl
    | succ m ih=>
     intro h1;rw [List.range'_succ,List.map_cons,qa,if_neg (hno s (by omega))]
     exact ih (s+1) (by omega)
   rw [List.range_eq_range'];exact key 0 N (by omega)
  .simp only [List.mem_cons,List.mem_map,List.mem_range,not_or,not_exists,not_and];exact⟨h22,λi hi e=>hno i hi e.symm⟩
theorem xaH{k N:Nat}{σ:Nat->Nat}{A:MxQ}{v:Nat->AV}{h:Nat->HB}{l:List (Nat×AV)}{x:HB}{row:List (List C)}(hσ:Nms σ)(hk:k<9)(hx:x=⟨1,some ⟨[[.lit (.bool false),.emp,.emp]],3,true⟩⟩)
  (hl:mkV (swL 33 (σ k) l)=mkV l)
  (h1:okS h (mkH ((4,x)::(22,⟨1,some ⟨cellW k N σ,1,true⟩⟩)::(33,⟨1,some ⟨rowF N (A k),3,true⟩⟩)::rowJ k N σ A)) v l)
  (h4:h 4=x) (h22:h 22=⟨1,some ⟨cellW k N σ,1,true⟩⟩) (h33:h 33=⟨1,some ⟨row,3,true⟩⟩) (hrow:row=rowF N (A k)) (hR:∀i,i<k->h (σ i)=⟨1,some ⟨rowF N (A i),3,true⟩⟩) :
  Weak ⟨v,h⟩ ⟨mkV l,mkH ((4,x)::(22,⟨1,some ⟨cellV (k+1) N σ,1,true⟩⟩)::rowJ (k+1) N σ A)⟩:=by
 subst hrow;have h33' : ∀i,σ i≠33:=λi e=>by have:=hσ.ge i;omega
 have h22' : ∀i,σ i≠22:=λi e=>by have:=hσ.ge i;omega
 have h4' : ∀i,σ i≠4:=λi e=>by have:=hσ.ge i;omega
 have w:=zaj (a:=33) (b:=σ k) ⟨by decide,hσ.lt k hk⟩ (v:=v) (h:=h) (l:=l) (k:=(4,x)::(22,⟨1,some ⟨cellW k N σ,1,true⟩⟩)::(33,⟨1,some ⟨rowF N (A k),3,true⟩⟩)::rowJ k N σ A) ⟨h1,?_⟩
 .rw [hl]at w;have e:mkH (swK 33 (σ k) ((4,x)::(22,⟨1,some ⟨cellW k N σ,1,true⟩⟩)::(33,⟨1,some ⟨rowF N (A k),3,true⟩⟩)::rowJ k N σ A))=mkH ((4,x)::(22,⟨1,some ⟨cellV (k+1) N σ,1,true⟩⟩)::rowJ (k+1) N σ A):=by
   funext r
   rw [uai];by_cases r4:r=4
   .subst r4;have e:sw 33 (σ k) 4=4:=by unfold sw;rw [if_neg (by decide),if_neg (h4' k).symm]
    rw [e,qa,if_pos rfl,qa,if_pos rfl,hx];rfl
   by_cases r22:r=22
   .subst r22;have e:sw 33 (σ k) 22=22:=by unfold sw;rw [if_neg (by decide),if_neg (h22' k).symm]
    rw [e,qa,if_neg (by decide),qa,if_pos rfl,qa,if_neg (by decide),qa,if_pos rfl]
    unfold swB;simp only [Option.map_some,HB.mk.injEq,Option.some.injEq,Blk.mk.injEq,and_true,true_and];unfold cellW cellV;rw [List.map_map];refine List.map_congr_left λi _=>?_;show((if i<k then [C.own (σ i) 1 3 0 N] else if i=k then [C.own 33 1 3 0 N] else [C.emp]).map (swC 33 (σ k)))=_
    by_cases i1:i<k
    .rw [if_pos i1,if_pos (by omega),List.map_cons,List.map_nil,Qae]
     congr 2;unfold sw;rw [if_neg (h33' i),if_neg (λe=>by have:=hσ.inj _ _ e;omega)]
    .rw [if_neg i1];by_cases i2:i=k
     .rw [if_pos i2,if_pos (by omega),List.map_cons,List.map_nil,Qae,i2]
      congr 2
     .rw [if_neg i2,if_neg (by omega)];rfl
   by_cases r33:r=33
   .subst r33;have e:sw 33 (σ k) 33=σ k:=by unfold sw;rw [if_pos rfl]
    rw [e,qa,if_neg (h4' k),qa,if_neg (h22' k),qa,if_neg (h33' k),Vl λi hi e=>by have:=hσ.inj _ _ e;omega,qa,if_neg (by decide),qa,if_neg (by decide),Vl λi _ e=>h33' i e.symm]
    rfl
   by_cases rk:r=σ k
   .subst rk;have e:sw 33 (σ k) (σ k)=33:=by unfold sw;rw [if_neg (h33' k),if_pos rfl]
    rw [e,qa,if_neg (by decide),qa,if_neg (by decide),qa,if_pos rfl,qa,if_neg (h4' k),qa,if_neg (h22' k),vc hσ (by omega),XV]
   have e:sw 33 (σ k) r=r:=by unfold sw;rw [if_neg r33,if_neg rk]
   rw [e,qa,if_neg r4,qa,if_neg r22,qa,if_neg r33,qa,if_neg r4,qa,if_neg r22];by_cases hm:∃i,i<k/\r=σ i
   .obtain⟨i,hi,rfl⟩:=hm;rw [vc hσ hi,vc hσ (by omega),XV]
   .rw [Vl λi hi e=>hm ⟨i,hi,e⟩,Vl λi hi e=>?_]
    .rfl
    .by_cases ik:i=k
     .rw [ik]at e;exact rk e
     .exact hm ⟨i,by omega,e⟩
  rw [e]at w;exact w
 .refine⟨?_,?_,?_,Yx hR λ_ _=>rfl⟩
  .rw [h4,hx];exact yn
  .rw [h22];refine⟨⟨rfl,rfl⟩,.inr ?_⟩;refine vD λi hi=>?_;split
   .rename_i hik;refine⟨⟨⟨rfl,rfl,rfl,rfl⟩,by rw [hR i hik],?_,?_⟩,trivial⟩ <;>
    .rw [qa,if_neg (h4' i),qa,if_neg (h22' i),qa,if_neg (h33' i),vc hσ hik];try first | rfl | simp
   .split
    .refine⟨⟨⟨rfl,rfl,rfl,rfl⟩,by rw [h33],?_,?_⟩,trivial⟩ <;>
     .rw [qa,if_neg (by decide),qa,if_neg (by decide),qa,if_pos rfl]
      try first | rfl | simp
    .exact⟨trivial,trivial⟩
  .rw [h33];exact⟨⟨rfl,rfl⟩,.inl ⟨rfl,Ys _ _⟩⟩
theorem wU{h h' : Nat->HB}:∀{es:List (List C)},CleanR es->okE h h' es es
 | [],_=>trivial
 | e::es,H=>by
  refine⟨?_,wU λx hx=>H x (by simp [hx])⟩
  have hc:=H e (by simp)
  clear H
  induction e with
  | nil=>trivial
  | cons c e ih=>
   refine⟨?_,ih λx hx=>hc x (by simp [hx])⟩
   have:=hc c (by simp)
   cases this with
   | lit v=>rfl
   | emp=>trivial
   | any=>trivial
   | slice es h=>rfl
   | full es h=>rfl
   | ref cs h=>rfl
   | clo f cs h=>exact⟨⟨rfl,rfl⟩,h⟩
theorem Wbm{h h' : Nat->HB}{N:Nat}:okE h h' (List.replicate N [.lit (.bool false),.emp,.emp]) (rowF N λ_=>0):=by
 have e:rowF N (λ_=>0)=(List.replicate N (rcan 0)).map rC:=by
  unfold rowF;rw [List.map_replicate];exact List.map_const' .. |>.trans (by rw [List.length_range])
 rw [e];exact UC N
theorem yaa{k N:Nat}{σ:Nat->Nat}{A:MxQ}{f:Nat->Rat}{v:Nat->AV}{h:Nat->HB}{l:List (Nat×AV)}{row:List (List C)}(hσ:Nms σ)
  (h1:okS h (mkH ((4,⟨1,some ⟨[[.lit (.bool false),.emp,.emp]],3,true⟩⟩)::(22,⟨1,some ⟨cellW k N σ,1,true⟩⟩)::(33,⟨1,some ⟨rowF N f,3,true⟩⟩)::rowJ k N σ A)) v l)
  (h4:h 4=⟨1,some ⟨[[.lit (.bool false),.emp,.emp]],3,true⟩⟩) (h22:h 22=⟨1,some ⟨cellW k N σ,1,true⟩⟩) (h33:h 33=⟨1,some ⟨row,3,true⟩⟩) (hrow:∀h h',okE h h' row (rowF N f)) (hR:∀i,i<k->h (σ i)=⟨1,some ⟨rowF N (A i),3,true⟩⟩) :
  Weak ⟨v,h⟩ ⟨mkV l,mkH ((4,⟨1,some ⟨[[.lit (.bool false),.emp,.emp]],3,true⟩⟩)::(22,⟨1,some ⟨cellW k N σ,1,true⟩⟩)::(33,⟨1,some ⟨rowF N f,3,true⟩⟩)::rowJ k N σ A)⟩:=by
 have h33' : ∀i,σ i≠33:=λi e=>by have:=hσ.ge i;omega
 have h22' : ∀i,σ i≠22:=λi e=>by have:=hσ.ge i;omega
 have h4' : ∀i,σ i≠4:=λi e=>by have:=hσ.ge i;omega
 refine za h1 ⟨?_,?_,?_,Yx hR λ_ _=>rfl⟩
 .rw [h4];exact yn
 .rw [h22];refine⟨⟨rfl,rfl⟩,.inr ?_⟩;refine vD λi hi=>?_;split
  .rename_i hik;refine⟨⟨⟨rfl,rfl,rfl,rfl⟩,by rw [hR i hik],?_,?_⟩,trivial⟩ <;>
   .rw [qa,if_neg (h4' i),qa,if_neg (h22' i),qa,if_neg (h33' i),vc hσ hik];try first | rfl | simp
  .split
   .refine⟨⟨⟨rfl,rfl,rfl,rfl⟩,by rw [h33],?_,?_⟩,trivial⟩ <;>
    .rw [qa,if_neg (by decide),qa,if_neg (by decide),qa,if_pos rfl]
     try first | rfl | simp
   .exact⟨trivial,trivial⟩
 .rw [h33];exact⟨⟨rfl,rfl⟩,.inr (hrow _ _)⟩
def jy(tE:Nat):q_T:=q_c2 λa b K=>onLq (λp=>onLq (λq=>p≠[]/\q≠[]/\p.length+q.length<=10/\(∀x∈p,rz x<=1000)/\(∀x∈q,rz x<=1000)/\K (.tup [rQ (resQ p q),errV tE 0])) b) a
theorem Vad(tE:Nat):Good (jy tE):=q_g2 λ_ _=>(qo λ_=>(qo λ_=>(.and λ_=>(.and λ_=>(.and λ_=>(.and λ_=>(.and λ_=>(.ret _))))))))
attribute [go_sem] jy
def Xp(f0:Nat):AC:=(.o [.G 4 [.z,.emp,.emp],.m 5 (.c (.one (.lit .nilIface)))] [0,1,4] (.o [.M 13 0,.Z 14 13,.I 15 .sub 14 1,.M 16 1,.Z 17 16,.I 18 .sub 17 1,.M 6 15,.M 7 18] [0,1,4,6,7] (.o [.M 19 6,.M 20 7,.B 21 .add 19 20,.u 22 (.mk 1 [.emp] (.t 21) (.t 21)),.M 8 22] [0,1,4,6,7,8] (.f (.o [.M 23 8,.Z 24 23,.N 25 0] [0,1,4,6,7,8,24,25] (.block 0 (.loop (.o [.B 26 .lss 25 24] [0,1,4,6,7,8,24,25,26] (.f (.cond (.t 26) .skip (.exit 0)) [0,1,4,6,7,8,24,25] (.f (.block 1 (.o [.M 27 25,.M 9 27] [0,1,4,6,7,8,9,24,25] (.o [.M 28 8,.M 29 9,.M 30 6,.M 31 7,.B 32 .add 30 31,.u 33 (.mk 3 [.z,.emp,.emp] (.t 32) (.t 32)),.J 34 1 28 29,.S 1 34 33] [0,1,4,6,7,8,9,24,25] (.o [.M 35 0,.M 36 9,.M 10 35,.M 11 36] [0,1,4,6,7,8,9,10,11,24,25] (.f (.o [.M 37 9,.M 38 7,.B 39 .geq 37 38] [0,1,4,6,7,8,9,10,11,24,25,39] (.cond (.t 39) (.p [.M 40 1,.M 41 9,.M 42 7,.B 43 .sub 41 42,.M 10 40,.M 11 43]) .skip)) [0,1,4,6,7,8,9,10,11,24,25] (.o [.M 44 10,.Z 45 44,.N 46 0] [0,1,4,6,7,8,9,10,11,24,25,45,46] (.block 2 (.loop (.o [.B 47 .lss 46 45] [0,1,4,6,7,8,9,10,11,24,25,45,46,47] (.f (.cond (.t 47) .skip (.exit 2)) [0,1,4,6,7,8,9,10,11,24,25,45,46] (.f (.block 3 (.o [.M 48 46,.M 12 48] [0,1,4,6,7,8,9,10,11,12,24,25,45,46] (.y [.M 49 8,.M 50 9,.J 51 1 49 50,.F 52 1 51,.M 53 11,.M 54 12,.B 55 .add 53 54,.M 56 10,.M 57 10,.Z 58 57,.I 59 .sub 58 1,.M 60 12,.B 61 .sub 59 60,.J 62 3 56 61,.L 63 3 62,.J 64 3 52 55,.S 3 64 63]))) [0,1,4,6,7,8,9,10,11,24,25,45,46] (.p [.I 65 .add 46 1,.M 46 65])))))))))))) [0,1,4,6,7,8,24,25] (.p [.I 66 .add 25 1,.M 25 66]))))))) [4,8] (.seq (.p [.M 67 8,.H 68 f0 67,.X 69 0 68,.X 70 1 68,.S 3 4 69,.M 5 70]) .ret)))))
theorem Y5(hΓ:Holds P Γ){f fd tE:Nat}(hd:Γ fd=.own (uH tE))(hc:check P f=some (71,(Xp fd).strip,[.cell 4 3 true,.tmp 5])):Sound P f (.dat false (jy tE)):=by
 refine Qa hc (Vad tE) hΓ (λargs K hcl hfi hG=>?_);match args,hG with
 | [a0,a1],hG=>
  obtain⟨p,rfl,q,rfl,hp0,hq0,hl,hp,hq,hK⟩:=hG;refine⟨by simp,?_⟩
  have lp:p.length≠0:=λe=>hp0 (List.length_eq_zero_iff.1 e);have lq:q.length≠0:=λe=>hq0 (List.length_eq_zero_iff.1 e);obtain⟨m,hm⟩:∃m,p.length=m+1:=⟨p.length-1,by omega⟩
  obtain⟨n,hn⟩:∃n,q.length=n+1:=⟨q.length-1,by omega⟩
  obtain⟨N,hN⟩:∃N,m+n=N:=⟨_,rfl⟩;have e1:((m+1:Nat):Int)-1=(m:Int):=by omega
  have e2:((n+1:Nat):Int)-1=(n:Int):=by omega
  have e3:(m:Int)+(n:Int)=(N:Int):=by omega
  obtain⟨σ,hs⟩:∃σ:Nat->Nat,∀i,σ i=i+1000:=⟨_,λ_=>rfl⟩;have hσ:Nms σ:=⟨λi=>by rw [hs];omega,λi hi=>by rw [hs];omega,λi j e=>by rw [hs,hs]at e;omega⟩
  have e0:=Xd tE;rw [e0]at hK;simp only [go_sem,Xp,hm,hn,e1,e2,e3];repeat first | refine q_Wk ?_ | intro _
  refine ja (λk:Nat=>⟨mkV [(0,lqA p),(1,lqA q),(4,.one (.ptr 4 1 0 0)),(6,.one (.lit (.int .i64 m))),(7,.one (.lit (.int .i64 n))),(8,.one (.own 22 1 1 0 N)),(24,.one (.lit (.int .i64 N))),(25,.one (.lit (.int .i64 k)))],mkH ((4,⟨1,some ⟨[[.lit (.bool false),.emp,.emp]],3,true⟩⟩)::(22,⟨1,some ⟨cellV k N σ,1,true⟩⟩)::rowJ k N σ (sylQ p q))⟩) (λk=>k<=N) (λk=>N-k) 0 ?_ ?_ ?_
  .have ec:cellV 0 N σ=List.replicate N [.emp]:=by
    unfold cellV;simp only [Nat.not_lt_zero,if_false];exact List.map_const' .. |>.trans (by rw [List.length_range])
   have er:rowJ 0 N σ (sylQ p q)=[]:=rfl;rw [ec,er];refine za (by simp [bitvec_to_nat,lqA]) ⟨yn,⟨⟨rfl,rfl⟩,.inl ⟨rfl,?_⟩⟩,trivial⟩
   intro e he c hc;rw [(List.mem_replicate.1 he).2,List.mem_singleton]at hc;subst hc;exact .emp
  .exact Nat.zero_le _
  .intro k hk;obtain⟨A,hA⟩:∃A,sylQ p q=A:=⟨_,rfl⟩;rw [hA];have h33' : ∀i,σ i≠33:=λi e=>by have:=hσ.ge i;omega
   have h22' : ∀i,σ i≠22:=λi e=>by have:=hσ.ge i;omega
   have h4' : ∀i,σ i≠4:=λi e=>by have:=hσ.ge i;omega
   by_cases hlt:k<N
   .have hlt' : (k:Int)<(N:Int):=by omega
    have r33:mkH (rowJ k N σ A) 33=⟨0,none⟩:=Vl λi _ e=>h33' i e.symm;have hkk:¬k<k:=Nat.lt_irrefl k;rcases Decidable.em (n<=k) with hnk | hnk
    case' inl=>
     obtain⟨l,hll⟩:∃l,l=q:=⟨_,rfl⟩;obtain⟨s,hss⟩:∃s,s=k-n:=⟨_,rfl⟩;have hnk' : (n:Int)<=(k:Int):=by omega
     have es:(k:Int)-(n:Int)=(s:Int):=by omega
     have hfull:∀j,sylT l s l.length j=A k j:=λj=>by
      rw [<-hA];rw [hll,hss];have:=zbm (p:=p) (q:=q) (i:=k) (j:=j) (by omega) hq0
      rw [show q.length-1=n by omega]at this
      exact this
     have hsl:s+l.length<=N:=by rw [hll];omega
     have hrl:∀x∈l,rz x<=1000:=by rw [hll];exact hq
     have hl0:l.length=n+1:=by rw [hll,hn]
     have hl10:l.length<=10:=by omega
     simp only [go_sem,hlt,hlt',e3,r33,jN,hkk,Int.toNat_natCast,Nat.zero_add,List.drop_one,List.tail_cons,XZ,hnk,hnk',es,hn,decide_true];repeat first | refine q_Wk ?_ | intro _
    case' inr=>
     obtain⟨l,hll⟩:∃l,l=p:=⟨_,rfl⟩;obtain⟨s,hss⟩:∃s,s=k:=⟨_,rfl⟩;have hnk' : ¬(n:Int)<=(k:Int):=by omega
     have hfull:∀j,sylT l s l.length j=A k j:=λj=>by
      rw [<-hA];rw [hll,hss];exact kbj (p:=p) (q:=q) (i:=k) (j:=j) (by omega) hp0
     have hsl:s+l.length<=N:=by rw [hll];omega
     have hrl:∀x∈l,rz x<=1000:=by rw [hll];exact hp
     have hl0:l.length=m+1:=by rw [hll,hm]
     have hl10:l.length<=10:=by omega
     simp only [go_sem,hlt,hlt',e3,r33,jN,hkk,Int.toNat_natCast,Nat.zero_add,List.drop_one,List.tail_cons,XZ,hnk,hnk',hm,decide_false];repeat first | refine q_Wk ?_ | intro _
    all_goals
     refine ja (λt:Nat=>⟨mkV [(0,lqA p),(1,lqA q),(4,.one (.ptr 4 1 0 0)),(6,.one (.lit (.int .i64 m))),(7,.one (.lit (.int .i64 n))),(8,.one (.own 22 1 1 0 N)),(9,.one (.lit (.int .i64 k))),(10,lqA l),(11,.one (.lit (.int .i64 s))),(24,.one (.lit (.int .i64 N))),(25,.one (.lit (.int .i64 k))),(45,.one (.lit (.int .i64 l.length))),(46,.one (.lit (.int .i64 t)))],mkH ((4,⟨1,some ⟨[[.lit (.bool false),.emp,.emp]],3,true⟩⟩)::(22,⟨1,some ⟨cellW k N σ,1,true⟩⟩)::(33,⟨1,some ⟨rowF N (sylT l s t),3,true⟩⟩)::rowJ k N σ A)⟩) (λt=>t<=l.length) (λt=>l.length-t) 0 ?_ ?_ ?_
     .refine yaa hσ (by simp [bitvec_to_nat,lqA,hll,hss,hn,hm]) (by simp [qa]) (by simp [qa]) (row:=List.replicate N [.lit (.bool false),.emp,.emp]) (by simp [qa]) (λh h'=>?_) λi hi=>?_
      .rw [Ji (g:=λ_=>0) λj _=>by unfold sylT;rw [if_neg (by omega)]]
       exact Wbm
      .have g1:=h4' i;have g2:=h22' i;have g3:=h33' i;simp only [qa]
       (repeat rw [if_neg (by assumption)])
       exact vc hσ hi
     .exact Nat.zero_le _
     .intro t ht;by_cases ht2:t<l.length
      .have ht2' : (t:Int)<(l.length:Int):=by omega
       have es2:(s:Int)+(t:Int)=((s+t:Nat):Int):=by omega
       have es3:(l.length:Int)-1-(t:Int)=((l.length-1-t:Nat):Int):=by omega
       have hlt3:l.length-1-t<l.length:=by omega
       have hst:s+t<N:=by omega
       simp only [go_sem,hlt,ht2,ht2',es2,es3,hlt3,hst,kaw,hkk,Int.toNat_natCast,Nat.zero_add,Xf,ZS];repeat first | refine q_Wk ?_ | intro _
       refine⟨t+1,?_,by omega,by omega⟩
       refine yaa hσ (by simp [bitvec_to_nat,lqA]) (by simp [qa]) (by simp [qa]) (row:=rowF N (sylT l s (t+1))) ?_ (λh h'=>wU (Ys _ _)) λi hi=>?_
       .rw [Ji (f:=sylT l s (t+1)) λj _=>waD ht2];simp [qa]
       .have g1:=h4' i;have g2:=h22' i;have g3:=h33' i;simp only [qa]
        (repeat rw [if_neg (by assumption)])
        exact vc hσ hi
      .have ht2' : ¬(t:Int)<(l.length:Int):=by omega
       have etl:t=l.length:=by omega
       simp only [go_sem,ht2'];repeat first | refine q_Wk ?_ | intro _
       refine⟨k+1,?_,hlt,by omega⟩
       have q4:(4=σ k)=False:=eq_false (h4' k).symm;have q22:(22=σ k)=False:=eq_false (h22' k).symm;refine xaH hσ (by omega) rfl (by simp [qaK,VaN,UaM,QaB,ZaJ,WaQ,Qae,waB,q4,q22]) (by simp [bitvec_to_nat,lqA]) (by simp [qa]) (by simp [qa]) (row:=rowF N (A k)) ?_ rfl λi hi=>?_
       .rw [etl,Ji λj _=>hfull j];simp [qa]
       .have g1:=h4' i;have g2:=h22' i;have g3:=h33' i;simp only [qa]
        (repeat rw [if_neg (by assumption)])
        exact vc hσ hi
   .have ekN:k=N:=by omega
    have hlt' : ¬(k:Int)<(N:Int):=by omega
    subst ekN;simp only [go_sem,hlt',hd];have hrow2:∀i,i<k->mkH ((4,⟨1,some ⟨[[.lit (.bool false),.emp,.emp]],3,true⟩⟩)::(22,⟨1,some ⟨cellV k k σ,1,true⟩⟩)::rowJ k k σ A) (σ i)=⟨1,some ⟨rowF k (A i),3,true⟩⟩:=λi hi=>by
     rw [qa,if_neg (h4' i),qa,if_neg (h22' i),vc hσ hi]
    refine⟨(List.range k).map σ,A,by simp,?_,by omega,?_,?_,?_,?_⟩
    .refine List.nodup_cons.2 ⟨λh=>?_,?_⟩
     .obtain⟨i,_,e⟩:=List.mem_map.1 h;exact h22' i e
     .rw [List.nodup_iff_pairwise_ne,List.pairwise_map];exact List.nodup_range.imp λh e=>h (hσ.inj _ _ e)
    .intro i j _ _;rw [<-hA];unfold sylQ;have z0:=rz_0;split
     .split
      .exact jf hp _
      .omega
     .split
      .exact jf hq _
      .omega
    .rw [qa,if_neg (by decide),qa,if_pos rfl]
     simp only [HB.mk.injEq,Option.some.injEq,Blk.mk.injEq,and_true,true_and];unfold cellV;rw [List.map_map];refine List.map_congr_left λi hi=>?_;have hi2:=List.mem_range.1 hi;rw [if_pos hi2];show _=[C.own (σ i) (mkH ((4,⟨1,some ⟨[[.lit (.bool false),.emp,.emp]],3,true⟩⟩)::(22,⟨1,some ⟨cellV k k σ,1,true⟩⟩)::rowJ k k σ A) (σ i)).ver 3 0 k];rw [hrow2 i hi2]
    .intro i t ht;rw [List.getElem?_map]at ht;by_cases hi:i<k
     .rw [List.getElem?_range hi]at ht;simp only [Option.map_some,Option.some.injEq]at ht;subst ht;rw [hrow2 i hi]
     .rw [List.getElem?_eq_none (by rw [List.length_range];omega)]at ht
      simp at ht
    .rw [ZaA hσ];have hres:resQ p q=dt k A:=by
      unfold resQ;rw [hm,hn,Nat.add_sub_cancel,Nat.add_sub_cancel,hN,hA]
     rw [hres]at hK;simp only [go_sem,e0,rQ];exact hK
end Go.Abs
end
section
namespace Go.Num
open Go.Abs
def topY:BQ->Nat
 | []=>0
 | t::p=>max (t.2.1.toNat+1) (topY p)
def rowY(p:BQ)(j:Nat):List Rat:=(List.range 25).map λi:Nat=>cf p (i:Int) (j:Int)
def rowsP(p:BQ):PL:=(List.range (topY p)).map λj=>trimL (rowY p j)
theorem uaa(p:BQ)(t:MQ):topY (p++[t])=max (topY p) (t.2.1.toNat+1):=by
 induction p with
 | nil=>simp [topY]
 | cons u p ih=>simp only [List.cons_append,topY,ih];omega
theorem ZE{p:BQ}(h:InQ p):topY p<=25:=by
 induction p with
 | nil=>simp [topY]
 | cons t p ih=>
  obtain⟨⟨a,b,c⟩,h2⟩:=Qe.1 h;have:=ih h2;simp only [topY];omega
theorem Ua9{p:BQ}(h:InQ p){i j:Int}(hj:(topY p:Int)<=j):cf p i j=0:=WR λu hu e=>by
 induction p with
 | nil=>simp at hu
 | cons t p ih=>
  obtain⟨h1,h2⟩:=Qe.1 h;simp only [topY]at hj;rcases List.mem_cons.1 hu with rfl | hu
  .have:=h1.2.1;omega
  .exact ih h2 (by omega) hu
theorem Vf(p:BQ):(rowsP p).length=topY p:=by unfold rowsP;rw [List.length_map,List.length_range]
theorem zy(p:BQ)(j:Nat):(rowY p j).length=25:=by unfold rowY;rw [List.length_map,List.length_range]
theorem va3{p:BQ}{t:MQ}(hs:StrM (p++[t]))(hi:InQ (p++[t])):cf p t.1 t.2.1=0:=by
 obtain⟨h1,h2⟩:=zp.1 hi;refine WR λu hu e=>?_;have:=(List.pairwise_append.1 hs).2.2 u hu t (by simp)
 rw [kq_c e]at this;omega
theorem vaV{b:Nat}(i j:Int):∀{p:BQ},StrM p->InQ p->(∀t∈p,rz t.2.2<=b)->rz (cf p i j)<=b
 | [],_,_,_=>by have:=rz_0;show rz 0<=b;omega
 | t::p,hs,hi,hr=>by
  obtain⟨a1,a2⟩:=List.pairwise_cons.1 hs;obtain⟨a3,a4⟩:=Qe.1 hi;simp only [cf];by_cases h:t.1=i/\t.2.1=j
  .have e:=um a4 a3 a1;rw [h.1,h.2]at e;rw [if_pos h,e,Rat.add_zero];exact hr t (by simp)
  .rw [if_neg h,Rat.zero_add];exact vaV i j a2 a4 λu hu=>hr u (by simp [hu])
end Go.Num
namespace Go.Abs
open Go.Num
variable {P:Program} {Γ:Nat->Spec}
def plC(l:List Rat):List C:=[.slice ((l.map rcan).map rC)]
def cellR(L:Nat)(σ:Nat->Nat):List (List C):=(List.range L).map λi=>[.own (σ i) 1 3 0 25]
structure Nmr (σ:Nat->Nat):Prop where
 ge:∀i,1000<=σ i
 lt:∀i,i<100->σ i<1048576
 inj:∀i j,σ i=σ j->i=j
theorem Nmr.nms{σ:Nat->Nat}(h:Nmr σ):Nms σ:=⟨h.ge,λi hi=>h.lt i (by omega),h.inj⟩
theorem Zax(K:List C->Prop)(L i:Nat)(σ:Nat->Nat):getE K (cellR L σ) i=(i<L/\K [.own (σ i) 1 3 0 25]):=qp
theorem VX(L:Nat)(σ:Nat->Nat):(cellR L σ).length=L:=by unfold cellR;rw [List.length_map,List.length_range]
theorem xaP(L:Nat)(σ:Nat->Nat):cellR (L+1) σ=cellR L σ++[[.own (σ L) 1 3 0 25]]:=by unfold cellR;rw [List.range_succ,List.map_append];rfl
theorem YaK{h h' : Nat->HB}:∀{a a' b b' : List (List C)},okE h h' a a'->okE h h' b b'->okE h h' (a++b) (a'++b')
 | [],[],_,_,_,y=>y
 | [],_::_,_,_,x,_=>x.elim
 | _::_,[],_,_,x,_=>x.elim
 | e::a,e'::a',b,b',x,y=>⟨x.1,YaK x.2 y⟩
theorem vaa{L w:Nat}{σ:Nat->Nat}{A:MxQ}{v:Nat->AV}{h:Nat->HB}{l:List (Nat×AV)}{t:Mo}{cs:List (List C)}(hσ:Nmr σ)(hL:L<100)
  (hl:mkV (swL 21 (σ L) l)=mkV l) (hcs:cs=cellR L σ++[[.own 21 1 3 0 25]]) (hz:∀j,j<25->A L j=0)
  (h1:okS h (mkH ((5,⟨1,some ⟨[mC t],5,true⟩⟩)::(23,⟨1,some ⟨cs,1,true⟩⟩)::(21,⟨1,some ⟨rowF 25 (A L),3,true⟩⟩)::rowJ L 25 σ A)) v l)
  (h5:h 5=⟨1,some ⟨[mC t],5,true⟩⟩) (h23:h 23=⟨w,some ⟨cs,1,true⟩⟩) (h21:h 21=⟨1,some ⟨List.replicate 25 [.lit (.bool false),.emp,.emp],3,true⟩⟩) (hR:∀i,i<L->h (σ i)=⟨1,some ⟨rowF 25 (A i),3,true⟩⟩) :
  Weak ⟨v,h⟩ ⟨mkV l,mkH ((5,⟨1,some ⟨[mC t],5,true⟩⟩)::(23,⟨1,some ⟨cellR (L+1) σ,1,true⟩⟩)::rowJ (L+1) 25 σ A)⟩:=by
 have h21' : ∀i,σ i≠21:=λi e=>by have:=hσ.ge i;omega
 have h23' : ∀i,σ i≠23:=λi e=>by have:=hσ.ge i;omega
 have h5' : ∀i,σ i≠5:=λi e=>by have:=hσ.ge i;omega
 have w:=zaj (a:=21) (b:=σ L) ⟨by decide,hσ.lt L hL⟩ (v:=v) (h:=h) (l:=l) (k:=(5,⟨1,some ⟨[mC t],5,true⟩⟩)::(23,⟨1,some ⟨cs,1,true⟩⟩)::(21,⟨1,some ⟨rowF 25 (A L),3,true⟩⟩)::rowJ L 25 σ A) ⟨h1,?_⟩
 .rw [hl]at w;have e:mkH (swK 21 (σ L) ((5,⟨1,some ⟨[mC t],5,true⟩⟩)::(23,⟨1,some ⟨cs,1,true⟩⟩)::(21,⟨1,some ⟨rowF 25 (A L),3,true⟩⟩)::rowJ L 25 σ A))=mkH ((5,⟨1,some ⟨[mC t],5,true⟩⟩)::(23,⟨1,some ⟨cellR (L+1) σ,1,true⟩⟩)::rowJ (L+1) 25 σ A):=by
   funext r
   rw [uai];by_cases r5:r=5
   .subst r5;have e:sw 21 (σ L) 5=5:=by unfold sw;rw [if_neg (by decide),if_neg (h5' L).symm]
    rw [e,qa,if_pos rfl,qa,if_pos rfl];try rfl
   by_cases r23:r=23
   .subst r23;have e:sw 21 (σ L) 23=23:=by unfold sw;rw [if_neg (by decide),if_neg (h23' L).symm]
    rw [e,qa,if_neg (by decide),qa,if_pos rfl,qa,if_neg (by decide),qa,if_pos rfl]
    unfold swB;simp only [Option.map_some,HB.mk.injEq,Option.some.injEq,Blk.mk.injEq,and_true,true_and];rw [hcs,xaP,List.map_append];congr 1
    .unfold cellR;rw [List.map_map];refine List.map_congr_left λi hi=>?_;have hi2:=List.mem_range.1 hi;show [swC 21 (σ L) (C.own (σ i) 1 3 0 25)]=_;rw [Qae];congr 2;unfold sw;rw [if_neg (h21' i),if_neg (λe=>by have:=hσ.inj _ _ e;omega)]
   by_cases r21:r=21
   .subst r21;have e:sw 21 (σ L) 21=σ L:=by unfold sw;rw [if_pos rfl]
    rw [e,qa,if_neg (h5' L),qa,if_neg (h23' L),qa,if_neg (h21' L),Vl λi hi e=>by have:=hσ.inj _ _ e;omega,qa,if_neg (by decide),qa,if_neg (by decide),Vl λi _ e=>h21' i e.symm]
    rfl
   by_cases rk:r=σ L
   .subst rk;have e:sw 21 (σ L) (σ L)=21:=by unfold sw;rw [if_neg (h21' L),if_pos rfl]
    rw [e,qa,if_neg (by decide),qa,if_neg (by decide),qa,if_pos rfl,qa,if_neg (h5' L),qa,if_neg (h23' L),vc hσ.nms (by omega),XV]
   have e:sw 21 (σ L) r=r:=by unfold sw;rw [if_neg r21,if_neg rk]
   rw [e,qa,if_neg r5,qa,if_neg r23,qa,if_neg r21,qa,if_neg r5,qa,if_neg r23];by_cases hm:∃i,i<L/\r=σ i
   .obtain⟨i,hi,rfl⟩:=hm;rw [vc hσ.nms hi,vc hσ.nms (by omega),XV]
   .rw [Vl λi hi e=>hm ⟨i,hi,e⟩,Vl λi hi e=>?_]
    .rfl
    .by_cases ik:i=L
     .rw [ik]at e;exact rk e
     .exact hm ⟨i,by omega,e⟩
  rw [e]at w;exact w
 .refine⟨?_,?_,?_,Yx hR λ_ _=>rfl⟩
  .rw [h5];exact⟨⟨rfl,rfl⟩,.inr (wU λe he c hc=>by
    rw [List.mem_singleton]at he;subst he;rw [qZ]at hc;simp only [List.mem_cons,List.not_mem_nil,or_false]at hc;rcases hc with rfl | rfl | rfl | rfl | rfl
    .exact .lit _
    .exact .lit _
    .exact of_eq_true (Vj _)
    .exact of_eq_true (Yj _)
    .exact of_eq_true (Wj _))⟩
  .rw [h23];refine⟨⟨rfl,rfl⟩,.inr ?_⟩;rw [hcs];refine YaK ?_ ?_
   .unfold cellR;refine vD λi hi=>?_;refine⟨⟨⟨rfl,rfl,rfl,rfl⟩,by rw [hR i hi],?_,?_⟩,trivial⟩ <;>
    .rw [qa,if_neg (h5' i),qa,if_neg (h23' i),qa,if_neg (h21' i),vc hσ.nms hi];try first | rfl | simp
   .refine⟨⟨⟨⟨rfl,rfl,rfl,rfl⟩,by rw [h21],?_,?_⟩,trivial⟩,trivial⟩ <;>
    .rw [qa,if_neg (by decide),qa,if_neg (by decide),qa,if_pos rfl]
     try first | rfl | simp
  .rw [h21];refine⟨⟨rfl,rfl⟩,.inr ?_⟩;show okE _ _ _ (rowF 25 (A L));rw [Ji (g:=λ_=>0) λj hj=>hz j hj];exact Wbm
def heapR(L:Nat)(σ:Nat->Nat)(A:MxQ):List (Nat×HB):=if L=0 then [] else (23,⟨1,some ⟨cellR L σ,1,true⟩⟩)::rowJ L 25 σ A
def slotR(L:Nat):AV:=if L=0 then .one .emp else .one (.own 23 1 1 0 L)
theorem JJ{L:Nat}{σ:Nat->Nat}{A:MxQ}(h:Nmr σ){r:Nat}(hr:r<1000)(hr2:r≠23):mkH (heapR L σ A) r=⟨0,none⟩:=by
 unfold heapR;split
 .rfl
 .rw [qa,if_neg hr2,Vl λi _ e=>by have:=h.ge i;omega]
theorem Vaa(t:Mo):CleanR [mC t]:=λe he c hc=>by
 rw [List.mem_singleton]at he;subst he;rw [qZ]at hc;simp only [List.mem_cons,List.not_mem_nil,or_false]at hc;rcases hc with rfl | rfl | rfl | rfl | rfl
 .exact .lit _
 .exact .lit _
 .exact of_eq_true (Vj _)
 .exact of_eq_true (Yj _)
 .exact of_eq_true (Wj _)
theorem xaI{L:Nat}{σ:Nat->Nat}{A:MxQ}{v:Nat->AV}{h:Nat->HB}{l:List (Nat×AV)}(hσ:Nmr σ)(h0:L≠0)
  (h1:okS h (mkH ((23,⟨1,some ⟨cellR L σ,1,true⟩⟩)::rowJ L 25 σ A)) v l) (h23:∃w,h 23=⟨w,some ⟨cellR L σ,1,true⟩⟩) (hR:∀i,i<L->h (σ i)=⟨1,some ⟨rowF 25 (A i),3,true⟩⟩) :
  Weak ⟨v,h⟩ ⟨mkV l,mkH ((23,⟨1,some ⟨cellR L σ,1,true⟩⟩)::rowJ L 25 σ A)⟩:=by
 obtain⟨w,h23⟩:=h23;have h23' : ∀i,σ i≠23:=λi e=>by have:=hσ.ge i;omega
 refine za h1 ⟨?_,Yx hR λ_ _=>rfl⟩;rw [h23];refine⟨⟨rfl,rfl⟩,.inr ?_⟩;show okE _ _ (cellR L σ) (cellR L σ);unfold cellR;refine vD λi hi=>?_;refine⟨⟨⟨rfl,rfl,rfl,rfl⟩,by rw [hR i hi],?_,?_⟩,trivial⟩ <;>
 .rw [qa,if_neg (h23' i),vc hσ.nms hi];try first | rfl | simp
theorem zav{L:Nat}{σ:Nat->Nat}{A:MxQ}{v:Nat->AV}{h:Nat->HB}{l:List (Nat×AV)}{t:Mo}(hσ:Nmr σ)(h0:L≠0)
  (h1:okS h (mkH ((5,⟨1,some ⟨[mC t],5,true⟩⟩)::(23,⟨1,some ⟨cellR L σ,1,true⟩⟩)::rowJ L 25 σ A)) v l) (h5:h 5=⟨1,some ⟨[mC t],5,true⟩⟩) (h23:∃w,h 23=⟨w,some ⟨cellR L σ,1,true⟩⟩) (hR:∀i,i<L->h (σ i)=⟨1,some ⟨rowF 25 (A i),3,true⟩⟩) :
  Weak ⟨v,h⟩ ⟨mkV l,mkH ((5,⟨1,some ⟨[mC t],5,true⟩⟩)::(23,⟨1,some ⟨cellR L σ,1,true⟩⟩)::rowJ L 25 σ A)⟩:=by
 obtain⟨w,h23⟩:=h23;have h23' : ∀i,σ i≠23:=λi e=>by have:=hσ.ge i;omega
 have h5' : ∀i,σ i≠5:=λi e=>by have:=hσ.ge i;omega
 refine za h1 ⟨?_,?_,Yx hR λ_ _=>rfl⟩
 .rw [h5];exact⟨⟨rfl,rfl⟩,.inl ⟨rfl,Vaa t⟩⟩
 .rw [h23];refine⟨⟨rfl,rfl⟩,.inr ?_⟩;show okE _ _ (cellR L σ) (cellR L σ);unfold cellR;refine vD λi hi=>?_;refine⟨⟨⟨rfl,rfl,rfl,rfl⟩,by rw [hR i hi],?_,?_⟩,trivial⟩ <;>
  .rw [qa,if_neg (h5' i),qa,if_neg (h23' i),vc hσ.nms hi];try first | rfl | simp
def cellT(T L:Nat)(σ:Nat->Nat):List (List C):=(List.range L).map λi=>if i<T then [.any] else [.own (σ i) 1 3 0 25]
theorem wM(K:List C->Prop)(T L i:Nat)(σ:Nat->Nat):getE K (cellT T L σ) i=(i<L/\K (if i<T then [.any] else [.own (σ i) 1 3 0 25])):=qp
def rowT(T L:Nat)(σ:Nat->Nat)(A:MxQ):List (Nat×HB):=rowJ (L-T) 25 (λi=>σ (i+T)) λi=>A (i+T)
theorem Nmr.shift{σ:Nat->Nat}(h:Nmr σ)(T:Nat)(hT:T<=25):Nms λi=>σ (i+T):=⟨λi=>h.ge _,λi hi=>h.lt _ (by omega),λi j e=>by have:=h.inj _ _ e;omega⟩
theorem jA{T L:Nat}{σ:Nat->Nat}{A:MxQ}(h:Nmr σ){i:Nat}(hT:T<=i)(hi:i<L)(h25:L<=25):mkH (rowT T L σ A) (σ i)=⟨1,some ⟨rowF 25 (A i),3,true⟩⟩:=by
 have:=vc (k:=L-T) (N:=25) (A:=λi=>A (i+T)) (h.shift T (by omega)) (i:=i-T) (by omega)
 simp only [show i-T+T=i by omega]at this
 exact this
theorem uaP{T L:Nat}{σ:Nat->Nat}{A:MxQ}{r:Nat}(h:Nmr σ)(hr:r<1000):mkH (rowT T L σ A) r=⟨0,none⟩:=Vl λi _ e=>by have:=h.ge (i+T);omega
def rowL(f:Nat->Rat):List Rat:=(List.range 25).map f
theorem vaU(f:Nat->Rat):(rowL f).length=25:=by unfold rowL;rw [List.length_map,List.length_range]
theorem Qbg(f:Nat->Rat):rowF 25 f=((rowL f).map rcan).map rC:=by
 unfold rowF rowL;rw [List.map_map,List.map_map];rfl
def doneR(T:Nat)(A:MxQ):List (List C):=(List.range T).map λj=>plC (trimL (rowL (A j)))
theorem zG(T:Nat)(A:MxQ):CleanR (doneR T A):=λe he c hc=>by
 obtain⟨j,_,rfl⟩:=List.mem_map.1 he;unfold plC at hc;rw [List.mem_singleton]at hc;subst hc;exact of_eq_true (qF _)
theorem wA(T:Nat)(A:MxQ):(doneR T A).length=T:=by unfold doneR;rw [List.length_map,List.length_range]
theorem Xaa(T:Nat)(A:MxQ):doneR T A++[[.slice (((trimL (rowL (A T))).map rcan).map rC)]]=doneR (T+1) A:=by unfold doneR;rw [List.range_succ,List.map_append,List.map_cons,List.map_nil];unfold plC;rfl
theorem vG{T T' L w:Nat}{σ:Nat->Nat}{A:MxQ}{v:Nat->AV}{h:Nat->HB}{l:List (Nat×AV)}{x:List (Nat×HB)}(hσ:Nmr σ)(h25:L<=25)(hT:T<=T')(hT' : T'<=L)(hx:x=[]∨x=[(45,⟨1,some ⟨doneR T' A,1,true⟩⟩)])
  (h1:okS h (mkH (x++(23,⟨1,some ⟨cellT T' L σ,1,true⟩⟩)::rowT T' L σ A)) v l) (h45:x=[]∨h 45=⟨w,some ⟨doneR T' A,1,true⟩⟩) (h23:h 23=⟨1,some ⟨cellT T L σ,1,true⟩⟩) (hR:∀i,T'<=i->i<L->h (σ i)=⟨1,some ⟨rowF 25 (A i),3,true⟩⟩) :
  Weak ⟨v,h⟩ ⟨mkV l,mkH (x++(23,⟨1,some ⟨cellT T' L σ,1,true⟩⟩)::rowT T' L σ A)⟩:=by
 have h23' : ∀i,σ i≠23:=λi e=>by have:=hσ.ge i;omega
 have h45' : ∀i,σ i≠45:=λi e=>by have:=hσ.ge i;omega
 have c23:∀H:Nat->HB,(∀i,T'<=i->i<L->H (σ i)=⟨1,some ⟨rowF 25 (A i),3,true⟩⟩)->okB h H (h 23).blk (some ⟨cellT T' L σ,1,true⟩):=by
  intro H hH;rw [h23];refine⟨⟨rfl,rfl⟩,.inr ?_⟩;show okE _ _ (cellT T L σ) (cellT T' L σ);unfold cellT;refine vD λi hi=>?_;by_cases a:i<T'
  .rw [if_pos a];split
   .exact⟨trivial,trivial⟩
   .exact⟨trivial,trivial⟩
  .rw [if_neg a,if_neg (by omega)]
   have e:=hH i (by omega) hi
   refine⟨⟨⟨rfl,rfl,rfl,rfl⟩,by rw [hR i (by omega) hi],?_,?_⟩,trivial⟩
   .rw [e]
   .rw [e];simp
 have hH:∀i,T'<=i->i<L->mkH (x++(23,⟨1,some ⟨cellT T' L σ,1,true⟩⟩)::rowT T' L σ A) (σ i)=⟨1,some ⟨rowF 25 (A i),3,true⟩⟩:=λi hTi hi=>by
  rcases hx with rfl | rfl
  .rw [List.nil_append,qa,if_neg (h23' i),jA hσ hTi hi h25]
  .rw [List.cons_append,List.nil_append,qa,if_neg (h45' i),qa,if_neg (h23' i),jA hσ hTi hi h25]
 have c23:=c23 _ hH;have cR:okH h (mkH (x++(23,⟨1,some ⟨cellT T' L σ,1,true⟩⟩)::rowT T' L σ A)) (rowT T' L σ A):=Yx (B:=λi=>A (i+T')) (λi hi=>hR (i+T') (by omega) (by omega)) λ_ _=>rfl
 refine za h1 ?_;rcases hx with rfl | rfl
 .exact⟨c23,cR⟩
 .refine⟨?_,c23,cR⟩;rcases h45 with h45 | h45
  .simp at h45
  .rw [h45];exact⟨⟨rfl,rfl⟩,.inl ⟨rfl,zG _ _⟩⟩
def yD:q_T:=q_c1 λa K=>onMs (λp=>chkB p=0/\(∀t∈p,rl t.2.2<=4000000000)/\K (.one (.slice ((rowsP (p.map mv)).map plC)))) a
theorem vaw:Good yD:=q_g1 λ_=>(Ve λ_=>(.and λ_=>(.and λ_=>(.ret _))))
attribute [go_sem] yD
def Qs(f0:Nat):AC:=(.o [.m 2 (.c (.one .emp))] [0] (.o [.m 3 (.c (.one .emp))] [0,3] (.f (.o [.M 9 0,.Z 10 9,.N 11 0] [3,9,10,11] (.block 0 (.loop (.o [.B 12 .lss 11 10] [3,9,10,11,12] (.f (.cond (.t 12) .skip (.exit 0)) [3,9,10,11] (.f (.block 1 (.o [.J 13 5 9 11,.L 14 5 13,.G 5 [(.lit (.int .i64 0)),(.lit (.int .i64 0)),.z,.emp,.emp],.S 5 5 14] [3,5,9,10,11] (.f (.block 2 (.loop (.f (.o [.M 15 3,.Z 16 15,.A 17 1 5,.F 18 1 17,.B 19 .leq 16 18] [3,5,9,10,11,19] (.cond (.t 19) .skip (.exit 2))) [3,5,9,10,11] (.block 3 (.p [.M 20 3,.u 21 (.mk 3 [.z,.emp,.emp] (.i 25) (.i 25)),.u 22 (.rowo 1 [[.x 1 (.t 21)]]),.u 23 (.app 1 (.t 20) (.t 22)),.M 3 23]))))) [3,5,9,10,11] (.y [.M 24 3,.A 25 1 5,.F 26 1 25,.J 27 1 24 26,.F 28 1 27,.A 29 0 5,.F 30 1 29,.A 31 2 5,.L 32 3 31,.J 33 3 28 30,.S 3 33 32])))) [3,9,10,11] (.p [.I 34 .add 11 1,.M 11 34]))))))) [3] (.o [.m 6 (.c (.one .emp))] [3,6] (.f (.o [.M 35 3,.Z 36 35,.N 37 0] [6,35,36,37] (.block 4 (.loop (.o [.B 38 .lss 37 36] [6,35,36,37,38] (.f (.cond (.t 38) .skip (.exit 4)) [6,35,36,37] (.f (.block 5 (.o [.J 39 1 35 37,.F 40 1 39,.M 8 40] [6,8,35,36,37] (.p [.M 41 6,.M 42 8,.u 43 (.callf f0 [(.t 42)]),.u 44 (.row 1 [[.x 1 (.t 43)]]),.u 45 (.app 1 (.t 41) (.t 44)),.M 6 45]))) [6,35,36,37] (.p [.I 46 .add 37 1,.M 37 46]))))))) [6] (.seq (.p [.M 47 6,.M 2 47]) .ret))))))
theorem kaf(hΓ:Holds P Γ){f ft:Nat}(htr:Γ ft=.fresh 3 jk)(hc:check P f=some (48,(Qs ft).strip,[.tmp 2])):Sound P f (.dat false yD):=by
 refine Qa hc vaw hΓ (λargs K hcl hfi hG=>?_);match args,hG with
 | [a0],hG=>
  obtain⟨p,rfl,hwp,h0,hr,hK⟩:=hG;refine⟨by simp,?_⟩
  obtain⟨σ,hs⟩:∃σ:Nat->Nat,∀i,σ i=i+1000:=⟨_,λ_=>rfl⟩;have hσ:Nmr σ:=⟨λi=>by rw [hs];omega,λi hi=>by rw [hs];omega,λi j e=>by rw [hs,hs]at e;omega⟩
  obtain⟨hcan,hmc⟩:=We h0 hwp;obtain⟨i1,j1,l1⟩:=qk h0 hwp;have hpk:∀k t,p[k]?=some t->(p.take (k+1)).map mv=(p.take k).map mv++[mv t]:=λk t ht=>by rw [List.take_add_one,ht];simp
  have hin:∀k,InQ ((p.take k).map mv):=λk u hu=>by
   obtain⟨v,hv,rfl⟩:=List.mem_map.1 hu;exact i1 v (List.mem_of_mem_take hv)
  have hstr:∀k,StrM ((p.take k).map mv):=λk=>by
   rw [List.map_take];exact hcan.str.sublist (List.take_sublist _ _)
  simp only [go_sem,Qs];repeat first | refine q_Wk ?_ | intro _
  refine ja (λk:Nat=>⟨mkV [(3,slotR (topY ((p.take k).map mv))),(9,msA p),(10,.one (.lit (.int .i64 p.length))),(11,.one (.lit (.int .i64 k)))],mkH (heapR (topY ((p.take k).map mv)) σ λj i=>cf ((p.take k).map mv) i j)⟩) (λk=>k<=p.length) (λk=>p.length-k) 0 ?_ ?_ ?_
  .refine za (by simp [bitvec_to_nat,msA,ms,slotR,topY]) (by simp [heapR,topY];trivial)
  .exact Nat.zero_le _
  .intro k hk;obtain⟨L,hL⟩:∃L,topY ((p.take k).map mv)=L:=⟨_,rfl⟩;obtain⟨A,hA⟩:∃A:MxQ,(λj i=>cf ((p.take k).map mv) (i:Nat) (j:Nat):MxQ)=A:=⟨_,rfl⟩;have hL25:L<=25:=by rw [<-hL];exact ZE (hin k)
   rw [hL,hA];by_cases hlt:k<p.length
   .obtain⟨t,ht⟩:∃t,p.getD k mo0=t:=⟨_,rfl⟩;have ht0:=getDm hlt ht;have htm:=List.mem_of_getElem? ht0;have hpn:=hpk k t ht0;have htu:t∈mcs (p.map mv):=by rw [hmc];exact htm
    obtain⟨⟨ux,uy,v⟩,_,hut⟩:=List.mem_map.1 htu;obtain⟨t1,t2,t3⟩:=i1 t htm;have hrv:=hr t htm;rw [<-hut]at t1 t2 t3 hrv hpn ht;obtain⟨X,hX⟩:=Int.eq_ofNat_of_zero_le t1;obtain⟨Y,hY⟩:=Int.eq_ofNat_of_zero_le t2;have hX' : ux=(X:Int):=hX;have hY' : uy=(Y:Int):=hY;subst hX' hY';have hmt:mcan ((X:Int),(Y:Int),v)=((X:Int),(Y:Int),rcan v):=rfl;rw [hmt]at hpn ht t3;have hmv:mv ((X:Int),(Y:Int),rcan v)=((X:Int),(Y:Int),v):=by unfold mv;simp only [qc]
    rw [hmv]at hpn;have t3' : (X:Int)+(Y:Int)<=24:=t3;clear hmt htu hut hX hY t1 t2 t3;have hlt' : (k:Int)<(p.length:Int):=by omega
    have r5:=JJ (L:=L) (A:=A) hσ (r:=5) (by decide) (by decide)
    have hAz:∀j,L<=j->∀i,A j i=0:=λj hj i=>by
     rw [<-hA];exact Ua9 (hin k) (by rw [hL];omega)
    simp only [go_sem,hlt,hlt',ht,r5,mC];repeat first | refine q_Wk ?_ | intro _
    refine ja (λM:Nat=>⟨mkV [(3,slotR M),(5,.one (.ptr 5 1 0 0)),(9,msA p),(10,.one (.lit (.int .i64 p.length))),(11,.one (.lit (.int .i64 k)))],mkH ((5,⟨1,some ⟨[mC ((X:Int),(Y:Int),rcan v)],5,true⟩⟩)::heapR M σ A)⟩) (λM=>L<=M/\M<=max L (Y+1)) (λM=>max L (Y+1)-M) L ?_ ?_ ?_
    .by_cases hL0:L=0
     .subst hL0;refine za (by simp [bitvec_to_nat,msA,ms,slotR]) ⟨⟨⟨rfl,rfl⟩,.inl ⟨rfl,Vaa ((X:Int),(Y:Int),rcan v)⟩⟩,trivial⟩
     .have es:slotR L=.one (.own 23 1 1 0 L):=if_neg hL0;have eh:heapR L σ A=(23,⟨1,some ⟨cellR L σ,1,true⟩⟩)::rowJ L 25 σ A:=if_neg hL0;rw [es,eh];refine zav hσ hL0 (by simp [bitvec_to_nat,msA,ms]) (by simp [qa,qZ]) ⟨1,by simp [qa]⟩ λi hi=>?_
      have g1:=hσ.ge i;simp only [qa]
      (repeat rw [if_neg (by omega)])
      exact vc hσ.nms hi
    .exact⟨Nat.le_refl _,Nat.le_max_left _ _⟩
    .rintro M ⟨hM1,hM2⟩;have hM25:M<=25:=by omega
     have r21:=JJ (L:=M) (A:=A) hσ (r:=21) (by decide) (by decide)
     have r22:=JJ (L:=M) (A:=A) hσ (r:=22) (by decide) (by decide)
     have q5:(5=σ M)=False:=eq_false λe=>by have:=hσ.ge M;omega
     have q23:(23=σ M)=False:=eq_false λe=>by have:=hσ.ge M;omega
     by_cases hMY:M<=Y
     .have hMY' : (M:Int)<=(Y:Int):=by omega
      by_cases hM0:M=0
      .subst hM0;have es:slotR 0=.one .emp:=rfl;have eh:heapR 0 σ A=[]:=rfl;rw [es,eh];have hY0:(0:Int)<=(Y:Int):=by omega
       simp only [go_sem,qZ,hY0,decide_true];repeat first | refine q_Wk ?_ | intro _
       refine⟨λe he=>by rw [List.mem_singleton.1 he];rfl,?_⟩
       repeat first | refine q_Wk ?_ | intro _
       refine⟨0+1,?_,⟨by omega,by omega⟩,by omega⟩
       have es2:slotR (0+1)=.one (.own 23 1 1 0 (0+1)):=rfl;have eh2:heapR (0+1) σ A=(23,⟨1,some ⟨cellR (0+1) σ,1,true⟩⟩)::rowJ (0+1) 25 σ A:=rfl;rw [es2,eh2];refine vaa hσ (by decide) (t:=((X:Int),(Y:Int),rcan v)) (by simp [qaK,VaN,UaM,QaB,ZaJ,WaQ,Qae,waB,q5,q23,msA,ms]) (cs:=[[.own 21 1 3 0 25]]) (by simp [cellR]) (λj _=>hAz 0 (by omega) j) (by simp [bitvec_to_nat,msA,ms]) (by simp [qa,qZ]) (by simp [qa];rfl) (by simp [qa]) λi hi=>by omega
      .have es:slotR M=.one (.own 23 1 1 0 M):=if_neg hM0;have eh:heapR M σ A=(23,⟨1,some ⟨cellR M σ,1,true⟩⟩)::rowJ M 25 σ A:=if_neg hM0;rw [eh]at r21 r22;have r21' : mkH (rowJ M 25 σ A) 21=⟨0,none⟩:=Vl λi _ e=>by have:=hσ.ge i;omega
       have r22' : mkH (rowJ M 25 σ A) 22=⟨0,none⟩:=Vl λi _ e=>by have:=hσ.ge i;omega
       rw [es,eh];have htk:(cellR M σ).take M=cellR M σ:=List.take_of_length_le (by rw [VX];exact Nat.le_refl _)
       simp only [go_sem,qZ,hMY',r21',r22',VX,htk,decide_true];repeat first | refine q_Wk ?_ | intro _
       refine⟨λe he=>by rw [List.mem_singleton.1 he];rfl,?_⟩
       repeat first | refine q_Wk ?_ | intro _
       refine⟨M+1,?_,⟨by omega,by omega⟩,by omega⟩
       have es2:slotR (M+1)=.one (.own 23 1 1 0 (M+1)):=rfl;have eh2:heapR (M+1) σ A=(23,⟨1,some ⟨cellR (M+1) σ,1,true⟩⟩)::rowJ (M+1) 25 σ A:=rfl;rw [es2,eh2];refine vaa hσ (by omega) (t:=((X:Int),(Y:Int),rcan v)) (by simp [qaK,VaN,UaM,QaB,ZaJ,WaQ,Qae,waB,q5,q23,msA,ms]) (cs:=cellR M σ++[[.own 21 1 3 0 25]]) rfl (λj _=>hAz M (by omega) j) (by simp [bitvec_to_nat,msA,ms]) (by simp [qa,qZ]) (w:=2) (by simp [qa]) (by simp [qa]) λi hi=>?_
       have g1:=hσ.ge i;simp only [qa]
       (repeat rw [if_neg (by omega)])
       exact vc hσ.nms hi
     .have hMY' : ¬(M:Int)<=(Y:Int):=by omega
      have eM:M=max L (Y+1):=by omega
      have hM0:M≠0:=by omega
      have es:slotR M=.one (.own 23 1 1 0 M):=if_neg hM0;have eh:heapR M σ A=(23,⟨1,some ⟨cellR M σ,1,true⟩⟩)::rowJ M 25 σ A:=if_neg hM0;rw [es,eh];have hYM:Y<M:=by omega
      have n5:(σ Y=5)=False:=eq_false λe=>by have:=hσ.ge Y;omega
      have n23:(σ Y=23)=False:=eq_false λe=>by have:=hσ.ge Y;omega
      have hbr:=λK=>(show blkA K (mkH (rowJ M 25 σ A)) (σ Y) 1=K (rowF 25 (A Y)) 3 true by unfold blkA;rw [vc hσ.nms hYM];simp [HB.at])
      have hX25:X<25:=by omega
      simp only [go_sem,qZ,hMY',hYM,Zax,hbr,n5,n23,hX25,Int.toNat_natCast,Nat.zero_add,decide_false];repeat first | refine q_Wk ?_ | intro _
      have ek:topY ((p.take (k+1)).map mv)=M:=by rw [hpn,uaa,hL];show max L ((Y:Int).toNat+1)=M;rw [Int.toNat_natCast];omega
      refine⟨k+1,?_,by omega,by omega⟩
      rw [ek];have es2:slotR M=.one (.own 23 1 1 0 M):=if_neg hM0;have eh2:∀B,heapR M σ B=(23,⟨1,some ⟨cellR M σ,1,true⟩⟩)::rowJ M 25 σ B:=λB=>if_neg hM0;rw [es2,eh2];have hnew:=va3 (p:=(p.take k).map mv) (t:=((X:Int),(Y:Int),v)) (by rw [<-hpn];exact hstr (k+1)) (by rw [<-hpn];exact hin (k+1))
      refine xaI hσ hM0 (by simp [bitvec_to_nat,msA,ms,n5,n23,eq_comm]) ⟨1,by simp [qa,eq_comm (a:=23),n23]⟩ λi hi=>?_
      have g1:=hσ.ge i;simp only [qa];by_cases hiY:i=Y
      .subst hiY;rw [if_pos rfl,ZS,Ji λj hj=>?_];rw [hpn,Ql];simp only [cf];by_cases hjX:j=X
       .subst hjX;have hnew' : cf ((p.take k).map mv) (j:Int) (i:Int)=0:=hnew;rw [if_pos rfl,if_pos (by simp),hnew'];grind
       .rw [if_neg hjX,if_neg (λh=>hjX (by simp at h;omega)),<-hA];grind
      .have hne:¬σ i=σ Y:=λe=>hiY (hσ.inj _ _ e)
       (repeat rw [if_neg (by omega)])
       rw [vc hσ.nms hi,Ji λj hj=>?_];rw [hpn,Ql];simp only [cf];rw [if_neg (λh=>hiY (by omega)),<-hA];grind
   .have ek:p.take k=p:=List.take_of_length_le (by omega)
    have hlt' : ¬(k:Int)<(p.length:Int):=by omega
    rw [ek]at hL hA;have hA' : ∀j i,A j i=cf (p.map mv) (i:Nat) (j:Nat):=λj i=>by rw [<-hA]
    simp only [go_sem,hlt'];by_cases hL0:L=0
    .have es:slotR L=.one .emp:=if_pos hL0;have eh:heapR L σ A=[]:=if_pos hL0;have er:rowsP (p.map mv)=[]:=by unfold rowsP;rw [hL,hL0];rfl
     rw [er]at hK;rw [es,eh];simp only [go_sem];repeat first | refine q_Wk ?_ | intro _
     refine JaY 1 [6,35,36,37] [] (by simp [go_sem]) ?_
     simp only [go_sem,Int.lt_irrefl,decide_false];exact hK
    .have es:slotR L=.one (.own 23 1 1 0 L):=if_neg hL0;have eh:heapR L σ A=(23,⟨1,some ⟨cellR L σ,1,true⟩⟩)::rowJ L 25 σ A:=if_neg hL0;rw [es,eh];have rA:∀j,∀x∈rowL (A j),rz x<=4000000000:=λj x hx=>by
      unfold rowL at hx;obtain⟨i,_,rfl⟩:=List.mem_map.1 hx;rw [hA'];refine vaV _ _ hcan.str hcan.ins λu hu=>?_;obtain⟨v,hv,rfl⟩:=List.mem_map.1 hu;exact Nat.le_trans (qm (hwp v hv).2.2) (hr v hv)
     simp only [go_sem];repeat first | refine q_Wk ?_ | intro _
     refine ja (λT:Nat=>⟨mkV [(6,if T=0 then .one .emp else .one (.own 45 1 1 0 T)),(35,.one (.own 23 1 1 0 L)),(36,.one (.lit (.int .i64 L))),(37,.one (.lit (.int .i64 T)))],mkH ((if T=0 then [] else [(45,⟨1,some ⟨doneR T A,1,true⟩⟩)])++(23,⟨1,some ⟨cellT T L σ,1,true⟩⟩)::rowT T L σ A)⟩) (λT=>T<=L) (λT=>L-T) 0 ?_ ?_ ?_
     .have e1:cellR L σ=cellT 0 L σ:=by unfold cellR cellT;simp
      refine vG (T:=0) (w:=1) hσ hL25 (Nat.le_refl _) (Nat.zero_le _) (.inl rfl) (by simp [bitvec_to_nat]) (.inl rfl) (by rw [e1];simp [qa]) λi _ hi=>?_
      rw [qa,if_neg (λe=>by have:=hσ.ge i;omega),vc hσ.nms hi]
     .exact Nat.zero_le _
     .intro T hT;by_cases hlT:T<L
      .have hlT' : (T:Int)<(L:Int):=by omega
       have hTT:¬T<T:=Nat.lt_irrefl T;have n23:(σ T=23)=False:=eq_false λe=>by have:=hσ.ge T;omega
       have n43' : (43=σ T)=False:=eq_false λe=>by have:=hσ.ge T;omega
       have n45:(σ T=45)=False:=eq_false λe=>by have:=hσ.ge T;omega
       have n45' : (45=σ T)=False:=eq_false λe=>by have:=hσ.ge T;omega
       have n23' : (23=σ T)=False:=eq_false λe=>by have:=hσ.ge T;omega
       have r43:=uaP (T:=T) (L:=L) (A:=A) hσ (r:=43) (by decide)
       have r45:=uaP (T:=T) (L:=L) (A:=A) hσ (r:=45) (by decide)
       have hvw:viewOf (mkH (rowT T L σ A)) (σ T) 1 0 25=some (((rowL (A T)).map rcan).map rC):=by
        unfold viewOf;rw [jA hσ (Nat.le_refl _) hlT hL25];simp only [HB.at,if_true];rw [if_pos (by rw [kF];omega),List.drop_zero,List.take_of_length_le (by rw [kF];omega),Qbg]
       have hcl:=xe (((rowL (A T)).map rcan).map rC) (of_eq_true (xu _));have hrT:=rA T;have hl25:(rowL (A T)).length<=1000:=by rw [vaU];omega
       by_cases hT0:T=0
       .subst hT0;simp only [go_sem,hlT,hlT',List.nil_append,wM,hTT,n23,n43',n45',n23',r43,r45,hvw,hcl,htr,Int.toNat_natCast,Nat.zero_add,Int.toNat_zero];repeat first | refine q_Wk ?_ | intro _
        refine⟨λe he=>by rw [List.mem_singleton.1 he];rfl,by decide,1,?_,by omega,by omega⟩
        rw [if_neg (by decide),if_neg (by decide)]
        refine vG (T:=0) (w:=1) hσ hL25 (by decide) (by omega) (.inr rfl) (by simp [bitvec_to_nat,n23',n45']) (.inr ?_) (by simp [qa,n23']) λi h1i hi=>?_
        .rw [<-Xaa];simp [qa,doneR]
        .have g1:=hσ.ge i;have hne:¬σ i=σ 0:=λe=>by have:=hσ.inj _ _ e;omega
         simp only [qa]
         (repeat rw [if_neg (by omega)])
         exact jA hσ (Nat.zero_le _) hi hL25
       .have htk:(doneR T A).take T=doneR T A:=List.take_of_length_le (by rw [wA];exact Nat.le_refl _)
        rw [if_neg hT0,if_neg hT0];simp only [go_sem,hlT,hlT',List.nil_append,List.cons_append,wM,hTT,n23,n43',n45,n45',n23',r43,hvw,hcl,htr,htk,wA,Int.toNat_natCast,Nat.zero_add];repeat first | refine q_Wk ?_ | intro _
        refine⟨λe he=>by rw [List.mem_singleton.1 he];rfl,?_⟩
        repeat first | refine q_Wk ?_ | intro _
        refine⟨T+1,?_,by omega,by omega⟩
        rw [if_neg (by omega),if_neg (by omega)]
        refine vG (T:=T) (w:=2) hσ hL25 (by omega) (by omega) (.inr rfl) (by simp [bitvec_to_nat,n23',n45']) (.inr ?_) (by simp [qa,n23']) λi h1i hi=>?_
        .rw [<-Xaa];simp [qa]
        .have g1:=hσ.ge i;have hne:¬σ i=σ T:=λe=>by have:=hσ.inj _ _ e;omega
         simp only [qa]
         (repeat rw [if_neg (by omega)])
         exact jA hσ (by omega) hi hL25
      .have eTL:T=L:=by omega
       have hlT' : ¬(T:Int)<(L:Int):=by omega
       subst eTL;have htk:(doneR T A).take T=doneR T A:=List.take_of_length_le (by rw [wA];exact Nat.le_refl _)
       have hrows:(rowsP (p.map mv)).map plC=doneR T A:=by
        unfold rowsP doneR;rw [hL,List.map_map];refine List.map_congr_left λj _=>?_;show plC (trimL (rowY (p.map mv) j))=_;congr 2;unfold rowY rowL;refine List.map_congr_left λi _=>?_;rw [hA']
       rw [hrows]at hK;have hcl:=xe _ (zG T A);rw [if_neg hL0,if_neg hL0];simp only [go_sem,hlT',List.cons_append,List.nil_append,wA,htk,hcl];repeat first | refine q_Wk ?_ | intro _
       exact hK
end Go.Abs
end
section
namespace Go.Num
open Go.Abs
theorem waY{p:BQ}{j:Nat}(hj:j<topY p):(rowsP p).getD j []=trimL (rowY p j):=uf _ _ hj
theorem zaT{p:BQ}{j:Nat}(hj:¬j<topY p):(rowsP p).getD j []=[]:=by
 rw [List.getD_eq_getElem?_getD,List.getElem?_eq_none (by rw [Vf];omega)];rfl
theorem Vx{p:BQ}{l:List Rat}(h:l∈rowsP p):trimL l=l/\l.length<=25:=by
 unfold rowsP at h;obtain⟨j,_,rfl⟩:=List.mem_map.1 h;refine⟨vt _,?_⟩;have:=WF (rowY p j);rw [zy]at this;exact this
def BdB(D E:Nat)(p:BQ):Prop:=∀t∈p,Bd D E t.2.2
theorem Zbr{D E:Nat}(h0:0<D)(i j:Int):∀{p:BQ},StrM p->InQ p->BdB D E p->Bd D E (cf p i j)
 | [],_,_,_=>.zero h0 E
 | t::p,hs,hi,hr=>by
  obtain⟨a1,a2⟩:=List.pairwise_cons.1 hs;obtain⟨a3,a4⟩:=Qe.1 hi;simp only [cf];by_cases h:t.1=i/\t.2.1=j
  .have e:=um a4 a3 a1;rw [h.1,h.2]at e;rw [if_pos h,e,Rat.add_zero];exact hr t (by simp)
  .rw [if_neg h,Rat.zero_add];exact Zbr h0 i j a2 a4 λu hu=>hr u (by simp [hu])
theorem zH{D E:Nat}(h0:0<D){p:BQ}(hp:Canon p)(hb:BdB D E p){l:List Rat}(h:l∈rowsP p):BdL D E l:=by
 unfold rowsP at h;obtain⟨j,_,rfl⟩:=List.mem_map.1 h;refine BdL.trim (BdL.of h0 λx hx=>?_);unfold rowY at hx;obtain⟨i,_,rfl⟩:=List.mem_map.1 hx;exact Zbr h0 _ _ hp.str hp.ins hb
theorem Qbp{p:BQ}{d:Nat}(hd:Deg d p){i j:Int}(h:(d:Int)<i+j):cf p i j=0:=WR λu hu e=>by
 have:=hd u hu;omega
theorem ZY{p:BQ}{d:Nat}(hd:Deg d p)(k:Nat):LenB ((rowsP p).getD k []) ((d:Int)-k):=by
 by_cases hk:k<topY p
 .rw [waY hk];intro hne;have h1:=jaG (l:=rowY p k) (m:=d+1-k) λi hi=>by
   by_cases hi2:i<25
   .unfold rowY;rw [uf _ _ hi2];exact Qbp hd (by omega)
   .rw [List.getD_eq_getElem?_getD,List.getElem?_eq_none (by rw [zy];omega)];rfl
  have:(trimL (rowY p k)).length≠0:=λe=>hne (List.length_eq_zero_iff.1 e);omega
 .rw [zaT hk];exact λh=>(h rfl).elim
theorem zar{p:BQ}(hi:InQ p){d:Nat}(hd:Deg d p):topY p-1<=d:=by
 induction p with
 | nil=>simp [topY]
 | cons t p ih=>
  obtain⟨⟨a,b,c⟩,h2⟩:=Qe.1 hi;have h3:=hd t (by simp)
  have:=ih h2 λu hu=>hd u (by simp [hu])
  simp only [topY];omega
theorem jv{p:BQ}(h:p≠[]):0<topY p:=by
 cases p with
 | nil=>exact(h rfl).elim
 | cons t p=>simp only [topY];omega
theorem va5{B B' : Nat}(h:B<=B'):∀n,hvB B n<=hvB B' n
 | 0=>Nat.le_refl _
 | n+1=>by have:=va5 h n;simp only [hvB];omega
def w22:Nat:=4294967296 ^ 22
def SmE(p q:BQ):Prop:=∃D E,0<D/\D<=w22/\E<=w22/\BdB D E p/\BdB D E q
theorem vT:hvB w22 25<w400/\w22<w400/\(∀n,n<=8->dtB (hvB w22 25) n<=wB/\w22 ^ n<=wB)/\wB<w400:=by decide +kernel
theorem Wbp{D E k:Nat}(h0:0<D)(hE:E<=w22)(hk:k<=10){p:BQ}(hp:Canon p)(hb:BdB D E p){l:List Rat}(h:l∈rowsP p):Bd D (hvB w22 25) (hv l (k:Rat)):=by
 have h1:=UaX hk h0 (zH h0 hp hb h);exact h1.mono (Nat.le_trans (va5 hE _) (UT (Vx h).2))
theorem kbi{D E k:Nat}(h0:0<D)(hD:D<=w22)(hE:E<=w22)(hk:k<=10){p:BQ}(hp:Canon p)(hb:BdB D E p):∀x∈(rowsP p).map λl=>hv l (k:Rat),rz x<=400:=λx hx=>by
 obtain⟨l,hl,rfl⟩:=List.mem_map.1 hx;obtain⟨n1,n2,_,_⟩:=vT;exact rz_w (Wbp h0 hE hk hp hb hl) (Nat.lt_of_le_of_lt hD n2) n1
theorem WaD{D E:Nat}(h0:0<D)(hD:D<=w22)(hE:E<=w22){p:BQ}(hp:Canon p)(hb:BdB D E p){l:List Rat}(h:l∈rowsP p):∀x∈l,rz x<=400:=λx hx=>by
 obtain⟨n1,n2,_,_⟩:=vT;exact rz_w ((zH h0 hp hb h).mem hx) (Nat.lt_of_le_of_lt hD n2) (Nat.lt_of_le_of_lt hE n2)
def valE(p q:BQ)(k:Nat):Rat:=resQ ((rowsP p).map λl=>hv l (k:Rat)) ((rowsP q).map λl=>hv l (k:Rat))
def ysE(p q:BQ)(n:Nat):List Rat:=(List.range n).map (valE p q)
theorem xaR(p q:BQ)(n:Nat):(ysE p q n).length=n:=by unfold ysE;rw [List.length_map,List.length_range]
theorem xaE(p q:BQ)(n:Nat):ysE p q n++[valE p q n]=ysE p q (n+1):=by unfold ysE;rw [List.range_succ,List.map_append];rfl
theorem ZaH(n:Nat):xsn n++[(n:Rat)]=xsn (n+1):=by unfold xsn;rw [List.range_succ,List.map_append];rfl
theorem JaG{D E k:Nat}(h0:0<D)(hE:E<=w22)(hk:k<=10){p q:BQ}(hp:Canon p)(hq:Canon q)(hb:BdB D E p)(hc:BdB D E q):Bd (D ^ (topY p-1+(topY q-1))) (dtB (hvB w22 25) (topY p-1+(topY q-1))) (valE p q k):=by
 unfold valE resQ;simp only [List.length_map,Vf];refine Bd.dt h0 λi j _ _=>?_;have g:∀{r:BQ},Canon r->BdB D E r->∀m,Bd D (hvB w22 25) (((rowsP r).map λl=>hv l (k:Rat)).getD m 0):=λ{r} hr hbr m=>by
  have:BdL D (hvB w22 25) ((rowsP r).map λl=>hv l (k:Rat)):=.of h0 λx hx=>by
   obtain⟨l,hl,rfl⟩:=List.mem_map.1 hx;exact Wbp h0 hE hk hr hbr hl
  exact this.2 m
 unfold sylQ;split
 .split
  .exact g hp hb _
  .exact .zero h0 _
 .split
  .exact g hq hc _
  .exact .zero h0 _
theorem qa8{p q:BQ}(hp:Canon p)(hq:Canon q)(hs:SmE p q)(h8:topY p-1+(topY q-1)<=8){n:Nat}(hn:n<=10):Sml (ysE p q n):=by
 obtain⟨D,E,h0,hD,hE,hb,hc⟩:=hs;obtain⟨_,_,n3,_⟩:=vT;obtain⟨m1,m2⟩:=n3 _ h8;refine⟨D ^ (topY p-1+(topY q-1)),dtB (hvB w22 25) (topY p-1+(topY q-1)),.of (Nat.pow_pos h0) λx hx=>?_,Nat.le_trans (Nat.pow_le_pow_left hD _) m2,m1⟩;unfold ysE at hx;obtain⟨k,hk,rfl⟩:=List.mem_map.1 hx;exact JaG h0 hE (by have:=List.mem_range.1 hk;omega) hp hq hb hc
theorem Ya7{p q:BQ}(hp:Canon p)(hq:Canon q)(hs:SmE p q)(h8:topY p-1+(topY q-1)<=8){k:Nat}(hk:k<=10):rz (valE p q k)<=400:=by
 obtain⟨D,E,h0,hD,hE,hb,hc⟩:=hs;obtain⟨_,_,n3,n4⟩:=vT;obtain⟨m1,m2⟩:=n3 _ h8;exact rz_w (JaG h0 hE hk hp hq hb hc) (Nat.lt_of_le_of_lt (Nat.le_trans (Nat.pow_le_pow_left hD _) m2) n4) (Nat.lt_of_le_of_lt m1 n4)
def elL(p q:BQ):List Rat:=resP (rowsP p) (rowsP q)
theorem ka7{p q:BQ}{d e:Nat}(hp:InQ p)(hq:InQ q)(hd:Deg d p)(he:Deg e q):thr (ysE p q (d*e+1))=elL p q:=
 Vbc (ZY hd) (ZY he) (by rw [Vf];exact zar hp hd) (by rw [Vf];exact zar hq he)
end Go.Num
end
