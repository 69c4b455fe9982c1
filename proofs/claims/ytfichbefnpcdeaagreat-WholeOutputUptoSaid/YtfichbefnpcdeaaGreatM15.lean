/-
  Parts of the proof, merged: RunB, RunC, RunH, RunI, RunJ, RunM, RunN, RunO, RunP, RunQ, RunR, RunE, RunK, RunL, RunS, SubA, SubB, SubC.
-/
import Derived.Test.YtfichbefnpcdeaaGreatM14
import Derived.LoopN
import Derived.RangeFuncRecord
import Derived.LoopNIn
set_option linter.unusedVariables false
set_option linter.unusedSimpArgs false
set_option linter.unnecessarySimpa false
section
namespace Go.Abs
variable {P:Program} {E:Env} {s:S} {a:Act} {w:World} {m m' : M} {I:Nat->Prop} {π π' ρ σ:Nat->Nat}
mutual
theorem qaK(h:∀r,ρ (σ r)=π r):∀c,rn ρ (rn σ c)=rn π c
 | .own r ver z off len=>by simp only [rn,h]
 | .ptr r ver i off=>by simp only [rn,h]
 | .clo f caps=>by simp only [rn];rw [waO h caps]
 | .lit v=>by simp only [rn]
 | .slice es=>by simp only [rn]
 | .full es=>by simp only [rn]
 | .emp=>by simp only [rn]
 | .ref cs=>by simp only [rn]
 | .any=>by simp only [rn]
theorem waO(h:∀r,ρ (σ r)=π r):∀l,rnL ρ (rnL σ l)=rnL π l
 | []=>by simp only [rnL]
 | c::l=>by simp only [rnL];rw [qaK h c,waO h l]
end
mutual
theorem qaO(h:∀r,ρ (σ r)=π r):∀x,rnA ρ (rnA σ x)=rnA π x
 | .one c=>by simp only [rnA,qaK h]
 | .agg cs=>by
  simp only [rnA,List.map_map];congr 1;exact List.map_congr_left λc _=>qaK h c
 | .tup l=>by simp only [rnA];rw [ZaA h l]
 | .any=>by simp only [rnA]
theorem ZaA(h:∀r,ρ (σ r)=π r):∀l,rnAL ρ (rnAL σ l)=rnAL π l
 | []=>by simp only [rnAL]
 | c::l=>by simp only [rnAL];rw [qaO h c,ZaA h l]
end
theorem vbe(h:∀r,ρ (σ r)=π r)(b:Blk):rnB ρ (rnB σ b)=rnB π b:=by
 simp only [rnB,rnR,List.map_map];congr 1;refine List.map_congr_left λe _=>?_;simp only [Function.comp,List.map_map];exact List.map_congr_left λc _=>qaK h c
def Sp(E:Env)(s:S)(a:Act)(w:World):Prop:=∃π π' m I,Bij π π'/\Sim E (rnS π π' s) a w m I
theorem Sp.to(b:Bij π π')(h:Sp E s a w):∃m I,Sim E (rnS π π' s) a w m I:=by
 obtain⟨σ,σ',m,I,c,h⟩:=h;have b2:Bij (λr=>π (σ' r)) (λr=>σ (π' r)):=⟨λr=>by simp only [b.l,c.r],λr=>by simp only [c.l,b.r],λr hr=>by simp only [c.fix' hr,b.fix r hr]⟩
 have h2:=h.rn b2;have e:rnS (λr=>π (σ' r)) (λr=>σ (π' r)) (rnS σ σ' s)=rnS π π' s:=by
  have hh:∀r,(λr=>π (σ' r)) (σ r)=π r:=λr=>by simp only [c.l]
  refine S.ext' ?_ ?_
  .funext t
   exact qaO (ρ:=λr=>π (σ' r)) (σ:=σ) (π:=π) hh _
  .funext r
   simp only [rnS,rnH,c.l,Option.map_map];congr 1;congr 1
   funext x
   exact vbe (ρ:=λr=>π (σ' r)) (σ:=σ) (π:=π) hh x
 rw [e]at h2;exact⟨_,_,h2⟩
def GW(P:Program)(N:Nat)(c:Code)(s:S)(Q:Ex->S->Prop):Prop:=
 ∀(E:Env) (a:Act) (w:World) (R:Exit->Act->World->Prop),E.N=N->Sp E s a w->(∀e s' a' w',Q e s'->Sp E s' a' w'->R (exOf e) a' w')->c.wp P R a w
theorem Zba{N:Nat}{x y:Code}{s:S}{Q:Ex->S->Prop}(h:GW P N x s (Ex.seq (λs'=>GW P N y s' Q) Q)):GW P N (.seq x y) s Q:=by
 intro E a w R hN hs hR;refine wp_seq (h E a w _ hN hs λe s' a' w' hq hs'=>?_);cases e with
 | nrm=>exact hq E a' w' R hN hs' hR
 | exit i=>exact hR (.exit i) s' a' w' hq hs'
 | ret=>exact hR .ret s' a' w' hq hs'
theorem JaH{N id:Nat}{x:Code}{s:S}{Q:Ex->S->Prop}(h:GW P N x s (Ex.blk id Q)):GW P N (.block id x) s Q:=by
 intro E a w R hN hs hR;refine wp_block (h E a w _ hN hs λe s' a' w' hq hs'=>?_);cases e with
 | nrm=>exact hR .nrm s' a' w' hq hs'
 | ret=>exact hR .ret s' a' w' hq hs'
 | exit i=>
  simp only [Ex.blk]at hq;simp only [exOf,Exit.inBlock];split
  .rename_i e;rw [if_pos e]at hq;exact hR .nrm s' a' w' hq hs'
  .rename_i e;rw [if_neg e]at hq;exact hR (.exit i) s' a' w' hq hs'
theorem waY{N:Nat}{s:S}{Q:Ex->S->Prop}(h:Q .nrm s):GW P N .skip s Q:=λE a w R hN hs hR=>wp_skip (hR .nrm s a w h hs)
theorem zaL{N l:Nat}{s:S}{Q:Ex->S->Prop}(h:Q .nrm s):GW P N (.label l) s Q:=λE a w R hN hs hR=>wp_label (hR .nrm s a w h hs)
theorem Xa9{N:Nat}{s:S}{Q:Ex->S->Prop}(h:Q .ret s):GW P N .ret s Q:=λE a w R hN hs hR=>wp_ret (hR .ret s a w h hs)
theorem za0{N id:Nat}{s:S}{Q:Ex->S->Prop}(h:Q (.exit id) s):GW P N (.exit id) s Q:=λE a w R hN hs hR=>wp_exit (hR (.exit id) s a w h hs)
theorem vba{x:Opd}{v:Value}(h:s.ev x=.one (.lit v)):(rnS π π' s).ev x=.one (.lit v):=by
 cases x with
 | t n=>
  have h:s.v n=.one (.lit v):=h;show rnA π (s.v n)=_;rw [h];simp only [rnA,rn]
 | c a=>exact h
theorem Wa4{N:Nat}{c0:Operand}{c1:Opd}{x y:Code}{s:S}{Q:Ex->S->Prop}{t:Bool}(hc:cOpd c0=some c1)(he:s.ev c1=.one (.lit (.bool t)))
  (h1:t=true->GW P N x s Q) (h2:t=false->GW P N y s Q):GW P N (.cond c0 x y) s Q:=by
 intro E a w R hN hs hR;have hs0:=hs;obtain⟨π,π',m,I,b,h⟩:=hs0;have hv:=h.ev hc;rw [vba he]at hv;exact wp_cond_split hv.lit_inv.1 (λe=>h1 e E a w R hN hs hR) (λe=>h2 e E a w R hN hs hR)
def GWn(P:Program)(N:Nat)(x:Code)(Q:Ex->S->Prop):Nat->S->Prop
 | 0,_=>False
 | n+1,s=>GW P N x s (Ex.seq (GWn P N x Q n) Q)
theorem UaZ{N:Nat}{x:Code}{Q:Ex->S->Prop}(n:Nat){s:S}(h:GWn P N x Q n s):GW P N (.loop x) s Q:=by
 intro E a w R hN hs hR;refine wp_loop_rounds n ?_
 induction n generalizing s a w with
 | zero=>exact h.elim
 | succ n ih=>
  refine h E a w _ hN hs λe s' a' w' hq hs'=>?_;cases e with
  | nrm=>exact ih hq a' w' hs'
  | exit i=>exact hR (.exit i) s' a' w' hq hs'
  | ret=>exact hR .ret s' a' w' hq hs'
end Go.Abs
end
section
namespace Go.Abs
variable {P:Program} {E:Env} {s:S} {a:Act} {w:World} {m m' : M} {I:Nat->Prop} {π π' : Nat->Nat}
def inV(args:List AV)(u:Nat->AV):Nat->AV:=λt=>if t<pinA then mkV (argL 0 args) t else u (t-pinA)
theorem zbc(args:List AV)(u:Nat->AV)(t:Nat):rnA π (inV args u t)=inV (args.map (rnA π)) (λt=>rnA π (u t)) t:=by
 unfold inV;split
 .rw [jr,jr,if_pos (Nat.zero_le _),if_pos (Nat.zero_le _),List.getElem?_map];cases args[t-0]? with
  | none=>simp only [Option.map_none,Option.getD_none,rnA]
  | some x=>simp only [Option.map_some,Option.getD_some]
 .rfl
theorem HR.env{E' : Env}{h:Nat->HB}(hr:HR E m I w h)(h0:E'.w0=E.w0)(h1:E'.I0=E.I0)(h2:E'.Ow=E.Ow)(h3:E'.F=E.F)(hn:E'.N<=pinA):HR E' m I w h:=by
 cases E;cases E'
 simp only at h0 h1 h2 h3;subst h0 h1 h2 h3;exact⟨hr.ver,hr.blk,hr.inj,hr.lt,hr.imb,hr.grow,hr.keep,hr.imm,hr.sup,hr.i0,hr.liv,hn,hr.fx,hr.os,hr.tape,hr.out⟩
theorem isound{f:FuncId}{fn:Func}{c:Code}{n:Nat}{rv:List RV}{G:Option Nat->List AV->S->(AV->S->Prop)->Prop}(hf:P.funcs[f]?=some fn)(hb:fn.body=some c)(hn:fn.ntmps=n)(hrv:cRes P fn=some rv)(hpin:n<=pinA)
  (hG:∀d args s K,G d args s K->∃(args0:List AV) (s0:S) (π π' : Nat->Nat),Bij π π'/\s=rnS π π' s0/\args=args0.map (rnA π)/\args0.length<=n/\
   GW P n c ⟨inV args0 s0.v,s0.h⟩ λe s'=>(∀i,e≠.exit i)/\rawK (rnS π π' s') rv λl=>K (resOf l) ⟨λt=>(rnS π π' s').v (t+pinA),(rnS π π' s').h⟩):ISound P f G:=by
 intro E args vals s a w m I d K h hargs hg;obtain⟨args0,s0,π,π',b,rfl,rfl,hlen,hgw⟩:=hG d args s K hg;refine calls_of_wp hf hb ?_;have hlv:args0.length=vals.length:=by simpa using hargs.1
 have hE:Sim ⟨E.w0,E.I0,E.Ow,n,E.F,λt=>E.val a (t-pinA)⟩ (rnS π π' ⟨inV args0 s0.v,s0.h⟩) { tmps:=(⟨vals⟩:Array Value)++Array.replicate (fn.ntmps-(⟨vals⟩:Array Value).size) undef,defers:=[] } w m I:=by
  refine⟨rfl,?_,λt=>?_,h.heap.env rfl rfl rfl rfl hpin⟩
  .show Array.size _=n;have hl2:vals.length<=n:=by rw [<-hlv];exact hlen
   rw [Array.size_append,Array.size_replicate,hn];show vals.length+(n-vals.length)=n;exact Nat.add_sub_cancel' hl2
  .show RA m I w.heap (rnA π (inV args0 s0.v t)) _;rw [zbc];by_cases ht:t<pinA
   .rw [inV,if_pos ht,Env.val,if_pos ht];have q:=Yi (n:=fn.ntmps-(⟨vals⟩:Array Value).size) hargs t;show RA m I w.heap (mkV (argL 0 (args0.map (rnA π))) t) (((⟨vals⟩:Array Value)++Array.replicate (fn.ntmps-(⟨vals⟩:Array Value).size) undef).getD t undef);exact q
   .rw [inV,if_neg ht,Env.val,if_neg ht];have q:=h.slot (t-pinA);dsimp only [rnS]at q ⊢;generalize t-pinA=k at q ⊢;exact q
 refine hgw ⟨E.w0,E.I0,E.Ow,n,E.F,λt=>E.val a (t-pinA)⟩ _ w _ rfl ⟨π,π',m,I,b,hE⟩ (λe s' a' w' ⟨hne,hk⟩ hs'=>?_);obtain⟨m',I',hs⟩:=hs'.to b;have fin:a'.defers=[]/\∃v,(results fn a'.tmps).run P w' = .ok v w'/\∃v' r s' m' I',Ending.returned v=.returned v'/\K r s'/\RA m' I' w'.heap r v'/\Sim E s' a w' m' I':=by
  obtain⟨xs,vs,hres,hra,hk⟩:=Vd hs hrv hk;refine⟨hs.dfr,_,hres,_,_,_,m',I',rfl,hk,VG hra,h.dfr,h.siz,λt=>?_,hs.heap.env rfl rfl rfl rfl h.heap.np⟩;have:=hs.slot (t+pinA);rw [Env.val,if_neg (by omega)]at this
  simpa using this
 cases e with
 | nrm=>exact fin
 | ret=>exact fin
 | exit i=>exact(hne i rfl).elim
end Go.Abs
end
section
namespace Go.Abs
variable {P:Program} {π π' : Nat->Nat}
mutual
theorem Ua3:∀c,rn (λr=>r) c=c
 | .own r ver z off len=>by simp only [rn]
 | .ptr r ver i off=>by simp only [rn]
 | .clo f caps=>by simp only [rn];rw [yaT caps]
 | .lit v=>by simp only [rn]
 | .slice es=>by simp only [rn]
 | .full es=>by simp only [rn]
 | .emp=>by simp only [rn]
 | .ref cs=>by simp only [rn]
 | .any=>by simp only [rn]
theorem yaT:∀l,rnL (λr=>r) l=l
 | []=>by simp only [rnL]
 | c::l=>by simp only [rnL];rw [Ua3 c,yaT l]
end
theorem kS(l:List C):l.map (rn (λr=>r))=l:=by
 rw [List.map_congr_left (λc _=>Ua3 c),List.map_id']
mutual
theorem jaA:∀x,rnA (λr=>r) x=x
 | .one c=>by simp only [rnA,Ua3]
 | .agg cs=>by simp only [rnA,kS]
 | .tup l=>by simp only [rnA];rw [qas l]
 | .any=>by simp only [rnA]
theorem qas:∀l,rnAL (λr=>r) l=l
 | []=>by simp only [rnAL]
 | x::l=>by simp only [rnAL];rw [jaA x,qas l]
end
theorem wa6(b:Blk):rnB (λr=>r) b=b:=by
 obtain⟨es,z,l⟩:=b;simp only [rnB,rnR];congr 1;rw [List.map_congr_left (λe _=>kS e),List.map_id']
theorem uX(s:S):rnS (λr=>r) (λr=>r) s=s:=by
 refine S.ext' ?_ ?_
 .funext t
  exact jaA _
 .funext r
  show HB.mk _ ((s.h r).blk.map (rnB λr=>r))=s.h r;rw [show(rnB λr=>r)=id from funext wa6,Option.map_id];rfl
theorem Bij.id:Bij (λr=>r) (λr=>r):=⟨λ_=>rfl,λ_=>rfl,λ_ _=>rfl⟩
variable {E:Env} {s:S} {a:Act} {w:World}
theorem jz{m:M}{I:Nat->Prop}(h:Sim E s a w m I):Sp E s a w:=⟨λr=>r,λr=>r,m,I,Bij.id,by rw [uX];exact h⟩
theorem Sp.sim(h:Sp E s a w):∃m I,Sim E s a w m I:=by
 obtain⟨m,I,h⟩:=h.to Bij.id;rw [uX]at h;exact⟨m,I,h⟩
theorem ubg{N:Nat}{c:Code}{Q:Ex->S->Prop}(b:Bij π π')(h:GW P N c (rnS π π' s) Q):GW P N c s Q:=by
 intro E a w R hN hs hR;obtain⟨m,I,h1⟩:=hs.to b;exact h E a w R hN (jz h1) hR
theorem zbk{Γ:Nat->Spec}(hΓ:Holds P Γ){N:Nat}{c:Code}{ac:AC}(hc:compile P N c=some ac.strip){Q:Ex->S->Prop}(hk:wpA Γ ac Q s):GW P N c s Q:=by
 intro E a w R hN hs hR;obtain⟨m,I,hs⟩:=hs.sim;exact Qt hΓ ac c (by rw [hN];exact hc) hs hk (λe s' a' w' m' I' hq h'=>hR e s' a' w' hq (jz h'))
mutual
theorem XaS(π:Nat->Nat):∀c,rnC π c=rn π c
 | .own r ver z off len=>by simp only [rnC,rn]
 | .ptr r ver i off=>by simp only [rnC,rn]
 | .clo f caps=>by simp only [rnC,rn];rw [VN π caps]
 | .lit v=>by simp only [rnC,rn]
 | .slice es=>by simp only [rnC,rn]
 | .full es=>by simp only [rnC,rn]
 | .emp=>by simp only [rnC,rn]
 | .ref cs=>by simp only [rnC,rn]
 | .any=>by simp only [rnC,rn]
theorem VN(π:Nat->Nat):∀l,rnCs π l=rnL π l
 | []=>by simp only [rnCs,rnL]
 | c::l=>by simp only [rnCs,rnL];rw [XaS π c,VN π l]
end
mutual
theorem vad(π:Nat->Nat):∀x,rnV π x=rnA π x
 | .one c=>by simp only [rnV,rnA,XaS]
 | .agg cs=>by simp only [rnV,rnA,VN,qw]
 | .tup l=>by simp only [rnV,rnA];rw [Qaw π l]
 | .any=>by simp only [rnV,rnA]
theorem Qaw(π:Nat->Nat):∀l,rnVs π l=rnAL π l
 | []=>by simp only [rnVs,rnAL]
 | x::l=>by simp only [rnVs,rnAL];rw [vad π x,Qaw π l]
end
theorem U3(π:Nat->Nat):∀(v:Tr) (k:Nat),(rnT π v).get k=rnA π (v.get k)
 | .e,k=>by simp only [rnT];show AV.any=rnA π .any;simp only [rnA]
 | .l a,k=>by simp only [rnT];exact vad π a
 | .n x y,k=>by
  simp only [rnT];show sel (Nat.beq (Nat.mod k 2) 0) ((rnT π x).get (Nat.div k 2)) ((rnT π y).get (Nat.div k 2))=rnA π (sel (Nat.beq (Nat.mod k 2) 0) (x.get (Nat.div k 2)) (y.get (Nat.div k 2)));cases Nat.beq (Nat.mod k 2) 0
  .exact U3 π y _
  .exact U3 π x _
theorem Jaq(π:Nat->Nat):∀(l:List Tr) (k:Nat),farV (l.map (rnT π)) k=rnA π (farV l k)
 | [],k=>by show AV.any=rnA π .any;simp only [rnA]
 | v::l,k=>by
  rw [List.map_cons,zf,zf];split
  .exact U3 π v k
  .split
   .exact Jaq π l _
   .simp only [rnA]
theorem QaA(b:Bij π π'):∀(h:List (Nat×HB)) (r:Nat),hget (rnK π h) r=⟨(hget h (π' r)).ver,(hget h (π' r)).blk.map (rnB π)⟩
 | [],r=>rfl
 | (k,⟨v,x⟩)::h,r=>by
  simp only [rnK];rw [Xd,Xd];simp only;by_cases e:r=π k
  .rw [if_pos e,if_pos (by rw [e,b.l])]
   simp only;congr 1;congr 1
   funext y
   simp only [rnB,rnR];congr 1;refine List.map_congr_left λe _=>?_;rw [VN,qw]
  .rw [if_neg e,if_neg (λe2=>e (by rw [<-e2,b.r])),QaA b h r]
theorem Wap(a b r:Nat):swN a b r=if r=a then b else if r=b then a else r:=by
 unfold swN;rw [jj,jj];by_cases e:r=a
 .rw [if_pos (by rw [e];exact Nat.beq_refl _),if_pos e]
 .rw [if_neg (λx=>e (beq_eq x)),if_neg e];by_cases e2:r=b
  .rw [if_pos (by rw [e2];exact Nat.beq_refl _),if_pos e2]
  .rw [if_neg (λx=>e2 (beq_eq x)),if_neg e2]
theorem kaC(a b r:Nat):swN a b (swN a b r)=r:=by
 rw [Wap,Wap];split <;> split <;> (try split) <;> omega
theorem Wx:∀(l:List (Nat×Nat)),(∀p∈l,p.1<pinA/\p.2<pinA)->Bij (swp l) (swq l)
 | [],_=>Bij.id
 | p::l,h=>by
  have ih:=Wx l λq hq=>h q (List.mem_cons_of_mem _ hq);have hp:=h p (List.mem_cons_self ..);refine⟨λr=>?_,λr=>?_,λr hr=>?_⟩
  .show swN p.1 p.2 (swq l (swp l (swN p.1 p.2 r)))=r;rw [ih.l,kaC]
  .show swp l (swN p.1 p.2 (swN p.1 p.2 (swq l r)))=r;rw [kaC,ih.r]
  .show swp l (swN p.1 p.2 r)=r;rw [Wap,if_neg (by omega),if_neg (by omega)]
   exact ih.fix r hr
theorem Xr(h:List (Nat×HB)):∀(l:List Nat) (n:Nat),∀p∈swaps h l n,p.1<pinA/\p.2<pinA
 | [],n,p,hp=>by simp [swaps]at hp
 | d::l,n,p,hp=>by
  simp only [swaps]at hp;split at hp
  .rw [jj]at hp;split at hp
   .rename_i hb;simp only [zBA]at hb;rcases List.mem_cons.1 hp with rfl | hp
    .exact⟨ua hb.1,ua hb.2⟩
    .exact Xr h l _ p hp
   .simp at hp
  .exact Xr h l _ p hp
theorem ZaR{α:Type}:∀(l:List (Nat×Nat)) (k:List (Nat×Nat)->α),fPs l k=k l
 | [],k=>rfl
 | (a,b)::l,k=>by simp only [fPs,xo,ZaR l]
theorem T.move_cons(t:T)(p:Nat×Nat)(l:List (Nat×Nat)):t.move (p::l)=⟨rnT (swp (p::l)) t.v,t.x.map (rnT (swp (p::l))),rnK (swp (p::l)) t.h,t.n+(p::l).length⟩:=by
 simp only [T.move];rw [ZaR]
theorem T.move_den(t:T){l:List (Nat×Nat)}(h:∀p∈l,p.1<pinA/\p.2<pinA):(t.move l).den=rnS (swp l) (swq l) t.den:=by
 have b:=Wx l h;cases l with
 | nil=>exact(uX t.den).symm
 | cons p l=>
  rw [T.move_cons];refine S.ext' ?_ ?_
  .funext k
   have:=Jaq (swp (p::l)) (t.v::t.x) k;exact this
  .funext r
   exact QaA b t.h r
def okAC:AC->Bool
 | .ops _ l=>l.all (okAO l)
 | .seq a b=>okAC a && okAC b
 | .cond _ a b=>okAC a && okAC b
 | .block _ a=>okAC a
 | .loop a=>okAC a
 | _=>true
theorem uz{L:Lv}(hL:LvOk P L){N:Nat}:∀(n:Nat),
  (∀(ac:AC) (c:Code) (t:T) (e:Ex) (t' : T) (Q:Ex->S->Prop),compile P N c=some ac->okAC ac=true->codeE L n ac t=some (e,t')->Q e t'.den->GW P N c t.den Q)/\
  (∀(a:AC) (x:Code) (t:T) (e:Ex) (t' : T) (Q:Ex->S->Prop),compile P N x=some a->okAC a=true->codeE L n (.loop a) t=some (e,t')->Q e t'.den->GWn P N x Q n t.den):=by
 intro n
 induction n with
 | zero=>exact⟨λac c t e t' Q hc hok h hq=>nos h,λa x t e t' Q hc hok h hq=>nos h⟩
 | succ n ih=>
  obtain⟨ih1,ih2⟩:=ih;have seq:∀{x:Code} {a:AC} {t:T} {g:T->Option (Ex×T)} {p:Ex×T} {Q R:Ex->S->Prop},compile P N x=some a->okAC a=true->obind (codeE L n a t) (seqK g)=some p->Q p.1 p.2.den->
    (∀t1,g t1=some p->R .nrm t1.den)->(∀i,R (.exit i)=Q (.exit i))->R .ret=Q .ret->GW P N x t.den R:=by
   intro x a t g p Q R hc hok h hq h1 h2 h3;obtain⟨⟨e1,t1⟩,g1,g2⟩:=qa h;refine ih1 a x t e1 t1 R hc hok g1 ?_;cases e1 with
   | nrm=>exact h1 t1 g2
   | exit i=>
    cases (show some ((Ex.exit i,t1):Ex×T)=some p from g2)
    rw [h2];exact hq
   | ret=>
    cases (show some ((Ex.ret,t1):Ex×T)=some p from g2)
    rw [h3];exact hq
  have loop:∀(a:AC) (x:Code) (t:T) (e:Ex) (t' : T) (Q:Ex->S->Prop),compile P N x=some a->okAC a=true->codeE L (n+1) (.loop a) t=some (e,t')->Q e t'.den->GWn P N x Q (n+1) t.den:=by
   intro a x t e t' Q hc hok h hq;show GW P N x t.den (Ex.seq (GWn P N x Q n) Q);exact seq (Q:=Q) hc hok (show obind (codeE L n a t) (seqK (codeE L n (.loop a)))=some (e,t') from h) hq (λt1 h1=>ih2 a x t1 e t' Q hc hok h1 hq) (λ_=>rfl) rfl
  refine⟨λac c t e t' Q hc hok h hq=>?_,loop⟩;cases c with
  | skip=>
   simp only [compile,zOI]at hc;subst hc;cases (show some ((Ex.nrm,t):Ex×T)=some (e,t') from h)
   exact waY hq
  | label l=>
   simp only [compile,zOI]at hc;subst hc;cases (show some ((Ex.nrm,t):Ex×T)=some (e,t') from h)
   exact zaL hq
  | ret=>
   simp only [compile,zOI]at hc;subst hc;cases (show some ((Ex.ret,t):Ex×T)=some (e,t') from h)
   exact Xa9 hq
  | exit id=>
   simp only [compile,zOI]at hc;subst hc;cases (show some ((Ex.exit id,t):Ex×T)=some (e,t') from h)
   exact za0 hq
  | region id ops dr=>
   have hc0:=hc;simp only [compile,Option.bind_eq_bind,zOB]at hc;obtain⟨l0,hl0,hc⟩:=hc;have:∃l,ac=.ops dr l:=by
    repeat (split at hc <;> first | (simp at hc;done) | (simp only [Option.pure_def,zOI]at hc;exact⟨_,hc.symm⟩) | skip)
   obtain⟨l,rfl⟩:=this;simp only [okAC,List.all_eq_true]at hok;obtain⟨t1,h1,h2⟩:=yb (show omap (λt=>((Ex.nrm,t):Ex×T)) (aosE L dr l (prep t l))=some (e,t') from h);cases h2
   have hsw:=Xr t.h (mades l) t.n;refine ubg (Wx _ hsw) ?_;rw [<-T.move_den t hsw];refine zbk (ut hL dr l) (ac:=.ops dr l) hc0 ?_;exact xG hL l hok h1 hq
  | seq x y=>
   simp only [compile,Option.bind_eq_bind,zOB,Option.pure_def,zOI]at hc;obtain⟨a,ha,b,hb,rfl⟩:=hc;simp only [okAC,zBA]at hok;refine Zba ?_;exact seq (Q:=Q) ha hok.1 (show obind (codeE L n a t) (seqK (codeE L n b))=some (e,t') from h) hq (λt1 h1=>ih1 b y t1 e t' Q hb hok.2 h1 hq) (λ_=>rfl) rfl
  | cond c0 x y=>
   simp only [compile,Option.bind_eq_bind,zOB,Option.pure_def,zOI]at hc;obtain⟨c1,hc1,a,ha,b,hb,rfl⟩:=hc;simp only [okAC,zBA]at hok;obtain⟨v,h1,h2⟩:=qa (show obind (lbE (t.ev c1)) (λw=>sel w (codeE L n a t) (codeE L n b t))=some (e,t') from h);have:=zaF h1;rw [T.ev_den]at this;refine Wa4 hc1 this (λev=>?_) (λev=>?_)
   .subst ev;exact ih1 a x t e t' Q ha hok.1 h2 hq
   .subst ev;exact ih1 b y t e t' Q hb hok.2 h2 hq
  | block id x=>
   simp only [compile,zOM]at hc;obtain⟨a,ha,rfl⟩:=hc;obtain⟨⟨e1,t1⟩,h1,h2⟩:=qa (show obind (codeE L n a t) (blkK id)=some (e,t') from h);refine JaH (ih1 a x t e1 t1 _ ha hok h1 ?_);cases e1 with
   | nrm=>
    cases (show some ((Ex.nrm,t1):Ex×T)=some (e,t') from h2)
    exact hq
   | ret=>
    cases (show some ((Ex.ret,t1):Ex×T)=some (e,t') from h2)
    exact hq
   | exit i=>
    have h2:sel (Nat.beq i id) (some ((Ex.nrm,t1):Ex×T)) (some (.exit i,t1))=some (e,t'):=h2;simp only [Ex.blk];rw [jj]at h2;split at h2
    .rename_i hb;cases h2
     rw [if_pos (beq_eq hb)];exact hq
    .rename_i hb;cases h2
     rw [if_neg (λe=>hb (by rw [e];exact Nat.beq_refl _))]
     exact hq
  | loop x=>
   simp only [compile,zOM]at hc;obtain⟨a,ha,rfl⟩:=hc;exact UaZ (n+1) (loop a x t e t' Q ha hok h hq)
  | _=>simp [compile]at hc
end Go.Abs
end
section
namespace Go.Abs
variable {P:Program} {E:Env} {m:M} {I I' : Nat->Prop} {w:World} {h:Nat->HB}
def Froz(m:M)(I' : Nat->Prop)(h:Nat->HB)(kl:List (Nat×HB)):Prop:=
 ∀r v b,hget kl r=⟨v,some b⟩->h r=⟨v,some b⟩/\∀k z,m.blk r=some (k,z)->I' k
theorem Yaz(hr:HR E m I w h)(x:Ext m I w.heap m I' w.heap){kl:List (Nat×HB)}(hf:Froz m I' h kl):∀(n:Nat),
  (∀(c c' : C) (v:Value),deepC kl n c=some c'->RC m I w.heap c v->RC m I' w.heap c' v/\Clean c')/\
  (∀(l l' : List C),deepL kl n l=some l'->l'.length=l.length/\∀(i:Nat) c c',l[i]?=some c->l'[i]?=some c'->∀v,RC m I w.heap c v->RC m I' w.heap c' v/\Clean c')/\
  (∀(es es' : List (List C)),deepR kl n es=some es'->es'.length=es.length/\∀(i:Nat) e e',es[i]?=some e->es'[i]?=some e'->e'.length=e.length/\∀(j:Nat) c c',e[j]?=some c->e'[j]?=some c'->∀v,RC m I w.heap c v->RC m I' w.heap c' v/\Clean c'):=by
 intro n
 induction n with
 | zero=>exact⟨λc c' v h=>nos (by simpa only [deepC] using h),λl l' h=>nos (by simpa only [deepL] using h),λl l' h=>nos (by simpa only [deepR] using h)⟩
 | succ n ih=>
  obtain⟨ihC,ihL,ihR⟩:=ih;refine⟨λc c' v hd hc=>?_,λl l' hd=>?_,λes es' hd=>?_⟩
  .have hc':=hc.ext x;cases c with
   | lit u=>simp only [deepC,zOI]at hd;subst hd;exact⟨hc',.lit _⟩
   | any=>simp only [deepC,zOI]at hd;subst hd;exact⟨hc',.any⟩
   | slice es=>
    simp only [deepC,zOI]at hd;subst hd;refine⟨hc',?_⟩;cases hc with
    | snil=>exact .slice _ (λe he=>by simp at he)
    | slice _ _ _ _ _ _ _ _ _ h0=>exact .slice _ h0
   | ref cs=>
    simp only [deepC,zOI]at hd;subst hd;refine⟨hc',?_⟩;cases hc with
    | ref _ _ _ _ _ _ _ h0=>exact .ref _ h0
   | emp=>
    simp only [deepC,zOI]at hd;subst hd;cases hc
    exact⟨.snil _ _,.slice _ (λe he=>by simp at he)⟩
   | full es=>
    simp only [deepC,zOI]at hd;subst hd;cases hc' with
    | full _ a hin=>
     refine⟨hin,?_⟩;cases hin with
     | snil=>exact .slice _ (λe he=>by simp at he)
     | slice _ _ _ _ _ _ _ _ _ h0=>exact .slice _ h0
   | clo f cs=>
    simp only [deepC,zOM]at hd;obtain⟨cs',hd,rfl⟩:=hd;obtain⟨h1,h2⟩:=ihL cs cs' hd;cases hc with
    | clo _ _ cv hlen hcells=>
     have each:∀(i:Nat) c' u,cs'[i]?=some c'->cv[i]?=some u->RC m I' w.heap c' u/\Clean c':=by
      intro i c' u hi hu;have hlt:i<cs.length:=by rw [<-h1];exact(List.getElem?_eq_some_iff.1 hi).1
      exact h2 i _ c' (List.getElem?_eq_getElem hlt) hi u (hcells i _ u (List.getElem?_eq_getElem hlt) hu)
     refine⟨.clo f cs' cv (by omega) (λi c' u hi hu=>(each i c' u hi hu).1),.clo f cs' λc' hc'=>?_⟩
     obtain⟨i,hi⟩:=List.getElem?_of_mem hc';have hlt:i<cv.length:=by rw [hlen,<-h1];exact(List.getElem?_eq_some_iff.1 hi).1
     exact(each i c' _ hi (List.getElem?_eq_getElem hlt)).2
    | bnd _ cs cv hlen hcells=>
     match cs',h1,h2,hd with
     | [],h1,_,_=>simp at h1
     | c0::cs',h1,h2,hd=>
      have e0:c0=.lit (.agg ⟨[]⟩):=by
       cases n with
       | zero=>simp [deepL]at hd
       | succ n=>
        simp only [deepL]at hd;split at hd
        .rename_i c1 hc1;simp only [zOM,List.cons.injEq]at hd;obtain⟨_,_,rfl,_⟩:=hd;cases n with
         | zero=>simp [deepC]at hc1
         | succ n=>simp only [deepC,zOI]at hc1;exact hc1.symm
        .exact nos hd
      subst e0;have hl:cs'.length=cs.length:=by simpa using h1
      have each:∀(i:Nat) c' u,cs'[i]?=some c'->cv[i]?=some u->RC m I' w.heap c' u/\Clean c':=by
       intro i c' u hi hu;have hlt:i<cs.length:=by rw [<-hl];exact(List.getElem?_eq_some_iff.1 hi).1
       exact h2 (i+1) (cs[i]) c' (by simp [hlt]) (by simpa using hi) u (hcells i _ u (List.getElem?_eq_getElem hlt) hu)
      refine⟨.bnd f cs' cv (by omega) (λi c' u hi hu=>(each i c' u hi hu).1),.clo f _ λc' hc'=>?_⟩
      rcases List.mem_cons.1 hc' with rfl | hc'
      .exact .lit _
      .obtain⟨i,hi⟩:=List.getElem?_of_mem hc';have hlt:i<cv.length:=by rw [hlen,<-hl];exact(List.getElem?_eq_some_iff.1 hi).1
       exact(each i c' _ hi (List.getElem?_eq_getElem hlt)).2
   | own r ver z off len=>
    simp only [deepC]at hd;split at hd
    rotate_left
    .exact nos hd
    rename_i v0 b e;cases hb:(Nat.beq v0 ver && Nat.ble (off+len) b.es.length) with
    | false=>rw [hb]at hd;exact nos hd
    | true=>
     rw [hb]at hd;simp only [cond_true,zOM]at hd;simp only [zBA]at hb;obtain⟨hv,hle⟩:=hb;have hv:=beq_eq hv;have hle:=ua hle;subst hv;obtain⟨es',hd,rfl⟩:=hd;obtain⟨r1,r2⟩:=ihR _ es' hd;obtain⟨g0,hI⟩:=hf r v0 b e;obtain⟨A,cap,rfl,g1,g2,g3,g4,g5,g6⟩:=km hc;have hlen:((b.es.drop off).take len).length=len:=by simp;omega
     have hl' : es'.length=len:=by rw [r1,hlen]
     have hcur:v0=m.ver r:=by rw [hr.ver,g0]
     by_cases hl0:len=0
     .have:es' = []:=List.length_eq_zero_iff.1 (by omega)
      subst this;subst hl0;exact⟨.snil _ _,.slice _ (λe he=>by simp at he)⟩
     .have hrb:=hr.blk r b (by rw [g0])
      cases hm:m.blk r with
      | none=>have:=hrb.virt hm;rw [this]at hle;simp at hle;omega
      | some kz=>
       obtain⟨k,z1⟩:=kz;obtain⟨hz1,_,_,arr,ty,hh,hcell⟩:=hrb.real k z1 hm;obtain⟨hz2,hcap | ⟨hA,hbs⟩⟩:=g3 hcur k z1 hm
       .omega
       .subst hA;have hI:=hI k z1 hm;have hzz:z=b.z:=by omega
        subst hzz;have hch:∀i j,i<len->j<b.z->∃u,arr[off*b.z+i*b.z+j]?=some u:=by
         intro i j hi hj;have he:b.es[off+i]?=some (b.es[off+i]'(by omega)):=List.getElem?_eq_getElem (by omega)
         have hj' : j<(b.es[off+i]'(by omega)).length:=by rw [hrb.sz _ (List.mem_of_getElem? he)];exact hj
         obtain⟨u,q1,_⟩:=hcell _ j _ _ he (List.getElem?_eq_getElem hj');exact⟨u,by rw [<-Nat.add_mul,<-hz2];exact q1⟩
        have row:∀(i:Nat) e',es'[i]?=some e'->∃e,((b.es.drop off).take len)[i]?=some e/\b.es[off+i]?=some e/\e.length=b.z/\e'.length=b.z/\∀(j:Nat) c c',e[j]?=some c->e'[j]?=some c'->∀v,RC m I w.heap c v->RC m I' w.heap c' v/\Clean c':=by
         intro i e' hi;have hlt:i<((b.es.drop off).take len).length:=by rw [<-r1];exact(List.getElem?_eq_some_iff.1 hi).1
         have he:=List.getElem?_eq_getElem hlt;obtain⟨q1,q2⟩:=r2 i _ e' he hi;obtain⟨_,he'⟩:=wz he;have hz:=hrb.sz _ (List.mem_of_getElem? he');exact⟨_,he,he',hz,by rw [q1];exact hz,q2⟩
        have cell:∀(i j:Nat) e' c',es'[i]?=some e'->e'[j]?=some c'->∃u,arr[off*b.z+i*b.z+j]?=some u/\RC m I' w.heap c' u/\Clean c':=by
         intro i j e' c' hi hj;obtain⟨e,q1,q2,q3,q4,q5⟩:=row i e' hi;have hjl:j<e.length:=by rw [q3,<-q4];exact(List.getElem?_eq_some_iff.1 hj).1
         obtain⟨u,p1,p2⟩:=hcell _ j _ _ q2 (List.getElem?_eq_getElem hjl);rw [hz2,Nat.add_mul]at p1;exact⟨u,p1,q5 j _ c' (List.getElem?_eq_getElem hjl) hj u p2⟩
        have hclean:CleanR es':=by
         intro e' he' c' hc';obtain⟨i,hi⟩:=List.getElem?_of_mem he';obtain⟨j,hj⟩:=List.getElem?_of_mem hc';exact(cell i j e' c' hi hj).choose_spec.2.2
        have key:=RC.slice (m:=m) (I:=I') (H:=w.heap) es' b.z k (off*b.z) cap arr ty (0,0) (λi j=>(arr[off*b.z+i*b.z+j]?).getD undef)
         hclean (by rw [hl'];exact g2) (by rw [hl'];exact g6) hI hh (λe he=>by
          obtain⟨i,hi⟩:=List.getElem?_of_mem he;obtain⟨_,_,_,_,q4,_⟩:=row i e hi;exact q4)
         (λi j hi hj=>by rw [hl']at hi;obtain⟨u,hu⟩:=hch i j hi hj;simp [hu])
         (λi j e c he hc=>by
          obtain⟨u,q1,q2,_⟩:=cell i j e c he hc;simp only [q1,Option.getD_some];exact q2)
        rw [hl']at key;exact⟨key,.slice _ hclean⟩
   | ptr r ver i off=>
    simp only [deepC]at hd;split at hd
    rotate_left
    .exact nos hd
    rename_i v0 b e;split at hd
    rotate_left
    .exact nos hd
    rename_i e0 he0;cases hb:(Nat.beq v0 ver && Nat.ble off e0.length) with
    | false=>rw [hb]at hd;exact nos hd
    | true=>
     rw [hb]at hd;simp only [cond_true,zOM]at hd;simp only [zBA]at hb;have hv:=beq_eq hb.1;subst hv;obtain⟨cs',hd,rfl⟩:=hd;obtain⟨r1,r2⟩:=ihL _ cs' hd;obtain⟨g0,hI⟩:=hf r v0 b e;have hcur:v0=m.ver r:=by rw [hr.ver,g0]
     have hrb:=hr.blk r b (by rw [g0])
     cases hc with
     | ptr _ _ _ _ A g1 g2=>
      cases hm:m.blk r with
      | none=>have:=hrb.virt hm;rw [this]at he0;simp at he0
      | some kz=>
       obtain⟨k,z1⟩:=kz;obtain⟨hz1,_,_,arr,ty,hh,hcell⟩:=hrb.real k z1 hm;rw [g2 hcur k z1 hm];have hget:∀(j:Nat) (c' : C),cs'[j]?=some c'->∃u,arr[i*z1+off+j]?=some u/\RC m I' w.heap c' u/\Clean c':=by
        intro j c' hj;have hlt:j<(e0.drop off).length:=by rw [<-r1];exact(List.getElem?_eq_some_iff.1 hj).1
        have hj0:=List.getElem?_eq_getElem hlt;have hj1:=hj0;rw [List.getElem?_drop]at hj1;obtain⟨u,q1,q2⟩:=hcell i (off+j) e0 _ he0 hj1;exact⟨u,by rw [Nat.add_assoc];exact q1,r2 j _ c' hj0 hj u q2⟩
       have hclean:CleanL cs':=by
        intro c' hc';obtain⟨j,hj⟩:=List.getElem?_of_mem hc';exact(hget j c' hj).choose_spec.2.2
       refine⟨.ref cs' k (i*z1+off) arr ty (0,0) (λj=>(arr[i*z1+off+j]?).getD undef) hclean (hI k z1 hm) hh (λj hj=>?_) (λj c hj=>?_),.ref _ hclean⟩
       .obtain⟨u,q1,_⟩:=hget j _ (List.getElem?_eq_getElem hj);simp [q1]
       .obtain⟨u,q1,q2,_⟩:=hget j c hj;simp only [q1,Option.getD_some];exact q2
  .cases l with
   | nil=>simp only [deepL,zOI]at hd;subst hd;exact⟨rfl,λi c c' hi=>by simp at hi⟩
   | cons c l=>
    simp only [deepL]at hd;split at hd
    .rename_i c1 hc1;simp only [zOM]at hd;obtain⟨l1,hl1,rfl⟩:=hd;obtain⟨q1,q2⟩:=ihL l l1 hl1;refine⟨by simp [q1],λi a a' ha ha' v hv=>?_⟩
     cases i with
     | zero=>
      simp only [List.getElem?_cons_zero,zOI]at ha ha';subst ha ha';exact ihC c c1 v hc1 hv
     | succ i=>
      simp only [List.getElem?_cons_succ]at ha ha';exact q2 i a a' ha ha' v hv
    .exact nos hd
  .cases es with
   | nil=>simp only [deepR,zOI]at hd;subst hd;exact⟨rfl,λi c c' hi=>by simp at hi⟩
   | cons e l=>
    simp only [deepR]at hd;split at hd
    .rename_i e1 he1;simp only [zOM]at hd;obtain⟨l1,hl1,rfl⟩:=hd;obtain⟨p1,p2⟩:=ihL e e1 he1;obtain⟨q1,q2⟩:=ihR l l1 hl1;refine⟨by simp [q1],λi a a' ha ha'=>?_⟩
     cases i with
     | zero=>
      simp only [List.getElem?_cons_zero,zOI]at ha ha';subst ha ha';exact⟨p1,p2⟩
     | succ i=>
      simp only [List.getElem?_cons_succ]at ha ha';exact q2 i a a' ha ha'
    .exact nos hd
theorem xaK(hr:HR E m I w h)(x:Ext m I w.heap m I' w.heap){kl:List (Nat×HB)}(hf:Froz m I' h kl){a a' : AV}{v:Value}(hd:deepA kl a=some a')(ha:RA m I w.heap a v):RA m I' w.heap a' v/\CleanV a':=by
 obtain⟨hC,hL,_⟩:=Yaz hr x hf deepF;cases ha with
 | any v=>simp only [deepA,zOI]at hd;subst hd;exact⟨.any v,trivial⟩
 | one c v hc=>
  simp only [deepA,zOM]at hd;obtain⟨c',hd,rfl⟩:=hd;obtain⟨h1,h2⟩:=hC c c' v hd hc;exact⟨.one _ _ h1,h2⟩
 | agg cs vs hc=>
  simp only [deepA,zOM]at hd;obtain⟨cs',hd,rfl⟩:=hd;obtain⟨h1,h2⟩:=hL cs cs' hd;have each:∀(i:Nat) c' u,cs'[i]?=some c'->vs[i]?=some u->RC m I' w.heap c' u/\Clean c':=by
   intro i c' u hi hu;have hlt:i<cs.length:=by rw [<-h1];exact(List.getElem?_eq_some_iff.1 hi).1
   exact h2 i _ c' (List.getElem?_eq_getElem hlt) hi u (hc.2 i _ u (List.getElem?_eq_getElem hlt) hu)
  refine⟨.agg cs' vs ⟨by rw [h1];exact hc.1,λi c' u hi hu=>(each i c' u hi hu).1⟩,λc' hc'=>?_⟩
  obtain⟨i,hi⟩:=List.getElem?_of_mem hc';have hlt:i<vs.length:=by rw [<-hc.1,<-h1];exact(List.getElem?_eq_some_iff.1 hi).1
  exact(each i c' _ hi (List.getElem?_eq_getElem hlt)).2
 | tup=>exact nos (by simpa only [deepA] using hd)
theorem XG(hr:HR E m I w h)(x:Ext m I w.heap m I' w.heap){kl:List (Nat×HB)}(hf:Froz m I' h kl):∀{as as' : List AV} {vs:List Value},deepAs kl as=some as'->RAs m I w.heap as vs->RAs m I' w.heap as' vs/\∀a∈as',CleanV a
 | [],as',vs,hd,ha=>by
  simp only [deepAs,zOI]at hd;subst hd;exact⟨⟨ha.1,λi a v h=>by simp at h⟩,λa h=>by simp at h⟩
 | a::l,as',vs,hd,ha=>by
  simp only [deepAs]at hd;split at hd
  .rename_i a1 ha1;simp only [zOM]at hd;obtain⟨l1,hl1,rfl⟩:=hd;match vs,ha with
   | [],ha=>simp [RAs]at ha
   | v::vs,ha=>
    obtain⟨p1,p2⟩:=xaK hr x hf ha1 (ha.2 0 a v rfl rfl);obtain⟨q1,q2⟩:=XG hr x hf hl1 (vs:=vs) ⟨by simpa using ha.1,λi b u hb hu=>ha.2 (i+1) b u (by simpa using hb) (by simpa using hu)⟩
    refine⟨⟨by simp [q1.1],λi b u hb hu=>?_⟩,λb hb=>?_⟩
    .cases i with
     | zero=>
      simp only [List.getElem?_cons_zero,zOI]at hb hu;subst hb hu;exact p1
     | succ i=>
      simp only [List.getElem?_cons_succ]at hb hu;exact q1.2 i b u hb hu
    .rcases List.mem_cons.1 hb with rfl | hb
     .exact p2
     .exact q2 b hb
  .exact nos hd
theorem jaf:∀(args:List AV) (k0:Nat) (v:Tr) (k:Nat),k0+args.length<=256->k<256->(argT args k0 v).get k=if k0<=k/\k<k0+args.length then (args[k-k0]?).getD .any else v.get k
 | [],k0,v,k,h1,h2=>by
  rw [if_neg (by simp only [List.length_nil];omega)]
  rfl
 | a::l,k0,v,k,h1,h2=>by
  simp only [List.length_cons]at h1;show(argT l (k0+1) (v.set dep k0 a)).get k=_;rw [jaf l (k0+1) _ k (by omega) h2,Tr.get_set dep v k0 k a (show k0<256 by omega) h2]
  simp only [List.length_cons];by_cases e:k=k0
  .subst e;rw [if_neg (by omega),if_pos rfl,if_pos (by omega),Nat.sub_self]
   rfl
  .rw [if_neg e];by_cases h:k0+1<=k/\k<k0+1+l.length
   .rw [if_pos h,if_pos (by omega),show k-k0=(k-(k0+1))+1 by omega,List.getElem?_cons_succ]
   .rw [if_neg h,if_neg (by omega)]
theorem uZ{args:List AV}(h:args.length<=256){k:Nat}(hk:k<256):(argT args 0 .e).get k=mkV (argL 0 args) k:=by
 rw [jaf args 0 .e k (by omega) hk,jr,if_pos (Nat.zero_le _)]
 by_cases h2:0<=k/\k<0+args.length
 .rw [if_pos h2]
 .rw [if_neg h2,List.getElem?_eq_none (by omega)]
  rfl
theorem Zas{args:List AV}(h:args.length<=256){k:Nat}(hk:¬k<256):mkV (argL 0 args) k=.any:=by
 rw [jr,if_pos (Nat.zero_le _),List.getElem?_eq_none (by omega)]
 rfl
theorem QB{args:List AV}(h:args.length<=256)(kl:List (Nat×HB))(n:Nat):(T.mk (argT args 0 .e) [] kl n).den=⟨mkV (argL 0 args),hget kl⟩:=by
 show S.mk (farV [argT args 0 .e]) (hget kl)=_;congr 1
 funext k
 rw [zf];by_cases hk:k<256
 .rw [if_pos hk,uZ h hk]
 .rw [if_neg hk,Zas h hk];split
  .rfl
  .rfl
theorem Yo{t:T}:∀{l:List RV} {xs:List AV} {K:List AV->Prop},rawE t l=some xs->K xs->rawK t.den l K
 | [],xs,K,h,hk=>by cases h;exact hk
 | .tmp k::l,xs,K,h,hk=>by
  obtain⟨ys,h1,rfl⟩:=yb (show omap (t.get k::·) (rawE t l)=some xs from h);rw [T.get_den]at hk;exact Yo (K:=λl=>K (t.den.v k::l)) h1 hk
 | .cell k n b::l,xs,K,h,hk=>by
  obtain⟨x,h1,h2⟩:=qa (show obind (loadE n b t (t.get k)) (λx=>omap (x::·) (rawE t l))=some xs from h);obtain⟨ys,h3,rfl⟩:=yb h2;rw [T.get_den]at h1;exact Jab h1 (Yo (K:=λl=>K (x::l)) h3 hk)
theorem UA:∀(h:List (Nat×HB)) (r v:Nat) (b:Blk),hget h r=⟨v,some b⟩->r∈h.map (·.1)
 | [],r,v,b,e=>by simp [ku]at e
 | p::h,r,v,b,e=>by
  rw [Xd]at e;by_cases e2:r=p.1
  .rw [List.map_cons,e2];exact List.mem_cons_self ..
  .rw [if_neg e2]at e;exact List.mem_cons_of_mem _ (UA h r v b e)
theorem zN{e:Ex}(h:endE e=true):∀i,e≠.exit i:=by
 intro i e2;subst e2;exact Bool.noConfusion h
structure TabOk (P:Program) (tab:Nat->Option (Nat×AC×List RV)):Prop where
 ck:∀f x,tab f=some x->check P f=some x
 ok:∀f n ac rv,tab f=some (n,ac,rv)->okAC ac=true
variable {tab:Nat->Option (Nat×AC×List RV)} {L:Lv}
theorem Qm (ht : TabOk P tab) {f n : Nat} {ac : AC} {rv : List RV} (e : tab f = some (n, ac, rv)) : ∃ fn c, P.funcs[f]? = some fn ∧ (fn.name == "runtime.NumGoroutine") = false ∧ fn.body = some c ∧ fn.ntmps = n ∧ compile P n c = some ac ∧ cRes P fn = some rv ∧ n ≤ pinA ∧ okAC ac = true := by
 obtain⟨fn,c,h1,h2,h3,h4,h5,h6,h7⟩:=Vi (ht.ck f _ e);exact⟨fn,c,h1,h2,h3,h4,h5,h6,h7,ht.ok f n ac rv e⟩
theorem qE{args:List AV}{vals:List Value}{n:Nat}{fn:Func}(hn:fn.ntmps=n)(himb:∀b,I b->b<w.heap.size)(hargs:RAs M0 I w.heap args vals)(hlen:args.length<=n)(hpin:n<=pinA) :
    Sim ⟨w,I,λ_=>False,n,λ_=>none,λ_=>undef⟩ ⟨mkV (argL 0 args),hget []⟩ { tmps:=(⟨vals⟩:Array Value)++Array.replicate (fn.ntmps-(⟨vals⟩:Array Value).size) undef,defers:=[] } w M0 I:=by
  refine⟨rfl,?_,λt=>vn rfl (by show Array.size _<=_;have hlv:=hargs.1;simp [hn];omega) (Yi hargs t),{
    ver:=λr=>rfl,blk:=λr b hb=>by simp [ku]at hb,inj:=λr r' k z z' h=>by simp [M0]at h,lt:=λr k z h=>by simp [M0]at h,
    imb:=himb,grow:=Nat.le_refl _,keep:=λb hb _=>rfl,imm:=λb hb=>.inl hb,sup:=λb hb=>hb,i0:=λb hb=>⟨himb b hb,λh=>h⟩,
    liv:=λr b k z hb=>by simp [ku]at hb,np:=hpin,fx:=λr b _ hb=>by simp [ku]at hb,os:=rfl,tape:=rfl,out:=rfl }⟩
  have hlv:=hargs.1;simp [hn];omega
theorem vaj{n:Nat}{I2:Nat->Prop}{w' : World}{m' : M}{h' : Nat->HB}(hh2:HR ⟨w,I,λ_=>False,n,λ_=>none,λ_=>undef⟩ m' I2 w' h'):Ret w I w' I2:=
 ⟨hh2.grow,λb hb=>hh2.keep b hb (λh=>h),λb hb=>hh2.sup b hb,λb hb=>by
  rcases hh2.imm b hb with h | h | h
  .exact .inl h
  .exact .inr h
  .exact h.elim,hh2.imb,hh2.os,hh2.tape,hh2.out⟩
theorem Wau(hL:LvOk P L)(ht:TabOk P tab)(f:Nat):DSound P f λargs K=>∃r,datFE tab L f args=some r/\K r:=by
 intro args vals w I K himb hargs hclean ⟨r,hr,hk⟩;unfold datFE at hr;split at hr
 rotate_left
 .exact nos hr
 rename_i n ac rv e;obtain⟨fn,c,h1,h2,h3,h4,h5,h6,h7,h8⟩:=Qm ht e;obtain⟨g1,hr⟩:=Za hr;simp only [zBA]at g1;have hn256:n<=256:=ua g1.1;have hlen:args.length<=n:=ua g1.2;split at hr
 rotate_left
 .exact nos hr
 rename_i e1 t hcode;obtain⟨g2,hr⟩:=Za hr;split at hr
 rotate_left
 .exact nos hr
 rename_i l hraw;simp only [zOM]at hr;obtain⟨ys,hdeep,rfl⟩:=hr;refine calls_of_wp h1 h3 ?_;have hsim:=qE (fn:=fn) h4 himb hargs hlen h7;rw [<-QB (args:=args) (by omega) [] 2048]at hsim
 refine(uz hL fuelC).1 ac c _ e1 t (λe' s'=>e' = e1/\s' = t.den) h5 h8 hcode ⟨rfl,rfl⟩ _ _ w _ rfl (jz hsim) (λe' s' a' w' ⟨he,hs'⟩ hsp=>?_);subst he hs';have fin:a'.defers=[]/\∃v,(results fn a'.tmps).run P w' = .ok v w'/\∃v' r I',Ending.returned v=.returned v'/\K r/\RA M0 I' w'.heap r v'/\CleanA r/\Ret w I w' I':=by
  obtain⟨m',I',hs⟩:=hsp.sim;obtain⟨xs,vs,hres,hra,hxs⟩:=Vd (P:=P) hs h6 (Yo (K:=λxs=>xs=l) hraw rfl);subst hxs;obtain⟨I2,hh2,hx2,hfz⟩:=hs.heap.frz (t.h.map (·.1));have hf:Froz m' I2 t.den.h t.h:=λr v b hb=>⟨hb,λk z hm=>hfz r (UA _ _ _ _ hb) b k z (by show(hget t.h r).blk=_;rw [hb]) hm⟩
  obtain⟨q1,q2⟩:=XG hs.heap hx2 hf hdeep hra;exact⟨hs.dfr,_,hres,_,resOf ys,I2,rfl,hk,VG (q1.any_map q2 M0),YB q2,vaj hh2⟩
 have hne:=zN g2;cases e' with
 | nrm=>exact fin
 | ret=>exact fin
 | exit i=>exact(hne i rfl).elim
theorem uY(hL:LvOk P L)(ht:TabOk P tab)(f:Nat):FSound P f (L.z f) λargs K=>∃r,freshF tab L f args=some r/\K r:=by
 intro args vals w I K himb hargs hclean ⟨r,hr,hk⟩;unfold freshF at hr;split at hr
 rotate_left
 .exact nos hr
 rename_i n ac rv e;obtain⟨fn,c,h1,h2,h3,h4,h5,h6,h7,h8⟩:=Qm ht e;obtain⟨g1,hr⟩:=Za hr;simp only [zBA]at g1;have hn256:n<=256:=ua g1.1;have hlen:args.length<=n:=ua g1.2;split at hr
 rotate_left
 .exact nos hr
 rename_i e1 t hcode;have hr2:=(Za hr).2;have g2:=(Za hr).1;clear hr;have hr:=hr2;clear hr2;refine calls_of_wp h1 h3 ?_;have hsim:=qE (fn:=fn) h4 himb hargs hlen h7;rw [<-QB (args:=args) (by omega) [] 2048]at hsim
 refine(uz hL fuelC).1 ac c _ e1 t (λe' s'=>e' = e1/\s' = t.den) h5 h8 hcode ⟨rfl,rfl⟩ _ _ w _ rfl (jz hsim) (λe' s' a' w' ⟨he,hs'⟩ hsp=>?_);subst he hs';have fin:a'.defers=[]/\∃v,(results fn a'.tmps).run P w' = .ok v w'/\∃A cap es I',Ending.returned v=.returned (.slice A es.length cap)/\K es/\CleanR es/\NewRow w w' I' (L.z f) es A cap/\Ret w I w' I':=by
  obtain⟨m',I',hs⟩:=hsp.sim;split at hr
  .rename_i hraw;cases hr
   obtain⟨xs,vs,hres,hra,hxs⟩:=Vd (P:=P) hs h6 (Yo (K:=λxs=>xs=_) hraw rfl);subst hxs;refine⟨hs.dfr,_,hres,?_⟩;match vs,hra with
   | [v],hra=>
    have:=(hra.2 0 _ v rfl rfl).one_inv;cases this with
    | emp A=>exact⟨A,0,[],I',rfl,hk,λe he=>by simp at he,⟨Nat.le_refl _,Nat.zero_le _,λ_=>rfl,λe he=>by simp at he,.inl rfl⟩,vaj hs.heap⟩
   | [],hra=>simp [RAs]at hra
   | v::u::vs,hra=>simp [RAs]at hra
  .rename_i r0 ver z len hraw;split at hr
   rotate_left
   .exact nos hr
   rename_i b hb;obtain⟨g3,hr⟩:=Za hr;simp only [zBA]at g3;obtain⟨⟨⟨⟨hlive,hz0⟩,hzb⟩,hle⟩,hcl⟩:=g3;have hz0:=beq_eq hz0;have hzb:=beq_eq hzb;have hle:=ua hle;have hcl:CleanR (b.es.take len):=qx hcl;cases hr
   obtain⟨xs,vs,hres,hra,hxs⟩:=Vd (P:=P) hs h6 (Yo (K:=λxs=>xs=_) hraw rfl);subst hxs;refine⟨hs.dfr,_,hres,?_⟩;match vs,hra with
   | [v],hra=>
    have hx:=hra.2 0 _ v rfl rfl;obtain⟨A,cap,rfl,g1,g2,g3,g4,g5,g6⟩:=km hx.one_inv;obtain⟨e1,e2⟩:=wn (Vk hb);have hcur:ver=m'.ver r0:=by rw [hs.heap.ver,e1]
    have hrb:=hs.heap.blk r0 b e2;have htl:(b.es.take len).length=len:=by simp;omega
    refine⟨A,cap,b.es.take len,I',by rw [htl];simp,hk,hcl,⟨by omega,by omega,λh=>by rw [htl];exact g5 h,λe he=>by rw [hz0,hzb];exact hrb.sz e (List.mem_of_mem_take he),?_⟩,vaj hs.heap⟩
    cases hm:m'.blk r0 with
    | none=>exact .inl (g4 hcur hm)
    | some kz=>
     obtain⟨k,z1⟩:=kz;obtain⟨hz1,hnI,_,arr,ty,hh,hc⟩:=hrb.real k z1 hm;obtain⟨hz2,hcap | ⟨hA,hbs⟩⟩:=g3 hcur k z1 hm
     .exact .inl hcap
     .refine .inr ⟨k,arr,ty,by simpa using hA,?_,hnI hlive,hh,by rw [hz0];simpa [bsize,hh] using hbs,λi j e c he hc'=>?_⟩
      .rcases hs.heap.liv r0 b k z1 e2 hm with h | h
       .exact h
       .exact h.elim
      .have hi:i<len:=by have:=(List.getElem?_eq_some_iff.1 he).1;omega
       have hmem:=List.mem_of_getElem? he;rw [List.getElem?_take_of_lt hi]at he;obtain⟨v,q1,q2⟩:=hc i j e c he hc';rw [hz2,<-hz0]at q1;exact⟨v,q1,q2.any_map (hcl e hmem c (List.mem_of_getElem? hc')) M0⟩
   | [],hra=>simp [RAs]at hra
   | v::u::vs,hra=>simp [RAs]at hra
  .exact nos hr
 have hne:=zN g2;cases e' with
 | nrm=>exact fin
 | ret=>exact fin
 | exit i=>exact(hne i rfl).elim
end Go.Abs
end
section
namespace Go.Abs
variable {P:Program} {tab:Nat->Option (Nat×AC×List RV)} {L:Lv}
theorem Q5(v:Tr)(l:List Tr)(k:Nat):farV (v::l) (k+pinA)=farV l k:=by
 rw [zf];have hp:256<=pinA:=by decide
 generalize pinA=p at hp ⊢;rw [if_neg (by omega),if_pos (by omega),Nat.add_sub_cancel]
theorem Xap(hL:LvOk P L)(ht:TabOk P tab)(f:Nat):ISound P f λ_ args s K=>∃t r t',s=t.den/\inlE tab L f args t=some (r,t')/\K r t'.den:=by
 intro E args vals s a w m I d K hs hargs ⟨t,r,t',hst,hr,hk⟩;unfold inlE at hr;split at hr
 rotate_left
 .exact nos hr
 rename_i n ac rv e;obtain⟨fn,c,h1,h2,h3,h4,h5,h6,h7,h8⟩:=Qm ht e;have hr2:=(Za hr).2;have g1:=(Za hr).1;clear hr;simp only [zBA]at g1;have hn256:n<=256:=ua g1.1;have hlen:args.length<=n:=ua g1.2;split at hr2
 rotate_left
 .exact nos hr2
 rename_i e1 t1 hcode;have g2:=(Za hr2).1;have hr:=(Za hr2).2;clear hr2;split at hr
 rotate_left
 .exact nos hr
 rename_i l v x hraw hx;simp only [zOI,Prod.mk.injEq]at hr;obtain⟨rfl,rfl⟩:=hr;have hne:=zN g2;have hsw:=Xr t1.h (lows t1.h) t1.n;have b:=Wx _ hsw;generalize hsg:swaps t1.h (lows t1.h) t1.n=sw at hk hsw b;rw [T.move_den _ hsw,vad]at hk;have key:=isound (P:=P) (f:=f) (fn:=fn) (c:=c) (n:=n) (rv:=rv) (G:=λ_ args' s' K'=>args' = args/\s' = s/\K' (resOf l) (T.mk v x t1.h t1.n).den) h1 h3 h4 h6 h7
  (λd' args' s' K' ⟨ea,es,hk'⟩=>by
   subst ea es;refine⟨args',s',λr=>r,λr=>r,Bij.id,(uX s').symm,?_,hlen,?_⟩
   .rw [show rnA (λr=>r)=id from funext jaA,List.map_id]
   .have hstart:(⟨inV args' s'.v,s'.h⟩:S)=(T.mk (argT args' 0 .e) (t.v::t.x) t.h t.n).den:=by
     rw [hst];show S.mk (inV args' (farV (t.v::t.x))) (hget t.h)=S.mk (farV (argT args' 0 .e::t.v::t.x)) (hget t.h);congr 1
     funext k
     rw [zf];unfold inV;by_cases hk2:k<256
     .rw [if_pos hk2,if_pos (by unfold pinA;omega),uZ (by omega) hk2]
     .rw [if_neg hk2];by_cases hk3:k<pinA
      .rw [if_pos hk3,if_neg (by omega),Zas (by omega) hk2]
      .rw [if_neg hk3,if_pos (by omega)]
    rw [hstart];refine(uz hL fuelC).1 ac c _ e1 t1 _ h5 h8 hcode ⟨hne,?_⟩;rw [uX];refine Yo hraw ?_;have hend:(⟨λk=>t1.den.v (k+pinA),t1.den.h⟩:S)=(T.mk v x t1.h t1.n).den:=by
     have hv:t1.den.v=farV (t1.v::t1.x):=rfl;have hw:(T.mk v x t1.h t1.n).den.v=farV (v::x):=rfl;have hx:∀k,farV (t1.v::t1.x) (k+pinA)=farV (v::x) k:=by
      intro k;rw [Q5,hx]
     have hy:(λk=>t1.den.v (k+pinA))=(T.mk v x t1.h t1.n).den.v:=by
      rw [hv,hw];generalize pinA=p at hx ⊢;exact funext hx
     rw [hy];rfl
    rw [hend];exact hk')
 refine Calls.mono (key E args vals s a w m I d (λr s'=>r=resOf l/\s' = (T.mk v x t1.h t1.n).den) hs hargs ⟨rfl,rfl,rfl,rfl⟩) λe2 w' ⟨v',r,s',m',I',q1,⟨q2,q3⟩,q4,q5⟩=>?_;subst q2 q3;have q6:=q5.rn b;exact⟨v',_,_,_,I',q1,hk,q4.rn (λr=>by simp only [b.l]) (λr=>by simp only [b.l]),q6⟩
theorem Waq:∀{a b:List UInt8},eqNs a b=true->a=b
 | [],[],_=>rfl
 | a::l,b::m,h=>by
  simp only [eqNs,zBA]at h;rw [UInt8.toNat_inj.1 (beq_eq h.1),Waq h.2]
 | [],_::_,h=>by simp [eqNs]at h
 | _::_,[],h=>by simp [eqNs]at h
theorem Qaa{a b:Int}(h:ieq a b=true):a=b:=by rw [yB]at h;simpa using h
theorem Uba{v u:Value}(h:eqV v u=true):v=u:=by
 unfold eqV at h;split at h
 .simp only [zBA]at h;rw [yA h.1,Qaa h.2]
 .simp only [beq_iff_eq]at h;rw [h]
 .rename_i a b;have:=Waq h;congr 1;obtain⟨⟨a⟩⟩:=a;obtain⟨⟨b⟩⟩:=b;simp only at this;rw [this]
 .rfl
 .rfl
 .rfl
 .rw [beq_eq h]
 .simp only [zBA]at h;rw [beq_eq h.1,yA h.2.1,Qaa h.2.2]
 .rw [beq_eq h]
 .exact Bool.noConfusion h
mutual
theorem wav:∀{c d:C},eqC c d=true->c=d
 | .lit v,d,h=>by
  cases d <;> simp only [eqC,Bool.false_eq_true]at h
  rw [Uba h]
 | .slice es,d,h=>by
  cases d <;> simp only [eqC,Bool.false_eq_true]at h
  rw [ZI h]
 | .full es,d,h=>by
  cases d <;> simp only [eqC,Bool.false_eq_true]at h
  rw [ZI h]
 | .emp,d,h=>by
  cases d <;> simp only [eqC,Bool.false_eq_true]at h
  rfl
 | .ref cs,d,h=>by
  cases d <;> simp only [eqC,Bool.false_eq_true]at h
  rw [UV h]
 | .clo f cs,d,h=>by
  cases d <;> simp only [eqC,Bool.false_eq_true,zBA]at h
  rw [beq_eq h.1,UV h.2]
 | .own r v z o l,d,h=>by
  cases d <;> simp only [eqC,Bool.false_eq_true,zBA]at h
  obtain⟨⟨⟨⟨h1,h2⟩,h3⟩,h4⟩,h5⟩:=h;rw [beq_eq h1,beq_eq h2,beq_eq h3,beq_eq h4,beq_eq h5]
 | .ptr r v i o,d,h=>by
  cases d <;> simp only [eqC,Bool.false_eq_true,zBA]at h
  obtain⟨⟨⟨h1,h2⟩,h3⟩,h4⟩:=h;rw [beq_eq h1,beq_eq h2,beq_eq h3,beq_eq h4]
 | .any,d,h=>by cases d <;> simp only [eqC,Bool.false_eq_true]at h
theorem UV:∀{c d:List C},eqL c d=true->c=d
 | [],d,h=>by
  cases d <;> simp only [eqL,Bool.false_eq_true]at h
  rfl
 | c::l,d,h=>by
  cases d <;> simp only [eqL,Bool.false_eq_true,zBA]at h
  rw [wav h.1,UV h.2]
theorem ZI:∀{c d:List (List C)},eqR c d=true->c=d
 | [],d,h=>by
  cases d <;> simp only [eqR,Bool.false_eq_true]at h
  rfl
 | c::l,d,h=>by
  cases d <;> simp only [eqR,Bool.false_eq_true,zBA]at h
  rw [UV h.1,ZI h.2]
end
theorem VaO:∀{a b:AV},eqA a b=true->a=b
 | .one c,.one d,h=>by rw [wav (show eqC c d=true from h)]
 | .agg l,.agg m,h=>by rw [UV (show eqL l m=true from h)]
 | .one _,.agg _,h=>Bool.noConfusion h
 | .one _,.tup _,h=>Bool.noConfusion h
 | .one _,.any,h=>Bool.noConfusion h
 | .agg _,.one _,h=>Bool.noConfusion h
 | .agg _,.tup _,h=>Bool.noConfusion h
 | .agg _,.any,h=>Bool.noConfusion h
 | .tup _,b,h=>by cases b <;> exact Bool.noConfusion h
 | .any,b,h=>by cases b <;> exact Bool.noConfusion h
theorem vw:∀{a b:List AV},eqAs a b=true->a=b
 | [],[],_=>rfl
 | a::l,b::m,h=>by
  simp only [eqAs,zBA]at h;rw [VaO h.1,vw h.2]
 | [],_::_,h=>Bool.noConfusion h
 | _::_,[],h=>Bool.noConfusion h
theorem Xbb:∀{a b:Option Blk},eqB a b=true->a=b
 | none,none,_=>rfl
 | some ⟨es,z,l⟩,some ⟨es',z',l'⟩,h=>by
  simp only [eqB,zBA,beq_iff_eq]at h;rw [ZI h.1.1,beq_eq h.1.2,h.2]
 | none,some _,h=>Bool.noConfusion h
 | some _,none,h=>Bool.noConfusion h
theorem qaD:∀{a b:List (Nat×HB)},eqH a b=true->a=b
 | [],[],_=>rfl
 | (k,⟨v,b⟩)::l,(k',⟨v',b'⟩)::m,h=>by
  simp only [eqH,zBA]at h;rw [beq_eq h.1.1.1,beq_eq h.1.1.2,Xbb h.1.2,qaD h.2]
 | [],_::_,h=>Bool.noConfusion h
 | _::_,[],h=>Bool.noConfusion h
theorem Uaw:∀{l:List Nat} {h:Nat->HB} {r:Nat},r∉l->frz l h r=h r
 | [],h,r,_=>rfl
 | x::l,h,r,hr=>by
  simp only [List.mem_cons,not_or]at hr;show frz l (upd h x (h x).dead) r=h r;rw [Uaw hr.2];simp only [upd,if_neg hr.1]
theorem xak(hL:LvOk P L)(ht:TabOk P tab)(f:Nat):OSound P f (lookG λes args K=>∃r,lookF tab L f es args=some r/\K r):=by
  intro E args vals w I m h d K hr hargs hG;obtain⟨r,ver,es,z,rest,rfl,hb0,hes,hcl,y,hy,hk⟩:=hG;unfold lookF at hy;split at hy
  rotate_left
  . exact nos hy
  rename_i n ac rv e;obtain⟨fn,c,h1,h2,h3,h4,h5,h6,h7,h8⟩:=Qm ht e;have hr2:=(Za hy).2;have g1:=(Za hy).1;clear hy;simp only [zBA]at g1;have hn256:n<=256:=ua g1.1;have hlen:rest.length+1<=n:=ua g1.2;split at hr2
  rotate_left
  . exact nos hr2
  rename_i e1 t hcode;have g2:=(Za hr2).1;have hy:=(Za hr2).2;clear hr2;split at hy
  rotate_left
  . exact nos hy
  rename_i l b hraw hhat;have g3:=(Za hy).1;have hy:=(Za hy).2;simp only [zOM]at hy;obtain⟨ys,hdeep,rfl⟩:=hy;simp only [zBA,Bool.not_eq_true',List.isEmpty_eq_false_iff]at g3;obtain⟨⟨⟨g3,g4⟩,g5⟩,g6⟩:=g3;have k4:=beq_eq g4;have k5:=ZI g5;have hrb0:=hr.blk r ⟨es,z,true⟩ (by rw [hb0])
  have hz:(es.headD []).length=z:=by
    cases es with
    | nil=>exact(g6 rfl).elim
    | cons e0 l=>exact hrb0.sz e0 (List.mem_cons_self ..)
  rw [hz]at k4 hcode;have hbe:b=⟨es,z,true⟩:=by
    have:b=⟨b.es,b.z,b.live⟩:=rfl;rw [this,k5,k4,g3]
  subst hbe;have hver:m.ver r=ver:=by rw [hr.ver,hb0]
  generalize hF:(λt=>if t=pinA then m.blk r else none:Nat->Option (Nat×Nat))=F
  have hFp:F pinA=m.blk r:=by rw [<-hF];simp
  have hFs:∀t k z,F t=some (k,z)->t=pinA/\m.blk r=some (k,z):=by
    intro t k z ht;rw [<-hF]at ht;simp only at ht;split at ht
    . rename_i e;exact⟨e,ht⟩
    . simp at ht
  generalize hH:hget [(pinA,(⟨0,some ⟨es,z,true⟩⟩:HB))]=hh;have hHp:hh pinA=⟨0,some ⟨es,z,true⟩⟩:=by rw [<-hH,Xd];simp
  have hHs:∀t b,(hh t).blk=some b->t=pinA/\b=⟨es,z,true⟩:=by
    intro t b ht;rw [<-hH,Xd]at ht;split at ht
    . rename_i e;simp only [zOI]at ht;exact⟨e,ht.symm⟩
    . simp [ku]at ht
  have hHv:∀t,(hh t).ver=0:=by
    intro t;rw [<-hH,Xd];split <;> rfl
  generalize hm2:(⟨λ_=>0,F⟩:M)=m2;generalize hE:(⟨w,I,λk=>∃z,m.blk r=some (k,z),n,F,λ_=>undef⟩:Env)=E2;have ow:∀k,E2.Ow k->∃z,m.blk r=some (k,z):=by
    intro k hk;rw [<-hE]at hk;exact hk
  have hptr:∀v,RA m I w.heap (.one (.ptr r ver 0 0)) v->RA m2 I w.heap (.one (.ptr pinA 0 0 0)) v:=by
    intro v hv;cases hv.one_inv with
    | ptr _ _ _ _ A q1 q2=>
      refine .one _ _ (.ptr pinA 0 0 0 A (Nat.zero_le _) λ_ b' z' hb'=>q2 hver.symm b' z' ?_);rw [<-hm2]at hb';rw [<-hFp];exact hb'
  have hargs2:RAs m2 I w.heap (.one (.ptr pinA 0 0 0)::rest) vals:=by
    refine⟨by simpa using hargs.1,λi a v ha hv=>?_⟩
    cases i with
    | zero=>
      simp only [List.getElem?_cons_zero,zOI]at ha;subst ha;exact hptr v (hargs.2 0 _ v rfl hv)
    | succ i=>
      simp only [List.getElem?_cons_succ]at ha;exact(hargs.2 (i+1) a v (by simpa using ha) hv).any_mapV (hcl a (List.mem_of_getElem? ha)) m2
  refine calls_of_wp h1 h3 ?_;have hsim:Sim E2 ⟨mkV (argL 0 (.one (.ptr pinA 0 0 0)::rest)),hh⟩ { tmps:=(⟨vals⟩:Array Value)++Array.replicate (fn.ntmps-(⟨vals⟩:Array Value).size) undef,defers:=[] } w m2 I:=by
    have hlv:=hargs2.1;have hvl:vals.length<=n:=by rw [<-hlv];simpa using hlen
    refine⟨rfl,?_,λt=>vn (E:=E2) (by rw [<-hE]) (by show Array.size _<=_;simp [h4];omega) (Yi hargs2 t),?_⟩
    . rw [<-hE]
      simp [h4];omega
    . rw [<-hE,<-hm2]
      refine {
        ver:=λr'=>(hHv r').symm,blk:=λt' b hb=>?_,inj:=λt1 t2 k z z' q1 q2=>?_,lt:=λt' k z hm=>?_,
        imb:=hr.imb,grow:=Nat.le_refl _,keep:=λb hb _=>rfl,imm:=λb hb=>.inl hb,sup:=λb hb=>hb,i0:=λb hb=>⟨hr.imb b hb,λh=>?_⟩,
        liv:=λt' b k z hb hm=>?_,np:=h7,fx:=λt' b _ hb=>⟨rfl,λ_ _ _=>rfl⟩,os:=rfl,tape:=rfl,out:=rfl }
      . obtain⟨rfl,rfl⟩:=hHs t' b hb
        refine⟨hrb0.sz,λhm=>hrb0.virt (by rw [<-hFp];exact hm),λk z' hm=>?_⟩
        have hm' : m.blk r=some (k,z'):=by rw [<-hFp];exact hm
        obtain⟨q1,q2,q3,arr,ty,q4,q5⟩:=hrb0.real k z' hm';exact⟨q1,q2,q3,arr,ty,q4,λi j e c he hc=>let ⟨v,p1,p2⟩:=q5 i j e c he hc;⟨v,p1,p2.any_map (hes e (List.mem_of_getElem? he) c (List.mem_of_getElem? hc)) _⟩⟩
      . rw [(hFs _ _ _ q1).1,(hFs _ _ _ q2).1]
      . exact hr.lt _ _ _ (hFs _ _ _ hm).2
      . obtain⟨z',hz'⟩:=h
        exact(hrb0.real _ _ hz').2.1 rfl hb
      . exact .inr ⟨z,(hFs _ _ _ hm).2⟩
  have hw0:E2.w0=w:=by rw [<-hE]
  have hI0:E2.I0=I:=by rw [<-hE]
  have hEF:E2.F=F:=by rw [<-hE]
  have hEN:E2.N=n:=by rw [<-hE]
  have hstart:=QB (args:=.one (.ptr pinA 0 0 0)::rest) (by simp only [List.length_cons];omega) [(pinA,⟨0,some ⟨es,z,true⟩⟩)] 2048
  rw [hH]at hstart;rw [<-hstart]at hsim;refine(uz hL fuelC).1 ac c _ e1 t (λe' s'=>e' = e1/\s' = t.den) h5 h8 hcode ⟨rfl,rfl⟩ E2 _ w _ hEN (jz hsim) (λe' s' a' w' ⟨he,hs'⟩ hsp=>?_);subst he hs';have fin:a'.defers=[]/\∃v,(results fn a'.tmps).run P w' = .ok v w'/\∃v' r' h' m3 I3,Ending.returned v=.returned v'/\K r' h'/\RA m3 I3 w'.heap r' v'/\HR E m3 I3 w' h'/\Ext m I w.heap m3 I3 w'.heap:=by
    obtain⟨m',I',hs⟩:=hsp.sim;obtain⟨xs,vs,hres,hra,hxs⟩:=Vd (P:=P) hs h6 (Yo (K:=λxs=>xs=l) hraw rfl);subst hxs;obtain⟨I2,hh2,hx2,hfz⟩:=hs.heap.frz ((t.h.map (·.1)).filter λk=>k != pinA);have hnp:pinA∉(t.h.map (·.1)).filter λk=>k != pinA:=by simp
    have hf:Froz m' I2 t.den.h (hset t.h pinA ⟨0,none⟩):=λr v b hb=>by
      rw [UL]at hb;split at hb
      . simp at hb
      . rename_i hne
        refine⟨hb,λk z hm=>hfz r ?_ b k z (by show(hget t.h r).blk=_;rw [hb]) hm⟩
        rw [List.mem_filter];exact⟨UA _ _ _ _ hb,by simpa using hne⟩
    obtain⟨q1,q2⟩:=XG hs.heap hx2 hf hdeep hra;obtain⟨e2,e3⟩:=wn (Vk hhat);have hpb:(frz ((t.h.map (·.1)).filter λk=>k != pinA) t.den.h pinA).blk=some ⟨es,z,true⟩:=by rw [Uaw hnp];exact e3
    have place:m'.blk pinA=m.blk r/\∀k z,m.blk r=some (k,z)->bsize w'.heap k=bsize w.heap k:=by
      have:=hh2.fx pinA _ (Nat.le_refl _) hpb;rw [hEF,hFp]at this;exact⟨this.1,λk z hm=>by rw [<-hw0];exact this.2 k z hm⟩
    have notow:∀r' k z,r'≠r->m.blk r' = some (k,z)->¬E2.Ow k:=by
      intro r' k z hr' hm ho;obtain⟨z2,g2⟩:=ow k ho;exact hr' (hr.inj _ _ _ _ _ hm g2)
    have same:∀k,k<w.heap.size->¬E2.Ow k->w'.heap[k]?=w.heap[k]?:=λk hk ho=>by
      have:=hh2.keep k (by rw [hw0];exact hk) ho
      rwa [hw0]at this
    have ext:Ext m I w.heap m I2 w'.heap:=by
      refine⟨λr'=>.inl ⟨rfl,rfl,λk z hm=>?_⟩,λb hb=>hh2.sup b (by rw [hI0];exact hb),λb hb=>same b (hr.imb b hb) (λho=>?_)⟩
      . by_cases hmem:r' = r
        . subst hmem;exact place.2 k z hm
        . simp only [bsize,same k (hr.lt _ _ _ hm) (notow r' k z hmem hm)]
      . obtain⟨z2,g4⟩:=ow b ho
        exact(hrb0.real _ _ g4).2.1 rfl hb
    have imm2:∀b,I2 b->I b∨w.heap.size<=b∨E2.Ow b:=λb hb=>by
      have:=hh2.imm b hb
      rwa [hI0,hw0]at this
    have size:w.heap.size<=w'.heap.size:=by have:=hh2.grow;rwa [hw0]at this
    have liv:∀k,E2.Ow k->E.w0.heap.size<=k∨E.Ow k:=λk ho=>by
      obtain⟨z2,g4⟩:=ow k ho;exact hr.liv r ⟨es,z,true⟩ k z2 (by rw [hb0]) g4
    refine⟨hs.dfr,_,hres,_,resOf ys,h,m,I2,rfl,hk,VG (q1.any_map q2 m),?_,ext⟩;refine {
      ver:=hr.ver,blk:=λr' b hb=>?_,inj:=hr.inj,lt:=λr k z hm=>Nat.lt_of_lt_of_le (hr.lt _ _ _ hm) size,imb:=hh2.imb,grow:=Nat.le_trans hr.grow size,keep:=λb hb ho=>?_,imm:=λb hb=>?_,
      sup:=λb hb=>hh2.sup b (by rw [hI0];exact hr.sup b hb),i0:=hr.i0,liv:=hr.liv,np:=hr.np,fx:=λr' b hp hb=>?_,
      os:=by rw [hh2.os,hw0];exact hr.os,tape:=by rw [hh2.tape,hw0];exact hr.tape,out:=by rw [hh2.out,hw0];exact hr.out }
    . by_cases hmem:r' = r
      . subst hmem
        rw [hb0]at hb;simp only [zOI]at hb;subst hb;have hrb:=hh2.blk pinA _ hpb;have hp:=place.1;refine⟨hrb.sz,λhm=>hrb.virt (by rw [hp];exact hm),λk z' hm=>?_⟩
        obtain⟨p1,p2,p3,arr,ty,p4,p5⟩:=hrb.real k z' (by rw [hp];exact hm)
        exact⟨p1,p2,p3,arr,ty,p4,λi j e c he hc=>let ⟨v,t1,t2⟩:=p5 i j e c he hc;⟨v,t1,t2.any_map (hes e (List.mem_of_getElem? he) c (List.mem_of_getElem? hc)) _⟩⟩
      . have hrb:=hr.blk r' b hb
        refine⟨hrb.sz,hrb.virt,λk z hm=>?_⟩;obtain⟨p1,p2,p3,arr,ty,p4,p5⟩:=hrb.real k z hm;have hlt:=hr.lt _ _ _ hm;have hno:=notow r' k z hmem hm;refine⟨p1,λhl hi=>?_,λhl=>ext.i k (p3 hl),arr,ty,by rw [same k hlt hno];exact p4,λi j e c he hc=>let ⟨v,t1,t2⟩:=p5 i j e c he hc;⟨v,t1,t2.ext ext⟩⟩
        rcases imm2 k hi with h | h | h
        . exact p2 hl h
        . omega
        . exact hno h
    . by_cases ho2:E2.Ow b
      . rcases liv b ho2 with h | h
        . omega
        . exact(ho h).elim
      . rw [same b (Nat.lt_of_lt_of_le hb hr.grow) ho2]
        exact hr.keep b hb ho
    . rcases imm2 b hb with h | h | h
      . exact hr.imm b h
      . exact .inr (.inl (Nat.le_trans hr.grow h))
      . exact .inr (liv b h)
    . obtain⟨q1,q2⟩:=hr.fx r' b hp hb
      refine⟨q1,λk z hF=>?_⟩;rw [<-q2 k z hF];rcases ext.m r' with⟨_,_,q⟩ | q
      . exact q k z (by rw [q1];exact hF)
      . omega
  have hne:=zN g2;cases e' with
  | nrm=>exact fin
  | ret=>exact fin
  | exit i=>exact(hne i rfl).elim
structure BaseOk (P:Program) (B:Base):Prop where
 en:∀f args r,B.dat f args=some r->Enters P f
 eni:∀f args t r,B.inl f args t=some r->Enters P f
 enf:∀f args r,B.fresh f args=some r->Enters P f
 dat:∀f,DSound P f λargs K=>∃r,B.dat f args=some r/\K r
 inl:∀f,ISound P f λ_ args s K=>∃t r t',s=t.den/\B.inl f args t=some (r,t')/\K r t'.den
 fresh:∀f,FSound P f (B.z f) λargs K=>∃r,B.fresh f args=some r/\K r
theorem XaJ(ht:TabOk P tab){f:Nat}{args:List AV}{r:AV}(h:datFE tab L f args=some r):Enters P f:=by
 unfold datFE at h;split at h
 .rename_i n ac rv e;obtain⟨fn,c,h1,h2,h3,_⟩:=Qm ht e;exact Xa h1 h2 (by rw [h3];rfl)
 .exact nos h
theorem Ua0(ht:TabOk P tab){f:Nat}{args:List AV}{t:T}{r:AV×T}(h:inlE tab L f args t=some r):Enters P f:=by
 unfold inlE at h;split at h
 .rename_i n ac rv e;obtain⟨fn,c,h1,h2,h3,_⟩:=Qm ht e;exact Xa h1 h2 (by rw [h3];rfl)
 .exact nos h
theorem vaL(ht:TabOk P tab){f:Nat}{es:List (List C)}{args:List AV}{r:AV}(h:lookF tab L f es args=some r):Enters P f:=by
 unfold lookF at h;split at h
 .rename_i n ac rv e;obtain⟨fn,c,h1,h2,h3,_⟩:=Qm ht e;exact Xa h1 h2 (by rw [h3];rfl)
 .exact nos h
theorem yaD(ht:TabOk P tab){f:Nat}{args:List AV}{r:List (List C)}(h:freshF tab L f args=some r):Enters P f:=by
 unfold freshF at h;split at h
 .rename_i n ac rv e;obtain⟨fn,c,h1,h2,h3,_⟩:=Qm ht e;exact Xa h1 h2 (by rw [h3];rfl)
 .exact nos h
variable {B:Base}
theorem ja8(ht:TabOk P tab)(hB:BaseOk P B)(hL:LvOk P L)(hz:L.z=B.z)(k:Nat):LvOk P (lvS tab B k L):=by
 have dcase:∀{f:Nat} {args:List AV} {r:AV},(lvS tab B k L).dat f args=some r->L.dat f args=some r∨B.dat f args=some r∨datFE tab L f args=some r:=by
  intro f args r h;have h:sel (Nat.ble (B.rk f) k) (L.dat f args) (@Option.rec AV (λ_=>Option AV) (datFE tab L f args) some (B.dat f args))=some r:=h;rw [jj]at h;split at h
  .exact .inl h
  .cases e:B.dat f args with
   | none=>rw [e]at h;exact .inr (.inr h)
   | some x=>rw [e]at h;exact .inr (.inl h)
 have icase:∀{f:Nat} {args:List AV} {t:T} {r:AV×T},(lvS tab B k L).inl f args t=some r->B.inl f args t=some r∨inlE tab L f args t=some r:=by
  intro f args t r h;have h:@Option.rec (AV×T) (λ_=>Option (AV×T)) (inlE tab L f args t) some (B.inl f args t)=some r:=h;cases e:B.inl f args t with
  | none=>rw [e]at h;exact .inr h
  | some x=>rw [e]at h;exact .inl h
 have fcase:∀{f:Nat} {args:List AV} {r:List (List C)},(lvS tab B k L).fresh f args=some r->B.fresh f args=some r∨freshF tab L f args=some r:=by
  intro f args r h;have h:@Option.rec (List (List C)) (λ_=>Option (List (List C))) (freshF tab L f args) some (B.fresh f args)=some r:=h;cases e:B.fresh f args with
  | none=>rw [e]at h;exact .inr h
  | some x=>rw [e]at h;exact .inl h
 refine⟨λf args r h=>?_,λf args t r h=>?_,λf es args r h=>vaL ht h,λf args r h=>?_,λf=>?_,λf=>?_,xak hL ht,λf=>?_⟩
 .rcases dcase h with h | h | h
  .exact hL.en f args r h
  .exact hB.en f args r h
  .exact XaJ ht h
 .rcases icase h with h | h
  .exact hB.eni f args t _ h
  .exact Ua0 ht h
 .rcases fcase h with h | h
  .exact hB.enf f args r h
  .exact yaD ht h
 .intro args vals w I K h1 h2 h3 ⟨r,h,hk⟩;rcases dcase h with h | h | h
  .exact hL.dat f args vals w I K h1 h2 h3 ⟨r,h,hk⟩
  .exact hB.dat f args vals w I K h1 h2 h3 ⟨r,h,hk⟩
  .exact Wau hL ht f args vals w I K h1 h2 h3 ⟨r,h,hk⟩
 .intro E args vals s a w m I d K hs hargs ⟨t,r,t',e,h,hk⟩;rcases icase h with h | h
  .exact hB.inl f E args vals s a w m I d K hs hargs ⟨t,r,t',e,h,hk⟩
  .exact Xap hL ht f E args vals s a w m I d K hs hargs ⟨t,r,t',e,h,hk⟩
 .intro args vals w I K h1 h2 h3 ⟨r,h,hk⟩;rcases fcase h with h | h
  .exact hB.fresh f args vals w I K h1 h2 h3 ⟨r,h,hk⟩
  .have:=uY hL ht f args vals w I K h1 h2 h3 ⟨r,h,hk⟩;rw [hz]at this;exact this
theorem Wu(ht:TabOk P tab)(hB:BaseOk P B):∀n,LvOk P (lvE tab B n)/\(lvE tab B n).z=B.z
 | 0=>⟨⟨hB.en,λ_ _ _ _ h=>nos h,λ_ _ _ _ h=>nos h,hB.enf,hB.dat,λf E args vals s a w m I d K hs hargs ⟨t,r,t',e,h,hk⟩=>nos h,
   λf E args vals w I m h d K hr hargs ⟨r,ver,es,z,rest,_,_,_,_,y,hy,hk⟩=>nos hy,hB.fresh⟩,rfl⟩
 | n+1=>⟨ja8 ht hB (Wu ht hB n).1 (Wu ht hB n).2 n,rfl⟩
end Go.Abs
end
section
namespace Go.Abs
variable {P:Program} {F:Fence}
def Wd(F:Fence):Prop:=F=Fence.wide∨∃l,F=Fence.wide.inRound l
theorem Wd.fn(h:Wd F)(f:FuncId):F.fn f:=by rcases h with rfl | ⟨l,rfl⟩ <;> trivial
theorem Wd.dep(h:Wd F){p:Prop}:F.depth.isSome=true->p:=by rcases h with rfl | ⟨l,rfl⟩ <;> exact λh=>Bool.noConfusion h
theorem Wd.calls(h:Wd F){n:Nat}{f:FuncId}{args:Array Value}{w:World}{R:Ending->World->Prop}(hc:Calls P f args w R):CallsIn F n P f args w R:=by
 rcases h with rfl | ⟨l,rfl⟩
 .exact callsIn_wide.2 hc
 .exact callsIn_wide.2 hc
theorem WU{n:Nat}{row:String}{args:Array Value}{w:World}{R:Value->World->Prop}(hc:Rows P row args w R):RowsIn Fence.wide n P row args w R:=
 λc cs _=>let ⟨v,w',h1,h2⟩:=hc c cs;⟨v,w',h1,stepsIn_wide.2 h2⟩
theorem Wd.rows(h:Wd F){n:Nat}{row:String}{args:Array Value}{w:World}{R:Value->World->Prop}(hc:Rows P row args w R):RowsIn F n P row args w R:=by
 rcases h with rfl | ⟨l,rfl⟩
 .exact WU hc
 .exact WU hc
theorem QD(a:Act)(ds:List Deferred):(⟨a.tmps,ds⟩:Act).eval=a.eval:=funext λx=>by cases x <;> rfl
theorem yk(a:Act)(ds:List Deferred)(d:Option Tmp)(v:Value):(⟨a.tmps,a.defers++ds⟩:Act).put d v=⟨(a.put d v).tmps,(a.put d v).defers++ds⟩:=by
 cases d <;> rfl
theorem Qbk(hF:Wd F){o:Oper}{a:Act}{w:World}{next next' : Act->World->Prop}{Q Q' : Exit->Act->World->Prop}(hd:∀c,o.op≠.defer c)(ds:List Deferred){n:Nat}
  (hQ:∀e a w,Q e a w->e=.normal) (hn:∀a' w',next a' w'->next' ⟨a'.tmps,a'.defers++ds⟩ w') (h:o.wp P a w next Q):o.wpIn F n P ⟨a.tmps,a.defers++ds⟩ w next' Q':=by
 refine⟨λf _=>hF.fn f,?_⟩;rw [Oper.semAt_eq _ _ _ hd,QD];unfold Oper.wp at h;generalize (execOp a.eval o).run P w=r at h ⊢;have hlo:LetsOut Q->False:=λ⟨a,w,hq⟩=>by have:=hQ _ _ _ hq;simp at this
 have hcall:∀{f:FuncId} {args:Array Value} {w' : World},o.upon P a next Q (.ok (.enter f args) w')->o.uponIn F n P ⟨a.tmps,a.defers++ds⟩ next' Q' (.ok (.enter f args) w'):=by
  intro f args w' h;rw [Oper.uponIn_enter];rw [Oper.upon_enter]at h;refine⟨hF.dep,(hF.calls h).mono λe w'' hr=>?_⟩;cases e with
  | returned v=>simp only at hr ⊢;rw [yk];exact hn _ _ hr
  | panicked ch=>have:=hQ _ _ _ hr;simp at this
  | outgrown=>exact(hlo hr).elim
 cases r with
 | halt hh w'=>
  cases hh with
  | panic v=>have:=hQ _ _ _ (show Q (.panic [{ v,recovered:=false }]) a w' from h);simp at this
  | _=>exact(show False from h).elim
 | ok x w'=>
  cases x with
  | value v=>rw [Oper.uponIn_value,yk];exact hn _ _ h
  | skip=>rw [Oper.uponIn_skip,yk];exact hn _ _ h
  | defer d=>
   have h:next ({ a with defers:=d::a.defers }.put o.dst undef) w':=h
   rw [Oper.uponIn_defer];have:=yk { a with defers:=d::a.defers } ds o.dst undef
   simp only [List.cons_append]at this;rw [this];exact hn _ _ h
  | enter f args=>exact hcall h
  | row row args=>
   rw [Oper.uponIn_row];rw [Oper.upon_row]at h;exact⟨hF.dep,(hF.rows h).mono λv w'' hr=>by rw [yk];exact hn _ _ hr⟩
  | _=>exact(show False from h).elim
theorem YS(hF:Wd F){ops:Array Oper}{K:Act->World->Prop}{Q:Exit->Act->World->Prop}(ds:List Deferred){n:Nat}(hn:∀a' w',K a' w'->Q .normal ⟨a'.tmps,a'.defers++ds⟩ w') :
  ∀(L:List Nat),(∀i∈L,∀o,ops[i]?=some o->∀c,o.op≠.defer c)->∀(a:Act) (w:World),wpOps P ops (λe a w=>e=.normal/\K a w) L a w->wpOpsIn F n P ops Q L ⟨a.tmps,a.defers++ds⟩ w
 | [],_,a,w,h=>hn a w h.2
 | i::L,hL,a,w,h=>by
  have ih:=YS hF (Q:=Q) (n:=n) ds hn L λj hj=>hL j (List.mem_cons_of_mem _ hj);simp only [wpOps]at h;simp only [wpOpsIn];cases ho:ops[i]? with
  | none=>
   simp only [ho]at h;exact ih a w h
  | some o=>
   simp only [ho]at h;have hd:=hL i (List.mem_cons_self ..) o ho;by_cases hw:Region.wanted o (yielded ops a.tmps)=true
   .simp only [hw,if_true]at h;dsimp only;rw [if_pos hw];rcases h with h | ⟨_,a2,w2,h,_⟩
    .exact Qbk hF hd ds (λ_ _ _ h=>h.1) (λa' w' hk=>ih a' w' hk) h
    .simp at h
   .simp only [hw,if_false,Bool.false_eq_true]at h;dsimp only;rw [if_neg hw];refine⟨λf _=>hF.fn f,?_⟩;rw [yk];exact ih _ _ h
theorem vd{ops:Array Oper}{Q:Exit->Act->World->Prop}{n:Nat}:∀(L L' : List Nat) (a:Act) (w:World),wpOpsIn F n P ops (Exit.then (wpOpsIn F n P ops Q L') Q) L a w->wpOpsIn F n P ops Q (L++L') a w
 | [],L',a,w,h=>h
 | i::L,L',a,w,h=>by
  simp only [wpOpsIn,List.cons_append]at h ⊢;cases ho:ops[i]? with
  | none=>
   simp only [ho]at h;exact vd L L' a w h
  | some o=>
   simp only [ho]at h ⊢;have mono:∀{o:Oper} {a:Act} {w:World},o.wpIn F n P a w (wpOpsIn F n P ops (Exit.then (wpOpsIn F n P ops Q L') Q) L) (Exit.then (wpOpsIn F n P ops Q L') Q)->o.wpIn F n P a w (wpOpsIn F n P ops Q (L++L')) Q:=by
    intro o a w ⟨h1,h2⟩;refine⟨h1,?_⟩;generalize (o.semAt F.round a.eval).run P w=r at h2 ⊢;have hlo:LetsOut (Exit.then (wpOpsIn F n P ops Q L') Q)->LetsOut Q:=λh=>h;cases r with
    | halt hh w'=>cases hh <;> exact h2
    | ok x w'=>
     cases x with
     | value v=>exact vd L L' _ _ h2
     | skip=>exact vd L L' _ _ h2
     | defer d=>exact vd L L' _ _ h2
     | enter f args=>
      rw [Oper.uponIn_enter]at h2 ⊢;refine⟨h2.1,h2.2.mono λe w'' hr=>?_⟩;cases e with
      | returned v=>exact vd L L' _ _ hr
      | panicked ch=>exact hr
      | outgrown=>exact hr
     | row row args=>
      rw [Oper.uponIn_row]at h2 ⊢;exact⟨h2.1,h2.2.mono λv w'' hr=>vd L L' _ _ hr⟩
     | round l f tmps assign body=>
      rw [Oper.uponIn_round]at h2 ⊢;refine⟨h2.1,h2.2.mono λe w'' hr=>?_⟩;cases e with
      | returned v=>exact vd L L' _ _ hr
      | panicked ch=>exact hr
      | outgrown=>exact hr
     | _=>exact h2
   by_cases hw:Region.wanted o (yielded ops a.tmps)=true
   .rw [if_pos hw]at h ⊢;exact mono h
   .rw [if_neg hw]at h ⊢;exact⟨h.1,vd L L' _ _ h.2⟩
theorem zw{N id:Nat}{ops:Array Oper}{dr dr' : Bool}{l:List AO}(hc:compile P N (.region id ops dr)=some (.ops dr' l)) :
  dr' = dr/\∃l0,ops.toList.mapM (cAO P ops)=some l0/\(l=l0∨l=l0.map (claim l0)∨l=l0.map (claim2 l0)∨l=l0.map (claim3 l0)∨l=l0.map (claim4 l0)∨l=l0.map (claim5 l0)∨l=l0.map (claim6 l0))/\dstOk N l0=true/\(dr=true->orderOk ops l=true):=by
 simp only [compile,Option.bind_eq_bind,zOB]at hc;obtain⟨l0,hl0,hc⟩:=hc;have fin:∀{l1:List AO} {b:Bool},(pure (AC.ops dr l1):Option AC)=some (.ops dr' l)->(l1=l0∨l1=l0.map (claim l0)∨l1=l0.map (claim2 l0)∨l1=l0.map (claim3 l0)∨l1=l0.map (claim4 l0)∨l1=l0.map (claim5 l0)∨l1=l0.map (claim6 l0))->dstOk N l0=true->(dr=true->orderOkB b ops l1=true)->
   dr' = dr/\∃l0,ops.toList.mapM (cAO P ops)=some l0/\(l=l0∨l=l0.map (claim l0)∨l=l0.map (claim2 l0)∨l=l0.map (claim3 l0)∨l=l0.map (claim4 l0)∨l=l0.map (claim5 l0)∨l=l0.map (claim6 l0))/\dstOk N l0=true/\(dr=true->orderOk ops l=true):=by
  intro l1 b h h1 h2 h3;simp only [Option.pure_def,zOI,AC.ops.injEq]at h;obtain⟨rfl,rfl⟩:=h;exact⟨rfl,l0,hl0,h1,h2,λhd=>Qf (h3 hd)⟩
 split at hc
 .simp at hc
 rename_i hdst;have hdst:dstOk N l0=true:=by simpa using hdst
 split at hc
 .rename_i hord;exact fin hc (.inr (.inr (.inr (.inr (.inl rfl))))) hdst (b:=false) λ_=>by simp only [zBA]at hord;exact hord.2
 split at hc
 .rename_i hord;exact fin hc (.inr (.inr (.inr (.inr (.inr (.inr rfl)))))) hdst (b:=true) λ_=>by simp only [zBA]at hord;exact hord.2
 split at hc
 .rename_i hord;exact fin hc (.inl rfl) hdst (b:=false) λhd=>by subst hd;simpa using hord
 split at hc
 .rename_i hord;exact fin hc (.inr (.inl rfl)) hdst (b:=false) λ_=>hord
 split at hc
 .rename_i hord;exact fin hc (.inr (.inr (.inl rfl))) hdst (b:=false) λ_=>hord
 split at hc
 .rename_i hord;exact fin hc (.inr (.inr (.inr (.inl rfl)))) hdst (b:=false) λ_=>hord
 split at hc
 .rename_i hord;exact fin hc (.inr (.inl rfl)) hdst (b:=true) λ_=>hord
 split at hc
 .rename_i hord;exact fin hc (.inr (.inr (.inr (.inr (.inr (.inl rfl)))))) hdst (b:=true) λ_=>hord
 .simp at hc
theorem Vt{N id:Nat}{ops:Array Oper}{dr dr' : Bool}{l:List AO}(hc:compile P N (.region id ops dr)=some (.ops dr' l)) :
  l.length=ops.size/\∀i,i<ops.size->∃o,ops[i]?=some o/\Does P ops o ((l[i]?).getD default)/\∀k,o.dst=some k->k<N:=by
 obtain⟨_,l0,hl0,hl,hdst,_⟩:=zw hc;obtain⟨hlen0,hget⟩:=uO hl0;refine⟨by rcases hl with rfl | rfl | rfl | rfl | rfl | rfl | rfl <;> simp [hlen0],λi hi=>?_⟩
 obtain⟨ao,h1,h2⟩:=hget i ops[i] (by simp [hi])
 have hd0:=vaF h2;refine⟨ops[i],by simp [hi],?_,λk hk=>?_⟩
 .rcases hl with rfl | rfl | rfl | rfl | rfl | rfl | rfl
  .rw [h1];exact hd0
  .rw [List.getElem?_map,h1];exact hd0.claim l0
  .rw [List.getElem?_map,h1];exact hd0.claim2 l0
  .rw [List.getElem?_map,h1];exact hd0.claim3 l0
  .rw [List.getElem?_map,h1];exact hd0.claim4 l0
  .rw [List.getElem?_map,h1];exact hd0.claim5 l0
  .rw [List.getElem?_map,h1];exact hd0.claim6 l0
 .unfold dstOk at hdst;simp only [List.all_eq_true]at hdst;have:=hdst ao (List.mem_of_getElem? h1);rw [hd0.d,hk]at this;simpa using this
theorem YW{l:List AO}{n:Nat}(h:l.length=n):(List.range n).map (λi=>(l[i]?).getD default)=l:=by
 apply List.ext_getElem
 .simp [h]
 .intro i h1 h2;simp [h2]
def isBad:AOp->Bool
 | .bad=>true
 | _=>false
theorem Does.plain{ops:Array Oper}{o:Oper}{ao:AO}(h:Does P ops o ao)(hb:isBad ao.o=false)(c:Call):o.op≠.defer c:=by
 intro e;rcases h.op with h | ⟨op,h,_⟩
 .rw [h]at hb;exact Bool.noConfusion hb
 .simp [cOp,e]at h
variable {Γ:Nat->Spec} {E:Env} {s:S} {a:Act} {w:World} {m:M} {I:Nat->Prop} {K:S->Prop}
theorem zaM(hΓ:Holds P Γ)(hF:Wd F){N id:Nat}(hN:E.N=N){ops:Array Oper}{dr:Bool}{l:List AO}(hc:compile P N (.region id ops dr)=some (.ops dr l))(hnb:l.all (λo=>!isBad o.o)=true)
  (h:Sim E s a w m I) (hk:wpL Γ dr K l s) (ds:List Deferred) {n:Nat} {Q:Exit->Act->World->Prop} (hq:∀s' a' w' m' I',K s'->Sim E s' a' w' m' I'->Q .normal ⟨a'.tmps,ds⟩ w') :
  (Code.region id ops dr).wpIn F n P Q ⟨a.tmps,ds⟩ w:=by
 obtain⟨hlen,hdoes⟩:=Vt hc;obtain⟨_,l0,hl0,hl,hdst,hord⟩:=zw hc;have hmap:=YW hlen;have hbad:∀i,i<ops.size->isBad ((l[i]?).getD default).o=false:=by
  intro i hi;have:l[i]?=some l[i]:=List.getElem?_eq_getElem (by omega)
  rw [this];simp only [List.all_eq_true]at hnb;have:=hnb l[i] (List.getElem_mem _);simpa using this
 have hnd:∀L:List Nat,(∀i∈L,i<ops.size)->∀i∈L,∀o,ops[i]?=some o->∀c,o.op≠.defer c:=by
  intro L hL i hi o ho c;obtain⟨o',h1,h2,_⟩:=hdoes i (hL i hi);rw [ho]at h1;cases h1
  exact h2.plain (hbad i (hL i hi)) c
 have hw:∀{L:List Nat} {l:List AO} {w:World},Stands P ops E.N L l->Sim E s a w m I->wpL Γ dr K l s->wpOps P ops (λe a' w'=>e=.normal/\∃s' m' I',K s'/\Sim E s' a' w' m' I') L a w:=
  λhl h hk=>XX hΓ hl (λs' a' w' m' I' hk hs=>⟨rfl,s',m',I',hk,hs⟩) h hk
 have e0:(⟨a.tmps,ds⟩:Act)=⟨a.tmps,a.defers++ds⟩:=by rw [h.dfr];rfl
 have fin:∀(a' : Act) (w' : World),(∃s' m' I',K s'/\Sim E s' a' w' m' I')->Q .normal ⟨a'.tmps,a'.defers++ds⟩ w':=by
  intro a' w' ⟨s',m',I',hk,hs⟩;rw [hs.dfr];exact hq s' a' w' m' I' hk hs
 cases dr with
 | false=>
  refine wpIn_region ?_;rw [e0];refine YS hF ds fin _ (hnd _ λi hi=>List.mem_range.1 hi) a w (hw (l:=l) ?_ h hk);have:=Ql (P:=P) (ops:=ops) (N:=E.N) (f:=λi=>(l[i]?).getD default) (List.range ops.size) λi hi=>by rw [hN];exact hdoes i (List.mem_range.1 hi)
  rw [hmap]at this;exact this
 | true=>
  refine wpIn_region_draw λt=>?_;obtain⟨g1,g2,g3⟩:=orders hlen (hord rfl) (P.follows .mixedOrders) t;rw [e0];refine YS hF ds fin _ (hnd _ λi hi=>List.mem_range.1 ((g2 i).2 hi)) a _ (hw (Ql (P:=P) (f:=λi=>(l[i]?).getD default) _ λi hi=>by rw [hN];exact hdoes i (List.mem_range.1 ((g2 i).2 hi))) (h.draw _) ?_)
  rw [<-hmap]at hk;exact reorder hΓ.goods _ _ _ g1 List.pairwise_lt_range g2 g3 hk
def noBad:AC->Bool
 | .ops _ l=>l.all λo=>!isBad o.o
 | .seq a b=>noBad a && noBad b
 | .cond _ a b=>noBad a && noBad b
 | .block _ a=>noBad a
 | .loop a=>noBad a
 | _=>true
def After(E:Env)(ds:List Deferred)(R:Exit->Act->World->Prop)(e:Ex)(t:T):Prop:=∀a' w',Sp E t.den a' w'->R (exOf e) ⟨a'.tmps,ds⟩ w'
theorem Wv{L:Lv}(hL:LvOk P L)(hF:Wd F){N:Nat}:∀(n:Nat),
  (∀(ac:AC) (c:Code) (t:T) (e:Ex) (t' : T),compile P N c=some ac->okAC ac=true->noBad ac=true->codeE L n ac t=some (e,t')->∀(E:Env) (a:Act) (w:World) (ds:List Deferred) (k:Nat) (R:Exit->Act->World->Prop),E.N=N->Sp E t.den a w->After E ds R e t'->
   c.wpIn F k P R ⟨a.tmps,ds⟩ w)/\
  (∀(ac:AC) (c:Code) (t:T) (e:Ex) (t' : T),compile P N c=some ac->okAC ac=true->noBad ac=true->codeE L n (.loop ac) t=some (e,t')->∀(E:Env) (a:Act) (w:World) (ds:List Deferred) (k:Nat) (R:Exit->Act->World->Prop),E.N=N->Sp E t.den a w->After E ds R e t'->
   Code.roundsIn F k P c R n ⟨a.tmps,ds⟩ w):=by
 intro n
 induction n with
 | zero=>exact⟨λac c t e t' _ _ _ h=>nos h,λac c t e t' _ _ _ h=>nos h⟩
 | succ n ih=>
  obtain⟨ih1,ih2⟩:=ih;have seq:∀{x:Code} {a0:AC} {t:T} {g:T->Option (Ex×T)} {p:Ex×T},compile P N x=some a0->okAC a0=true->noBad a0=true->obind (codeE L n a0 t) (seqK g)=some p->
    ∀(E:Env) (a:Act) (w:World) (ds:List Deferred) (k:Nat) (R:Exit->Act->World->Prop) (M:Act->World->Prop),E.N=N->Sp E t.den a w->After E ds R p.1 p.2->(∀t1,g t1=some p->∀a' w',Sp E t1.den a' w'->M ⟨a'.tmps,ds⟩ w')->
    x.wpIn F k P (Exit.then M R) ⟨a.tmps,ds⟩ w:=by
   intro x a0 t g p hc hok hnb h E a w ds k R M hN hs hR hM;obtain⟨⟨e1,t1⟩,g1,g2⟩:=qa h;refine ih1 a0 x t e1 t1 hc hok hnb g1 E a w ds k _ hN hs λa' w' hs'=>?_;cases e1 with
   | nrm=>exact hM t1 g2 a' w' hs'
   | exit i=>
    cases (show some ((Ex.exit i,t1):Ex×T)=some p from g2)
    exact hR a' w' hs'
   | ret=>
    cases (show some ((Ex.ret,t1):Ex×T)=some p from g2)
    exact hR a' w' hs'
  have loop:∀(ac:AC) (c:Code) (t:T) (e:Ex) (t' : T),compile P N c=some ac->okAC ac=true->noBad ac=true->codeE L (n+1) (.loop ac) t=some (e,t')->∀(E:Env) (a:Act) (w:World) (ds:List Deferred) (k:Nat) (R:Exit->Act->World->Prop),E.N=N->Sp E t.den a w->After E ds R e t'->
    Code.roundsIn F k P c R (n+1) ⟨a.tmps,ds⟩ w:=by
   intro ac c t e t' hc hok hnb h E a w ds k R hN hs hR;rw [roundsIn_succ];exact seq hc hok hnb (show obind (codeE L n ac t) (seqK (codeE L n (.loop ac)))=some (e,t') from h) E a w ds k R _ hN hs hR λt1 h1 a' w' hs'=>ih2 ac c t1 e t' hc hok hnb h1 E a' w' ds k R hN hs' hR
  refine⟨λac c t e t' hc hok hnb h E a w ds k R hN hs hR=>?_,loop⟩;cases c with
  | skip=>
   simp only [compile,zOI]at hc;subst hc;cases (show some ((Ex.nrm,t):Ex×T)=some (e,t') from h)
   exact wpIn_skip (hR a w hs)
  | label l=>
   simp only [compile,zOI]at hc;subst hc;cases (show some ((Ex.nrm,t):Ex×T)=some (e,t') from h)
   exact wpIn_label (hR a w hs)
  | ret=>
   simp only [compile,zOI]at hc;subst hc;cases (show some ((Ex.ret,t):Ex×T)=some (e,t') from h)
   exact wpIn_ret (hR a w hs)
  | exit id=>
   simp only [compile,zOI]at hc;subst hc;cases (show some ((Ex.exit id,t):Ex×T)=some (e,t') from h)
   exact wpIn_exit (hR a w hs)
  | region id ops dr=>
   have hc0:=hc;simp only [compile,Option.bind_eq_bind,zOB]at hc;obtain⟨l0,hl0,hc⟩:=hc;have:∃l,ac=.ops dr l:=by
    repeat (split at hc <;> first | (simp at hc;done) | (simp only [Option.pure_def,zOI]at hc;exact⟨_,hc.symm⟩) | skip)
   obtain⟨l,rfl⟩:=this;simp only [okAC,List.all_eq_true]at hok;obtain⟨t1,h1,h2⟩:=yb (show omap (λt=>((Ex.nrm,t):Ex×T)) (aosE L dr l (prep t l))=some (e,t') from h);cases h2
   have hsw:=Xr t.h (mades l) t.n;obtain⟨m,I,hs1⟩:=hs.to (Wx _ hsw);rw [<-T.move_den t hsw]at hs1;exact zaM (K:=λs=>s=t'.den) (ut hL dr l) hF hN hc0 hnb hs1 (xG hL l hok h1 rfl) ds λs' a' w' m' I' hk hs'=>by subst hk;exact hR a' w' (jz hs')
  | seq x y=>
   simp only [compile,Option.bind_eq_bind,zOB,Option.pure_def,zOI]at hc;obtain⟨a0,ha,b,hb,rfl⟩:=hc;simp only [okAC,noBad,zBA]at hok hnb;refine wpIn_seq ?_;exact seq ha hok.1 hnb.1 (show obind (codeE L n a0 t) (seqK (codeE L n b))=some (e,t') from h) E a w ds k R _ hN hs hR λt1 h1 a' w' hs'=>ih1 b y t1 e t' hb hok.2 hnb.2 h1 E a' w' ds k R hN hs' hR
  | cond c0 x y=>
   simp only [compile,Option.bind_eq_bind,zOB,Option.pure_def,zOI]at hc;obtain⟨c1,hc1,a0,ha,b,hb,rfl⟩:=hc;simp only [okAC,noBad,zBA]at hok hnb;obtain⟨v,h1,h2⟩:=qa (show obind (lbE (t.ev c1)) (λw=>sel w (codeE L n a0 t) (codeE L n b t))=some (e,t') from h);have h1:=zaF h1;rw [T.ev_den]at h1;obtain⟨m,I,hs1⟩:=hs.sim;have hv:=hs1.ev hc1;rw [h1]at hv;refine wpIn_cond_split (t:=v) (by rw [QD];exact hv.lit_inv.1) (λev=>?_) (λev=>?_)
   .subst ev;exact ih1 a0 x t e t' ha hok.1 hnb.1 h2 E a w ds k R hN hs hR
   .subst ev;exact ih1 b y t e t' hb hok.2 hnb.2 h2 E a w ds k R hN hs hR
  | block id x=>
   simp only [compile,zOM]at hc;obtain⟨a0,ha,rfl⟩:=hc;obtain⟨⟨e1,t1⟩,h1,h2⟩:=qa (show obind (codeE L n a0 t) (blkK id)=some (e,t') from h);refine wpIn_block (ih1 a0 x t e1 t1 ha hok hnb h1 E a w ds k _ hN hs λa' w' hs'=>?_);cases e1 with
   | nrm=>
    cases (show some ((Ex.nrm,t1):Ex×T)=some (e,t') from h2)
    exact hR a' w' hs'
   | ret=>
    cases (show some ((Ex.ret,t1):Ex×T)=some (e,t') from h2)
    exact hR a' w' hs'
   | exit i=>
    have h2:sel (Nat.beq i id) (some ((Ex.nrm,t1):Ex×T)) (some (.exit i,t1))=some (e,t'):=h2;simp only [exOf,Exit.inBlock];rw [jj]at h2;split at h2
    .rename_i hb;cases h2
     rw [if_pos (beq_eq hb)];exact hR a' w' hs'
    .rename_i hb;cases h2
     rw [if_neg (λe=>hb (by rw [e];exact Nat.beq_refl _))]
     exact hR a' w' hs'
  | loop x=>
   simp only [compile,zOM]at hc;obtain⟨a0,ha,rfl⟩:=hc;exact wpIn_loop_rounds (n+1) (loop a0 x t e t' ha hok hnb h E a w ds k R hN hs hR)
  | _=>simp [compile]at hc
end Go.Abs
end
section
namespace Go.Abs
variable {P:Program} {E E' : Env} {s:S} {a:Act} {w w' : World} {m:M} {I:Nat->Prop} {h:Nat->HB}
theorem HR.turn(hr:HR E m I w h)(hN:E'.N<=pinA)(h0:E'.I0=E.I0)(h1:E'.Ow=E.Ow)(h2:E'.F=E.F)(hs:E'.w0.heap.size=E.w0.heap.size)(hsz:w.heap.size<=w'.heap.size)(hI:∀b,I b->w'.heap[b]?=w.heap[b]?)(hM:∀r k z,m.blk r=some (k,z)->w'.heap[k]?=w.heap[k]?)
  (hk:∀b,b<E.w0.heap.size->¬E.Ow b->w'.heap[b]?=E'.w0.heap[b]?) (hb:∀k,bsize E'.w0.heap k=bsize E.w0.heap k) (ho:w'.os=E'.w0.os) (ht:w'.tape=E'.w0.tape) (hout:w'.output=E'.w0.output) :
  HR E' m I w' h/\Ext m I w.heap m I w'.heap:=by
 have hx:Ext m I w.heap m I w'.heap:=⟨λr=>.inl ⟨rfl,rfl,λb z hbz=>by simp only [bsize,hM r b z hbz]⟩,λ_ hb=>hb,hI⟩
 refine⟨⟨hr.ver,λr b hb=>?_,hr.inj,λr k z hm=>Nat.lt_of_lt_of_le (hr.lt r k z hm) hsz,λb hb=>Nat.lt_of_lt_of_le (hr.imb b hb) hsz,by rw [hs];exact Nat.le_trans hr.grow hsz,λb hb ho=>?_,λb hb=>?_,λb hb=>hr.sup b (by rw [<-h0];exact hb),
  λb hb=>?_,λr b k z hb hm=>?_,hN,λr b hp hb'=>?_,ho,ht,hout⟩,hx⟩
 .have q:=hr.blk r b hb;refine⟨q.sz,q.virt,λk z hm=>?_⟩;obtain⟨q1,q2,q3,arr,ty,q4,q5⟩:=q.real k z hm;exact⟨q1,q2,q3,arr,ty,(hM r k z hm).trans q4,λi j e c he hc=>let ⟨v,t1,t2⟩:=q5 i j e c he hc;⟨v,t1,t2.ext hx⟩⟩
 .rw [hs]at hb;rw [h1]at ho;exact hk b hb ho
 .rw [h0,hs,h1];exact hr.imm b hb
 .rw [hs,h1];exact hr.i0 b (by rw [<-h0];exact hb)
 .rw [hs,h1];exact hr.liv r b k z hb hm
 .obtain⟨q1,q2⟩:=hr.fx r b hp hb';rw [h2];refine⟨q1,λk z hF=>?_⟩;rw [hb k,<-q2 k z hF];simp only [bsize,hM r k z (by rw [q1];exact hF)]
theorem Sim.turn(hs:Sim E s a w m I)(hEN:E'.N=E.N)(hEX:E'.X=E.X)(hr:HR E' m I w' s.h/\Ext m I w.heap m I w'.heap):Sim E' s a w' m I:=
 ⟨hs.dfr,hs.siz.trans hEN.symm,λt=>by
  have:E'.val a t=E.val a t:=by simp only [Env.val,hEX]
  rw [this];exact(hs.slot t).ext hr.2,hr.1⟩
theorem Sim.more(hs:Sim E s a w m I)(hsz:w.heap.size<=w'.heap.size)(he:∀b,b<w.heap.size->w'.heap[b]?=w.heap[b]?)(ho:w'.os=w.os)(ht:w'.tape=w.tape)(hout:w'.output=w.output):Sim E s a w' m I:=
 hs.turn rfl rfl (hs.heap.turn hs.heap.np rfl rfl rfl rfl hsz (λb hb=>he b (hs.heap.imb b hb)) (λr k z hm=>he k (hs.heap.lt r k z hm)) (λb hb h=>(he b (Nat.lt_of_lt_of_le hb hs.heap.grow)).trans (hs.heap.keep b hb h)) (λ_=>rfl) (ho.trans hs.heap.os) (ht.trans hs.heap.tape) (hout.trans hs.heap.out))
def Env.root(E:Env)(w:World)(m:M)(I:Nat->Prop)(h:Nat->HB):Env:=
 ⟨w,λb=>I b/\¬∃r x z,(h r).blk=some x/\m.blk r=some (b,z),λk=>∃r x z,(h r).blk=some x/\m.blk r=some (k,z),E.N,E.F,E.X⟩
theorem Sim.root(hs:Sim E s a w m I):Sim (E.root w m I s.h) s a w m I:=by
 have hr:=hs.heap;exact⟨hs.dfr,hs.siz,hs.slot,hr.ver,hr.blk,hr.inj,hr.lt,hr.imb,Nat.le_refl _,λb _ _=>rfl,λb hb=>(Classical.em (∃r x z,(s.h r).blk=some x/\m.blk r=some (b,z))).elim (λh=>.inr (.inr h)) (λh=>.inl ⟨hb,h⟩),λb hb=>hb.1,
  λb hb=>⟨hr.imb b hb.1,hb.2⟩,λr b k z hb hm=>.inr ⟨r,b,z,hb,hm⟩,hr.np,λr b hp hb=>⟨(hr.fx r b hp hb).1,λ_ _ _=>rfl⟩,rfl,rfl,rfl⟩
theorem HR.unroot(h0:HR E m I w h){E2:Env}{w1:World}{m' : M}{I' : Nat->Prop}{h' : Nat->HB}(hE:E2.I0=(E.root w1 m I h).I0/\E2.Ow=(E.root w1 m I h).Ow/\E2.F=E.F)(hsz:w.heap.size<=E2.w0.heap.size)(he:∀b,b<w.heap.size->E2.w0.heap[b]?=w.heap[b]?)
  (ho:E2.w0.os=w.os) (ht:E2.w0.tape=w.tape) (hout:E2.w0.output=w.output) (hr:HR E2 m' I' w' h') (hpin:∀r,pinA<=r->(h' r).blk=none):HR E m' I' w' h':=by
 obtain⟨e1,e2,e3⟩:=hE;have liv:∀b,E2.Ow b->E.w0.heap.size<=b∨E.Ow b:=λb hb=>by
  rw [e2]at hb;obtain⟨r,x,z,g1,g2⟩:=hb;exact h0.liv r x b z g1 g2
 have hg:E.w0.heap.size<=E2.w0.heap.size:=Nat.le_trans h0.grow hsz;refine⟨hr.ver,hr.blk,hr.inj,hr.lt,hr.imb,Nat.le_trans hg hr.grow,λb hb hno=>?_,λb hb=>?_,λb hb=>?_,h0.i0,λr b k z hb hm=>?_,h0.np,λr b hp hb=>?_,?_,?_,?_⟩
 .have hno2:¬E2.Ow b:=λh=>by
   rcases liv b h with h | h
   .omega
   .exact hno h
  have hbw:b<w.heap.size:=Nat.lt_of_lt_of_le hb h0.grow;rw [hr.keep b (Nat.lt_of_lt_of_le hb hg) hno2,he b hbw];exact h0.keep b hb hno
 .rcases hr.imm b hb with h | h | h
  .rw [e1]at h;exact h0.imm b h.1
  .exact .inr (.inl (Nat.le_trans hg h))
  .exact .inr (liv b h)
 .refine hr.sup b ?_;rw [e1];refine⟨h0.sup b hb,λ⟨r,x,z,g1,g2⟩=>?_⟩;obtain⟨q1,q2⟩:=h0.i0 b hb;rcases h0.liv r x b z g1 g2 with h | h
  .omega
  .exact q2 h
 .rcases hr.liv r b k z hb hm with h | h
  .exact .inl (Nat.le_trans hg h)
  .exact liv k h
 .rw [hpin r hp]at hb;simp at hb
 .rw [hr.os,ho,h0.os]
 .rw [hr.tape,ht,h0.tape]
 .rw [hr.out,hout,h0.out]
structure Free (E:Env) (l:Nat) (o:Obj):Prop where
 lt:E.w0.heap[l]?=some o
 ow:¬E.Ow l
 i0:¬E.I0 l
 no:bsize E.w0.heap l=0
theorem Free.at{l:Nat}{o:Obj}(hf:Free E l o)(hr:HR E m I w h):w.heap[l]?=some o:=by
 have:=hf.lt;rw [hr.keep l (Array.getElem?_eq_some_iff.1 this).1 hf.ow];exact this
theorem UC{w:World}{l:Nat}{o o' : Obj}(hl:w.heap[l]?=some o)(h0:bsize w.heap l=0)(h1:∀arr ty fz,o'≠.cells arr ty fz)(k:Nat):bsize (w.putObj l o').heap k=bsize w.heap k:=by
 by_cases e:k=l
 .subst e;rw [h0];simp only [bsize,World.putObj_heap_same (Array.getElem?_eq_some_iff.1 hl).1];cases o' <;> simp_all
 .simp only [bsize,World.putObj_heap_other e]
theorem Sim.putO(hs:Sim E s a w m I){l:Nat}{o o' : Obj}(hf:Free E l o)(h1:∀arr ty fz,o'≠.cells arr ty fz):Sim { E with w0:=E.w0.putObj l o' } s a (w.putObj l o') m I:=by
 have hr:=hs.heap;have hlt:=(Array.getElem?_eq_some_iff.1 hf.lt).1;have hni:¬I l:=λh=>by
  rcases hr.imm l h with h | h | h
  .exact hf.i0 h
  .omega
  .exact hf.ow h
 have hnm:∀r k z,m.blk r=some (k,z)->(s.h r).blk≠none->k≠l:=by
  intro r k z hm hb e;subst e;cases hx:(s.h r).blk with
  | none=>exact hb hx
  | some x=>
   rcases hr.liv r x k z hx hm with h | h
   .omega
   .exact hf.ow h
 have hx:Ext m I w.heap m I (w.putObj l o').heap:=by
  refine⟨λr=>.inl ⟨rfl,rfl,λb z hm=>?_⟩,λ_ h=>h,λb hb=>World.putObj_heap_other λe=>hni (e▸hb)⟩;by_cases e:b=l
  .subst e;have hz:bsize w.heap b=0:=by
    have e2:=hf.at hr;have e3:=hf.lt;have:=hf.no;simp only [bsize,e2,e3]at this ⊢;exact this
   exact UC (hf.at hr) hz h1 b
  .simp only [bsize,World.putObj_heap_other e]
 refine⟨hs.dfr,hs.siz,λt=>(hs.slot t).ext hx,hr.ver,λr b hb=>?_,hr.inj,λr k z hm=>by rw [World.putObj_size];exact hr.lt r k z hm,λb hb=>by rw [World.putObj_size];exact hr.imb b hb,by rw [World.putObj_size,World.putObj_size];exact hr.grow,
  λb hb ho=>?_,λb hb=>by rw [World.putObj_size];exact hr.imm b hb,hr.sup,λb hb=>by rw [World.putObj_size];exact hr.i0 b hb,λr b k z hb hm=>by rw [World.putObj_size];exact hr.liv r b k z hb hm,hr.np,λr b hp hb=>?_,hr.os,hr.tape,hr.out⟩
 .have q:=hr.blk r b hb;refine⟨q.sz,q.virt,λk z hm=>?_⟩;obtain⟨q1,q2,q3,arr,ty,q4,q5⟩:=q.real k z hm;have hne:k≠l:=hnm r k z hm (by rw [hb];simp)
  exact⟨q1,q2,q3,arr,ty,by rw [World.putObj_heap_other hne];exact q4,λi j e c he hc=>let ⟨v,t1,t2⟩:=q5 i j e c he hc;⟨v,t1,t2.ext hx⟩⟩
 .rw [World.putObj_size]at hb;by_cases e:b=l
  .subst e;rw [World.putObj_heap_same hlt,World.putObj_heap_same (Nat.lt_of_lt_of_le hlt hr.grow)]
  .rw [World.putObj_heap_other e,World.putObj_heap_other e];exact hr.keep b hb ho
 .obtain⟨q1,q2⟩:=hr.fx r b hp hb;refine⟨q1,λk z hF=>?_⟩;have hm:m.blk r=some (k,z):=by rw [q1];exact hF
  have hne:k≠l:=hnm r k z hm (by rw [hb];simp)
  have:=q2 k z hF;simp only [bsize,World.putObj_heap_other hne]at this ⊢;exact this
theorem Free.putSame{l:Nat}{o o' : Obj}(hf:Free E l o)(h1:∀arr ty fz,o'≠.cells arr ty fz):Free { E with w0:=E.w0.putObj l o' } l o':=
 ⟨World.putObj_heap_same (Array.getElem?_eq_some_iff.1 hf.lt).1,hf.ow,hf.i0,by rw [UC hf.lt hf.no h1];exact hf.no⟩
theorem Free.putOther{l k:Nat}{o o' o2:Obj}(hf:Free E k o2)(hl:Free E l o)(hne:k≠l)(h1:∀arr ty fz,o'≠.cells arr ty fz):Free { E with w0:=E.w0.putObj l o' } k o2:=
 ⟨by rw [World.putObj_heap_other hne];exact hf.lt,hf.ow,hf.i0,by rw [UC hl.lt hl.no h1];exact hf.no⟩
theorem pin256:256<=pinA:=by decide
attribute [local irreducible] pinA
def Env.up(E:Env)(a:Act)(n:Nat):Env:=⟨E.w0,E.I0,E.Ow,n,E.F,λt=>E.val a (t-pinA)⟩
def Env.dn(E:Env)(E0:Env):Env:=⟨E.w0,E.I0,E.Ow,E0.N,E.F,E0.X⟩
theorem jS{t:T}{args:List AV}{vals:List Value}{n:Nat}(hs:Sim E t.den a w m I)(hargs:RAs m I w.heap args vals)(hlen:args.length<=n)(hn:n<=256) :
  Sim (E.up a n) (T.mk (argT args 0 .e) (t.v::t.x) t.h t.n).den { tmps:=(⟨vals⟩:Array Value)++Array.replicate (n-(⟨vals⟩:Array Value).size) undef,defers:=[] } w m I:=by
 have hlv:args.length=vals.length:=hargs.1;refine⟨rfl,?_,λk=>?_,hs.heap.env rfl rfl rfl rfl (Nat.le_trans hn pin256)⟩
 .show Array.size _=n;have hl2:vals.length<=n:=by rw [<-hlv];exact hlen
  rw [Array.size_append,Array.size_replicate];show vals.length+(n-vals.length)=n;exact Nat.add_sub_cancel' hl2
 .show RA m I w.heap (farV (argT args 0 .e::t.v::t.x) k) _;rw [zf];have hp:=pin256;by_cases hk:k<256
  .rw [if_pos hk,uZ (by omega) hk]
   have q:=Yi (n:=n-(⟨vals⟩:Array Value).size) hargs k;rw [Env.val,if_pos (Nat.lt_of_lt_of_le hk hp)];exact q
  .rw [if_neg hk];by_cases hk3:pinA<=k
   .rw [if_pos hk3,Env.val,if_neg (by omega)]
    exact hs.slot (k-pinA)
   .rw [if_neg hk3];exact .any _
theorem xF{E0:Env}{t:T}{a' : Act}{v:Tr}{x:List Tr}(hX:E.X=λt=>E0.val a (t-pinA))(hs:Sim E t.den a' w m I)(hx:t.x=v::x)(hd:a.defers=[])(hz:a.tmps.size=E0.N)(hp:E0.N<=pinA) :
  Sim (E.dn E0) (T.mk v x t.h t.n).den a w m I:=by
 refine⟨hd,hz,λk=>?_,hs.heap.env rfl rfl rfl rfl hp⟩;have q:=hs.slot (k+pinA);have e1:t.den.v (k+pinA)=(T.mk v x t.h t.n).den.v k:=by
  show farV (t.v::t.x) (k+pinA)=farV (v::x) k;rw [Q5,hx]
 have e2:E.val a' (k+pinA)=(E.dn E0).val a k:=by
  rw [Env.val,if_neg (by omega),hX]
  show E0.val a (k+pinA-pinA)=_;rw [Nat.add_sub_cancel];rfl
 rw [e1,e2]at q;exact q
theorem yaw{E0:Env}{t:T}{a' : Act}{v:Tr}{x:List Tr}(hX:E.X=λt=>E0.val a (t-pinA))(hs:Sim E t.den a' w m I)(hx:t.x=v::x)(hz:a.tmps.size=E0.N)(hp:E0.N<=pinA) :
  Sim (E.up a' E0.N) (T.mk v (t.v::t.x) t.h t.n).den { tmps:=a.tmps,defers:=[] } w m I:=by
 refine⟨rfl,hz,λk=>?_,hs.heap.env rfl rfl rfl rfl hp⟩;show RA m I w.heap (farV (v::t.v::t.x) k) _;rw [zf];have hp:=pin256;by_cases hk:k<256
 .rw [if_pos hk,Env.val,if_pos (Nat.lt_of_lt_of_le hk hp)];have q:=hs.slot (k+pinA);have e1:t.den.v (k+pinA)=v.get k:=by
   show farV (t.v::t.x) (k+pinA)=_;rw [Q5,hx,zf,if_pos hk]
  rw [e1,Env.val,if_neg (by omega),hX]at q
  have e3:E0.val a (k+pinA-pinA)=a.tmps.getD k undef:=by
   rw [Nat.add_sub_cancel,Env.val,if_pos (Nat.lt_of_lt_of_le hk hp)]
  simp only [e3]at q;exact q
 .rw [if_neg hk];by_cases hk3:pinA<=k
  .rw [if_pos hk3,Env.val,if_neg (by omega)]
   exact hs.slot (k-pinA)
  .rw [if_neg hk3];exact .any _
end Go.Abs
end
section
namespace Go.Abs
variable {P:Program} {E:Env} {s:S} {a:Act} {w:World} {m:M} {I:Nat->Prop}
theorem Wav{o:Oper}{f' : Opd}{l' : List Opd}(h:cOp P o=some (.callv f' l')):∃c f,o.op=.call c/\c.callee=.value f/\cOpd f=some f'/\cOpds c.args.toList=some l':=by
 cases ho:o.op with
 | call c=>
  cases hc:c.callee with
  | value f=>
   cases f with
   | func g=>
    simp only [cOp,ho,hc,Option.bind_eq_bind,zOB]at h;obtain⟨fn,_,h⟩:=h;repeat' (first | contradiction | (simp [zOB,zOM]at h;done) | split at h)
   | _=>
    simp only [cOp,ho,hc,Option.bind_eq_bind,zOB,Option.pure_def,zOI,AOp.callv.injEq]at h;obtain⟨x,h1,y,h2,rfl,rfl⟩:=h;exact⟨c,_,rfl,hc,h1,h2⟩
  | builtin b=>
   cases b <;> simp only [cOp,ho,hc]at h <;> (repeat' (first | contradiction | (simp [zOB,zOM]at h;done) | split at h))
  | _=>
   simp only [cOp,ho,hc]at h;repeat' (first | contradiction | (simp [zOB,zOM]at h;done) | split at h)
 | _=>
  simp only [cOp,ho]at h;repeat' (first | contradiction | (simp [zOB,zOM]at h;done) | split at h)
attribute [local irreducible] pinA
theorem Z5{op:AOp}{f:Opd}{l:List Opd}(h:plainOp (.callv f l)=plainOp op):op=.callv f l:=by
 cases op <;> simp_all [plainOp]
def recB(r:Loop):Loop:={ r with state:=.busy }
def recD(r:Loop):Loop:={ recB r with state:=.done,pending:=some .ret }
def Env.done(E:Env)(l:Nat)(r:Loop):Env:={ E with w0:=(E.w0.putObj l (.loop (recB r))).putObj l (.loop (recD r)) }
theorem zj(r:Loop):∀arr ty fz,Obj.loop r≠.cells arr ty fz:=λ_ _ _ h=>by cases h
theorem Free.done{l:Nat}{r:Loop}(h:Free E l (.loop r)):Free (E.done l r) l (.loop (recD r)):=Free.putSame (E:={ E with w0:=E.w0.putObj l (.loop (recB r)) }) (h.putSame (zj _)) (zj _)
theorem Free.done_other{l k:Nat}{r:Loop}{o:Obj}(h:Free E l (.loop r))(hk:Free E k o)(hne:k≠l):Free (E.done l r) k o:=
 Free.putOther (E:={ E with w0:=E.w0.putObj l (.loop (recB r)) }) (hk.putOther h hne (zj _)) (h.putSame (zj _)) hne (zj _)
structure Rnd (P:Program) (N p1 p2:Nat) (cA:Code) (aA:AC):Prop where
 cA:compile P N cA=some aA
 okA:okAC aA=true
 nbA:noBad aA=true
 p1:p1<N
 p2:p2<N
 N:N<=256
def Walks(F:Fence)(P:Program)(N:Nat)(c:Code)(t:T)(e:Ex)(t' : T):Prop:=
 ∀(E:Env) (a:Act) (w:World) (k:Nat) (R:Exit->Act->World->Prop),E.N=N->Sp E t.den a w->(∀a' w',Sp E t'.den a' w'->R (exOf e) a' w')->c.wpIn F k P R a w
theorem Ww{a:Act}(h:a.defers=[]):a=⟨a.tmps,[]⟩:=by cases a;simp only at h;rw [h]
theorem qaN{L:Lv}(hL:LvOk P L){n k l d j p q:Nat}{E2 E0:Env}{aP aI:Act}{t t2 t3:T}{v v4:Tr}{x x4:List Tr}{g:Option (Nat×Bool)}{r:Loop}{p1 p2:Nat}{aA:AC}{ops:Array Oper}{o:Oper}{next:Act->World->Prop}{Q:Exit->Act->World->Prop}
  (hX:E2.X=λt=>E0.val aP (t-pinA)) (hz:aP.tmps.size=E0.N) (hR:Rnd P E0.N p1 p2 r.assign aA) (hrt:r.tmps=aP.tmps) (hrs:r.state=.ready) (hrp:r.params = #[p1,p2])
  (hs:Sim E2 t.den aI w m I) (hx:t.x=v::x) (hf:Free E2 l (.loop r)) (hdo:Does P ops o ⟨some d,g,.callv (.t j) [.t p,.t q]⟩) (hd:d<E2.N) (hd2:d<256)
  (hj:t.get j=.one (.lit (.func (.yield l) #[] #[])))
  (hA:codeE L n aA (((T.mk v (t.v::t.x) t.h t.n).put (some p1) (t.get p)).put (some p2) (t.get q))=some (.nrm,t2)) (hB:Walks (Fence.wide.inRound l) P E0.N r.body t2 .ret t3) (hx3:t3.x=v4::x4)
  (hK:∀w' m' I',Sim (E2.done l r) ((T.mk v4 x4 t3.h t3.n).put (some d) (.one (.lit (.bool false)))).den (aI.put (some d) (.bool false)) w' m' I'->next (aI.put (some d) (.bool false)) w') :
  o.wpIn Fence.wide k P aI w next Q:=by
 have hdst:o.dst=some d:=hdo.d.symm;obtain⟨op,hop,hpl⟩:=hdo.op.resolve_left (by simp)
 have:=Z5 hpl;subst this;obtain⟨c,f,hoc,hcal,hf',hl'⟩:=Wav hop;have hv:=hs.ev hf';rw [show t.den.ev (.t j)=.one (.lit (.func (.yield l) #[] #[])) by rw [<-T.ev_den];exact hj]at hv
 have hv:=hv.lit_inv.1;have hargs:=Ux hs _ _ hl';have hlen:c.args.size=2:=by
  have:=hargs.1;simpa using this.symm
 obtain⟨y1,y2,hys⟩:∃y1 y2,c.args.map aI.eval = #[y1,y2]:=by
  have h2:(c.args.map aI.eval).size=2:=by simp [hlen]
  refine⟨(c.args.map aI.eval)[0],(c.args.map aI.eval)[1],?_⟩;apply Array.ext
  .simp [hlen]
  .intro i h3 h4;have:i=0∨i=1:=by omega
   rcases this with rfl | rfl <;> rfl
 have hyl:c.args.toList.map aI.eval=[y1,y2]:=by
  have:=congrArg Array.toList hys;simpa using this
 rw [hyl]at hargs;have ha1:RA m I w.heap (t.get p) y1:=by
  have:=hargs.2 0 _ _ rfl rfl;rw [T.get_den];exact this
 have ha2:RA m I w.heap (t.get q) y2:=by
  have:=hargs.2 1 _ _ rfl rfl;rw [T.get_den];exact this
 have hrec:=hf.at hs.heap;refine⟨λ_ _=>trivial,?_⟩;have hrun:(o.semAt Fence.wide.round aI.eval).run P w=.ok (.round l r.fn (((aP.tmps).setIfInBounds p1 y1).setIfInBounds p2 y2) r.assign r.body) w:=by
  have hy:=run_yield (P:=P) (args:=#[y1,y2]) hrec (by rw [hrp];rfl)
  rw [hrp,hrt]at hy;show(execOp aI.eval o).run P w=_;simp only [execOp,hoc,resolve,hcal,hv,Deferred.ofValue,invoke,Sem.run_bind,Sem.run_pure,Result.andThen];simp [hys];simp at hy;exact hy
 rw [hrun,Oper.uponIn_round];refine⟨λh=>(by cases h),?_⟩
 refine roundIn_of_wpIn trivial ?_;have hW:Wd (Fence.wide.inRound l):=.inr ⟨l,rfl⟩;have hs0:=yaw hX hs hx hz (Nat.le_trans hR.N pin256);have hlow:∀{p1:Nat},p1<E0.N->∀k,some p1=some k->k<256:=λh k e=>by cases e;exact Nat.lt_of_lt_of_le h hR.N
 have hs1:=(hs0.put (d:=some p1) ha1 (λk e=>by cases e;exact hR.p1)).put (d:=some p2) ha2 (λk e=>by cases e;exact hR.p2)
 rw [<-T.put_den _ (hlow hR.p1),<-T.put_den _ (hlow hR.p2)]at hs1;refine(Wv hL hW n).1 aA r.assign _ .nrm t2 hR.cA hR.okA hR.nbA hA (E2.up aI E0.N) ⟨(aP.tmps.setIfInBounds p1 y1).setIfInBounds p2 y2,[]⟩ w [] (k-1) _ rfl (jz hs1) λa' w1 hs2=>?_;obtain⟨m2,I2,hs2⟩:=hs2.sim;have hfu:Free (E2.up aI E0.N) l (.loop r):=⟨hf.lt,hf.ow,hf.i0,hf.no⟩;refine⟨_,run_beginRound (hfu.at hs2.heap) hrs,?_⟩;have hs3:=hs2.putO hfu (zj (recB r));have hfb:=hfu.putSame (zj (recB r));rw [<-Ww hs3.dfr];refine hB { E2.up aI E0.N with w0:=(E2.up aI E0.N).w0.putObj l (.loop (recB r)) } a' _ (k-1) _ rfl (jz hs3) λa'' w2 hs4=>?_
 obtain⟨m4,I4,hs4⟩:=hs4.sim;refine⟨_,_,run_endRound (some .ret) (hfb.at hs4.heap),?_⟩;have hs5:=hs4.putO hfb (zj (recD r));have hs6:=xF (a:=aI) (E0:=E2) rfl hs5 hx3 hs.dfr hs.siz hs.heap.np;have hs7:=hs6.put (d:=some d) (v:=.bool false) (.one _ _ (.lit _ rfl)) (λk e=>by cases e;exact hd)
 rw [<-T.put_den _ (λk e=>by cases e;exact hd2)]at hs7
 show next (aI.put o.dst (.bool false)) _
 rw [hdst];exact hK _ _ _ hs7
end Go.Abs
end
section
namespace Go.Abs
variable {P:Program} {E:Env} {s:S} {a:Act} {w:World} {m:M} {I:Nat->Prop}
attribute [local irreducible] pinA
theorem qP{N id:Nat}{ops:Array Oper}{dr:Bool}{ac:AC}(hc:compile P N (.region id ops dr)=some ac):∃l,ac=.ops dr l:=by
 simp only [compile,Option.bind_eq_bind,zOB]at hc;obtain⟨l0,hl0,hc⟩:=hc;repeat (split at hc <;> first | (simp at hc;done) | (simp only [Option.pure_def,zOI]at hc;exact⟨_,hc.symm⟩) | skip)
theorem um{N:Nat}{c:Code}{x y:AC}(h:compile P N c=some (.seq x y)):∃c1 c2,c=.seq c1 c2/\compile P N c1=some x/\compile P N c2=some y:=by
 cases c with
 | seq c1 c2=>
  simp only [compile,Option.bind_eq_bind,zOB,Option.pure_def,zOI,AC.seq.injEq]at h;obtain⟨a,ha,b,hb,rfl,rfl⟩:=h;exact⟨c1,c2,rfl,ha,hb⟩
 | region id ops dr=>obtain⟨l,hl⟩:=qP h;simp at hl
 | _=>simp [compile,zOB]at h
theorem Up{N id:Nat}{c:Code}{x:AC}(h:compile P N c=some (.block id x)):∃c1,c=.block id c1/\compile P N c1=some x:=by
 cases c with
 | block id' c1=>
  simp only [compile,zOM,AC.block.injEq]at h;obtain⟨a,ha,rfl,rfl⟩:=h;exact⟨c1,rfl,ha⟩
 | region id ops dr=>obtain⟨l,hl⟩:=qP h;simp at hl
 | _=>simp [compile,zOB]at h
theorem jaa{N:Nat}{c:Code}{x:AC}(h:compile P N c=some (.loop x)):∃c1,c=.loop c1/\compile P N c1=some x:=by
 cases c with
 | loop c1=>
  simp only [compile,zOM,AC.loop.injEq]at h;obtain⟨a,ha,rfl⟩:=h;exact⟨c1,rfl,ha⟩
 | region id ops dr=>obtain⟨l,hl⟩:=qP h;simp at hl
 | _=>simp [compile,zOB]at h
theorem uan{N:Nat}{c:Code}{dr:Bool}{l:List AO}(h:compile P N c=some (.ops dr l)):∃id ops,c=.region id ops dr:=by
 cases c with
 | region id ops dr'=>obtain⟨l,hl⟩:=qP h;simp at hl;exact⟨id,ops,by rw [hl.1]⟩
 | _=>simp [compile,zOB]at h
theorem Stands.split{ops:Array Oper}{N:Nat}:∀{l1 l2:List AO} {L:List Nat},Stands P ops N L (l1++l2)->∃L1 L2,L=L1++L2/\Stands P ops N L1 l1/\Stands P ops N L2 l2
 | [],l2,L,h=>⟨[],L,rfl,.nil,h⟩
 | x::l1,l2,L,h=>by
  cases h with
  | cons h1 h2 h3 h4=>
   obtain⟨L1,L2,rfl,g1,g2⟩:=h4.split;exact⟨_::L1,L2,rfl,.cons h1 h2 h3 g1,g2⟩
theorem Stands.plain{ops:Array Oper}{N:Nat}{L:List Nat}{l:List AO}(h:Stands P ops N L l)(hnb:l.all (λo=>!isBad o.o)=true):∀i∈L,∀o,ops[i]?=some o->∀c,o.op≠.defer c:=by
 induction h with
 | nil=>intro i hi;simp at hi
 | cons h1 h2 h3 h4 ih=>
  simp only [List.all_cons,zBA,Bool.not_eq_true']at hnb;intro i hi o ho c;rcases List.mem_cons.1 hi with rfl | hi
  .rw [h1]at ho;cases ho;exact h2.plain hnb.1 c
  .exact ih hnb.2 i hi o ho c
theorem opsF{L:Lv}(hL:LvOk P L){ops:Array Oper}{Ls:List Nat}{l:List AO}{t t' : T}{Q:Exit->Act->World->Prop}{k:Nat}(hst:Stands P ops E.N Ls l)(hnb:l.all (λo=>!isBad o.o)=true)(hok:l.all (okAO l)=true)(h:aosE L false l t=some t')
  (hs:Sim E t.den a w m I) (hq:∀a' w' m' I',Sim E t'.den a' w' m' I'->Q .normal a' w'):wpOpsIn Fence.wide k P ops Q Ls a w:=by
 have e0:a=⟨a.tmps,a.defers++[]⟩:=by simp
 rw [e0];simp only [List.all_eq_true]at hok;refine YS (K:=λa' w'=>∃m' I',Sim E t'.den a' w' m' I') (.inl rfl) [] (λa' w' ⟨m',I',hs'⟩=>by rw [List.append_nil];exact hq a' w' m' I' hs') Ls (hst.plain hnb) a w ?_
 exact XX (K:=λs=>s=t'.den) (ut hL false l) hst (λs' a' w' m' I' hk hs'=>⟨rfl,m',I',by subst hk;exact hs'⟩) hs (xG hL l hok h rfl)
theorem kP{L:Lv}(hL:LvOk P L){n k l d j p q id g:Nat}{E2 E0:Env}{aP aI:Act}{t t1 t2 t3 t5:T}{v v4:Tr}{x x4:List Tr}{r:Loop}{p1 p2:Nat}{aA:AC}{ops:Array Oper}{l1 l2:List AO}{Q:Exit->Act->World->Prop}
  (hX:E2.X=λt=>E0.val aP (t-pinA)) (hz:aP.tmps.size=E0.N) (hR:Rnd P E0.N p1 p2 r.assign aA) (hrt:r.tmps=aP.tmps) (hrs:r.state=.ready) (hrp:r.params = #[p1,p2])
  (hc:compile P E2.N (.region id ops false)=some (.ops false (l1++⟨some d,some (g,true),.callv (.t j) [.t p,.t q]⟩::l2))) (hnb:(l1.all λo=>!isBad o.o)=true/\(l2.all λo=>!isBad o.o)=true) (hok:l1.all (okAO l1)=true/\l2.all (okAO l2)=true)
  (hs:Sim E2 t.den aI w m I) (hf:Free E2 l (.loop r)) (hd:d<E2.N) (hd2:d<256) (h1:aosE L false l1 t=some t1) (hg:t1.get g=.one (.lit (.bool true))) (hx:t1.x=v::x)
  (hj:t1.get j=.one (.lit (.func (.yield l) #[] #[])))
  (hA:codeE L n aA (((T.mk v (t1.v::t1.x) t1.h t1.n).put (some p1) (t1.get p)).put (some p2) (t1.get q))=some (.nrm,t2)) (hB:Walks (Fence.wide.inRound l) P E0.N r.body t2 .ret t3) (hx3:t3.x=v4::x4)
  (h2:aosE L false l2 ((T.mk v4 x4 t3.h t3.n).put (some d) (.one (.lit (.bool false))))=some t5)
  (hK:∀a' w' m' I',Sim (E2.done l r) t5.den a' w' m' I'->Q .normal a' w') :
  (Code.region id ops false).wpIn Fence.wide k P Q aI w:=by
 refine wpIn_region ?_;obtain⟨hlen,hdoes⟩:=Vt hc;have hst:=Ql (P:=P) (ops:=ops) (N:=E2.N) (f:=λi=>((l1++⟨some d,some (g,true),.callv (.t j) [.t p,.t q]⟩::l2)[i]?).getD default) (List.range ops.size) λi hi=>hdoes i (List.mem_range.1 hi);rw [YW hlen]at hst;obtain⟨L1,L2,e,s1,s2⟩:=hst.split;rw [e];refine vd L1 L2 _ _ ?_;refine opsF hL s1 hnb.1 hok.1 h1 hs λa1 w1 m1 I1 hs1=>?_;cases s2 with
 | @cons i L2 o _ _ g1 g2 g3 g4=>
  show wpOpsIn Fence.wide k P ops Q (i::L2) a1 w1;simp only [wpOpsIn,g1];have hw:Region.wanted o (yielded ops a1.tmps)=true:=by
   rcases g2.g with⟨_,h⟩ | ⟨j',want,oj,t',hgo,hoj,hdj,htp,h⟩
   .simp at h
   .simp only [zOI,Prod.mk.injEq]at h;obtain⟨rfl,rfl⟩:=h;have hv:=hs1.at htp;rw [show t1.den.v g=.one (.lit (.bool true)) by rw [<-T.get_den];exact hg]at hv
    have hv:=hv.lit_inv.1;have hv2:a1.tmps[g]?=some (.bool true):=by
     rw [Array.getD_eq_getD_getElem?]at hv;cases hx:a1.tmps[g]? with
     | none=>rw [hx]at hv;simp [undef]at hv
     | some v=>rw [hx]at hv;simp at hv;rw [hv]
    simp only [Region.wanted,hgo,yielded,hoj,hdj,Option.bind_some,hv2];rfl
  rw [if_pos hw];refine qaN hL hX hz hR hrt hrs hrp hs1 hx hf g2 hd hd2 hj hA hB hx3 λw' m' I' hs'=>?_;exact opsF (E:=E2.done l r) hL g4 hnb.2 hok.2 h2 hs' hK
theorem once{L:Lv}(hL:LvOk P L){n k l d j p q g b0 b1 b2 b3:Nat}{E2 E0:Env}{aP aI:Act}{t0 t1 t2 t3 t4 t5 t6 t7 t8 t9 t10 t11 u2 u3:T}{v v4:Tr}{x x4:List Tr}{r:Loop}{p1 p2:Nat}{aA r0 r1 cn1 r2 r3 r45 cn6 r5 r7:AC}{l1 l2:List AO}{c:Code}{R:Exit->Act->World->Prop}
  (hX:E2.X=λt=>E0.val aP (t-pinA)) (hz:aP.tmps.size=E0.N) (hR:Rnd P E0.N p1 p2 r.assign aA) (hrt:r.tmps=aP.tmps) (hrs:r.state=.ready) (hrp:r.params = #[p1,p2])
  {X Y Z:AC} (eX:X=.seq r1 (.seq cn1 (.seq (.block b1 Y) r7))) (eY:Y=.seq r2 (.seq r3 (.block b2 (.loop Z)))) (eZ:Z=.seq r45 (.seq (.block b3 (.seq (.ops false (l1++⟨some d,some (g,true),.callv (.t j) [.t p,.t q]⟩::l2)) cn6)) r5))
  (hc:compile P E2.N c=some (.seq r0 (.block b0 (.loop X)))) (hok:okAC (.seq r0 (.block b0 (.loop X)))=true) (hnb:noBad (.seq r0 (.block b0 (.loop X)))=true) (hok2:l1.all (okAO l1)=true/\l2.all (okAO l2)=true)
  (hs:Sim E2 t0.den aI w m I) (hf:Free E2 l (.loop r)) (hd:d<E2.N) (hd2:d<256)
  (e0:codeE L n r0 t0=some (.nrm,t1)) (f1:codeE L n X t1=some (.nrm,t2)) (f2:codeE L n X t2=some (.nrm,t3)) (e1:codeE L n r1 t3=some (.nrm,t4)) (ec:codeE L n cn1 t4=some (.nrm,t5)) (e2:codeE L n r2 t5=some (.nrm,t6)) (e3:codeE L n r3 t6=some (.nrm,t7)) (e4:codeE L n r45 t7=some (.nrm,t8))
  (h1:aosE L false l1 t8=some t9) (hg:t9.get g=.one (.lit (.bool true))) (hx:t9.x=v::x) (hj:t9.get j=.one (.lit (.func (.yield l) #[] #[])))
  (hA:codeE L n aA (((T.mk v (t9.v::t9.x) t9.h t9.n).put (some p1) (t9.get p)).put (some p2) (t9.get q))=some (.nrm,u2)) (hB:Walks (Fence.wide.inRound l) P E0.N r.body u2 .ret u3) (hx3:u3.x=v4::x4)
  (h2:aosE L false l2 ((T.mk v4 x4 u3.h u3.n).put (some d) (.one (.lit (.bool false))))=some t10) (e6:codeE L n cn6 t10=some (.ret,t11))
  (hK:∀a' w' m' I',Sim (E2.done l r) t11.den a' w' m' I'->R .ret a' w'):c.wpIn Fence.wide k P R aI w:=by
 have hW:Wd Fence.wide:=.inl rfl;have plain:∀{ac:AC} {c:Code} {t t' : T} {e:Ex} {a:Act} {w:World} {k:Nat} {E' : Env} {R:Exit->Act->World->Prop},E'.N=E2.N->compile P E2.N c=some ac->okAC ac=true->noBad ac=true->codeE L n ac t=some (e,t')->(∃m I,Sim E' t.den a w m I)->
   (∀a' w' m' I',Sim E' t'.den a' w' m' I'->R (exOf e) a' w')->c.wpIn Fence.wide k P R a w:=by
  intro ac c t t' e a w k E' R hN hc hok hnb h ⟨m,I,hs⟩ hR;have e0:a=⟨a.tmps,[]⟩:=by
   have:=hs.dfr;cases a
   simp only at this;rw [this]
  rw [e0];refine(Wv hL hW n).1 ac c t e t' hc hok hnb h E' a w [] k R hN (jz hs) λa' w' hs'=>?_;obtain⟨m',I',hs'⟩:=hs'.sim;have e1:a' = ⟨a'.tmps,[]⟩:=by
   have:=hs'.dfr;cases a'
   simp only at this;rw [this]
  rw [<-e1];exact hR a' w' m' I' hs'
 simp only [okAC,noBad,zBA]at hok hnb;obtain⟨c0,c1,rfl,k0,k1⟩:=um hc;obtain⟨c2,rfl,k2⟩:=Up k1;obtain⟨cX,rfl,kX⟩:=jaa k2;refine wpIn_seq (plain rfl k0 hok.1 hnb.1 e0 ⟨m,I,hs⟩ λa1 w1 m1 I1 s1=>?_);refine wpIn_block (wpIn_loop_rounds 3 ?_);rw [roundsIn_succ];refine plain rfl kX hok.2 hnb.2 f1 ⟨m1,I1,s1⟩ λa2 w2 m2 I2 s2=>?_;show Code.roundsIn Fence.wide k P cX _ 2 a2 w2;rw [roundsIn_succ];refine plain rfl kX hok.2 hnb.2 f2 ⟨m2,I2,s2⟩ λa3 w3 m3 I3 s3=>?_;show Code.roundsIn Fence.wide k P cX _ 1 a3 w3;rw [roundsIn_succ];clear f1 f2;subst eX;simp only [okAC,noBad,zBA]at hok hnb;obtain⟨-,o1,o2,o3,o4⟩:=hok;obtain⟨-,n1,n2,n3,n4⟩:=hnb;obtain⟨cr1,d1,rfl,k3,k4⟩:=um kX;obtain⟨cc1,d2,rfl,k5,k6⟩:=um k4;obtain⟨d3,cr7,rfl,k7,k8⟩:=um k6;obtain⟨cY,rfl,kY⟩:=Up k7;refine wpIn_seq (plain rfl k3 o1 n1 e1 ⟨m3,I3,s3⟩ λa4 w4 m4 I4 s4=>?_);refine wpIn_seq (plain rfl k5 o2 n2 ec ⟨m4,I4,s4⟩ λa5 w5 m5 I5 s5=>?_);refine wpIn_seq (wpIn_block ?_);subst eY;simp only [okAC,noBad,zBA]at o3 n3;obtain⟨o5,o6,o7⟩:=o3;obtain⟨n5,n6,n7⟩:=n3;obtain⟨cr2,d4,rfl,k9,k10⟩:=um kY;obtain⟨cr3,d5,rfl,k11,k12⟩:=um k10;obtain⟨d6,rfl,k13⟩:=Up k12;obtain⟨cZ,rfl,kZ⟩:=jaa k13;refine wpIn_seq (plain rfl k9 o5 n5 e2 ⟨m5,I5,s5⟩ λa6 w6 m6 I6 s6=>?_);refine wpIn_seq (plain rfl k11 o6 n6 e3 ⟨m6,I6,s6⟩ λa7 w7 m7 I7 s7=>?_);refine wpIn_block (wpIn_loop_rounds 1 ?_);rw [roundsIn_succ];subst eZ;simp only [okAC,noBad,zBA]at o7 n7;obtain⟨o8,⟨o9,o10⟩,o11⟩:=o7;obtain⟨n8,⟨n9,n10⟩,n11⟩:=n7;obtain⟨cr4,d7,rfl,k16,k14⟩:=um kZ;obtain⟨d8,cr5,rfl,k17,k15⟩:=um k14;obtain⟨d9,rfl,k18⟩:=Up k17;obtain⟨cR,cc6,rfl,k19,k20⟩:=um k18;refine wpIn_seq (plain rfl k16 o8 n8 e4 ⟨m7,I7,s7⟩ λa8 w8 m8 I8 s8=>?_);refine wpIn_seq (wpIn_block (wpIn_seq ?_));obtain⟨id,ops,rfl⟩:=uan k19;have n9' : (l1.all λo=>!isBad o.o)=true/\(l2.all λo=>!isBad o.o)=true:=by
  rw [List.all_append,zBA]at n9;refine⟨n9.1,?_⟩;have:=n9.2;rw [List.all_cons,zBA]at this;exact this.2
 refine kP hL hX hz hR hrt hrs hrp k19 n9' hok2 s8 hf hd hd2 h1 hg hx hj hA hB hx3 h2 λa9 w9 m9 I9 s9=>?_;refine plain (E':=E2.done l r) rfl k20 o10 n10 e6 ⟨m9,I9,s9⟩ λa10 w10 m10 I10 s10=>?_;exact hK a10 w10 m10 I10 s10
end Go.Abs
end
section
namespace Go.Abs
variable {P:Program} {E:Env} {s:S} {a:Act} {w:World} {m:M} {I:Nat->Prop}
attribute [local irreducible] pinA
structure PairCode (P:Program) (f fi b g p1 p2 N Ni:Nat) (fn fni:Func) (c0 c1 cA cB c2 ci:Code) (a0 a1 aA a2:AC) (rv:List RV):Prop where
 hf:P.funcs[f]?=some fn
 hb:fn.body=some (.seq c0 (.seq (.seq c1 (.block b (.rangeFunc (.tmp g) #[p1,p2] cA cB))) c2))
 hn:fn.ntmps=N
 k0:compile P N c0=some a0
 k1:compile P N c1=some a1
 k2:compile P N c2=some a2
 ok:okAC a0=true/\okAC a1=true/\okAC a2=true
 nb:noBad a0=true/\noBad a1=true/\noBad a2=true
 rnd:Rnd P N p1 p2 cA aA
 hrv:cRes P fn=some rv
 hfi:P.funcs[fi]?=some fni
 hbi:fni.body=some ci
 hni:fni.ntmps=Ni
 Ni:Ni<=256/\2<=Ni
 ri:cRes P fni=some []
 eni:Enters P fi
 hg:g<256
def Env.aft(E:Env)(once:Bool)(l:Nat)(r:Loop):Env:=bif once then E.done l r else E
def recA(once:Bool)(r:Loop):Loop:=bif once then recD r else r
def Iter(once:Bool)(P:Program)(N p1 p2:Nat)(cA cB ci:Code)(Ni:Nat)(i0 i1:Nat->T):Prop:=
 ∀(l k:Nat) (E2 E0:Env) (aP aI:Act) (w:World) (m:M) (I:Nat->Prop) (r:Loop) (R:Exit->Act->World->Prop),E2.N=Ni->E0.N=N->E2.X=(λt=>E0.val aP (t-pinA))->aP.tmps.size=E0.N->r.tmps=aP.tmps->r.state=.ready->r.params = #[p1,p2]->r.assign=cA->r.body=cB->
  Sim E2 (i0 l).den aI w m I->Free E2 l (.loop r)->(∀e a' w' m' I',(∀i,e≠Ex.exit i)->Sim (E2.aft once l r) (i1 l).den a' w' m' I'->R (exOf e) a' w')->ci.wpIn Fence.wide k P R aI w
theorem QaL(E:Env)(once:Bool)(l:Nat)(r:Loop):(E.aft once l r).I0=E.I0/\(E.aft once l r).Ow=E.Ow/\(E.aft once l r).F=E.F/\(E.aft once l r).N=E.N/\(E.aft once l r).X=E.X/\(E.aft once l r).w0.heap.size=E.w0.heap.size/\
  (∀b,b≠l->(E.aft once l r).w0.heap[b]?=E.w0.heap[b]?)/\(E.aft once l r).w0.os=E.w0.os/\(E.aft once l r).w0.tape=E.w0.tape/\(E.aft once l r).w0.output=E.w0.output:=by
 cases once with
 | false=>exact⟨rfl,rfl,rfl,rfl,rfl,rfl,λ_ _=>rfl,rfl,rfl,rfl⟩
 | true=>
  refine⟨rfl,rfl,rfl,rfl,rfl,?_,λb hb=>?_,rfl,rfl,rfl⟩
  .show((E.w0.putObj l _).putObj l _).heap.size=_;rw [World.putObj_size,World.putObj_size]
  .show((E.w0.putObj l _).putObj l _).heap[b]?=_;rw [World.putObj_heap_other hb,World.putObj_heap_other hb]
theorem Free.aft{once:Bool}{l:Nat}{r:Loop}(h:Free E l (.loop r)):Free (E.aft once l r) l (.loop (recA once r)):=by
 cases once with
 | false=>exact h
 | true=>exact h.done
theorem Free.aft_other{once:Bool}{l k:Nat}{r:Loop}{o:Obj}(h:Free E l (.loop r))(hk:Free E k o)(hne:k≠l):Free (E.aft once l r) k o:=by
 cases once with
 | false=>exact hk
 | true=>exact h.done_other hk hne
theorem plainF{L:Lv}(hL:LvOk P L){n N k:Nat}{ac:AC}{c:Code}{t t' : T}{e:Ex}{R:Exit->Act->World->Prop}(ds:List Deferred)(hN:E.N=N)(hc:compile P N c=some ac)(hok:okAC ac=true)(hnb:noBad ac=true)(h:codeE L n ac t=some (e,t'))(hs:Sim E t.den a w m I)
  (hR:∀a' w' m' I',Sim E t'.den a' w' m' I'->R (exOf e) ⟨a'.tmps,ds⟩ w'):c.wpIn Fence.wide k P R ⟨a.tmps,ds⟩ w:=by
 refine(Wv hL (.inl rfl) n).1 ac c t e t' hc hok hnb h E a w ds k R hN (jz hs) λa' w' hs'=>?_;obtain⟨m',I',hs'⟩:=hs'.sim;exact hR a' w' m' I' hs'
theorem XJ{L:Lv}(hL:LvOk P L){f fi b g p1 p2 N Ni n:Nat}{fn fni:Func}{c0 c1 cA cB c2 ci:Code}{a0 a1 aA a2:AC}{rv:List RV}(hc:PairCode P f fi b g p1 p2 N Ni fn fni c0 c1 cA cB c2 ci a0 a1 aA a2 rv)
  {once:Bool} {i0 i1:Nat->T} (hit:Iter once P N p1 p2 cA cB ci Ni i0 i1) {args:List AV} (hlen:args.length<=N) {t s1 s2:T} (q0:codeE L n a0 (T.mk (argT args 0 .e) (t.v::t.x) t.h t.n)=some (.nrm,s1)) (q1:codeE L n a1 s1=some (.nrm,s2))
  {cap:C} (hgv:s2.get g=.one (.clo fi [cap])) (hcap:cap≠.lit (.agg ⟨[]⟩)) (hi0:∀l,i0 l=T.mk (argT [.one (.lit (.func (.yield l) #[] #[])),.one cap] 0 .e) (s2.v::s2.x) s2.h s2.n)
  {rr:AV} {tt:T} (hend:∀l,∃v3 x3 s4 lr v5 x5,(i1 l).x=v3::x3/\((once=true/\s4=T.mk v3 x3 (i1 l).h (i1 l).n)∨(once=false/\codeE L n a2 (T.mk v3 x3 (i1 l).h (i1 l).n)=some (.ret,s4)))/\rawE s4 rv=some lr/\s4.x=v5::x5/\(∀r,pinA<=r->(hget s4.h r).blk=none)/\
   rnV (swp (swaps s4.h (lows s4.h) s4.n)) (resOf lr)=rr/\(T.mk v5 x5 s4.h s4.n).move (swaps s4.h (lows s4.h) s4.n)=tt)
  {vals:List Value} {K:AV->S->Prop} (hs:Sim E t.den a w m I) (hargs:RAs m I w.heap args vals) (hK:K rr tt.den) :
  Calls P f ⟨vals⟩ w λe w'=>∃v' r s' m' I',e=.returned v'/\K r s'/\RA m' I' w'.heap r v'/\Sim E s' a w' m' I':=by
 refine(callsIn_wide (n:=0)).1 (callsIn_of_wp_marks hc.hf hc.hb trivial ?_);have hNp:N<=pinA:=Nat.le_trans hc.rnd.N pin256;have hse:=jS hs hargs hlen hc.rnd.N;rw [hc.hn];generalize hEp:E.up a N=Ep at hse;have eN:Ep.N=N:=by rw [<-hEp];rfl
 generalize ha0:({ tmps:=(⟨vals⟩:Array Value)++Array.replicate (N-(⟨vals⟩:Array Value).size) undef,defers:=[] }:Act)=ap0 at hse;have hap0:=Ww hse.dfr;rw [hap0];refine wpIn_seq (plainF hL [] eN hc.k0 hc.ok.1 hc.nb.1 q0 hse λa1 w1 m1 I1 hs1=>?_);refine wpIn_seq (wpIn_seq (plainF hL [] eN hc.k1 hc.ok.2.1 hc.nb.2.1 q1 hs1 λaP w2 m2 I2 hs2=>?_));refine wpIn_block (wpIn_rangeFunc λfn0 _=>?_);obtain⟨r,hr⟩:∃r:Loop,r = { state:=.ready,pending:=none,fn:=fn0,tmps:=aP.tmps,params:=#[p1,p2],assign:=cA,body:=cB,defers:=w2.heap.size }:=⟨_,rfl⟩;obtain⟨w3,hw3⟩:∃w3,(w2.alloc (.deferred (some []))).alloc (.loop r)=w3:=⟨_,rfl⟩;have hz3:w3.heap.size=w2.heap.size+2:=by rw [<-hw3];simp
 have hl3:w3.heap[w2.heap.size+1]?=some (.loop r):=by
  rw [<-hw3];have:=World.alloc_heap_new (w2.alloc (.deferred (some []))) (.loop r);rwa [World.size_alloc]at this
 have hD3:w3.heap[w2.heap.size]?=some (.deferred (some [])):=by
  rw [<-hw3];show((w2.heap.push _).push _)[w2.heap.size]?=_;rw [Array.getElem?_push_lt (by simp)]
  simp
 have he3:∀b,b<w2.heap.size->w3.heap[b]?=w2.heap[b]?:=λb hb=>by
  rw [<-hw3];show((w2.heap.push _).push _)[b]?=_;rw [Array.getElem?_push_lt (by simp;omega),Array.getElem_push_lt hb]
  simp [hb]
 have ho3:w3.os=w2.os/\w3.tape=w2.tape/\w3.output=w2.output:=by rw [<-hw3];exact⟨rfl,rfl,rfl⟩
 have hs3:Sim Ep s2.den aP w3 m2 I2:=hs2.more (by omega) he3 ho3.1 ho3.2.1 ho3.2.2
 have hs4:=hs3.root;generalize hE1:Ep.root w3 m2 I2 s2.den.h=E1 at hs4;have eOw:∀k,E1.Ow k->k<w2.heap.size:=λk hk=>by
  rw [<-hE1]at hk;obtain⟨r',x,z,_,g2⟩:=hk;exact hs2.heap.lt r' k z g2
 have eI0:∀k,E1.I0 k->k<w2.heap.size:=λk hk=>by
  rw [<-hE1]at hk;exact hs2.heap.imb k hk.1
 have ew0:E1.w0=w3:=by rw [<-hE1];rfl
 have hfl:Free E1 (w2.heap.size+1) (.loop r):=⟨by rw [ew0];exact hl3,λh=>by have:=eOw _ h;omega,λh=>by have:=eI0 _ h;omega,by rw [ew0];simp only [bsize,hl3]⟩
 have hfD:Free E1 w2.heap.size (.deferred (some [])):=⟨by rw [ew0];exact hD3,λh=>by have:=eOw _ h;omega,λh=>by have:=eI0 _ h;omega,by rw [ew0];simp only [bsize,hD3]⟩
 have hgev:=hs3.at (t:=g) (Nat.lt_of_lt_of_le hc.hg pin256);rw [show s2.den.v g=.one (.clo fi [cap]) by rw [<-T.get_den];exact hgv]at hgev
 obtain⟨cv,hcv,hrcv⟩:∃cv,aP.tmps.getD g undef=.func (.func fi) #[] #[cv]/\RC m2 I2 w3.heap cap cv:=by
  have hq:=hgev.one_inv;generalize aP.tmps.getD g undef=u at hq;cases hq with
  | clo _ _ cv hl hcells=>
   obtain⟨c,rfl⟩:∃c,cv=[c]:=by
    match cv,hl with
    | [c],_=>exact⟨c,rfl⟩
   exact⟨c,rfl,hcells 0 cap c rfl rfl⟩
  | bnd=>exact(hcap rfl).elim
 refine⟨w2.heap.size+1,[{ target:=.collected w2.heap.size,args:=#[] }],w3,{ target:=.fn (.func fi) #[cv],args:=#[.func (.yield (w2.heap.size+1)) #[] #[]] },w3,fi,
  #[.func (.yield (w2.heap.size+1)) #[] #[],cv],w3,?_,?_,?_,?_,λh=>(by cases h),?_⟩
 .rw [<-hw3,hr];exact run_enterLoop_outer _ _ _ _ _
 .have:(⟨aP.tmps,[]⟩:Act).eval (.tmp g)=.func (.func fi) #[] #[cv]:=hcv;simp only [resolve,this];simp [go_sem]
 .intro f' _;trivial
 .simp [invoke,go_sem,hc.eni _ _]
 have hargs2:RAs m2 I2 w3.heap [.one (.lit (.func (.yield (w2.heap.size+1)) #[] #[])),.one cap] [.func (.yield (w2.heap.size+1)) #[] #[],cv]:=by
  refine⟨rfl,λi x v hx hv=>?_⟩;match i with
  | 0=>simp at hx hv;subst hx hv;exact .one _ _ (.lit _ rfl)
  | 1=>simp at hx hv;subst hx hv;exact .one _ _ hrcv
  | i+2=>simp at hx
 have hs5:=jS (n:=Ni) hs4 hargs2 hc.Ni.2 hc.Ni.1;rw [<-hi0]at hs5;refine callsIn_of_wp hc.hfi hc.hbi trivial ?_;rw [hc.hni];have hfu:Free (E1.up aP Ni) (w2.heap.size+1) (.loop r):=⟨hfl.lt,hfl.ow,hfl.i0,hfl.no⟩;have hfuD:Free (E1.up aP Ni) w2.heap.size (.deferred (some [])):=⟨hfD.lt,hfD.ow,hfD.i0,hfD.no⟩;have eN1:E1.N=N:=by rw [<-hE1];exact eN
 refine hit (w2.heap.size+1) (0-1) (E1.up aP Ni) E1 aP _ w3 m2 I2 r _ rfl eN1 rfl hs4.siz (by rw [hr]) (by rw [hr]) (by rw [hr]) (by rw [hr]) (by rw [hr]) hs5 hfu λe a' w' m' I' hne hs6=>?_
 have hres:=Vd (P:=P) hs6 hc.ri (K:=λ_=>True) (Yo (t:=i1 (w2.heap.size+1)) (l:=[]) rfl trivial);obtain⟨xs,vs,hres,_,_⟩:=hres;have hfa:=hfu.aft (once:=once);have hfaD:=hfu.aft_other (once:=once) hfuD (by omega)
 have hrest:rangePost Fence.wide 0 P (w2.heap.size+1) (Exit.inBlock b (Exit.then (c2.wpIn Fence.wide 0 P (bodyPostM Fence.wide 0 P fn λe w'=>∃v' r s' m' I',e=.returned v'/\K r s'/\RA m' I' w'.heap r v'/\Sim E s' a w' m' I')) (bodyPostM Fence.wide 0 P fn λe w'=>∃v' r s' m' I',e=.returned v'/\K r s'/\RA m' I' w'.heap r v'/\Sim E s' a w' m' I')))
   ⟨aP.tmps,[{ target:=.collected w2.heap.size,args:=#[] }]⟩ (.returned (if h:(⟨vs⟩:Array Value).size=1 then (⟨vs⟩:Array Value)[0] else .tuple ⟨vs⟩)) w':=by
  have hbusy:(recA once r).state≠.busy:=by cases once <;> rw [hr] <;> exact λh=>by cases h
  refine⟨_,_,run_endLoop (hfa.at hs6.heap) hbusy,?_⟩;obtain⟨f1,f2,f3,f4,f5,f6,f7,f8,f9,f10⟩:=QaL (E1.up aP Ni) once (w2.heap.size+1) r;generalize (E1.up aP Ni).aft once (w2.heap.size+1) r=E2 at f1 f2 f3 f4 f5 f6 f7 f8 f9 f10 hs6 hfa hfaD;have hs7:=hs6.putO hfa (zj { recA once r with state:=.exhausted })
  obtain⟨v3,x3,s4,lr,v5,x5,hi1x,hfin,hraw,hx4,hpin,er,et⟩:=hend (w2.heap.size+1);subst er et;have hs8:=(λh=>xF (a:=aP) (E0:=E1) h hs7 hi1x hs4.dfr hs4.siz hs4.heap.np) f5;generalize hE3:Env.dn { E2 with w0:=E2.w0.putObj (w2.heap.size+1) (.loop { recA once r with state:=.exhausted }) } E1=E3 at hs8
  have hfD3:Free E3 w2.heap.size (.deferred (some [])):=by
   have:=hfaD.putOther hfa (by omega) (zj { recA once r with state:=.exhausted })
   rw [<-hE3];exact⟨this.lt,this.ow,this.i0,this.no⟩
  have fin:∀a'' w5 m5 I5,Sim E3 s4.den a'' w5 m5 I5->LeavesInM Fence.wide 0 P fn a''.tmps (λe w'=>∃v' r s' m' I',e=.returned v'/\K r s'/\RA m' I' w'.heap r v'/\Sim E s' a w' m' I') [{ target:=.collected w2.heap.size,args:=#[] }] .returning w5:=by
   intro a'' w5 m5 I5 hs9;refine⟨by simp,.inl ⟨_,_,rfl,run_takeDeferred (hfD3.at hs9.heap),?_⟩⟩
   have hs10:=hs9.putO hfD3 (o':=.deferred none) (λ_ _ _ h=>by cases h)
   obtain⟨xs,vs,hres,hra,hxs⟩:=Vd (P:=P) hs10 hc.hrv (Yo (K:=λxs=>xs=lr) hraw rfl);subst hxs;refine⟨_,hres,?_⟩;have hE4:HR Ep m5 I5 (w5.putObj w2.heap.size (.deferred none)) s4.den.h:=by
    refine hs2.heap.unroot (w1:=w3) ?_ ?_ (λb hb=>?_) ?_ ?_ ?_ hs10.heap hpin
    .rw [<-hE3,hE1];exact⟨f1,f2,f3.trans (by rw [<-hE1];rfl)⟩
    .show w2.heap.size<=(E3.w0.putObj _ _).heap.size;rw [World.putObj_size,<-hE3];show w2.heap.size<=(E2.w0.putObj _ _).heap.size;rw [World.putObj_size,f6];show w2.heap.size<=E1.w0.heap.size;rw [ew0];omega
    .show(E3.w0.putObj _ _).heap[b]?=_;rw [World.putObj_heap_other (by omega),<-hE3]
     show(E2.w0.putObj _ _).heap[b]?=_;rw [World.putObj_heap_other (by omega),f7 b (by omega)]
     show E1.w0.heap[b]?=_;rw [ew0,he3 b hb]
    .show E3.w0.os=_;rw [<-hE3];show E2.w0.os=_;rw [f8];show E1.w0.os=_;rw [ew0,ho3.1]
    .show E3.w0.tape=_;rw [<-hE3];show E2.w0.tape=_;rw [f9];show E1.w0.tape=_;rw [ew0,ho3.2.1]
    .show E3.w0.output=_;rw [<-hE3];show E2.w0.output=_;rw [f10];show E1.w0.output=_;rw [ew0,ho3.2.2]
   have hX3:E3.X=Ep.X:=by rw [<-hE3];show E1.X=Ep.X;rw [<-hE1];rfl
   have hs11:Sim Ep s4.den a'' (w5.putObj w2.heap.size (.deferred none)) m5 I5:=by
    refine⟨hs10.dfr,hs10.siz.trans ?_,λt=>?_,hE4⟩
    .show E3.N=Ep.N;rw [<-hE3];show E1.N=Ep.N;rw [eN1,eN]
    .have:=hs10.slot t;have e:Env.val { E3 with w0:=E3.w0.putObj w2.heap.size (.deferred none) } a'' t=Ep.val a'' t:=by
      simp only [Env.val,hX3]
     rw [e]at this;exact this
   have hs12:=xF (a:=a) (E0:=E) (by rw [<-hEp];rfl) hs11 hx4 hs.dfr hs.siz hs.heap.np
   have eE:Ep.dn E=E:=by rw [<-hEp];rfl
   rw [eE]at hs12;have hsw:=Xr s4.h (lows s4.h) s4.n;have b:=Wx _ hsw;generalize hsg:swaps s4.h (lows s4.h) s4.n=sw at hK hsw b;rw [T.move_den _ hsw,vad]at hK;exact⟨_,_,_,_,I5,rfl,hK,(VG hra).rn (λr=>by simp only [b.l]) (λr=>by simp only [b.l]),hs12.rn b⟩
  generalize w'.putObj (w2.heap.size+1) (.loop { recA once r with state:=.exhausted })=w4 at hs8 ⊢
  rcases hfin with⟨ho,e4⟩ | ⟨ho,e4⟩
  .subst ho e4;show Code.wpIn Fence.wide 0 P .ret _ _ _;refine wpIn_ret ?_;exact fin aP _ m' I' hs8
  .subst ho;have:(recA false r).pending=none:=by rw [hr];rfl
   rw [this];have eN3:E3.N=N:=by rw [<-hE3];exact eN1
   exact plainF hL [{ target:=.collected w2.heap.size,args:=#[] }] eN3 hc.k2 hc.ok.2.2 hc.nb.2.2 e4 hs8 λa'' w5 m5 I5 hs9=>fin a'' w5 m5 I5 hs9
 cases e with
 | nrm=>exact⟨hs6.dfr,_,hres,hrest⟩
 | ret=>exact⟨hs6.dfr,_,hres,hrest⟩
 | exit i=>exact(hne i rfl).elim
end Go.Abs
end
section
namespace Go.Abs
variable {P:Program} {E:Env} {s:S} {a:Act} {w:World} {m:M} {I:Nat->Prop} {F:Fence}
def aoP:AO:=⟨some 0,none,.mv (.c .any)⟩
def aoH:AO:=⟨none,none,.mv (.c .any)⟩
theorem jbh:swapOk aoP aoP aoP.looks aoP.looks=false:=by decide
theorem kbm:swapOkB true aoH aoP aoH.looks aoP.looks=true:=by decide
theorem ubj:swapOkB true aoP aoH aoP.looks aoH.looks=true:=by decide
theorem xbe:swapOkB true aoH aoH aoH.looks aoH.looks=true:=by decide
theorem Van{ops:Array Oper}{l:List AO}(h:orderOk ops l=true)(mixed:Bool)(t:Nat) :
  (Region.schedule mixed ops t).Nodup/\(∀x,x∈List.range ops.size↔x∈Region.schedule mixed ops t)/\
  (Region.schedule mixed ops t).Pairwise (λa b=>b<a->b∉((anc ops)[a]?).getD []):=by
 have base:∀i0 j0,j0∈((anc ops)[i0]?).getD []->orderOk ops ((List.range ops.size).map λk=>if k=i0∨k=j0 then aoP else aoH)=true->True:=λ_ _ _ _=>trivial
 have hf:∀i0 j0,j0<i0->j0∈((anc ops)[i0]?).getD []->orderOk ops ((List.range ops.size).map λk=>if k=i0∨k=j0 then aoP else aoH)=true:=by
  intro i0 j0 hlt hmem;unfold orderOk orderOkB at h ⊢;simp only [zBA]at h ⊢;refine⟨h.1,?_⟩;simp only [List.all_eq_true,List.mem_range,List.length_map,List.length_range];intro i hi j hj;simp only [Bool.or_eq_true];by_cases e:i=i0/\j=j0
  .obtain⟨rfl,rfl⟩:=e;exact .inl (by simpa using hmem)
  .right;have e1:((List.range ops.size).map λk=>if k=i0∨k=j0 then aoP else aoH)[i]?=some (if i=i0∨i=j0 then aoP else aoH):=by simp [hi]
   have e2:((List.range ops.size).map λk=>if k=i0∨k=j0 then aoP else aoH)[j]?=some (if j=i0∨j=j0 then aoP else aoH):=by
    have:j<ops.size:=by omega
    simp [this]
   rw [e1,e2];dsimp only;by_cases c1:i=i0∨i=j0
   .by_cases c2:j=i0∨j=j0
    .exfalso;rcases c1 with rfl | rfl <;> rcases c2 with rfl | rfl <;> first | omega | exact e ⟨rfl,rfl⟩
    .rw [if_pos c1,if_neg c2];exact kbm
   .by_cases c2:j=i0∨j=j0
    .rw [if_neg c1,if_pos c2];exact ubj
    .rw [if_neg c1,if_neg c2];exact xbe
 obtain⟨g1,g2,-⟩:=orders (ops:=ops) (l:=(List.range ops.size).map λ_=>aoH) (by simp) (by
  unfold orderOk orderOkB at h ⊢;simp only [zBA]at h ⊢;refine⟨h.1,?_⟩;simp only [List.all_eq_true,List.mem_range,List.length_map,List.length_range];intro i hi j hj;simp only [Bool.or_eq_true];right;have e1:((List.range ops.size).map λ_=>aoH)[i]?=some aoH:=by simp [hi]
  have e2:((List.range ops.size).map λ_=>aoH)[j]?=some aoH:=by
   have:j<ops.size:=by omega
   simp [this]
  rw [e1,e2];exact xbe) mixed t
 refine⟨g1,g2,?_⟩;rw [List.pairwise_iff_getElem];intro i j hi hj hij hlt hmem;obtain⟨-,-,g3⟩:=orders (ops:=ops) (l:=(List.range ops.size).map λk=>if k=(Region.schedule mixed ops t)[i]∨k=(Region.schedule mixed ops t)[j] then aoP else aoH) (by simp) (hf _ _ hlt hmem) mixed t
 have:=(List.pairwise_iff_getElem.1 g3) i j hi hj hij hlt;have hsi:(Region.schedule mixed ops t)[i] < ops.size:=List.mem_range.1 ((g2 _).2 (List.getElem_mem _));have hsj:(Region.schedule mixed ops t)[j] < ops.size:=List.mem_range.1 ((g2 _).2 (List.getElem_mem _));simp [hsi,hsj]at this;rw [jbh]at this;exact Bool.noConfusion this
section
variable {α:Type}
mutual
def gC:C->(C->α)->α
 | .lit v,k=>fVal (λv=>k (.lit v)) v
 | .slice es,k=>gR es λes=>k (.slice es)
 | .full es,k=>gR es λes=>k (.full es)
 | .emp,k=>k .emp
 | .ref cs,k=>gL cs λcs=>k (.ref cs)
 | .clo f cs,k=>gL cs λcs=>k (.clo f cs)
 | .own r v z o l,k=>fNat (λr=>fNat (λv=>fNat (λz=>fNat (λo=>fNat (λl=>k (.own r v z o l)) l) o) z) v) r
 | .ptr r v i o,k=>fNat (λr=>fNat (λv=>fNat (λi=>fNat (λo=>k (.ptr r v i o)) o) i) v) r
 | .any,k=>k .any
def gL:List C->(List C->α)->α
 | [],k=>k []
 | c::l,k=>gC c λc=>gL l λl=>k (c::l)
def gR:List (List C)->(List (List C)->α)->α
 | [],k=>k []
 | e::l,k=>gL e λe=>gR l λl=>k (e::l)
end
mutual
def gA:AV->(AV->α)->α
 | .one c,k=>gC c λc=>k (.one c)
 | .agg cs,k=>gL cs λcs=>k (.agg cs)
 | .tup l,k=>gAs l λl=>k (.tup l)
 | .any,k=>k .any
def gAs:List AV->(List AV->α)->α
 | [],k=>k []
 | a::l,k=>gA a λa=>gAs l λl=>k (a::l)
end
def gTr:Tr->(Tr->α)->α
 | .e,k=>k .e
 | .l a,k=>gA a λa=>k (.l a)
 | .n x y,k=>gTr x λx=>gTr y λy=>k (.n x y)
def gX:Nat->List Tr->(List Tr->α)->α
 | 0,x,k=>k x
 | _+1,[],k=>k []
 | n+1,v::x,k=>gTr v λv=>gX n x λx=>k (v::x)
def gB:Option Blk->(Option Blk->α)->α
 | none,k=>k none
 | some ⟨es,z,l⟩,k=>gR es λes=>fNat (λz=>fBool (λl=>k (some ⟨es,z,l⟩)) l) z
def gH:List (Nat×HB)->(List (Nat×HB)->α)->α
 | [],k=>k []
 | (r,⟨v,b⟩)::l,k=>fNat (λr=>fNat (λv=>gB b λb=>gH l λl=>k ((r,⟨v,b⟩)::l)) v) r
def gNs:List Nat->(List Nat->α)->α
 | [],k=>k []
 | r::l,k=>fNat (λr=>gNs l λl=>k (r::l)) r
def gT(n:Nat)(t:T)(k:T->α):α:=gTr t.v λv=>gX n t.x λx=>gH t.h λh=>fNat (λm=>k ⟨v,x,h,m⟩) t.n
mutual
theorem zba:∀(c:C) (k:C->α),gC c k=k c
 | .lit v,k=>by simp only [gC,Yar]
 | .slice es,k=>by simp only [gC,xaI]
 | .full es,k=>by simp only [gC,xaI]
 | .emp,k=>by simp only [gC]
 | .ref cs,k=>by simp only [gC,uau]
 | .clo f cs,k=>by simp only [gC,uau]
 | .own r v z o l,k=>by simp only [gC,xo]
 | .ptr r v i o,k=>by simp only [gC,xo]
 | .any,k=>by simp only [gC]
theorem uau:∀(c:List C) (k:List C->α),gL c k=k c
 | [],k=>by simp only [gL]
 | c::l,k=>by simp only [gL,zba,uau]
theorem xaI:∀(c:List (List C)) (k:List (List C)->α),gR c k=k c
 | [],k=>by simp only [gR]
 | c::l,k=>by simp only [gR,uau,xaI]
end
mutual
theorem Qbg:∀(a:AV) (k:AV->α),gA a k=k a
 | .one c,k=>by simp only [gA,zba]
 | .agg cs,k=>by simp only [gA,uau]
 | .tup l,k=>by simp only [gA,zaQ]
 | .any,k=>by simp only [gA]
theorem zaQ:∀(a:List AV) (k:List AV->α),gAs a k=k a
 | [],k=>by simp only [gAs]
 | a::l,k=>by simp only [gAs,Qbg,zaQ]
end
theorem wad:∀(t:Tr) (k:Tr->α),gTr t k=k t
 | .e,k=>rfl
 | .l a,k=>by simp only [gTr,Qbg]
 | .n x y,k=>by simp only [gTr,wad x,wad y]
theorem Xba:∀(n:Nat) (x:List Tr) (k:List Tr->α),gX n x k=k x
 | 0,x,k=>by simp only [gX]
 | n+1,[],k=>by simp only [gX]
 | n+1,v::x,k=>by simp only [gX,wad,Xba n]
theorem ybj(b:Option Blk)(k:Option Blk->α):gB b k=k b:=by
 cases b with
 | none=>rfl
 | some b=>obtain⟨es,z,l⟩:=b;simp only [gB,xaI,xo,J7]
theorem ybb:∀(h:List (Nat×HB)) (k:List (Nat×HB)->α),gH h k=k h
 | [],k=>by simp only [gH]
 | (r,⟨v,b⟩)::l,k=>by simp only [gH,xo,ybj,ybb l]
theorem JH:∀(h:List Nat) (k:List Nat->α),gNs h k=k h
 | [],k=>by simp only [gNs]
 | r::l,k=>by simp only [gNs,xo,JH l]
theorem UaB(n:Nat)(t:T)(k:T->α):gT n t k=k t:=by
 simp only [gT,wad,Xba,ybb,xo]
end
def readyN(an:List (List Nat))(rem:List Nat)(i:Nat):Bool:=rem.all λj=>!(Nat.blt j i && ((an[i]?).getD []).contains j)
noncomputable def brs(g:Nat->Option (List T))(p:Nat->Bool):List Nat->Option (List T)
 | []=>some []
 | i::r=>sel (p i) (obind (g i) λx=>omap (x++·) (brs g p r)) (brs g p r)
noncomputable def allS(L:Lv)(l:List AO)(an:List (List Nat)):Nat->List Nat->T->Option (List T)
 | 0,_,_=>none
 | _+1,[],t=>some [t]
 | n+1,i::r,t=>brs (λk=>obind (aoE ((l[k]?).getD default) L false t) λt1=>gT 2 t1 λt1=>gNs ((i::r).erase k) λrem=>allS L l an n rem t1) (readyN an (i::r)) (i::r)
theorem way{g:Nat->Option (List T)}{p:Nat->Bool}:∀{r:List Nat} {ts:List T},brs g p r=some ts->∀i∈r,p i=true->∃x,g i=some x/\∀y∈x,y∈ts
 | [],ts,h,i,hi,_=>by simp at hi
 | k::r,ts,h,i,hi,hp=>by
  simp only [brs]at h;rw [jj]at h;by_cases hk:p k=true
  .rw [if_pos hk]at h;obtain⟨x,h1,h2⟩:=qa h;obtain⟨y,h3,h4⟩:=yb h2;rcases List.mem_cons.1 hi with rfl | hi
   .exact⟨x,h1,λz hz=>by rw [<-h4];exact List.mem_append_left _ hz⟩
   .obtain⟨x',q1,q2⟩:=way h3 i hi hp;exact⟨x',q1,λz hz=>by rw [<-h4];exact List.mem_append_right _ (q2 z hz)⟩
  .rw [if_neg hk]at h;rcases List.mem_cons.1 hi with rfl | hi
   .exact(hk hp).elim
   .exact way h i hi hp
theorem Qat{L:Lv}{l:List AO}{an:List (List Nat)}{t' : T}:∀(n:Nat) {rem σ:List Nat} {t:T} {ts:List T},allS L l an n rem t=some ts->(∀x∈ts,x=t')->rem.Nodup->σ.Nodup->(∀x,x∈rem↔x∈σ)->σ.Pairwise (λa b=>b<a->b∉((an[a]?).getD []))->
  aosE L false (σ.map λi=>(l[i]?).getD default) t=some t'
 | 0,rem,σ,t,ts,h,_,_,_,_,_=>nos h
 | n+1,[],σ,t,ts,h,ht,_,_,hm,_=>by
  have:σ=[]:=List.eq_nil_iff_forall_not_mem.2 λx hx=>by have:=(hm x).2 hx;simp at this
  subst this;cases (show some [t]=some ts from h)
  rw [ht t (by simp)]
  rfl
 | n+1,i0::r,σ,t,ts,h,ht,hr,hs,hm,hp=>by
  cases σ with
  | nil=>have:=(hm i0).1 (List.mem_cons_self ..);simp at this
  | cons i σ=>
   obtain⟨hp1,hp2⟩:=List.pairwise_cons.1 hp;obtain⟨hs1,hs2⟩:=List.nodup_cons.1 hs;have hi:i∈i0::r:=(hm i).2 (List.mem_cons_self ..);have hready:readyN an (i0::r) i=true:=by
    unfold readyN;simp only [List.all_eq_true,Bool.not_eq_true',Bool.and_eq_false_iff];intro j hj;by_cases hlt:j<i
    .right;have:j∈i::σ:=(hm j).1 hj;rcases List.mem_cons.1 this with rfl | hj2
     .omega
     .have:=hp1 j hj2 hlt;simpa using this
    .left;exact Bool.eq_false_iff.2 λh=>hlt (ua h)
   obtain⟨x,h1,h2⟩:=way (show brs (λk=>obind (aoE ((l[k]?).getD default) L false t) λt1=>gT 2 t1 λt1=>gNs ((i0::r).erase k) λrem=>allS L l an n rem t1) (readyN an (i0::r)) (i0::r)=some ts from h) i hi hready;obtain⟨t1,h3,h4⟩:=qa h1;rw [UaB,JH]at h4;have ih:=Qat n (σ:=σ) h4 (λy hy=>ht y (h2 y hy)) (hr.erase _) hs2 (λy=>by
    rw [hr.mem_erase_iff,hm y];constructor
    .intro ⟨q1,q2⟩;rcases List.mem_cons.1 q2 with q | q
     .exact(q1 q).elim
     .exact q
    .exact λq=>⟨λe=>hs1 (e▸q),List.mem_cons_of_mem _ q⟩) hp2
   show obind (aoE ((l[i]?).getD default) L false t) (aosE L false (σ.map λi=>(l[i]?).getD default))=some t';rw [h3];exact ih
theorem ual{L:Lv}(hL:LvOk P L)(hF:Wd F){N id n k:Nat}{ops:Array Oper}{l:List AO}{t t' : T}{ts:List T}{R:Exit->Act->World->Prop}(hc:compile P N (.region id ops true)=some (.ops true l))(hnb:l.all (λo=>!isBad o.o)=true)(hok:l.all (okAO l)=true)
  (hall:allS L l (anc ops) n (List.range ops.size) t=some ts) (hts:∀x∈ts,x=t') (hN:E.N=N) (hs:Sp E t.den a w) (hR:∀a' w',Sp E t'.den a' w'->R .normal a' w'):(Code.region id ops true).wpIn F k P R a w:=by
 obtain⟨m,I,hs⟩:=hs.sim;obtain⟨hlen,hdoes⟩:=Vt hc;obtain⟨_,l0,hl0,hl,hdst,hord⟩:=zw hc;refine wpIn_region_draw λtt=>?_;obtain⟨g1,g2,g3⟩:=Van (hord rfl) (P.follows .mixedOrders) tt;have hst:=Ql (P:=P) (ops:=ops) (N:=E.N) (f:=λi=>(l[i]?).getD default) (Region.schedule (P.follows .mixedOrders) ops tt) λi hi=>by rw [hN];exact hdoes i (List.mem_range.1 ((g2 i).2 hi))
 have hrun:=Qat n hall hts List.nodup_range g1 g2 g3;have hmem:∀o∈(Region.schedule (P.follows .mixedOrders) ops tt).map (λi=>(l[i]?).getD default),o∈l:=by
  intro o ho;obtain⟨i,hi,rfl⟩:=List.mem_map.1 ho;have hi':=List.mem_range.1 ((g2 i).2 hi);have:l[i]?=some l[i]:=List.getElem?_eq_getElem (by omega)
  rw [this];exact List.getElem_mem _
 have hnb' : ((Region.schedule (P.follows .mixedOrders) ops tt).map λi=>(l[i]?).getD default).all (λo=>!isBad o.o)=true:=by
  rw [List.all_eq_true]at hnb ⊢;exact λo ho=>hnb o (hmem o ho)
 rw [List.all_eq_true]at hok;have e0:a=⟨a.tmps,a.defers++[]⟩:=by simp
 rw [e0];refine YS (K:=λa' w'=>∃m' I',Sim E t'.den a' w' m' I') hF [] (λa' w' ⟨m',I',hs'⟩=>by rw [List.append_nil];exact hR a' w' (jz hs')) _ (hst.plain hnb') a _ ?_
 exact XX (K:=λs=>s=t'.den) (ut hL false l) hst (λs' a' w' m' I' hk hs'=>⟨rfl,m',I',by subst hk;exact hs'⟩) (hs.draw _) (xG hL _ (λo ho=>hok o (hmem o ho)) hrun rfl)
theorem VK{L:Lv}(hL:LvOk P L)(hF:Wd F){N b n n2:Nat}{c:Code}{l:List AO}{rest:AC}{an:List (List Nat)}{t t1 t2:T}{ts:List T}(hc:compile P N c=some (.block b (.seq (.ops true l) rest)))
  (han:∀id ops y,c=.block b (.seq (.region id ops true) y)->anc ops=an/\ops.size=l.length) (hok:okAC (.seq (.ops true l) rest)=true) (hnb:noBad (.seq (.ops true l) rest)=true) (hall:allS L l an n2 (List.range l.length) t=some ts) (hts:∀x∈ts,x=t1) (h2:codeE L n rest t1=some (.ret,t2)) :
  Walks F P N c t .ret t2:=by
 intro E a w k R hN hs hR;obtain⟨c1,rfl,k1⟩:=Up hc;obtain⟨c2,c3,rfl,k2,k3⟩:=um k1;obtain⟨id,ops,rfl⟩:=uan k2;obtain⟨e1,e2⟩:=han id ops c3 rfl;simp only [okAC,noBad,zBA]at hok hnb;refine wpIn_block (wpIn_seq ?_);refine ual hL hF k2 hnb.1 hok.1 (by rw [e1,e2];exact hall) hts hN hs λa' w' hs'=>?_
 have e0:=Ww (hs'.sim.choose_spec.choose_spec).dfr;rw [e0];refine(Wv hL hF n).1 rest c3 t1 .ret t2 k3 hok.2 hnb.2 h2 E a' w' [] k _ hN hs' λa'' w'' hs''=>?_;have e1:=Ww (hs''.sim.choose_spec.choose_spec).dfr;rw [<-e1];exact hR a'' w'' hs''
theorem qR{L:Lv}(hL:LvOk P L){n N p1 p2 Ni:Nat}{cA cB ci:Code}{ac:AC}{i0 i1:Nat->T}{e:Ex}(hc:compile P Ni ci=some ac)(hok:okAC ac=true)(hnb:noBad ac=true)(he:∀i,e≠.exit i)(h:∀l,codeE L n ac (i0 l)=some (e,i1 l)) :
  Iter false P N p1 p2 cA cB ci Ni i0 i1:=by
 intro l k E2 E0 aP aI w m I r R hN hN0 hX hz hrt hrs hrp hrA hrB hs hf hR;have e0:=Ww hs.dfr;rw [e0];refine(Wv hL (.inl rfl) n).1 ac ci (i0 l) e (i1 l) hc hok hnb (h l) E2 aI w [] k R hN (jz hs) λa' w' hs'=>?_;obtain⟨m',I',hs'⟩:=hs'.sim;rw [<-Ww hs'.dfr];exact hR e a' w' m' I' he hs'
structure Once (P:Program) (L:Lv) (n N p1 p2:Nat) (aA:AC) (cB:Code) (r0 r1 cn1 r2 r3 r45 cn6 r5 r7:AC) (b1 b2 b3:Nat) (l1 l2:List AO) (d g j p q:Nat) (l:Nat) (t0 t11:T):Prop where
 ev:∃(t1 t2 t3 t4 t5 t6 t7 t8 t9 t10 u2 u3:T) (v v4:Tr) (x x4:List Tr),∃X:AC,X=(.seq r1 (.seq cn1 (.seq (.block b1 (.seq r2 (.seq r3 (.block b2 (.loop (.seq r45 (.seq (.block b3 (.seq (.ops false (l1++⟨some d,some (g,true),.callv (.t j) [.t p,.t q]⟩::l2)) cn6)) r5))))))) r7)))/\
  codeE L n r0 t0=some (.nrm,t1)/\codeE L n X t1=some (.nrm,t2)/\codeE L n X t2=some (.nrm,t3)/\codeE L n r1 t3=some (.nrm,t4)/\codeE L n cn1 t4=some (.nrm,t5)/\codeE L n r2 t5=some (.nrm,t6)/\codeE L n r3 t6=some (.nrm,t7)/\codeE L n r45 t7=some (.nrm,t8)/\
  aosE L false l1 t8=some t9/\t9.get g=.one (.lit (.bool true))/\t9.x=v::x/\t9.get j=.one (.lit (.func (.yield l) #[] #[]))/\
  codeE L n aA (((T.mk v (t9.v::t9.x) t9.h t9.n).put (some p1) (t9.get p)).put (some p2) (t9.get q))=some (.nrm,u2)/\Walks (Fence.wide.inRound l) P N cB u2 .ret u3/\u3.x=v4::x4/\
  aosE L false l2 ((T.mk v4 x4 u3.h u3.n).put (some d) (.one (.lit (.bool false))))=some t10/\codeE L n cn6 t10=some (.ret,t11)
theorem jX{L:Lv}(hL:LvOk P L){n N p1 p2 Ni b0 b1 b2 b3:Nat}{cA cB ci:Code}{aA r0 r1 cn1 r2 r3 r45 cn6 r5 r7:AC}{l1 l2:List AO}{d g j p q:Nat}{i0 i1:Nat->T}(hR:Rnd P N p1 p2 cA aA)
  (hc:compile P Ni ci=some (.seq r0 (.block b0 (.loop (.seq r1 (.seq cn1 (.seq (.block b1 (.seq r2 (.seq r3 (.block b2 (.loop (.seq r45 (.seq (.block b3 (.seq (.ops false (l1++⟨some d,some (g,true),.callv (.t j) [.t p,.t q]⟩::l2)) cn6)) r5))))))) r7)))))))
  (hok:okAC (.seq r0 (.block b0 (.loop (.seq r1 (.seq cn1 (.seq (.block b1 (.seq r2 (.seq r3 (.block b2 (.loop (.seq r45 (.seq (.block b3 (.seq (.ops false (l1++⟨some d,some (g,true),.callv (.t j) [.t p,.t q]⟩::l2)) cn6)) r5))))))) r7))))))=true)
  (hnb:noBad (.seq r0 (.block b0 (.loop (.seq r1 (.seq cn1 (.seq (.block b1 (.seq r2 (.seq r3 (.block b2 (.loop (.seq r45 (.seq (.block b3 (.seq (.ops false (l1++⟨some d,some (g,true),.callv (.t j) [.t p,.t q]⟩::l2)) cn6)) r5))))))) r7))))))=true)
  (hok2:l1.all (okAO l1)=true/\l2.all (okAO l2)=true) (hd:d<Ni) (hd2:d<256) (h:∀l,Once P L n N p1 p2 aA cB r0 r1 cn1 r2 r3 r45 cn6 r5 r7 b1 b2 b3 l1 l2 d g j p q l (i0 l) (i1 l)) :
  Iter true P N p1 p2 cA cB ci Ni i0 i1:=by
 intro l k E2 E0 aP aI w m I r R hN hN0 hX hz hrt hrs hrp hrA hrB hs hf hK;obtain⟨t1,t2,t3,t4,t5,t6,t7,t8,t9,t10,u2,u3,v,v4,x,x4,X,eX,e0,f1,f2,e1,ec,e2,e3,e4,h1,hg,hx,hj,hA,hB,hx3,h2,e6⟩:=(h l).ev;subst hN hN0 hrA hrB;refine once hL hX hz hR hrt hrs hrp (X:=X) eX rfl rfl (by rw [eX];exact hc) (by rw [eX];exact hok) (by rw [eX];exact hnb) hok2 hs hf hd hd2 e0 f1 f2 e1 ec e2 e3 e4 h1 hg hx hj hA hB hx3 h2 e6 λa' w' m' I' hs'=>?_
 exact hK .ret a' w' m' I' (λi e=>by cases e) hs'
end Go.Abs
end
section
namespace Go.Abs
noncomputable section
abbrev Rw3:=Bool×List Nat×List Nat
def nval:List Nat->Nat
 | []=>0
 | a::l=>a+4294967296*nval l
def decW:List (List C)->Option (List Nat)
 | []=>some []
 | e::r=>match e with
  | [.lit (.int .u32 (.ofNat n))]=>cond (Nat.blt n 4294967296) ((decW r).map (n::·)) none
  | _=>none
def lastNZ:List Nat->Bool
 | []=>true
 | a::l=>match l with
  | []=>!Nat.beq a 0
  | _=>lastNZ l
def nilB{α:Type}:List α->Bool
 | []=>true
 | _=>false
def vldE(x:Rw3):Bool:=
 cond (nilB x.2.1 && nilB x.2.2) (!x.1) (!nilB x.2.1 && !nilB x.2.2 && lastNZ x.2.1 && lastNZ x.2.2 && Nat.beq (Nat.gcd (nval x.2.1) (nval x.2.2)) 1)
def decR:AV->Option Rw3
 | .agg [.lit (.bool b),.slice n,.slice d]=>match decW n,decW d with
  | some n,some d=>cond (Nat.ble n.length 1000000 && Nat.ble d.length 1000000) (some (b,n,d)) none
  | _,_=>none
 | _=>none
def decV(a:AV):Option Rw3:=
 match decR a with
 | some x=>cond (vldE x) (some x) none
 | none=>none
def encR(x:Rw3):AV:=.agg [.lit (.bool x.1),.slice (x.2.1.map λn=>[.lit (.int .u32 (.ofNat n))]),.slice (x.2.2.map λn=>[.lit (.int .u32 (.ofNat n))])]
def dgF:Nat->Nat->List Nat
 | 0,_=>[]
 | f+1,n=>cond (Nat.beq n 0) [] (n % 4294967296::dgF f (n / 4294967296))
def mkR(s:Bool)(n d:Nat):Rw3:=
 cond (Nat.beq n 0) (false,[],[]) (s,dgF (Nat.log2 n+1) (n / Nat.gcd n d),dgF (Nat.log2 d+1) (d / Nat.gcd n d))
def addR(x y:Rw3):Rw3:=
 match x,y with
 | (_,[],_),y=>y
 | x,(_,[],_)=>x
 | (s,n,d),(t,m,e)=>
  let a:=nval n*nval e
  let b:=nval m*nval d
  let g:=nval d*nval e
  cond (s == t) (mkR s (a+b) g) (cond (Nat.ble b a) (mkR s (a-b) g) (mkR t (b-a) g))
def negR(x:Rw3):Rw3:=
 match x with
 | (_,[],_)=>(false,[],[])
 | (s,n,d)=>(!s,n,d)
def mulR(x y:Rw3):Rw3:=
 match x,y with
 | (_,[],_),_=>(false,[],[])
 | _,(_,[],_)=>(false,[],[])
 | (s,n,d),(t,m,e)=>mkR (s != t) (nval n*nval m) (nval d*nval e)
def divR(x y:Rw3):Rw3:=
 match x,y with
 | (_,[],_),_=>(false,[],[])
 | (s,n,d),(t,m,e)=>mkR (s != t) (nval n*nval e) (nval d*nval m)
def signR(x:Rw3):Int:=
 match x with
 | (_,[],_)=>.ofNat 0
 | (s,_,_)=>cond s (.negSucc 0) (.ofNat 1)
inductive FK where
 | add | sub | mul | div | neg | sign | cmp | valid | of
def fracE:FK->List AV->Option AV
 | .add,[a,b]=>match decV a,decV b with
  | some x,some y=>some (encR (addR x y))
  | _,_=>none
 | .sub,[a,b]=>match decV a,decV b with
  | some x,some y=>some (encR (addR x (negR y)))
  | _,_=>none
 | .mul,[a,b]=>match decV a,decV b with
  | some x,some y=>some (encR (mulR x y))
  | _,_=>none
 | .div,[a,b]=>match decV a,decV b with
  | some x,some y=>cond (nilB y.2.1) none (some (.tup [encR (divR x y),.one (.lit .nilIface)]))
  | _,_=>none
 | .neg,[a]=>match decV a with
  | some x=>some (encR (negR x))
  | none=>none
 | .sign,[a]=>match decV a with
  | some x=>some (.one (.lit (.int .i64 (signR x))))
  | none=>none
 | .cmp,[a,b]=>match decV a,decV b with
  | some x,some y=>some (.one (.lit (.int .i64 (signR (addR x (negR y))))))
  | _,_=>none
 | .valid,[a]=>match decR a with
  | some x=>some (.one (.lit (.bool (vldE x))))
  | none=>none
 | .of,[.one (.lit (.int .i64 n))]=>match n with
  | .ofNat k=>cond (Nat.ble k 1000000) (some (encR (mkR false k 1))) none
  | .negSucc k=>cond (Nat.ble k 1000000) (some (encR (mkR true (k+1) 1))) none
 | _,_=>none
def cloneE:List AV->Option (List (List C))
 | [.one (.slice [])]=>some []
 | [.one (.full [])]=>some []
 | [.one .emp]=>some []
 | _=>none
structure PQ where
 h:List (Nat×HB)
 n:Nat
 args:List AV
 r:AV
 mv:List (List (Nat×Nat))
 h' : List (Nat×HB)
 n' : Nat
def mvT:List (List (Nat×Nat))->Tr->Tr
 | [],v=>v
 | l::r,v=>mvT r (rnT (swp l) v)
def mvX:List (List (Nat×Nat))->List Tr->List Tr
 | [],x=>x
 | l::r,x=>mvX r (x.map (rnT (swp l)))
def pairE:List PQ->T->List AV->Option (AV×T)
 | [],_,_=>none
 | q::l,t,args=>sel (Nat.beq t.n q.n && eqAs args q.args && eqH t.h q.h) (some (q.r,⟨mvT q.mv t.v,mvX q.mv t.x,q.h',q.n'⟩)) (pairE l t args)
structure Nums where
 fr:List (Nat×FK)
 clones:List Nat
 wide:Nat
 four:Nat
 pair:Nat
 rk:List (Nat×Nat)
 pq:List PQ
def rankK:List (Nat×Nat)->Nat->Nat
 | [],_=>1000
 | (k,x)::r,f=>cond (Nat.beq f k) x (rankK r f)
def lookK:List (Nat×FK)->Nat->Option FK
 | [],_=>none
 | (k,x)::r,f=>cond (Nat.beq f k) (some x) (lookK r f)
def memN(l:List Nat)(f:Nat):Bool:=l.any (Nat.beq f)
def baseN(N:Nums):Base where
 dat f args:=match lookK N.fr f with
  | some k=>fracE k args
  | none=>none
 inl f args t:=cond (Nat.beq f N.pair) (pairE N.pq t args) none
 fresh f args:=cond (memN N.clones f) (cloneE args) none
 z f:=cond (Nat.beq f N.wide) 3 (cond (Nat.beq f N.four) 4 1)
 rk f:=match lookK N.fr f with
  | some _=>0
  | none=>rankK N.rk f
end
end Go.Abs
end
section
namespace Go.Abs
open Go.Num
theorem wM:∀l:List Nat,nval l=val l
 | []=>rfl
 | a::l=>by rw [nval,val,wM l]
theorem jZ:∀{es:List (List C)} {l:List Nat},decW es=some l->es=l.map wc/\WL l
 | [],l,h=>by cases h;exact⟨rfl,Wc⟩
 | e::r,l,h=>by
  simp only [decW]at h;split at h
  .rename_i n;cases hb:Nat.blt n 4294967296 with
   | false=>rw [hb]at h;exact nos h
   | true=>
    rw [hb]at h;simp only [cond_true,zOM]at h;obtain⟨l',h1,rfl⟩:=h;obtain⟨h2,h3⟩:=jZ h1;refine⟨by rw [h2];rfl,qc.2 ⟨ua hb,h3⟩⟩
  .exact nos h
theorem JK:∀(l:List Nat),lastNZ l=true↔NZ l
 | []=>by simp [lastNZ,NZ]
 | [a]=>by
  simp only [lastNZ,NZ,List.getLast?_singleton,ne_eq,zOI,Bool.not_eq_true'];cases hb:Nat.beq a 0 with
  | false=>simp only [true_iff];intro e;rw [e]at hb;exact Bool.noConfusion hb
  | true=>simp only [Bool.true_eq_false,false_iff,Classical.not_not];exact beq_eq hb
 | a::b::l=>by
  have:=JK (b::l);simp only [lastNZ]at this ⊢;rw [this];unfold NZ;rw [List.getLast?_cons_cons]
theorem Uv{α:Type}(l:List α):nilB l=true↔l=[]:=by cases l <;> simp [nilB]
theorem WN(x:R):vldE x=vldR x:=by
 unfold vldE vldR;by_cases h:x.2.1=[]/\x.2.2=[]
 .rw [if_pos h,(Uv _).2 h.1,(Uv _).2 h.2];rfl
 .rw [if_neg h];have hb:(nilB x.2.1 && nilB x.2.2)=false:=by
   rw [Bool.eq_false_iff];intro e;simp only [zBA,Uv]at e;exact h e
  rw [hb,cond_false,Bool.eq_iff_iff];simp only [zBA,Bool.not_eq_true',decide_eq_true_eq,JK,Nat.beq_eq,wM];have e1:∀l:List Nat,nilB l=false↔l≠[]:=λl=>by
   rw [<-Bool.not_eq_true,Uv]
  rw [e1,e1];exact⟨λ⟨⟨⟨⟨a,b⟩,c⟩,d⟩,e⟩=>⟨a,b,c,d,e⟩,λ⟨a,b,c,d,e⟩=>⟨⟨⟨⟨a,b⟩,c⟩,d⟩,e⟩⟩
theorem vas{a:AV}{x:R}(h:decR a=some x):a=rA x/\WLR x/\rl x<=1000000:=by
 unfold decR at h;split at h
 .split at h
  .rename_i e1 e2;rename_i n' d';obtain⟨g1,g2⟩:=jZ e1;obtain⟨g3,g4⟩:=jZ e2;cases hb:(Nat.ble n'.length 1000000 && Nat.ble d'.length 1000000) with
   | false=>rw [hb]at h;exact nos h
   | true=>
    rw [hb]at h;cases h
    simp only [zBA]at hb;exact⟨by rw [g1,g3];rfl,⟨g2,g4⟩,Nat.max_le.2 ⟨ua hb.1,ua hb.2⟩⟩
  .exact nos h
 .exact nos h
theorem yg{a:AV}{x:R}(h:decV a=some x):a=rA x/\WLR x/\rl x<=1000000/\vldR x=true:=by
 unfold decV at h;split at h
 .rename_i x' e;obtain⟨h1,h2,h3⟩:=vas e;cases hb:vldE x' with
  | false=>rw [hb]at h;exact nos h
  | true=>
   rw [hb]at h;cases h
   rw [WN]at hb;exact⟨h1,h2,h3,hb⟩
 .exact nos h
theorem qar:∀(f n:Nat),n<2 ^ f->dgF f n=digs n
 | 0,n,h=>by
  have:n=0:=by simpa using h
  subst this;rw [Zb];rfl
 | f+1,n,h=>by
  simp only [dgF];by_cases e:n=0
  .subst e;rw [Zb];rfl
  .have hb:Nat.beq n 0=false:=by
    cases hx:Nat.beq n 0 with
    | false=>rfl
    | true=>exact(e (beq_eq hx)).elim
   rw [hb,cond_false,kk e,qar f (n / 4294967296) (by rw [Nat.pow_succ]at h;omega)]
theorem jE(s:Bool)(n:Nat):(sg s n).natAbs=n:=by unfold sg;split <;> omega
theorem Xbf(s:Bool)(n d:Nat):Int.gcd (sg s n) d=Nat.gcd n d:=by
 unfold Int.gcd;rw [jE];rfl
theorem ybe{s:Bool}{n:Nat}(h:n≠0):decide (sg s n<0)=s:=by unfold sg;cases s <;> simp <;> omega
theorem QaV(s:Bool):sg s 0=0:=by cases s <;> rfl
theorem vu(s:Bool)(n d:Nat)(hd:d≠0):mkR s n d=rcan (Rat.divInt (sg s n) d):=by
 unfold mkR;by_cases e:n=0
 .subst e;rw [QaV,Rat.zero_divInt,uc];rfl
 .have hb:Nat.beq n 0=false:=by
   cases hx:Nat.beq n 0 with
   | false=>rfl
   | true=>exact(e (beq_eq hx)).elim
  have hdi:(d:Int)≠0:=by omega
  have hni:sg s n≠0:=by have:=jE s n;omega
  rw [hb,cond_false,UB hdi hni,Xbf,jE,Int.sign_eq_one_of_pos (by omega),Int.one_mul,ybe e,Int.natAbs_natCast]
  rw [qar _ _ (Nat.lt_of_le_of_lt (Nat.div_le_self _ _) Nat.lt_log2_self),qar _ _ (Nat.lt_of_le_of_lt (Nat.div_le_self _ _) Nat.lt_log2_self)]
theorem Qg{x:R}(hw:WLR x)(h:vldR x=true):(x=(false,[],[])/\rv x=0)∨(x.2.1≠[]/\(rv x).num=sg x.1 (nval x.2.1)/\(rv x).den=nval x.2.2/\rv x≠0/\nval x.2.1≠0/\nval x.2.2≠0):=by
 by_cases hn:x.2.1=[]
 .left;have hc:=vi hw h;have h0:rv x=0:=by
   apply Classical.byContradiction;intro hne;unfold rcan at hc;rw [if_neg hne]at hc;have:digs (rv x).num.natAbs=x.2.1:=congrArg (λr:R=>r.2.1) hc;rw [hn]at this;rw [Ud]at this;have:=yP hne;omega
  rw [h0,uc]at hc;exact⟨hc.symm,h0⟩
 .right;obtain⟨h1,h2,h3,h4,h5,h6⟩:=XA hw h hn;rw [wM,wM];exact⟨hn,h1,h2,h3,Jc h4 hn,by rw [<-h2];exact(rv x).den_nz⟩
theorem js{α:Type}{l:List α}(h:l≠[]):∃a r,l=a::r:=by
 cases l with
 | nil=>exact(h rfl).elim
 | cons a r=>exact⟨a,r,rfl⟩
theorem uw{x y:R}(hx:WLR x)(hy:WLR y)(vx:vldR x=true)(vy:vldR y=true):addR x y=rcan (rv x+rv y):=by
 rcases Qg hx vx with⟨rfl,e⟩ | ⟨hn,h1,h2,h3,h4,h5⟩
 .rw [e,Rat.zero_add,vi hy vy];rfl
 .rcases Qg hy vy with⟨rfl,e⟩ | ⟨kn,k1,k2,k3,k4,k5⟩
  .rw [e,Rat.add_zero,vi hx vx];obtain⟨s,n,d⟩:=x;obtain⟨a,r,hr⟩:=js hn;simp only at hr;subst hr;rfl
  .rw [<-qF,h1,h2,k1,k2];obtain⟨s,n,d⟩:=x;obtain⟨t,m,e⟩:=y;simp only at hn kn h4 h5 k4 k5 ⊢;have hdef:addR (s,n,d) (t,m,e)=cond (s == t) (mkR s (nval n*nval e+nval m*nval d) (nval d*nval e)) (cond (Nat.ble (nval m*nval d) (nval n*nval e)) (mkR s (nval n*nval e-nval m*nval d) (nval d*nval e)) (mkR t (nval m*nval d-nval n*nval e) (nval d*nval e))):=by
    obtain⟨a,r,hr⟩:=js hn;obtain⟨b,q,hq⟩:=js kn;subst hr hq;rfl
   rw [hdef];generalize nval n=n at *
   generalize nval m=m at *
   generalize nval d=d at *
   generalize nval e=e at *
   have hde:d*e≠0:=Nat.mul_ne_zero h5 k5;have hc:((d:Int)*(e:Int))=((d*e:Nat):Int):=by rw [Int.natCast_mul]
   rw [hc];have h1:((n*e:Nat):Int)=(n:Int)*(e:Int):=Int.natCast_mul ..;have h2:((m*d:Nat):Int)=(m:Int)*(d:Int):=Int.natCast_mul ..;by_cases hst:s=t
   .subst hst;rw [show(s == s)=true by cases s <;> rfl,cond_true,vu _ _ _ hde]
    congr 2;unfold sg;cases s
    .simp only [Bool.false_eq_true,if_false];omega
    .simp only [if_true,Int.neg_mul];omega
   .rw [show(s == t)=false by cases s <;> cases t <;> first | rfl | exact(hst rfl).elim,cond_false]
    by_cases hle:m*d<=n*e
    .rw [show Nat.ble (m*d) (n*e)=true by rw [Nat.ble_eq];exact hle,cond_true,vu _ _ _ hde]
     congr 2;unfold sg;cases s <;> cases t <;> first | exact(hst rfl).elim | (simp only [Bool.false_eq_true,if_false,if_true,Int.neg_mul];omega)
    .rw [show Nat.ble (m*d) (n*e)=false by rw [<-Bool.not_eq_true,Nat.ble_eq];exact hle,cond_false,vu _ _ _ hde]
     congr 2;unfold sg;cases s <;> cases t <;> first | exact(hst rfl).elim | (simp only [Bool.false_eq_true,if_false,if_true,Int.neg_mul];omega)
theorem Vx{x:R}(hx:WLR x)(vx:vldR x=true):negR x=rcan (-rv x):=by
 rcases Qg hx vx with⟨rfl,e⟩ | ⟨hn,h1,h2,h3,h4,h5⟩
 .rw [e,show -(0:Rat)=0 from rfl,uc];rfl
 .have hc:=vi hx vx;have h' : -rv x≠0:=by intro e;apply h3;rw [<-Rat.neg_neg (rv x),e];rfl
  unfold rcan at hc ⊢;rw [if_neg h3]at hc;rw [if_neg h',Rat.neg_num,Rat.neg_den,Int.natAbs_neg];have hnum:=yP h3;generalize rv x=q at *
  obtain⟨s,n,d⟩:=x;simp only [Prod.mk.injEq]at hc;obtain⟨c1,c2,c3⟩:=hc;have hdef:negR (s,n,d)=(!s,n,d):=by
   obtain⟨a,r,hr⟩:=js hn;simp only at hr;subst hr;rfl
  rw [hdef,c2,c3,<-c1];congr 1;rw [Bool.eq_iff_iff];simp only [Bool.not_eq_true',decide_eq_false_iff_not,decide_eq_true_eq];omega
theorem Zao{x y:R}(hx:WLR x)(hy:WLR y)(vx:vldR x=true)(vy:vldR y=true):mulR x y=rcan (rv x*rv y):=by
 rcases Qg hx vx with⟨rfl,e⟩ | ⟨hn,h1,h2,h3,h4,h5⟩
 .rw [e,Rat.zero_mul,uc];rfl
 .rcases Qg hy vy with⟨rfl,e⟩ | ⟨kn,k1,k2,k3,k4,k5⟩
  .rw [e,Rat.mul_zero,uc];obtain⟨s,n,d⟩:=x;obtain⟨a,r,hr⟩:=js hn;simp only at hr;subst hr;rfl
  .rw [<-JC,h1,h2,k1,k2];obtain⟨s,n,d⟩:=x;obtain⟨t,m,e⟩:=y;simp only at hn kn h4 h5 k4 k5 ⊢;have hdef:mulR (s,n,d) (t,m,e)=mkR (s != t) (nval n*nval m) (nval d*nval e):=by
    obtain⟨a,r,hr⟩:=js hn;obtain⟨b,q,hq⟩:=js kn;subst hr hq;rfl
   rw [hdef];generalize nval n=n at *
   generalize nval m=m at *
   generalize nval d=d at *
   generalize nval e=e at *
   rw [vu _ _ _ (Nat.mul_ne_zero h5 k5),Int.natCast_mul];congr 2;unfold sg;cases s <;> cases t <;> simp [Int.natCast_mul,Int.neg_mul,Int.mul_neg]
theorem xar{x y:R}(hx:WLR x)(hy:WLR y)(vx:vldR x=true)(vy:vldR y=true)(hne:nilB y.2.1=false):divR x y=rcan (rv x / rv y)/\rv y≠0:=by
 rcases Qg hy vy with⟨rfl,e⟩ | ⟨kn,k1,k2,k3,k4,k5⟩
 .exact Bool.noConfusion hne
 refine⟨?_,k3⟩;rcases Qg hx vx with⟨rfl,e⟩ | ⟨hn,h1,h2,h3,h4,h5⟩
 .rw [e,Rat.div_def,Rat.zero_mul,uc];rfl
 .rw [<-wE k3,h1,h2,k1,k2];obtain⟨s,n,d⟩:=x;obtain⟨t,m,e⟩:=y;simp only at hn kn h4 h5 k4 k5 ⊢;have hdef:divR (s,n,d) (t,m,e)=mkR (s != t) (nval n*nval e) (nval d*nval m):=by
   obtain⟨a,r,hr⟩:=js hn;subst hr;rfl
  rw [hdef];generalize nval n=n at *
  generalize nval m=m at *
  generalize nval d=d at *
  generalize nval e=e at *
  rw [vu _ _ _ (Nat.mul_ne_zero h5 k4)];congr 1;cases t
  .unfold sg;cases s <;> simp [Int.natCast_mul,Int.neg_mul,Int.mul_neg]
  .rw [show sg true m = -(m:Int) from rfl,Int.mul_neg,Rat.divInt_neg',<-Int.natCast_mul];congr 1;unfold sg;cases s <;> simp [Int.natCast_mul,Int.neg_mul,Int.mul_neg]
theorem Wz{x:R}(hx:WLR x)(vx:vldR x=true):signR x=ordQ (rv x) 0:=by
 rcases Qg hx vx with⟨rfl,e⟩ | ⟨hn,h1,h2,h3,h4,h5⟩
 .rw [e];rfl
 .have hs:(rv x<0)↔sg x.1 (nval x.2.1)<0:=by rw [<-h1,Rat.lt_iff];simp
  have hp:(0<rv x)↔0<sg x.1 (nval x.2.1):=by rw [<-h1,Rat.lt_iff];simp
  obtain⟨s,n,d⟩:=x;have hdef:signR (s,n,d)=cond s (.negSucc 0) (.ofNat 1):=by
   obtain⟨a,r,hr⟩:=js hn;simp only at hr;subst hr;rfl
  rw [hdef];unfold ordQ;simp only at hs hp h4;cases s
  .rw [if_neg (by rw [hs];unfold sg;simp only [Bool.false_eq_true,if_false];omega),if_pos (by rw [hp];unfold sg;simp only [Bool.false_eq_true,if_false];omega)]
   rfl
  .rw [if_pos (by rw [hs];unfold sg;simp only [if_true];omega)]
   rfl
theorem yz(n:Int):Rat.divInt n 1=(n:Rat):=by
 have:=Rat.mkRat_one n
 rwa [<-Rat.divInt_ofNat]at this
theorem Zy(q:Rat):WLR (rcan q)/\vldR (rcan q)=true:=⟨vv q,qu q⟩
theorem kaI(p q:Rat):ordQ (p-q) 0=ordQ p q:=by
 unfold ordQ;have h1:p-q<0↔p<q:=by constructor <;> intro h <;> grind
 have h2:0<p-q↔q<p:=by constructor <;> intro h <;> grind
 simp only [h1,h2]
theorem Qo{k:R->Prop}{x:R}(hw:WLR x)(hk:k x):onR k (rA x):=⟨x,rfl,hw,hk⟩
def fG(tE:Nat):FK->List AV->(AV->Prop)->Prop
 | .add=>wu
 | .sub=>Jy
 | .mul=>Wy
 | .div=>qq tE
 | .neg=>yu
 | .sign=>Wj
 | .cmp=>qy
 | .valid=>yd
 | .of=>wR
theorem zae(tE:Nat){k:FK}{args:List AV}{r:AV}{K:AV->Prop}(h:fracE k args=some r)(hk:K r):fG tE k args K:=by
 unfold fracE at h;split at h
 .split at h
  .rename_i x y e1 e2;cases h
   obtain⟨rfl,a2,a3,a4⟩:=yg e1;obtain⟨rfl,b2,b3,b4⟩:=yg e2;rw [uw a2 b2 a4 b4]at hk;exact Qo a2 (Qo b2 ⟨by omega,by omega,hk⟩)
  .exact nos h
 .split at h
  .rename_i x y e1 e2;cases h
   obtain⟨rfl,a2,a3,a4⟩:=yg e1;obtain⟨rfl,b2,b3,b4⟩:=yg e2;rw [Vx b2 b4,uw a2 (Zy _).1 a4 (Zy _).2,xc,<-Rat.sub_eq_add_neg]at hk;exact Qo a2 (Qo b2 ⟨by omega,by omega,hk⟩)
  .exact nos h
 .split at h
  .rename_i x y e1 e2;cases h
   obtain⟨rfl,a2,a3,a4⟩:=yg e1;obtain⟨rfl,b2,b3,b4⟩:=yg e2;rw [Zao a2 b2 a4 b4]at hk;exact Qo a2 (Qo b2 ⟨by omega,by omega,hk⟩)
  .exact nos h
 .split at h
  .rename_i x y e1 e2;obtain⟨rfl,a2,a3,a4⟩:=yg e1;obtain⟨rfl,b2,b3,b4⟩:=yg e2;cases hn:nilB y.2.1 with
   | true=>rw [hn]at h;exact nos h
   | false=>
    rw [hn]at h;cases h
    obtain⟨q1,q2⟩:=xar a2 b2 a4 b4 hn;rw [q1]at hk;refine Qo a2 (Qo b2 ⟨by omega,by omega,?_⟩)
    rw [if_neg q2,QQ];exact hk
  .exact nos h
 .split at h
  .rename_i x e1;cases h
   obtain⟨rfl,a2,a3,a4⟩:=yg e1;rw [Vx a2 a4]at hk;exact Qo a2 ⟨by omega,hk⟩
  .exact nos h
 .split at h
  .rename_i x e1;cases h
   obtain⟨rfl,a2,a3,a4⟩:=yg e1;rw [Wz a2 a4]at hk;exact Qo a2 ⟨by omega,hk⟩
  .exact nos h
 .split at h
  .rename_i x y e1 e2;cases h
   obtain⟨rfl,a2,a3,a4⟩:=yg e1;obtain⟨rfl,b2,b3,b4⟩:=yg e2;rw [Vx b2 b4,uw a2 (Zy _).1 a4 (Zy _).2,xc,<-Rat.sub_eq_add_neg,Wz (Zy _).1 (Zy _).2,xc,kaI]at hk;exact Qo a2 (Qo b2 ⟨by omega,by omega,hk⟩)
  .exact nos h
 .split at h
  .rename_i x e1;cases h
   obtain⟨rfl,a2,a3⟩:=vas e1;rw [WN]at hk;exact Qo a2 ⟨by omega,hk⟩
  .exact nos h
 .split at h
  .rename_i k;cases hb:Nat.ble k 1000000 with
   | false=>rw [hb]at h;exact nos h
   | true=>
    rw [hb]at h;cases h
    have:=ua hb;rw [vu _ _ _ (by decide),show sg false k=((k:Nat):Int) from rfl,show(((1:Nat):Int))=1 from rfl,yz]at hk
    refine⟨rfl,by simp only [Int.ofNat_eq_natCast];omega,by simp only [Int.ofNat_eq_natCast];omega,hk⟩
  .rename_i k;cases hb:Nat.ble k 1000000 with
   | false=>rw [hb]at h;exact nos h
   | true=>
    rw [hb]at h;cases h
    have:=ua hb;rw [vu _ _ _ (by decide),show sg true (k+1)=Int.negSucc k from rfl,show(((1:Nat):Int))=1 from rfl,yz]at hk
    refine⟨rfl,by simp only [Int.negSucc_eq];omega,by simp only [Int.negSucc_eq];omega,hk⟩
 .exact nos h
end Go.Abs
end
section
namespace Go.Abs
open Go.Num
variable {P:Program}
def clAC(z:Nat):AC:=(.seq (.p [⟨some 2,none,.mv (.c (.one .emp))⟩]) (.seq (.seq (.p [⟨some 3,none,.mv (.t 0)⟩,⟨some 4,none,.snil false (.t 3)⟩]) (.cond (.t 4) (.seq (.p [⟨some 2,none,.mv (.c (.one .emp))⟩]) .ret) .skip)) (.seq (.p [⟨some 5,none,.mv (.c (.one .emp))⟩,⟨some 6,none,.mv (.t 0)⟩,⟨some 7,none,.app0 z (.t 5) (.t 6)⟩,⟨some 2,none,.mv (.t 7)⟩]) .ret)))
theorem xr:Holds P λ_=>.none:=λ_=>trivial
theorem vak{f z:Nat}(hc:check P f=some (8,clAC z,[.tmp 2])):FSound P f z λargs K=>∃r,cloneE args=some r/\K r:=by
 obtain⟨fn,c,h1,h2,h3,h4,h5,h6,h7⟩:=Vi hc;refine fsound (ac:=clAC z) (Γ:=λ_=>.none) h1 h3 h4 h5 h6 xr h7 λargs K hcl hfi ⟨r,hr,hk⟩=>?_;unfold cloneE at hr;split at hr
 .cases hr
  refine⟨by simp,?_⟩
  simp only [go_sem,clAC];simp [roomA,hk,CleanR]
 .cases hr
  refine⟨by simp,?_⟩
  simp only [go_sem,clAC];simp [roomA,hk,CleanR]
 .cases hr
  refine⟨by simp,?_⟩
  simp only [go_sem,clAC];simp [roomA,hk,CleanR]
 .exact nos hr
theorem DSound.mono{f:FuncId}{G G' : List AV->(AV->Prop)->Prop}(h:DSound P f G)(hm:∀args K,G' args K->G args K):DSound P f G':=
 λargs vals w I K h1 h2 h3 hG=>h args vals w I K h1 h2 h3 (hm args K hG)
theorem FSound.mono{f:FuncId}{z:Nat}{G G' : List AV->(List (List C)->Prop)->Prop}(h:FSound P f z G)(hm:∀args K,G' args K->G args K):FSound P f z G':=
 λargs vals w I K h1 h2 h3 hG=>h args vals w I K h1 h2 h3 (hm args K hG)
theorem kU:∀{l:List (Nat×FK)} {f:Nat} {k:FK},lookK l f=some k->(f,k)∈l
 | [],f,k,h=>nos h
 | (a,x)::r,f,k,h=>by
  simp only [lookK]at h;cases hb:Nat.beq f a with
  | true=>
   rw [hb]at h;cases h
   rw [beq_eq hb];exact List.mem_cons_self ..
  | false=>rw [hb]at h;exact List.mem_cons_of_mem _ (kU h)
theorem Jaz{N:Nums}{tE:Nat}(hf:∀p∈N.fr,Enters P p.1/\DSound P p.1 (fG tE p.2))(hcl:∀f∈N.clones,Enters P f/\FSound P f ((baseN N).z f) λargs K=>∃r,cloneE args=some r/\K r)
  (hpe:Enters P N.pair) (hp:ISound P N.pair λ_ args s K=>∃t r t',s=t.den/\pairE N.pq t args=some (r,t')/\K r t'.den):BaseOk P (baseN N):=by
 have hd:∀{f:Nat} {args:List AV} {r:AV},(baseN N).dat f args=some r->∃k,(f,k)∈N.fr/\fracE k args=some r:=by
  intro f args r h;simp only [baseN]at h;split at h
  .rename_i k e;exact⟨k,kU e,h⟩
  .exact nos h
 have hi:∀{f:Nat} {args:List AV} {t:T} {r:AV×T},(baseN N).inl f args t=some r->f=N.pair/\pairE N.pq t args=some r:=by
  intro f args t r h;simp only [baseN]at h;cases hb:Nat.beq f N.pair with
  | true=>rw [hb]at h;exact⟨beq_eq hb,h⟩
  | false=>rw [hb]at h;exact nos h
 have hc:∀{f:Nat} {args:List AV} {r:List (List C)},(baseN N).fresh f args=some r->f∈N.clones/\cloneE args=some r:=by
  intro f args r h;simp only [baseN]at h;cases hb:memN N.clones f with
  | true=>
   rw [hb]at h;unfold memN at hb;rw [List.any_eq_true]at hb;obtain⟨x,hx,e⟩:=hb;rw [beq_eq e];exact⟨hx,h⟩
  | false=>rw [hb]at h;exact nos h
 refine⟨λf args r h=>?_,λf args t r h=>?_,λf args r h=>?_,λf=>?_,λf=>?_,λf=>?_⟩
 .obtain⟨k,h1,h2⟩:=hd h;exact(hf _ h1).1
 .rw [(hi h).1];exact hpe
 .exact(hcl f (hc h).1).1
 .intro args vals w I K h1 h2 h3 ⟨r,h,hk⟩;obtain⟨k,g1,g2⟩:=hd h;exact(hf _ g1).2 args vals w I K h1 h2 h3 (zae tE g2 hk)
 .intro E args vals s a w m I d K hs hargs ⟨t,r,t',e,h,hk⟩;obtain⟨rfl,h2⟩:=hi h;exact hp E args vals s a w m I d K hs hargs ⟨t,r,t',e,h2,hk⟩
 .intro args vals w I K h1 h2 h3 ⟨r,h,hk⟩;obtain⟨g1,g2⟩:=hc h;exact(hcl f g1).2 args vals w I K h1 h2 h3 ⟨r,g2,hk⟩
theorem Qaq{tab:Nat->Option (Nat×AC×List RV)}{B:Base}(ht:TabOk P tab)(hB:BaseOk P B){f n:Nat}{b:Bool}(h:(lvE tab B n).dat f []=some (.one (.lit (.bool b)))) :
  Sound P f (.dat true λargs K=>args=[]/\K (.one (.lit (.bool b)))):=by
 have hL:=(Wu ht hB n).1;refine⟨hL.en f _ _ h,⟨λhm h=>⟨h.1,hm _ h.2⟩,λh=>⟨_,h.2⟩,λh=>⟨h.1,λK hk=>hk.2⟩⟩,(hL.dat f).mono λargs K ⟨h1,h2⟩=>?_⟩;subst h1;exact⟨_,h,h2⟩
end Go.Abs
end
section
namespace Go.Abs
variable {P:Program} {E:Env} {s:S} {a:Act} {w:World} {m:M} {I:Nat->Prop} {F:Fence}
noncomputable section
def nrmE(p:Option (Ex×T)):Option T:=obind p λp=>@Ex.rec (λ_=>Option T) (some p.2) (λ_=>none) none p.1
def retE(p:Option (Ex×T)):Option T:=obind p λp=>@Ex.rec (λ_=>Option T) none (λ_=>none) (some p.2) p.1
def hdX(x:List Tr):Option (Tr×List Tr):=@List.rec Tr (λ_=>Option (Tr×List Tr)) none (λv x _=>some (v,x)) x
def isTrue:AV->Bool
 | .one (.lit (.bool b))=>b
 | _=>false
def cloOf:AV->Option (Nat×C)
 | .one (.clo f [c])=>some (f,c)
 | _=>none
theorem Jl{p:Option (Ex×T)}{t:T}(h:nrmE p=some t):p=some (.nrm,t):=by
 obtain⟨⟨e,t1⟩,rfl,h⟩:=qa h;cases e with
 | nrm=>cases (show some t1=some t from h);rfl
 | exit i=>exact nos h
 | ret=>exact nos h
theorem yae{p:Option (Ex×T)}{t:T}(h:retE p=some t):p=some (.ret,t):=by
 obtain⟨⟨e,t1⟩,rfl,h⟩:=qa h;cases e with
 | ret=>cases (show some t1=some t from h);rfl
 | exit i=>exact nos h
 | nrm=>exact nos h
theorem kD{x x' : List Tr}{v:Tr}(h:hdX x=some (v,x')):x=v::x':=by
 cases x with
 | nil=>exact nos h
 | cons v x=>cases (show some (v,x)=some (_,x') from h);rfl
theorem VU{a:AV}(h:isTrue a=true):a=.one (.lit (.bool true)):=by
 unfold isTrue at h;split at h
 .rw [h]
 .exact Bool.noConfusion h
structure Pcs where
 r0:AC
 r1:AC
 cn1:AC
 r2:AC
 r3:AC
 r45:AC
 cn6:AC
 r5:AC
 r7:AC
 b0:Nat
 b1:Nat
 b2:Nat
 b3:Nat
 l1:List AO
 l2:List AO
 d:Nat
 g:Nat
 j:Nat
 p:Nat
 q:Nat
def Pcs.X(c:Pcs):AC:=(.seq c.r1 (.seq c.cn1 (.seq (.block c.b1 (.seq c.r2 (.seq c.r3 (.block c.b2 (.loop (.seq c.r45 (.seq (.block c.b3 (.seq (.ops false (c.l1++⟨some c.d,some (c.g,true),.callv (.t c.j) [.t c.p,.t c.q]⟩::c.l2)) c.cn6)) c.r5))))))) c.r7)))
def Pcs.all(c:Pcs):AC:=.seq c.r0 (.block c.b0 (.loop c.X))
def preRun(L:Lv)(n:Nat)(c:Pcs)(p1 p2:Nat)(aA:AC)(t0:T):Option (AV×T):=
 obind (nrmE (codeE L n c.r0 t0)) λt1=>obind (nrmE (codeE L n c.X t1)) λt2=>obind (nrmE (codeE L n c.X t2)) λt3=>obind (nrmE (codeE L n c.r1 t3)) λt4=>obind (nrmE (codeE L n c.cn1 t4)) λt5=>
 obind (nrmE (codeE L n c.r2 t5)) λt6=>obind (nrmE (codeE L n c.r3 t6)) λt7=>obind (nrmE (codeE L n c.r45 t7)) λt8=>obind (aosE L false c.l1 t8) λt9=>guardE (isTrue (t9.get c.g)) (obind (hdX t9.x) λp=>
 obind (nrmE (codeE L n aA (((T.mk p.1 (t9.v::t9.x) t9.h t9.n).put (some p1) (t9.get c.p)).put (some p2) (t9.get c.q)))) λu2=>some (t9.get c.j,u2))
def postRun(L:Lv)(n:Nat)(c:Pcs)(u3:T):Option T:=
 obind (hdX u3.x) λp=>obind (aosE L false c.l2 ((T.mk p.1 p.2 u3.h u3.n).put (some c.d) (.one (.lit (.bool false))))) λt10=>retE (codeE L n c.cn6 t10)
theorem yao{L:Lv}{n N p1 p2 l:Nat}{c:Pcs}{aA:AC}{cB:Code}{t0 t11 u2 u3:T}(h1:preRun L n c p1 p2 aA t0=some (.one (.lit (.func (.yield l) #[] #[])),u2))(hB:Walks (Fence.wide.inRound l) P N cB u2 .ret u3)(h2:postRun L n c u3=some t11) :
  Once P L n N p1 p2 aA cB c.r0 c.r1 c.cn1 c.r2 c.r3 c.r45 c.cn6 c.r5 c.r7 c.b1 c.b2 c.b3 c.l1 c.l2 c.d c.g c.j c.p c.q l t0 t11:=by
 unfold preRun at h1;obtain⟨t1,e1,h1⟩:=qa h1;obtain⟨t2,e2,h1⟩:=qa h1;obtain⟨t3,e3,h1⟩:=qa h1;obtain⟨t4,e4,h1⟩:=qa h1;obtain⟨t5,e5,h1⟩:=qa h1;obtain⟨t6,e6,h1⟩:=qa h1;obtain⟨t7,e7,h1⟩:=qa h1;obtain⟨t8,e8,h1⟩:=qa h1;obtain⟨t9,e9,h1⟩:=qa h1;obtain⟨hg,h1⟩:=Za h1;obtain⟨⟨v,x⟩,e10,h1⟩:=qa h1;obtain⟨u,e11,h1⟩:=qa h1;simp only [zOI,Prod.mk.injEq]at h1;obtain⟨hj,rfl⟩:=h1;unfold postRun at h2;obtain⟨⟨v4,x4⟩,f1,h2⟩:=qa h2;obtain⟨t10,f2,h2⟩:=qa h2;exact⟨t1,t2,t3,t4,t5,t6,t7,t8,t9,t10,u,u3,v,v4,x,x4,c.X,rfl,Jl e1,Jl e2,Jl e3,Jl e4,Jl e5,Jl e6,Jl e7,Jl e8,e9,VU hg,kD e10,hj,Jl e11,hB,kD f1,f2,yae h2⟩
def noPin(h:List (Nat×HB)):Bool:=h.all λp=>Nat.blt p.1 pinA
theorem jP:∀{h:List (Nat×HB)},noPin h=true->∀r,pinA<=r->(hget h r).blk=none
 | [],_,r,_=>rfl
 | (k,b)::h,hp,r,hr=>by
  unfold noPin at hp;rw [List.all_cons,zBA]at hp;rw [Xd];have hk:=ua hp.1;by_cases e:r=k
  .subst e;exact absurd hr (Nat.not_le.2 hk)
  .rw [if_neg e];exact jP (h:=h) hp.2 r hr
def endRun(once:Bool)(L:Lv)(n:Nat)(a2:AC)(rv:List RV)(i:T):Option (AV×T):=
 obind (hdX i.x) λp=>obind (sel once (some (T.mk p.1 p.2 i.h i.n)) (retE (codeE L n a2 (T.mk p.1 p.2 i.h i.n)))) λs4=>obind (rawE s4 rv) λlr=>obind (hdX s4.x) λq=>guardE (noPin s4.h) (some (rnV (swp (swaps s4.h (lows s4.h) s4.n)) (resOf lr),(T.mk q.1 q.2 s4.h s4.n).move (swaps s4.h (lows s4.h) s4.n)))
def begRun(L:Lv)(n:Nat)(a0 a1:AC)(g:Nat)(args:List AV)(t:T):Option ((Nat×C)×T):=
 obind (nrmE (codeE L n a0 (T.mk (argT args 0 .e) (t.v::t.x) t.h t.n))) λs1=>obind (nrmE (codeE L n a1 s1)) λs2=>obind (cloOf (s2.get g)) λf=>some (f,s2)
def itS(s2:T)(cap:C)(l:Nat):T:=T.mk (argT [.one (.lit (.func (.yield l) #[] #[])),.one cap] 0 .e) (s2.v::s2.x) s2.h s2.n
def PqOk(P:Program)(f:Nat)(q:PQ):Prop:=
 ∀(v:Tr) (x:List Tr) (E:Env) (vals:List Value) (a:Act) (w:World) (m:M) (I:Nat->Prop) (K:AV->S->Prop),Sim E (T.mk v x q.h q.n).den a w m I->RAs m I w.heap q.args vals->K q.r (T.mk (mvT q.mv v) (mvX q.mv x) q.h' q.n').den->
  Calls P f ⟨vals⟩ w λe w'=>∃v' r s' m' I',e=.returned v'/\K r s'/\RA m' I' w'.heap r v'/\Sim E s' a w' m' I'
theorem yC{f:Nat}:∀{l:List PQ},(∀q∈l,PqOk P f q)->ISound P f λ_ args s K=>∃t r t',s=t.den/\pairE l t args=some (r,t')/\K r t'.den
 | [],_=>λE args vals s a w m I d K hs hargs ⟨t,r,t',e,h,hk⟩=>nos h
 | q::l,hl=>by
  intro E args vals s a w m I d K hs hargs ⟨t,r,t',e,h,hk⟩;simp only [pairE]at h;rw [jj]at h;split at h
  .rename_i hb;simp only [zBA]at hb;have e1:=beq_eq hb.1.1;have e2:=vw hb.1.2;have e3:=qaD hb.2;simp only [zOI,Prod.mk.injEq]at h;obtain⟨rfl,rfl⟩:=h;subst e e2;have et:t=T.mk t.v t.x q.h q.n:=by rw [<-e1,<-e3]
   rw [et]at hs;exact hl q (List.mem_cons_self ..) t.v t.x E vals a w m I K hs hargs hk
  .exact yC (λq hq=>hl q (List.mem_cons_of_mem _ hq)) E args vals s a w m I d K hs hargs ⟨t,r,t',e,h,hk⟩
theorem xa9{L:Lv}(hL:LvOk P L){f fi b g p1 p2 N Ni n:Nat}{fn fni:Func}{c0 c1 cA cB c2 ci:Code}{a0 a1 aA a2:AC}{rv:List RV}(hc:PairCode P f fi b g p1 p2 N Ni fn fni c0 c1 cA cB c2 ci a0 a1 aA a2 rv){once:Bool}{q:PQ}(hlen:q.args.length<=N)
  {cap:C} (hcap:cap≠.lit (.agg ⟨[]⟩)) {s2:Tr->List Tr->T} {i1:Tr->List Tr->Nat->T} (hb:∀v x,begRun L n a0 a1 g q.args (T.mk v x q.h q.n)=some ((fi,cap),s2 v x)) (hit:∀v x,Iter once P N p1 p2 cA cB ci Ni (itS (s2 v x) cap) (i1 v x))
  (he:∀v x l,endRun once L n a2 rv (i1 v x l)=some (q.r,T.mk (mvT q.mv v) (mvX q.mv x) q.h' q.n')):PqOk P f q:=by
 intro v x E vals a w m I K hs hargs hK;have hb:=hb v x;unfold begRun at hb;obtain⟨s1,e1,hb⟩:=qa hb;obtain⟨s,e2,hb⟩:=qa hb;obtain⟨⟨f',c'⟩,e3,hb⟩:=qa hb;simp only [zOI,Prod.mk.injEq]at hb;obtain⟨⟨rfl,rfl⟩,rfl⟩:=hb;have hg:(s2 v x).get g=.one (.clo f' [c']):=by
  unfold cloOf at e3;split at e3
  .rename_i e;cases e3;exact e
  .exact nos e3
 refine XJ hL hc (hit v x) hlen (Jl e1) (Jl e2) hg hcap (λl=>rfl) (λl=>?_) hs hargs hK;have he:=he v x l;unfold endRun at he;obtain⟨⟨v3,x3⟩,g1,he⟩:=qa he;obtain⟨s4,g2,he⟩:=qa he;obtain⟨lr,g3,he⟩:=qa he;obtain⟨⟨v5,x5⟩,g4,he⟩:=qa he;obtain⟨g5,he⟩:=Za he;simp only [zOI,Prod.mk.injEq]at he;refine⟨v3,x3,s4,lr,v5,x5,kD g1,?_,g3,kD g4,jP g5,he.1,he.2⟩;cases once with
 | true=>cases (show some _=some s4 from g2);exact .inl ⟨rfl,rfl⟩
 | false=>exact .inr ⟨rfl,yae g2⟩
end
end Go.Abs
end
section
namespace Go.Abs
noncomputable section
section defs
variable (θ:Nat->C)
def sV:Value->C
 | .chan (some k)=>θ k
 | v=>.lit v
mutual
def sC:C->C
 | .lit v=>sV θ v
 | .slice es=>.slice (sR es)
 | .full es=>.full (sR es)
 | .emp=>.emp
 | .own r v z o l=>.own r v z o l
 | .ptr r v i o=>.ptr r v i o
 | .ref cs=>.ref (sL cs)
 | .clo f cs=>.clo f (sL cs)
 | .any=>.any
def sL:List C->List C
 | []=>[]
 | c::l=>sC c::sL l
def sR:List (List C)->List (List C)
 | []=>[]
 | e::l=>sL e::sR l
end
mutual
def sA:AV->AV
 | .one c=>.one (sC θ c)
 | .agg cs=>.agg (sL θ cs)
 | .tup l=>.tup (sAs l)
 | .any=>.any
def sAs:List AV->List AV
 | []=>[]
 | a::l=>sA a::sAs l
end
def sTr:Tr->Tr
 | .e=>.e
 | .l a=>.l (sA θ a)
 | .n x y=>.n (sTr x) (sTr y)
def sBk(b:Blk):Blk:=⟨sR θ b.es,b.z,b.live⟩
def sHB(b:HB):HB:=⟨b.ver,b.blk.map (sBk θ)⟩
def sH:List (Nat×HB)->List (Nat×HB)
 | []=>[]
 | (k,b)::h=>(k,sHB θ b)::sH h
def sX:List Tr->List Tr
 | []=>[]
 | v::x=>sTr θ v::sX x
def sT(t:T):T:=⟨sTr θ t.v,sX θ t.x,sH θ t.h,t.n⟩
end defs
structure ThOk (θ:Nat->C):Prop where
 sh:∀k,(∃b,θ k=.lit (.bool b))∨(∃es,θ k=.slice es)
 cl:∀k n,3<=n->cleanE (n+1) (θ k)=true
 eq:∀k,eqC (θ k) (θ k)=true
def hfV:Value->Bool
 | .chan _=>false
 | _=>true
mutual
def hfC:C->Bool
 | .lit v=>hfV v
 | .slice es=>hfR es
 | .full es=>hfR es
 | .ref cs=>hfL cs
 | .clo _ cs=>hfL cs
 | _=>true
def hfL:List C->Bool
 | []=>true
 | c::l=>hfC c && hfL l
def hfR:List (List C)->Bool
 | []=>true
 | e::l=>hfL e && hfR l
end
mutual
def hfA:AV->Bool
 | .one c=>hfC c
 | .agg cs=>hfL cs
 | .tup l=>hfAs l
 | .any=>true
def hfAs:List AV->Bool
 | []=>true
 | a::l=>hfA a && hfAs l
end
section
variable {θ:Nat->C}
theorem Qa1{v:Value}(h:hfV v=true):sV θ v=.lit v:=by
 cases v <;> first | rfl | exact Bool.noConfusion h
mutual
theorem Xbc:∀{c:C},hfC c=true->sC θ c=c
 | .lit v,h=>Qa1 h
 | .slice es,h=>congrArg C.slice (Qa5 (show hfR es=true from h))
 | .full es,h=>congrArg C.full (Qa5 (show hfR es=true from h))
 | .emp,_=>rfl
 | .own ..,_=>rfl
 | .ptr ..,_=>rfl
 | .ref cs,h=>congrArg C.ref (qU (show hfL cs=true from h))
 | .clo f cs,h=>congrArg (C.clo f) (qU (show hfL cs=true from h))
 | .any,_=>rfl
theorem qU:∀{l:List C},hfL l=true->sL θ l=l
 | [],_=>rfl
 | c::l,h=>by
  simp only [hfL,zBA]at h;simp only [sL,Xbc h.1,qU h.2]
theorem Qa5:∀{l:List (List C)},hfR l=true->sR θ l=l
 | [],_=>rfl
 | c::l,h=>by
  simp only [hfR,zBA]at h;simp only [sR,qU h.1,Qa5 h.2]
end
mutual
theorem xbg:∀{a:AV},hfA a=true->sA θ a=a
 | .one c,h=>congrArg AV.one (Xbc (show hfC c=true from h))
 | .agg cs,h=>congrArg AV.agg (qU (show hfL cs=true from h))
 | .tup l,h=>congrArg AV.tup (waN (show hfAs l=true from h))
 | .any,_=>rfl
theorem waN:∀{l:List AV},hfAs l=true->sAs θ l=l
 | [],_=>rfl
 | a::l,h=>by
  simp only [hfAs,zBA]at h;simp only [sAs,xbg h.1,waN h.2]
end
theorem jk:∀l:List C,sL θ l=l.map (sC θ)
 | []=>rfl
 | c::l=>by simp only [sL,List.map_cons,jk l]
theorem Wh:∀l:List (List C),sR θ l=l.map (sL θ)
 | []=>rfl
 | c::l=>by simp only [sR,List.map_cons,Wh l]
theorem Y4:∀l:List AV,sAs θ l=l.map (sA θ)
 | []=>rfl
 | c::l=>by simp only [sAs,List.map_cons,Y4 l]
theorem Jm(l:List C):(sL θ l).length=l.length:=by rw [jk,List.length_map]
theorem uh(l:List (List C)):(sR θ l).length=l.length:=by rw [Wh,List.length_map]
theorem yt(n:Nat)(l:List C):sL θ (l.drop n)=(sL θ l).drop n:=by rw [jk,jk,List.map_drop]
theorem Y5(n:Nat)(l:List C):sL θ (l.take n)=(sL θ l).take n:=by rw [jk,jk,List.map_take]
theorem Jp(l m:List C):sL θ (l++m)=sL θ l++sL θ m:=by rw [jk,jk,jk,List.map_append]
theorem Jw(n:Nat)(l:List (List C)):sR θ (l.drop n)=(sR θ l).drop n:=by rw [Wh,Wh,List.map_drop]
theorem Zq(n:Nat)(l:List (List C)):sR θ (l.take n)=(sR θ l).take n:=by rw [Wh,Wh,List.map_take]
theorem QaE(l m:List (List C)):sR θ (l++m)=sR θ l++sR θ m:=by rw [Wh,Wh,Wh,List.map_append]
theorem yK(l:List (List C))(i:Nat):(sR θ l)[i]?=(l[i]?).map (sL θ):=by rw [Wh,List.getElem?_map]
theorem va7(l:List (List C))(i:Nat)(e:List C):(sR θ l).set i (sL θ e)=sR θ (l.set i e):=by rw [Wh,Wh,List.map_set]
theorem ua7(n:Nat)(e:List C):sR θ (List.replicate n e)=List.replicate n (sL θ e):=by rw [Wh,List.map_replicate]
theorem Za0(l:List AV)(i:Nat):(sAs θ l)[i]?=(l[i]?).map (sA θ):=by rw [Y4,List.getElem?_map]
theorem Yav(e xs:List C)(off n:Nat):splice (sL θ e) off n (sL θ xs)=sL θ (splice e off n xs):=by
 unfold splice;rw [Jp,Jp,Y5,yt]
theorem ZN:∀(v:Tr) (k:Nat),(sTr θ v).get k=sA θ (v.get k)
 | .e,_=>rfl
 | .l _,_=>rfl
 | .n x y,k=>by
  show sel _ ((sTr θ x).get (Nat.div k 2)) ((sTr θ y).get (Nat.div k 2))=sA θ (sel _ (x.get (Nat.div k 2)) (y.get (Nat.div k 2)));rw [ZN x,ZN y];cases Nat.beq (Nat.mod k 2) 0 <;> rfl
theorem XaZ(v:Tr):(sTr θ v).lef=sTr θ v.lef:=by cases v <;> rfl
theorem zaZ(v:Tr):(sTr θ v).rig=sTr θ v.rig:=by cases v <;> rfl
theorem yN:∀(d:Nat) (v:Tr) (k:Nat) (a:AV),(sTr θ v).set d k (sA θ a)=sTr θ (v.set d k a)
 | 0,v,k,a=>rfl
 | d+1,v,k,a=>by
  show sel _ (Tr.n ((sTr θ v).lef.set d (Nat.div k 2) (sA θ a)) (sTr θ v).rig) (Tr.n (sTr θ v).lef ((sTr θ v).rig.set d (Nat.div k 2) (sA θ a)))=sTr θ (sel _ (Tr.n (v.lef.set d (Nat.div k 2) a) v.rig) (Tr.n v.lef (v.rig.set d (Nat.div k 2) a)));rw [XaZ,zaZ,yN d,yN d];cases Nat.beq (Nat.mod k 2) 0 <;> rfl
theorem yV:∀(h:List (Nat×HB)) (r:Nat),hget (sH θ h) r=sHB θ (hget h r)
 | [],_=>rfl
 | (k,b)::h,r=>by
  show sel (Nat.beq r k) (sHB θ b) (hget (sH θ h) r)=sHB θ (sel (Nat.beq r k) b (hget h r));rw [yV h];cases Nat.beq r k <;> rfl
theorem qJ:∀(h:List (Nat×HB)) (r:Nat) (c:HB),hset (sH θ h) r (sHB θ c)=sH θ (hset h r c)
 | [],_,_=>rfl
 | (k,b)::h,r,c=>by
  show sel (Nat.beq r k) ((r,sHB θ c)::sH θ h) ((k,sHB θ b)::hset (sH θ h) r (sHB θ c))=sH θ (sel (Nat.beq r k) ((r,c)::h) ((k,b)::hset h r c));rw [qJ h];cases Nat.beq r k <;> rfl
theorem UaN:∀(x:List Tr) (k:Nat),farV (sX θ x) k=sA θ (farV x k)
 | [],_=>rfl
 | v::x,k=>by
  show sel (Nat.ble k 255) ((sTr θ v).get k) (sel (Nat.ble pinA k) (farV (sX θ x) (k-pinA)) .any)=sA θ (sel (Nat.ble k 255) (v.get k) (sel (Nat.ble pinA k) (farV x (k-pinA)) .any));rw [ZN,UaN x];cases Nat.ble k 255
  .cases Nat.ble pinA k <;> rfl
  .rfl
theorem Ju(t:T)(k:Nat):(sT θ t).get k=sA θ (t.get k):=by
 show sel (Nat.ble k 255) ((sTr θ t.v).get k) (farV (sX θ (t.v::t.x)) k)=sA θ (sel (Nat.ble k 255) (t.v.get k) (farV (t.v::t.x) k));rw [ZN,UaN];cases Nat.ble k 255 <;> rfl
def hfO:Opd->Bool
 | .t _=>true
 | .c a=>hfA a
theorem Xc{o:Opd}(h:hfO o=true)(t:T):(sT θ t).ev o=sA θ (t.ev o):=by
 cases o with
 | t n=>exact Ju t n
 | c a=>exact(xbg h).symm
theorem xE{t:T}:∀{l:List Opd},l.all hfO=true->l.map (sT θ t).ev=(l.map t.ev).map (sA θ)
 | [],_=>rfl
 | o::l,h=>by
  rw [List.all_cons,zBA]at h;simp only [List.map_cons,Xc h.1,xE h.2]
theorem vj(t:T)(d:Option Nat)(a:AV):(sT θ t).put d (sA θ a)=sT θ (t.put d a):=by
 cases d with
 | none=>rfl
 | some d=>show T.mk ((sTr θ t.v).set dep d (sA θ a)) _ _ _=_;rw [yN];rfl
theorem uax(t:T)(d:Option Nat):(sT θ t).put d (.tup [])=sT θ (t.put d (.tup [])):=vj t d (.tup [])
theorem qz{t:T}{r ver:Nat}{b:Blk}(h:t.hat r ver=some b):(sT θ t).hat r ver=some (sBk θ b):=by
 unfold T.hat HB.of at h ⊢;show sel (Nat.beq (hget (sH θ t.h) r).ver ver) (hget (sH θ t.h) r).blk none=_;rw [yV];show sel (Nat.beq (hget t.h r).ver ver) ((hget t.h r).blk.map (sBk θ)) none=_;cases hb:Nat.beq (hget t.h r).ver ver with
 | false=>rw [hb]at h;exact nos h
 | true=>
  rw [hb]at h;have h:(hget t.h r).blk=some b:=h;rw [h];rfl
theorem V0(t:T)(r ver:Nat)(b:Blk):(sT θ t).setB r ver (sBk θ b)=sT θ (t.setB r ver b):=by
 show T.mk _ _ (hset (sH θ t.h) r (sHB θ ⟨ver,some b⟩)) _=_;rw [qJ];rfl
theorem WV{h:List (Nat×HB)}{r v:Nat}{b:Blk}(e:hget h r=⟨v,some b⟩):hget (sH θ h) r=⟨v,some (sBk θ b)⟩:=by
 rw [yV,e];rfl
theorem Zar{h:List (Nat×HB)}{r v:Nat}(e:hget h r=⟨v,none⟩):hget (sH θ h) r=⟨v,none⟩:=by
 rw [yV,e];rfl
end
end
end Go.Abs
end
section
namespace Go.Abs
variable {θ:Nat->C} {t t' : T} {r:AV} {d:Option Nat}
theorem qb{α:Type}{b:Bool}{x:Option α}(h:b=true):guardE b x=x:=by rw [h];rfl
theorem Zbi{v:Value}(h:hfV v=true):sA θ (.one (.lit v))=.one (.lit v):=congrArg AV.one (Qa1 h)
theorem Zv{k:IntKind}{n:Int}(h:intE k n=some r):sA θ r=r:=by cases h;rfl
theorem Jo{b:Bool}(h:boolE b=some r):sA θ r=r:=by cases h;rfl
theorem XS{k:IntKind}{n:Int}(h:numE k n=some r):sA θ r=r:=by
 unfold numE at h;split at h
 .exact Zv (Za h).2
 all_goals first | exact Zv h | exact nos h
theorem uaM{op:BinOp}{k:IntKind}{a b:Int}(h:arithE op k a b=some r):sA θ r=r:=by
 unfold arithE at h;split at h;all_goals first | exact XS h | exact Jo h | exact XS (Za h).2 | exact Zv (Za h).2 | exact nos h
theorem Jbe{op:BinOp}{x y:AV}(h:binE op x y=some r):binE op (sA θ x) (sA θ y)=some (sA θ r):=by
 have key:sA θ x=x/\sA θ y=y/\sA θ r=r:=by
  unfold binE at h;split at h
  .refine⟨rfl,rfl,?_⟩;split at h
   .exact XS (Za h).2
   .exact Zv (Za h).2
   .exact uaM (Za h).2
  .exact nos h
 rw [key.1,key.2.1,key.2.2,h]
theorem uaX{op:BinOp}{x y:AV}(h:binbE op x y=some r):binbE op (sA θ x) (sA θ y)=some (sA θ r):=by
 have key:sA θ x=x/\sA θ y=y/\sA θ r=r:=by
  unfold binbE at h;split at h
  .exact⟨rfl,rfl,Jo h⟩
  .exact⟨rfl,rfl,Jo h⟩
  .exact nos h
 rw [key.1,key.2.1,key.2.2,h]
theorem Zaa{v:Value}{neg:Bool}(h:nilE v neg=some r):sV θ v=.lit v/\sA θ r=r:=by
 unfold nilE at h;split at h
 .exact⟨rfl,Jo h⟩
 .exact⟨rfl,Jo h⟩
 .exact nos h
theorem Ya4{op:BinOp}{c:Bool}{x y:AV}(h:binnE op c x y=some r):binnE op c (sA θ x) (sA θ y)=some (sA θ r):=by
 have key:sA θ x=x/\sA θ y=y/\sA θ r=r:=by
  unfold binnE at h;split at h
  .exact⟨congrArg AV.one (Zaa h).1,rfl,(Zaa h).2⟩
  .exact⟨congrArg AV.one (Zaa h).1,rfl,(Zaa h).2⟩
  .exact nos h
 rw [key.1,key.2.1,key.2.2,h]
theorem Zbk{op:UnOp}{x:AV}(h:unE op x=some r):unE op (sA θ x)=some (sA θ r):=by
 have key:sA θ x=x/\sA θ r=r:=by
  unfold unE at h;split at h
  .exact⟨rfl,Jo h⟩
  .exact⟨rfl,XS h⟩
  .exact nos h
 rw [key.1,key.2,h]
theorem va2{k:IntKind}{x:AV}(h:convE k x=some r):convE k (sA θ x)=some (sA θ r):=by
 have key:sA θ x=x/\sA θ r=r:=by
  unfold convE at h;split at h
  .exact⟨rfl,XS h⟩
  .exact nos h
 rw [key.1,key.2,h]
theorem JaJ{ty:TypeId}{x:AV}(h:ifaceE ty x=some r):ifaceE ty (sA θ x)=some (sA θ r):=by
 have key:sA θ x=x/\sA θ r=r:=by
  unfold ifaceE at h;split at h
  .cases h;exact⟨rfl,rfl⟩
  .exact nos h
 rw [key.1,key.2,h]
theorem vO{x:AV}{cs:List C}(h:cellsE x=some cs):cellsE (sA θ x)=some (sL θ cs):=by
 unfold cellsE at h;split at h
 .cases h;rfl
 .cases h;rfl
 .exact nos h
theorem Xbg{x:AV}{c:C}(h:oneE x=some c):oneE (sA θ x)=some (sC θ c):=by
 unfold oneE at h;split at h
 .cases h;rfl
 .exact nos h
def hfS:Seg->Bool
 | .z cs=>hfL cs
 | .x _ o=>hfO o
theorem vM:∀{l:List Seg} {cs:List C},l.all hfS=true->segsE t l=some cs->segsE (sT θ t) l=some (sL θ cs)
 | [],_,_,h=>by cases h;rfl
 | .z zs::l,cs,hf,h=>by
  rw [List.all_cons,zBA]at hf;have h:omap (zs++·) (segsE t l)=some cs:=h;obtain⟨xs,e,rfl⟩:=yb h;show omap (zs++·) (segsE (sT θ t) l)=_;rw [vM hf.2 e,Jp,qU (show hfL zs=true from hf.1)];rfl
 | .x n o::l,cs,hf,h=>by
  rw [List.all_cons,zBA]at hf;have h:obind (cellsE (t.ev o)) (λxs=>guardE (Nat.beq xs.length n) (omap (xs++·) (segsE t l)))=some cs:=h;obtain⟨xs,e,h⟩:=qa h;obtain⟨hg,h⟩:=Za h;obtain⟨ys,e2,rfl⟩:=yb h;show obind (cellsE ((sT θ t).ev o)) (λxs=>guardE (Nat.beq xs.length n) (omap (xs++·) (segsE (sT θ t) l)))=_;rw [Xc (show hfO o=true from hf.1),vO e];show guardE (Nat.beq (sL θ xs).length n) (omap (sL θ xs++·) (segsE (sT θ t) l))=_;rw [Jm,hg,vM hf.2 e2,Jp];rfl
theorem XN{z:Nat}:∀{l:List (List Seg)} {es:List (List C)},(l.all λe=>e.all hfS)=true->rowsE t z l=some es->rowsE (sT θ t) z l=some (sR θ es)
 | [],_,_,h=>by cases h;rfl
 | sg::l,cs,hf,h=>by
  rw [List.all_cons,zBA]at hf;have h:obind (segsE t sg) (λxs=>guardE (Nat.beq xs.length z) (omap (xs::·) (rowsE t z l)))=some cs:=h;obtain⟨xs,e,h⟩:=qa h;obtain⟨hg,h⟩:=Za h;obtain⟨ys,e2,rfl⟩:=yb h;show obind (segsE (sT θ t) sg) (λxs=>guardE (Nat.beq xs.length z) (omap (xs::·) (rowsE (sT θ t) z l)))=_;rw [vM hf.1 e];show guardE (Nat.beq (sL θ xs).length z) (omap (sL θ xs::·) (rowsE (sT θ t) z l))=_;rw [Jm,hg,XN hf.2 e2];rfl
theorem WaU:∀{l:List Opd} {cs:List C},l.all hfO=true->capE t l=some cs->capE (sT θ t) l=some (sL θ cs)
 | [],_,_,h=>by cases h;rfl
 | o::l,cs,hf,h=>by
  rw [List.all_cons,zBA]at hf;have h:obind (oneE (t.ev o)) (λc=>omap (c::·) (capE t l))=some cs:=h;obtain⟨xs,e,h⟩:=qa h;obtain⟨ys,e2,rfl⟩:=yb h;show obind (oneE ((sT θ t).ev o)) (λc=>omap (c::·) (capE (sT θ t) l))=_;rw [Xc hf.1,Xbg e];show omap (sC θ xs::·) (capE (sT θ t) l)=_;rw [WaU hf.2 e2];rfl
theorem ka5{n:Nat}{g:Bool}{cs:List C}(h:ldE n g cs=some r):ldE n g (sL θ cs)=some (sA θ r):=by
 unfold ldE at h;split at h
 .obtain⟨hg,h⟩:=Za h;cases h
  show guardE (Nat.ble n (sL θ cs).length) (some (AV.agg ((sL θ cs).take n)))=some (.agg (sL θ (cs.take n)));rw [Jm,qb hg,Y5]
 .cases h;rfl
 .exact nos h
theorem Yau{n:Nat}{g:Bool}{x:AV}(h:loadE n g t x=some r):loadE n g (sT θ t) (sA θ x)=some (sA θ r):=by
 unfold loadE at h;split at h
 .exact ka5 h
 .rename_i rr ver i off;split at h
  .rename_i b hb;split at h
   .rename_i e he;simp only [sA,sC,loadE,qz hb,sBk,yK,he,Option.map_some,<-yt];exact ka5 h
   .exact nos h
  .exact nos h
 .exact nos h
theorem Uax{b:Option Nat}{x:AV}(h:baseE b x=true):baseE b (sA θ x)=true:=by
 unfold baseE at h;split at h
 .rfl
 .exact h
 .rfl
 .exact Bool.noConfusion h
theorem Jbj{n:Nat}{x y:AV}(h:stE n t x y=some t'):stE n (sT θ t) (sA θ x) (sA θ y)=some (sT θ t'):=by
 unfold stE at h;split at h
 .rename_i rr ver i off;split at h
  .rename_i xs b hx hb;split at h
   .rename_i e he;obtain⟨hg,h⟩:=Za h;cases h
    simp only [sA,sC,stE,vO hx,qz hb,sBk,yK,he,Option.map_some,Jm,qb hg,Yav,va7];exact congrArg some (V0 t rr ver ⟨b.es.set i (splice e off n xs),b.z,b.live⟩)
   .exact nos h
  .exact nos h
 .exact nos h
theorem yy{b:Blk}{a:Nat->Nat->AV}(ha:∀d v,sA θ (a d v)=a d v)(h:newE t b a d=some t'):newE (sT θ t) (sBk θ b) a d=some (sT θ t'):=by
 unfold newE at h ⊢;split at h
 .rename_i d;split at h
  .rename_i ver e;cases h
   show(match hget (sH θ t.h) d with | ⟨ver,none⟩=>some ((({ sT θ t with h:=hset (sH θ t.h) d ⟨ver+1,some (sBk θ b)⟩ }:T)).put (some d) (a d (ver+1))) | ⟨_,some _⟩=>none)=_
   rw [Zar e];show some (T.put ⟨sTr θ t.v,sX θ t.x,hset (sH θ t.h) d (sHB θ ⟨ver+1,some b⟩),t.n⟩ (some d) (a d (ver+1)))=_;rw [qJ];have e2:=vj (θ:=θ) ⟨t.v,t.x,hset t.h d ⟨ver+1,some b⟩,t.n⟩ (some d) (a d (ver+1));rw [ha]at e2;exact congrArg some e2
  .exact nos h
 .exact nos h
theorem Zbg{z:Nat}{i x:AV}(h:idxE z i x=some r):idxE z (sA θ i) (sA θ x)=some (sA θ r):=by
 unfold idxE at h;split at h
 .rename_i k i es;split at h
  .rename_i e he;obtain⟨hg,h⟩:=Za h;cases h
   simp only [sA,sC,sV,idxE,yK,he,Option.map_some,Jm,qb hg]
  .exact nos h
 .rename_i k i es;split at h
  .rename_i e he;obtain⟨hg,h⟩:=Za h;cases h
   simp only [sA,sC,sV,idxE,yK,he,Option.map_some,Jm,qb hg]
  .exact nos h
 .obtain⟨hg,h⟩:=Za h;cases h
  exact qb hg
 .exact nos h
theorem ubc{x:AV}(h:lenE x=some r):lenE (sA θ x)=some (sA θ r):=by
 unfold lenE at h;split at h
 .rename_i es;obtain⟨hg,h⟩:=Za h;show bndE (sR θ es).length (intE .i64 ((sR θ es).length:Nat))=_;rw [uh,Zv h];unfold bndE;rw [qb hg,h]
 .rename_i es;obtain⟨hg,h⟩:=Za h;show bndE (sR θ es).length (intE .i64 ((sR θ es).length:Nat))=_;rw [uh,Zv h];unfold bndE;rw [qb hg,h]
 .rw [Zv h];exact h
 .obtain⟨hg,h⟩:=Za h;rw [Zv h];show bndE _ _=_;unfold bndE;rw [qb hg,h]
 .exact nos h
theorem ua1{neg:Bool}{x:AV}(h:snilE neg x=some r):snilE neg (sA θ x)=some (sA θ r):=by
 unfold snilE at h;split at h
 .rw [Jo h];exact h
 .rw [Jo h];exact h
 .rw [Jo h];exact h
 .exact nos h
def hfOo:Option Opd->Bool
 | none=>true
 | some o=>hfO o
theorem bE_s{dflt n:Nat}{x:Option Opd}(hf:hfOo x=true)(h:bE t dflt x=some n):bE (sT θ t) dflt x=some n:=by
 unfold bE at h ⊢;split at h
 .exact h
 .rename_i o;show(match (sT θ t).ev o with | .one (.lit (.int _ i))=>guardE (ile 0 i) (some i.toNat) | _=>none)=_
  rw [Xc (show hfO o=true from hf)];split at h
  .rename_i e;rw [e];exact h
  .exact nos h
theorem Wo{z:Nat}:∀{es:List (List C)},allLen z es=true->allLen z (sR θ es)=true
 | [],_=>rfl
 | e::l,h=>by
  simp only [allLen,zBA]at h;simp only [sR,allLen,zBA,Jm];exact⟨h.1,Wo h.2⟩
theorem Waj{z:Nat}{lo hi:Option Opd}{x:AV}(hl:hfOo lo=true)(hh:hfOo hi=true)(h:sliceE z t lo hi x=some r):sliceE z (sT θ t) lo hi (sA θ x)=some (sA θ r):=by
 unfold sliceE at h;split at h
 .rename_i es;split at h
  .rename_i b a eb ea;obtain⟨hg,h⟩:=Za h;cases h
   simp only [zBA]at hg;simp only [sA,sC,sliceE,uh,bE_s hh eb,bE_s hl ea,hg.1.1,hg.1.2,Wo hg.2,Zq,Jw,Bool.and_true,qb]
  .exact nos h
 .rename_i es;split at h
  .rename_i b a eb ea;obtain⟨hg,h⟩:=Za h;cases h
   simp only [zBA]at hg;simp only [sA,sC,sliceE,uh,bE_s hh eb,bE_s hl ea,hg.1.1,hg.1.2,Wo hg.2,Zq,Jw,Bool.and_true,qb]
  .exact nos h
 .rename_i rr ver z' off len;split at h
  .rename_i b a eb ea;obtain⟨hg,h⟩:=Za h;cases h
   simp only [sA,sC,sliceE,bE_s hh eb,bE_s hl ea,qb hg]
  .exact nos h
 .split at h
  .rename_i b a eb ea;obtain⟨hg,h⟩:=Za h;cases h
   simp only [sA,sC,sliceE,bE_s hh eb,bE_s hl ea,qb hg]
  .exact nos h
 .exact nos h
theorem Vab{x:AV}{es:List (List C)}(h:elemsE t x=some es):elemsE (sT θ t) (sA θ x)=some (sR θ es):=by
 unfold elemsE at h;split at h
 .cases h;rfl
 .cases h;rfl
 .cases h;rfl
 .rename_i rr ver z off len;split at h
  .rename_i b hb;obtain⟨hg,h⟩:=Za h;cases h
   simp only [sA,sC,elemsE,qz hb,sBk,uh,qb hg,<-Jw,<-Zq]
  .exact nos h
 .exact nos h
theorem Xas{z:Nat}{x y:AV}(h:appE z d t x y=some t'):appE z d (sT θ t) (sA θ x) (sA θ y)=some (sT θ t'):=by
 unfold appE at h ⊢;split at h
 .exact nos h
 .rename_i ys hy;have h0:=(Za h).1;replace h:=(Za h).2;rw [Vab hy];show guardE (allLen z (sR θ ys)) _=_;rw [Wo h0];split at h
  .obtain⟨hg,h⟩:=Za h;show guardE (Nat.ble (sR θ ys).length roomA) (newE (sT θ t) (sBk θ ⟨ys,z,true⟩) (λd ver=>.one (.own d ver z 0 (sR θ ys).length)) d)=_;rw [uh,qb hg];exact yy (λd v=>rfl) h
  .rename_i es;split at h
   .show newE (sT θ t) (sBk θ ⟨[],z,true⟩) (λ_ _=>sA θ (.one (.full es))) d=_;unfold newE at h ⊢;split at h
    .rename_i d;split at h
     .rename_i ver e;cases h
      show(match hget (sH θ t.h) d with | ⟨ver,none⟩=>some ((({ sT θ t with h:=hset (sH θ t.h) d ⟨ver+1,some (sBk θ ⟨[],z,true⟩)⟩ }:T)).put (some d) (sA θ (.one (.full es)))) | ⟨_,some _⟩=>none)=_
      rw [Zar e];show some (T.put ⟨sTr θ t.v,sX θ t.x,hset (sH θ t.h) d (sHB θ ⟨ver+1,some ⟨[],z,true⟩⟩),t.n⟩ (some d) (sA θ (.one (.full es))))=_;rw [qJ];exact congrArg some (vj ⟨t.v,t.x,hset t.h d ⟨ver+1,some ⟨[],z,true⟩⟩,t.n⟩ (some d) (.one (.full es)))
     .exact nos h
    .exact nos h
   .rename_i y ys;obtain⟨hg,h⟩:=Za h;simp only [zBA]at hg;show guardE (Nat.ble ((sR θ es).length+(sR θ (y::ys)).length) roomA && allLen z (sR θ es)) (newE (sT θ t) ⟨sR θ es++sR θ (y::ys),z,true⟩ (λd ver=>.one (.own d ver z 0 ((sR θ es).length+(sR θ (y::ys)).length))) d)=_;rw [uh,uh,hg.1,Wo hg.2,<-QaE];exact yy (λd v=>rfl) h
  .rename_i rr ver z' len;split at h
   .rename_i b hb;obtain⟨hg,h⟩:=Za h;cases h
    simp only [sA,sC,qz hb,sBk,uh,qb hg,<-Zq,<-QaE];simp only [guardE];show some (((sT θ t).setB rr (ver+1) (sBk θ ⟨b.es.take len++ys,z,true⟩)).put d (sA θ (.one (.own rr (ver+1) z 0 (len+ys.length)))))=_;rw [V0,vj]
   .exact nos h
  .exact nos h
theorem xaR{c:C}{v:Value}(h:litC c=some v)(hf:hfV v=true):sC θ c=c:=by
 unfold litC at h;split at h
 .cases h;exact Qa1 hf
 .exact nos h
theorem xaP{n:Nat}{g:Bool}{off:Nat}{x:AV}(h:fldE n g off x=some r):fldE n g off (sA θ x)=some (sA θ r):=by
 unfold fldE at h;split at h
 .rename_i cs;obtain⟨hg,h⟩:=Za h;show guardE (Nat.ble off (sL θ cs).length) (ldE n g ((sL θ cs).drop off))=_;rw [Jm,qb hg,<-yt];exact ka5 h
 .exact nos h
theorem Jba{off:Nat}{x:AV}(h:faE off x=some r):faE off (sA θ x)=some (sA θ r):=by
 unfold faE at h;split at h
 .cases h;rfl
 .rename_i cs;obtain⟨hg,h⟩:=Za h;cases h
  show guardE (Nat.ble off (sL θ cs).length) (some (AV.one (.ref ((sL θ cs).drop off))))=_;rw [Jm,qb hg,<-yt];rfl
 .exact nos h
theorem ZaI{x:AV}(h:nilckE x=some r):nilckE (sA θ x)=some (sA θ r):=by
 unfold nilckE at h;split at h
 .cases h;rfl
 .cases h;rfl
 .exact nos h
theorem Ja8{i:Nat}{x:AV}(h:extE i x=some r):extE i (sA θ x)=some (sA θ r):=by
 unfold extE at h;split at h
 .rename_i l;show(sAs θ l)[i]?=_;rw [Za0,h];rfl
 .exact nos h
theorem wbd{n j:Nat}{x:AV}(h:atE n x=some j):atE n (sA θ x)=some j:=by
 unfold atE at h;split at h
 .exact h
 .exact nos h
theorem Uah(z:Nat):∀(n:Nat) (cs:List C),sR θ (chunk z n cs)=chunk z n (sL θ cs)
 | 0,_=>rfl
 | n+1,cs=>by
  show sL θ (cs.take z)::sR θ (chunk z n (cs.drop z))=(sL θ cs).take z::chunk z n ((sL θ cs).drop z);rw [Uah z n,Y5,yt]
theorem JaP{z n:Nat}{x:AV}(h:rslE z n x=some r):rslE z n (sA θ x)=some (sA θ r):=by
 unfold rslE at h;split at h
 .rename_i cs;obtain⟨hg,h⟩:=Za h;cases h
  show guardE (Nat.beq (sL θ cs).length (n*z) && Nat.ble n roomA) (some (AV.one (.full (chunk z n (sL θ cs)))))=some (AV.one (.full (sR θ (chunk z n cs))));rw [Jm,qb hg,Uah]
 .exact nos h
theorem waQ{pick:Int->Int->Int}:∀{l:List Opd} {k:IntKind} {n:Int},l.all hfO=true->maxE pick t l k n=some r->maxE pick (sT θ t) l k n=some (sA θ r)
 | [],k,n,_,h=>by rw [Zv h];exact h
 | o::l,k,n,hf,h=>by
  rw [List.all_cons,zBA]at hf;have h:(match t.ev o with | .one (.lit (.int k' b))=>guardE (sameK k k') (maxE pick t l k (pick n b)) | _=>none)=some r:=h
  show(match (sT θ t).ev o with | .one (.lit (.int k' b))=>guardE (sameK k k') (maxE pick (sT θ t) l k (pick n b)) | _=>none)=_
  rw [Xc hf.1];split at h
  .rename_i e;rw [e];obtain⟨hg,h⟩:=Za h;exact(qb hg).trans (waQ hf.2 h)
  .exact nos h
theorem Xbh{pick:Int->Int->Int}{l:List Opd}(hf:l.all hfO=true)(h:mmE pick t l=some r):mmE pick (sT θ t) l=some (sA θ r):=by
 unfold mmE at h ⊢;split at h
 .exact nos h
 .rename_i o l;rw [List.all_cons,zBA]at hf;show(match (sT θ t).ev o with | .one (.lit (.int k a))=>maxE pick (sT θ t) l k a | _=>none)=_
  rw [Xc hf.1];split at h
  .rename_i e;rw [e];exact waQ hf.2 h
  .exact nos h
theorem VaM{b:Nat}{x y:AV}(h:appIsE b d x y=true):appIsE b d (sA θ x) (sA θ y)=true:=by
 unfold appIsE at h;split at h
 .exact h
 .exact h
 .exact Bool.noConfusion h
theorem Zbe{x:AV}{b:Bool}(h:lbE x=some b):lbE (sA θ x)=some b:=by
 unfold lbE at h;split at h
 .exact h
 .exact nos h
theorem ybc{x:AV}{b:Int}(h:liE x=some b):liE (sA θ x)=some b:=by
 unfold liE at h;split at h
 .exact h
 .exact nos h
theorem Qbe{x:AV}{b:Unit}(h:empE x=some b):empE (sA θ x)=some b:=by
 unfold empE at h;split at h
 .exact h
 .exact nos h
theorem Qa3{w b:Bool}{x:AV}(h:wantE w x=some b):wantE w (sA θ x)=some b:=by
 unfold wantE at h;split at h
 .exact h
 .exact h
 .exact nos h
theorem pu_s{x y:Option AV}(hx:∀a,x=some a->y=some (sA θ a))(h:pu d t x=some t'):pu d (sT θ t) y=some (sT θ t'):=by
 obtain⟨a,e,rfl⟩:=zaC h;rw [hx a e];exact congrArg some (vj t d a)
theorem pt_s{x y:Option T}(hx:∀a,x=some a->y=some (sT θ a))(h:pt d x=some t'):pt d y=some (sT θ t'):=by
 obtain⟨a,e,rfl⟩:=jY h;rw [hx a e];exact congrArg some (uax a d)
theorem jaZ{k:Nat}{vs:List Value}{v:Value}(h:sopV k vs=some v):hfV v=true/\∀u∈vs,(∃s,u=.string s)∨(∃k n,u=.int k n)∨∃k a l b,u=.agg ⟨[.int k a,.int l b]⟩:=by
 unfold sopV at h;split at h
 .split at h
  .cases h
   refine⟨rfl,λu hu=>?_⟩;simp only [List.mem_cons,List.not_mem_nil,or_false]at hu;rcases hu with rfl | rfl | rfl
   .exact .inl ⟨_,rfl⟩
   .exact .inr (.inl ⟨_,_,rfl⟩)
   .exact .inr (.inl ⟨_,_,rfl⟩)
  .exact nos h
 .cases h
  refine⟨rfl,λu hu=>?_⟩;simp only [List.mem_cons,List.not_mem_nil,or_false]at hu;rcases hu with rfl | rfl
  .exact .inl ⟨_,rfl⟩
  .exact .inl ⟨_,rfl⟩
 .split at h
  .cases h
   refine⟨rfl,λu hu=>?_⟩;simp only [List.mem_cons,List.not_mem_nil,or_false]at hu;rcases hu with rfl | rfl
   .exact .inl ⟨_,rfl⟩
   .exact .inl ⟨_,rfl⟩
  .exact nos h
 .split at h
  .rw [zOM]at h;obtain⟨b,_,rfl⟩:=h;refine⟨rfl,λu hu=>?_⟩;simp only [List.mem_cons,List.not_mem_nil,or_false]at hu;rcases hu with rfl | rfl
   .exact .inl ⟨_,rfl⟩
   .exact .inr (.inl ⟨_,_,rfl⟩)
  .exact nos h
 .cases h
  refine⟨rfl,λu hu=>?_⟩;simp only [List.mem_cons,List.not_mem_nil,or_false]at hu;subst hu;exact .inl ⟨_,rfl⟩
 .split at h
  .cases h
   refine⟨rfl,λu hu=>?_⟩;simp only [List.mem_cons,List.not_mem_nil,or_false]at hu;rcases hu with rfl | rfl
   .exact .inr (.inr ⟨_,_,_,_,rfl⟩)
   .exact .inr (.inr ⟨_,_,_,_,rfl⟩)
  .exact nos h
 .exact nos h
theorem vbi{a:AV}{u:Value}(h:litV a=some u)(hu:(∃s,u=.string s)∨(∃k n,u=.int k n)∨∃k x l y,u=.agg ⟨[.int k x,.int l y]⟩):sA θ a=a:=by
 unfold litV at h;split at h
 .cases h
  rcases hu with⟨s,rfl⟩ | ⟨k,n,rfl⟩ | ⟨k,x,l,y,rfl⟩ <;> rfl
 .rename_i l;rw [zOM]at h;obtain⟨vs,e,rfl⟩:=h;rcases hu with⟨s,h⟩ | ⟨k,n,h⟩ | ⟨k,x,k',y,h⟩
  .exact Value.noConfusion h
  .exact Value.noConfusion h
  .have hv:vs=[.int k x,.int k' y]:=by injection h with h;injection h
   subst hv;match l,e with
   | [],e=>simp at e
   | [c],e=>simp [List.mapM_cons,bind,zOB]at e
   | [c,d],e=>
    simp only [List.mapM_cons,List.mapM_nil,bind,pure,zOB,zOI]at e;obtain⟨u,e1,w,⟨u2,e2,w2,rfl,rfl⟩,e3⟩:=e;injection e3 with e3 e4
    injection e4 with e4 _
    subst e3 e4;show AV.agg [sC θ c,sC θ d]=_;rw [xaR e1 rfl,xaR e2 rfl]
   | c::d::f::l,e=>
    simp only [List.mapM_cons,bind,pure,zOB,zOI]at e;obtain⟨u,e1,w,⟨u2,e2,w2,⟨u3,e5,w3,e6,rfl⟩,rfl⟩,e3⟩:=e;simp at e3
 .exact nos h
theorem wa8{k:Nat}{l:List AV}(h:sopE k l=some r):sopE k (l.map (sA θ))=some (sA θ r):=by
 unfold sopE at h;split at h
 .rename_i v e;rw [zOB]at e;obtain⟨vs,e1,e2⟩:=e;obtain⟨h1,h2⟩:=jaZ e2;have key:l.map (sA θ)=l:=by
   clear h e2 h1
   induction l generalizing vs with
   | nil=>rfl
   | cons a l ih=>
    simp only [List.mapM_cons,bind,pure,zOB,zOI]at e1;obtain⟨u,f1,w,f2,rfl⟩:=e1;rw [List.map_cons,vbi f1 (h2 u (List.mem_cons_self ..)),ih w f2 λu hu=>h2 u (List.mem_cons_of_mem _ hu)]
  cases h
  unfold sopE;rw [key,e1];show(match sopV k vs with | some v=>litE v | none=>none)=_
  rw [e2,Zbi h1];rfl
 .exact nos h
end Go.Abs
end
section
namespace Go.Abs
variable {θ:Nat->C} {t t' : T} {r:AV} {d:Option Nat} {L L' : Lv} {dr:Bool}
theorem Zj(v:Value):(∃k,v=.chan (some k))∨sV θ v=.lit v:=by
 cases v with
 | chan r=>cases r with
  | none=>exact .inr rfl
  | some k=>exact .inl ⟨k,rfl⟩
 | _=>exact .inr rfl
theorem Z2(hθ:ThOk θ)(c:C):flatC (sC θ c)=(flatC c).map (sC θ):=by
 cases c with
 | lit v=>
  show flatC (sV θ v)=some (sV θ v);rcases Zj (θ:=θ) v with⟨k,rfl⟩ | h
  .show flatC (θ k)=some (θ k);rcases hθ.sh k with⟨b,h⟩ | ⟨es,h⟩ <;> rw [h] <;> rfl
  .rw [h];rfl
 | clo f cs=>cases cs <;> rfl
 | _=>rfl
theorem Qar(hθ:ThOk θ):∀l:List C,flatL (sL θ l)=(flatL l).map (sL θ)
 | []=>rfl
 | c::l=>by
  show(match flatC (sC θ c) with | some c'=>(flatL (sL θ l)).map (c'::·) | none=>none)=Option.map (sL θ) (match flatC c with | some c'=>(flatL l).map (c'::·) | none=>none)
  rw [Z2 hθ,Qar hθ];cases flatC c with
  | none=>rfl
  | some c'=>cases flatL l <;> rfl
theorem va3(hθ:ThOk θ)(a:AV):flatA (sA θ a)=(flatA a).map (sA θ):=by
 cases a with
 | one c=>show(flatC (sC θ c)).map AV.one=_;rw [Z2 hθ];show _=Option.map (sA θ) ((flatC c).map AV.one);cases flatC c <;> rfl
 | agg cs=>show(flatL (sL θ cs)).map AV.agg=_;rw [Qar hθ];show _=Option.map (sA θ) ((flatL cs).map AV.agg);cases flatL cs <;> rfl
 | _=>rfl
theorem VO(hθ:ThOk θ):∀l:List AV,flatAs (l.map (sA θ))=(flatAs l).map (List.map (sA θ))
 | []=>rfl
 | a::l=>by
  show(match flatA (sA θ a) with | some a'=>(flatAs (l.map (sA θ))).map (a'::·) | none=>none)=Option.map (List.map (sA θ)) (match flatA a with | some a'=>(flatAs l).map (a'::·) | none=>none)
  rw [va3 hθ,VO hθ];cases flatA a with
  | none=>rfl
  | some c'=>cases flatAs l <;> rfl
theorem jag(hθ:ThOk θ):∀(n:Nat) {c:C},cleanE n c=true->cleanE n (sC θ c)=true
 | 0,c,h=>Bool.noConfusion h
 | n+1,c,h=>by
  have hl:∀{l:List C},l.all (cleanE n)=true->(sL θ l).all (cleanE n)=true:=by
   intro l hl;rw [jk,List.all_map,List.all_eq_true];rw [List.all_eq_true]at hl;exact λc hc=>jag hθ n (hl c hc)
  have hr:∀{l:List (List C)},(l.all λe=>e.all (cleanE n))=true->((sR θ l).all λe=>e.all (cleanE n))=true:=by
   intro l hr;rw [Wh,List.all_map,List.all_eq_true];rw [List.all_eq_true]at hr;exact λe he=>hl (hr e he)
  cases c with
  | own=>exact Bool.noConfusion h
  | ptr=>exact Bool.noConfusion h
  | emp=>rfl
  | any=>rfl
  | lit v=>
   show cleanE (n+1) (sV θ v)=true;rcases Zj (θ:=θ) v with⟨k,rfl⟩ | hv
   .exact hθ.cl k n (ua (show Nat.ble 3 n=true from h))
   .rw [hv];exact h
  | slice es=>simp only [cleanE]at h;simp only [sC,cleanE];exact hr h
  | full es=>simp only [cleanE]at h;simp only [sC,cleanE];exact hr h
  | ref cs=>simp only [cleanE]at h;simp only [sC,cleanE];exact hl h
  | clo f cs=>simp only [cleanE]at h;simp only [sC,cleanE];exact hl h
theorem Z7(hθ:ThOk θ){n:Nat}{l:List C}(h:l.all (cleanE n)=true):(sL θ l).all (cleanE n)=true:=by
 rw [jk,List.all_map,List.all_eq_true];rw [List.all_eq_true]at h;exact λc hc=>jag hθ n (h c hc)
theorem qM(hθ:ThOk θ){n:Nat}{l:List (List C)}(h:(l.all λe=>e.all (cleanE n))=true):((sR θ l).all λe=>e.all (cleanE n))=true:=by
 rw [Wh,List.all_map,List.all_eq_true];rw [List.all_eq_true]at h;exact λe he=>Z7 hθ (h e he)
theorem uat(hθ:ThOk θ){h:List (Nat×HB)}{c c' : C}(hc:dataC h c=some c'):dataC (sH θ h) (sC θ c)=some (sC θ c'):=by
 unfold dataC at hc;split at hc
 .rename_i rr ver z off len;split at hc
  .rename_i v b e;simp only at hc;cases hb:(Nat.beq v ver && Nat.ble (off+len) b.es.length && (((b.es.drop off).take len).all λe=>e.all (cleanE 32))) with
   | false=>rw [hb]at hc;exact nos hc
   | true=>
    rw [hb]at hc;cases hc
    simp only [zBA]at hb;show(match hget (sH θ h) rr with | ⟨v,some b⟩=>cond (Nat.beq v ver && Nat.ble (off+len) b.es.length && (((b.es.drop off).take len).all λe=>e.all (cleanE 32))) (some (C.slice ((b.es.drop off).take len))) none | ⟨_,none⟩=>none)=_
    rw [WV e];show cond (Nat.beq v ver && Nat.ble (off+len) (sR θ b.es).length && ((((sR θ b.es).drop off).take len).all λe=>e.all (cleanE 32))) (some (C.slice (((sR θ b.es).drop off).take len))) none=some (.slice (sR θ ((b.es.drop off).take len)));rw [uh,hb.1.1,hb.1.2,<-Jw,<-Zq,qM hθ hb.2];rfl
  .exact nos hc
 .rename_i rr ver i off;split at hc
  .rename_i v b e;split at hc
   .rename_i e' he;cases hb:(Nat.beq v ver && Nat.ble off e'.length && (e'.drop off).all (cleanE 32)) with
    | false=>rw [hb]at hc;exact nos hc
    | true=>
     rw [hb]at hc;cases hc
     simp only [zBA]at hb;show(match hget (sH θ h) rr with | ⟨v,some b⟩=>(match b.es[i]? with | some e=>cond (Nat.beq v ver && Nat.ble off e.length && (e.drop off).all (cleanE 32)) (some (C.ref (e.drop off))) none | none=>none) | ⟨_,none⟩=>none)=_
     rw [WV e];show(match (sR θ b.es)[i]? with | some e=>cond (Nat.beq v ver && Nat.ble off e.length && (e.drop off).all (cleanE 32)) (some (C.ref (e.drop off))) none | none=>none)=_
     rw [yK,he];show cond (Nat.beq v ver && Nat.ble off (sL θ e').length && ((sL θ e').drop off).all (cleanE 32)) (some (C.ref ((sL θ e').drop off))) none=some (.ref (sL θ (e'.drop off)));rw [Jm,hb.1.1,hb.1.2,<-yt,Z7 hθ hb.2];rfl
   .exact nos hc
  .exact nos hc
 .rename_i h1 h2;have key:dataC (sH θ h) (sC θ c)=flatC (sC θ c):=by
   cases c with
   | own r ver z off len=>exact(h1 _ _ _ _ _ rfl).elim
   | ptr r ver i off=>exact(h2 _ _ _ _ rfl).elim
   | lit v=>
    show dataC _ (sV θ v)=flatC (sV θ v);rcases Zj (θ:=θ) v with⟨k,rfl⟩ | hv
    .show dataC _ (θ k)=flatC (θ k);rcases hθ.sh k with⟨b,h⟩ | ⟨es,h⟩ <;> rw [h] <;> rfl
    .rw [hv];rfl
   | _=>rfl
  rw [key,Z2 hθ,hc];rfl
theorem Vq(hθ:ThOk θ){h:List (Nat×HB)}:∀{l l' : List C},l.mapM (dataC h)=some l'->(sL θ l).mapM (dataC (sH θ h))=some (sL θ l')
 | [],l',e=>by
  simp only [List.mapM_nil,pure,zOI]at e;subst e;rfl
 | c::l,l',e=>by
  simp only [List.mapM_cons,bind,pure,zOB,zOI]at e;obtain⟨c',e1,l2,e2,rfl⟩:=e;simp only [sL,List.mapM_cons,bind,pure,uat hθ e1,Vq hθ e2,Option.bind_some]
theorem Wat(hθ:ThOk θ){h:List (Nat×HB)}:∀{l l' : List (List C)},rows2 h l=some l'->rows2 (sH θ h) (sR θ l)=some (sR θ l')
 | [],l',e=>by cases e;rfl
 | c::l,l',e=>by
  have e:(match c.mapM (dataC h) with | some e'=>(rows2 h l).map (e'::·) | none=>none)=some l':=e
  split at e
  .rename_i c' e1;rw [zOM]at e;obtain⟨l2,e2,rfl⟩:=e;show(match (sL θ c).mapM (dataC (sH θ h)) with | some e'=>(rows2 (sH θ h) (sR θ l)).map (e'::·) | none=>none)=_
   rw [Vq hθ e1,Wat hθ e2];rfl
  .exact nos e
theorem xaW(hθ:ThOk θ){h:List (Nat×HB)}{a a' : AV}(e:dataE h a=some a'):dataE (sH θ h) (sA θ a)=some (sA θ a'):=by
 cases a with
 | any=>exact nos e
 | tup l=>exact nos e
 | agg cs=>
  have e2:(cs.mapM (dataC h)).map AV.agg=some a':=e;rw [zOM]at e2;obtain⟨l,e3,rfl⟩:=e2;show((sL θ cs).mapM (dataC (sH θ h))).map AV.agg=_;rw [Vq hθ e3];rfl
 | one c=>
  have gen:∀{c:C},dataE h (.one c)=(dataC h c).map .one->dataE (sH θ h) (.one (sC θ c))=(dataC (sH θ h) (sC θ c)).map .one->∀{a' : AV},dataE h (.one c)=some a'->dataE (sH θ h) (.one (sC θ c))=some (sA θ a'):=by
   intro c h1 h2 a' e;rw [h1,zOM]at e;obtain⟨c',e,rfl⟩:=e;rw [h2,uat hθ e];rfl
  cases c with
  | emp=>cases e;rfl
  | full es=>cases e;rfl
  | lit v=>
   refine gen rfl ?_ e;show dataE _ (.one (sV θ v))=(dataC _ (sV θ v)).map .one;rcases Zj (θ:=θ) v with⟨k,rfl⟩ | hv
   .show dataE _ (.one (θ k))=(dataC _ (θ k)).map .one;rcases hθ.sh k with⟨b,h⟩ | ⟨es,h⟩ <;> rw [h] <;> rfl
   .rw [hv];rfl
  | _=>exact gen rfl rfl e
theorem wy(hθ:ThOk θ){h:List (Nat×HB)}:∀{l l' : List AV},l.mapM (dataE h)=some l'->(l.map (sA θ)).mapM (dataE (sH θ h))=some (l'.map (sA θ))
 | [],l',e=>by
  simp only [List.mapM_nil,pure,zOI]at e;subst e;rfl
 | c::l,l',e=>by
  simp only [List.mapM_cons,bind,pure,zOB,zOI]at e;obtain⟨c',e1,l2,e2,rfl⟩:=e;simp only [List.map_cons,List.mapM_cons,bind,pure,xaW hθ e1,wy hθ e2,Option.bind_some]
theorem vaY(hθ:ThOk θ)(k:Nat):ownB (θ k)=[]:=by
 rcases hθ.sh k with⟨b,h⟩ | ⟨es,h⟩ <;> rw [h] <;> rfl
theorem ubf(hθ:ThOk θ)(c:C):ownB (sC θ c)=ownB c:=by
 cases c with
 | lit v=>
  show ownB (sV θ v)=ownB (.lit v);rcases Zj (θ:=θ) v with⟨k,rfl⟩ | hv
  .exact vaY hθ k
  .rw [hv]
 | _=>rfl
theorem jaE(hθ:ThOk θ)(c:C):ownC (sC θ c)=ownC c:=by
 cases c with
 | lit v=>
  show ownC (sV θ v)=ownC (.lit v);rcases Zj (θ:=θ) v with⟨k,rfl⟩ | hv
  .show ownC (θ k)=[];rcases hθ.sh k with⟨b,h⟩ | ⟨es,h⟩ <;> rw [h] <;> rfl
  .rw [hv]
 | clo f cs=>
  show(sL θ cs).flatMap ownB=cs.flatMap ownB;rw [jk,List.flatMap_map];congr 1
  funext c
  exact ubf hθ c
 | _=>rfl
theorem qbc(hθ:ThOk θ)(a:AV):ownA (sA θ a)=ownA a:=by
 cases a with
 | one c=>exact jaE hθ c
 | agg cs=>
  show(sL θ cs).flatMap ownC=cs.flatMap ownC;rw [jk,List.flatMap_map];congr 1
  funext c
  exact jaE hθ c
 | _=>rfl
theorem ZaZ(hθ:ThOk θ)(l:List AV):(l.map (sA θ)).flatMap ownA=l.flatMap ownA:=by
 rw [List.flatMap_map];congr 1
 funext a
 exact qbc hθ a
theorem uaU(hθ:ThOk θ):∀l:List C,ownE (sL θ l)=ownE l
 | []=>rfl
 | c::l=>by show ownC (sC θ c)++ownE (sL θ l)=_;rw [jaE hθ,uaU hθ];rfl
theorem uar(hθ:ThOk θ):∀l:List (List C),ownEs (sR θ l)=ownEs l
 | []=>rfl
 | c::l=>by show ownE (sL θ c)++ownEs (sR θ l)=_;rw [uaU hθ,uar hθ];rfl
theorem Q9:∀(l:List Nat) (h:List (Nat×HB)),frzH l (sH θ h)=sH θ (frzH l h)
 | [],_=>rfl
 | x::l,h=>by
  show frzH l (match hget (sH θ h) x with | ⟨v,some b⟩=>hset (sH θ h) x ⟨v,some { b with live:=false }⟩ | ⟨_,none⟩=>sH θ h)=sH θ (frzH l (match hget h x with | ⟨v,some b⟩=>hset h x ⟨v,some { b with live:=false }⟩ | ⟨_,none⟩=>h))
  cases e:hget h x with
  | mk v b=>
   cases b with
   | none=>rw [Zar e];exact Q9 l h
   | some b=>
    rw [WV e];show frzH l (hset (sH θ h) x (sHB θ ⟨v,some { b with live:=false }⟩))=sH θ (frzH l (hset h x ⟨v,some { b with live:=false }⟩))
    rw [qJ];exact Q9 l _
structure LvS (θ:Nat->C) (L L' : Lv):Prop where
 dat:∀f args r,L.dat f args=some r->L'.dat f (args.map (sA θ))=some (sA θ r)
 inl:∀f args t r t1,L.inl f args t=some (r,t1)->L'.inl f (args.map (sA θ)) (sT θ t)=some (sA θ r,sT θ t1)
 look:∀f es args r,L.look f es args=some r->L'.look f (sR θ es) (args.map (sA θ))=some (sA θ r)
 fresh:∀f args es,L.fresh f args=some es->L'.fresh f (args.map (sA θ))=some (sR θ es)
 z:∀f,L'.z f=L.z f
theorem VaF(hθ:ThOk θ)(hL:LvS θ L L'){f:Nat}{args:List AV}(h:callE L dr d t f args=some t'):callE L' dr d (sT θ t) f (args.map (sA θ))=some (sT θ t'):=by
 unfold callE at h ⊢;rw [VO hθ];split at h
 .rename_i as e;rw [e];rw [zR]at h;show fAs (as.map (sA θ)) _=_;rw [zR];split at h
  .rename_i r e2;rw [xaF]at h;cases h
   rw [hL.dat _ _ _ e2];show fA (sA θ r) _=_;rw [xaF,vj]
  .exact nos h
 .rename_i e;rw [e];show cond dr none (match L'.inl f (args.map (sA θ)) (sT θ t) with | some (r,t1)=>some (t1.put d r) | none=>none)=_
  cases dr with
  | true=>exact nos h
  | false=>
   have h:(match L.inl f args t with | some (r,t1)=>some (t1.put d r) | none=>none)=some t':=h
   split at h
   .rename_i r t1 e2;cases h
    rw [hL.inl _ _ _ _ _ e2];exact congrArg some (vj t1 d r)
   .exact nos h
theorem Yat(l:List C):l.map (λc=>sA θ (.one c))=(sL θ l).map AV.one:=by
 rw [jk,List.map_map];rfl
theorem waJ{f:Nat}:∀{caps:List C} {args:List AV},(∀l,caps≠.lit (.agg ⟨[]⟩)::l)->whoE (.one (.clo f caps)) args=some (f,args++caps.map .one)
 | [],_,_=>rfl
 | c::l,_,h=>by
  cases c with
  | lit v=>cases v with
   | agg a=>
    obtain⟨a⟩:=a;cases a with
    | nil=>exact(h l rfl).elim
    | cons x y=>rfl
   | _=>rfl
  | _=>rfl
theorem xbd(hθ:ThOk θ){x:AV}{args:List AV}{p:Nat×List AV}(h:whoE x args=some p):whoE (sA θ x) (args.map (sA θ))=some (p.1,p.2.map (sA θ)):=by
 unfold whoE at h;split at h
 .cases h;rfl
 .rename_i f l;cases h
  show some (f,(sL θ l).map AV.one++args.map (sA θ))=some (f,(l.map AV.one++args).map (sA θ));rw [List.map_append,List.map_map,<-Yat];rfl
 .rename_i f caps hne;cases h
  have key:∀l,sL θ caps≠.lit (.agg ⟨[]⟩)::l:=by
   intro l e;cases caps with
   | nil=>cases e
   | cons c cs=>
    have e:sC θ c::sL θ cs=_:=e;injection e with e1 e2
    have:c=.lit (.agg ⟨[]⟩):=by
     cases c with
     | lit v=>
      have e1:sV θ v=_:=e1;rcases Zj (θ:=θ) v with⟨k,rfl⟩ | hv
      .have e1:θ k=_:=e1;rcases hθ.sh k with⟨b,h⟩ | ⟨es,h⟩ <;> rw [h]at e1 <;> cases e1
      .rw [hv]at e1;exact e1
     | _=>cases e1
    exact hne cs (by rw [this])
  show whoE (.one (.clo f (sL θ caps))) (args.map (sA θ))=_;rw [waJ key,List.map_append,List.map_map,<-Yat];rfl
 .exact nos h
theorem Xa5(hθ:ThOk θ)(hL:LvS θ L L'){f:Nat}{args:List AV}(h:lookE L t f args=some r):lookE L' (sT θ t) f (args.map (sA θ))=some (sA θ r):=by
 unfold lookE at h;split at h
 .rename_i rr ver rest;split at h
  .rename_i b hb;obtain⟨hg,h⟩:=Za h;simp only [zBA]at hg;split at h
   .rename_i as e;show(match (sT θ t).hat rr ver with | some b=>guardE (b.live && b.es.all λe=>e.all (cleanE 32)) (match flatAs (rest.map (sA θ)) with | some as=>L'.look f b.es as | none=>none) | none=>none)=_
    rw [qz hb,VO hθ,e];show guardE (b.live && (sR θ b.es).all λe=>e.all (cleanE 32)) (L'.look f (sR θ b.es) (as.map (sA θ)))=_;rw [hg.1,qM hθ hg.2];exact hL.look _ _ _ _ h
   .exact nos h
  .exact nos h
 .exact nos h
theorem jaH(hθ:ThOk θ)(hL:LvS θ L L'){f:Nat}{args:List AV}(h:freshE L dr d t f args=some t'):freshE L' dr d (sT θ t) f (args.map (sA θ))=some (sT θ t'):=by
 unfold freshE at h ⊢;simp only at h ⊢;obtain⟨hg,h⟩:=Za h;rw [ZaZ hθ,qb hg];split at h
 .rename_i as e;show(match (args.map (sA θ)).mapM (dataE (sH θ t.h)) with | some as=>(match L'.fresh f as with | some es=>newE _ _ _ d | none=>none) | none=>none)=_
  rw [wy hθ e];split at h
  .rename_i es e2;show(match L'.fresh f (as.map (sA θ)) with | some es=>newE { sT θ t with h:=frzH (args.flatMap ownA) (sH θ t.h) } ⟨es,L'.z f,true⟩ (λd ver=>.one (.own d ver (L'.z f) 0 es.length)) d | none=>none)=_
   rw [hL.fresh _ _ _ e2,hL.z,Q9];show newE (sT θ { t with h:=frzH (args.flatMap ownA) t.h }) (sBk θ ⟨es,L.z f,true⟩) (λd ver=>.one (.own d ver (L.z f) 0 (sR θ es).length)) d=_
   rw [uh];exact yy (λd v=>rfl) h
  .exact nos h
 .exact nos h
def hfOp:AOp->Bool
 | .mv x=>hfO x
 | .pick c x y=>hfO c && hfO x && hfO y
 | .alloc zs=>hfL zs
 | .box _ x=>hfO x
 | .build sg=>sg.all hfS
 | .row _ l=>l.all λe=>e.all hfS
 | .rowo _ l=>l.all λe=>e.all hfS
 | .rowd _ l=>l.all λe=>e.all hfS
 | .ld _ _ _ a=>hfO a
 | .st _ _ a x=>hfO a && hfO x
 | .nilck x=>hfO x
 | .bin _ x y=>hfO x && hfO y
 | .binb _ x y=>hfO x && hfO y
 | .binn _ x y=>hfO x && hfO y
 | .un _ x=>hfO x
 | .conv _ x=>hfO x
 | .iface _ x=>hfO x
 | .clo _ l=>l.all hfO
 | .mk _ zs l c=>hfL zs && hfO l && hfO c
 | .sl _ x lo hi=>hfO x && hfOo lo && hfOo hi
 | .fa _ x=>hfO x
 | .fld _ _ _ x=>hfO x
 | .idx _ x i=>hfO x && hfO i
 | .ext _ x=>hfO x
 | .len x=>hfO x
 | .app _ x y=>hfO x && hfO y
 | .app0 _ x y=>hfO x && hfO y
 | .appb _ _ x y=>hfO x && hfO y
 | .call _ l=>l.all hfO
 | .callv f l=>hfO f && l.all hfO
 | .callf _ l=>l.all hfO
 | .snil _ x=>hfO x
 | .sop _ l=>l.all hfO
 | .ai _ _ x i=>hfO x && hfO i
 | .aix _ _ _ x i=>hfO x && hfO i
 | .rsl _ _ x=>hfO x
 | .callr _ l=>l.all hfO
 | .rsb _ _ x lo hi=>hfO x && hfOo lo && hfOo hi
 | .calli _ l=>l.all hfO
 | .cpy _ x y=>hfO x && hfO y
 | .max l=>l.all hfO
 | .min l=>l.all hfO
 | _=>false
theorem XO(z len d v:Nat):sA θ (oneRow z len d v)=oneRow z len d v:=rfl
theorem Uad(d v:Nat):sA θ (onePtr d v)=onePtr d v:=rfl
theorem jbe(hθ:ThOk θ)(c:C):nrmC (sC θ c)=sC θ (nrmC c):=by
 cases c with
 | lit v=>
  show nrmC (sV θ v)=sV θ v;unfold sV;split
  .rcases hθ.sh _ with⟨b,e⟩ | ⟨es,e⟩ <;> rw [e] <;> rfl
  .rfl
 | _=>rfl
theorem wba(hθ:ThOk θ)(es:List (List C)):nrmR (sR θ es)=sR θ (nrmR es):=by
 unfold nrmR;rw [Wh,Wh,List.map_map,List.map_map];refine List.map_congr_left λe _=>?_;show(sL θ e).map nrmC=sL θ (e.map nrmC);rw [jk,jk,List.map_map,List.map_map];exact List.map_congr_left λc _=>jbe hθ c
theorem xa6(hθ:ThOk θ){z:Nat}{ys:List (List C)}{x:AV}(h:cpyE z t ys x=some t'):cpyE z (sT θ t) (sR θ ys) (sA θ x)=some (sT θ t'):=by
 unfold cpyE at h;split at h
 .rename_i rr ver z' off len;split at h
  .rename_i b hb;obtain⟨hg,h⟩:=Za h;cases h
   simp only [sA,sC,cpyE,qz hb,sBk,uh,qb hg,<-Zq,<-Jw,<-QaE,wba hθ];exact congrArg some (V0 t rr ver ⟨nrmR (b.es.take off++(ys++b.es.drop (off+ys.length))),z,true⟩)
  .exact nos h
 .exact nos h
theorem kbc(hθ:ThOk θ)(hL:LvS θ L L')(op:AOp)(hf:hfOp op=true)(h:opE op L dr d t=some t'):opE op L' dr d (sT θ t)=some (sT θ t'):=by
 cases op
 case mv x=>
  cases (show some (t.put d (t.ev x))=some t' from h)
  show some ((sT θ t).put d ((sT θ t).ev x))=_;rw [Xc (show hfO x=true from hf),vj]
 case pick c x y=>
  simp only [hfOp,zBA]at hf;obtain⟨b,e,h⟩:=qa (show obind (lbE (t.ev c)) (λb=>some (t.put d (sel b (t.ev x) (t.ev y))))=some t' from h);cases h
  show obind (lbE ((sT θ t).ev c)) (λb=>some ((sT θ t).put d (sel b ((sT θ t).ev x) ((sT θ t).ev y))))=_;rw [Xc hf.1.1,Xc hf.1.2,Xc hf.2,Zbe e];show some ((sT θ t).put d (sel b (sA θ (t.ev x)) (sA θ (t.ev y))))=_;rw [<-vj];cases b <;> rfl
 case alloc zs=>
  show newE (sT θ t) ⟨[zs],zs.length,true⟩ onePtr d=_;have e:(⟨[zs],zs.length,true⟩:Blk)=sBk θ ⟨[zs],zs.length,true⟩:=by
   show _=(⟨[sL θ zs],zs.length,true⟩:Blk);rw [qU (show hfL zs=true from hf)]
  rw [e];exact yy Uad h
 case box n x=>
  obtain⟨cs,e,h⟩:=qa (show obind (cellsE (t.ev x)) (λcs=>guardE (Nat.beq cs.length n) (newE t ⟨[cs],n,true⟩ onePtr d))=some t' from h);obtain⟨hg,h⟩:=Za h;show obind (cellsE ((sT θ t).ev x)) (λcs=>guardE (Nat.beq cs.length n) (newE (sT θ t) ⟨[cs],n,true⟩ onePtr d))=_;rw [Xc (show hfO x=true from hf),vO e];show guardE (Nat.beq (sL θ cs).length n) (newE (sT θ t) (sBk θ ⟨[cs],n,true⟩) onePtr d)=_;rw [Jm,qb hg];exact yy Uad h
 case build sg=>
  obtain⟨cs,e,h⟩:=qa (show obind (segsE t sg) (λcs=>some (t.put d (.agg cs)))=some t' from h);cases h
  show obind (segsE (sT θ t) sg) (λcs=>some ((sT θ t).put d (.agg cs)))=_;rw [vM (show sg.all hfS=true from hf) e];exact congrArg some (vj t d (.agg cs))
 case row z l=>
  obtain⟨es,e,h⟩:=qa (show obind (rowsE t z l) (λes=>obind (rows2 t.h es) λes'=>xRow2 dr d t es es' (ownEs es))=some t' from h);obtain⟨es',e2,h⟩:=qa h;obtain⟨hg,h⟩:=Za h;cases h
  show obind (rowsE (sT θ t) z l) (λes=>obind (rows2 (sH θ t.h) es) λes'=>xRow2 dr d (sT θ t) es es' (ownEs es))=_;rw [XN hf e];show obind (rows2 (sH θ t.h) (sR θ es)) (λes'=>xRow2 dr d (sT θ t) (sR θ es) es' (ownEs (sR θ es)))=_;rw [Wat hθ e2,uar hθ];show guardE (!dr || (ownEs es).isEmpty) (some ((⟨sTr θ t.v,sX θ t.x,frzH (ownEs es) (sH θ t.h),t.n⟩:T).put d (.one (.full (sR θ es')))))=_
  rw [qb hg,Q9];exact congrArg some (vj ⟨t.v,t.x,frzH (ownEs es) t.h,t.n⟩ d (.one (.full es')))
 case rowd z l=>
  obtain⟨es,e,h⟩:=qa (show obind (rowsE t z l) (λes=>newE t ⟨es,z,true⟩ (oneRow z es.length) d)=some t' from h);show obind (rowsE (sT θ t) z l) (λes=>newE (sT θ t) ⟨es,z,true⟩ (oneRow z es.length) d)=_;rw [XN hf e];show newE (sT θ t) (sBk θ ⟨es,z,true⟩) (oneRow z (sR θ es).length) d=_;rw [uh];exact yy (XO _ _) h
 case rowo z l=>
  obtain⟨hg,h⟩:=Za (show guardE (!dr) (xRowd d t z l)=some t' from h);obtain⟨es,e,h⟩:=qa (show obind (rowsE t z l) (λes=>newE t ⟨es,z,true⟩ (oneRow z es.length) d)=some t' from h);show guardE (!dr) (obind (rowsE (sT θ t) z l) (λes=>newE (sT θ t) ⟨es,z,true⟩ (oneRow z es.length) d))=_;rw [qb hg,XN hf e];show newE (sT θ t) (sBk θ ⟨es,z,true⟩) (oneRow z (sR θ es).length) d=_;rw [uh];exact yy (XO _ _) h
 case ld b n g a=>
  obtain⟨hg,h⟩:=Za (show guardE (baseE b (t.ev a)) (pu d t (loadE n g t (t.ev a)))=some t' from h);show guardE (baseE b ((sT θ t).ev a)) (pu d (sT θ t) (loadE n g (sT θ t) ((sT θ t).ev a)))=_;rw [Xc (show hfO a=true from hf),qb (Uax hg)];exact pu_s (λr e=>Yau e) h
 case st b n a x=>
  simp only [hfOp,zBA]at hf;obtain⟨hg,h⟩:=Za (show guardE (baseE b (t.ev a)) (pt d (stE n t (t.ev x) (t.ev a)))=some t' from h);show guardE (baseE b ((sT θ t).ev a)) (pt d (stE n (sT θ t) ((sT θ t).ev x) ((sT θ t).ev a)))=_;rw [Xc hf.1,Xc hf.2,qb (Uax hg)];exact pt_s (λr e=>Jbj e) h
 case nilck x=>
  refine pu_s (λr e=>?_) (show pu d t (nilckE (t.ev x))=some t' from h);rw [Xc (show hfO x=true from hf)];exact ZaI e
 case bin op x y=>
  simp only [hfOp,zBA]at hf;refine pu_s (λr e=>?_) (show pu d t (binE op (t.ev x) (t.ev y))=some t' from h);rw [Xc hf.1,Xc hf.2];exact Jbe e
 case binb op x y=>
  simp only [hfOp,zBA]at hf;refine pu_s (λr e=>?_) (show pu d t (binbE op (t.ev x) (t.ev y))=some t' from h);rw [Xc hf.1,Xc hf.2];exact uaX e
 case binn op x y=>
  simp only [hfOp,zBA]at hf;refine pu_s (λr e=>?_) (show pu d t (binnE op (isConst y) (t.ev x) (t.ev y))=some t' from h);rw [Xc hf.1,Xc hf.2];exact Ya4 e
 case un op x=>
  refine pu_s (λr e=>?_) (show pu d t (unE op (t.ev x))=some t' from h);rw [Xc (show hfO x=true from hf)];exact Zbk e
 case conv k x=>
  refine pu_s (λr e=>?_) (show pu d t (convE k (t.ev x))=some t' from h);rw [Xc (show hfO x=true from hf)];exact va2 e
 case iface ty x=>
  refine pu_s (λr e=>?_) (show pu d t (ifaceE ty (t.ev x))=some t' from h);rw [Xc (show hfO x=true from hf)];exact JaJ e
 case clo f l=>
  obtain⟨cs,e,h⟩:=qa (show obind (capE t l) (λcs=>some (t.put d (.one (.clo f cs))))=some t' from h);cases h
  show obind (capE (sT θ t) l) (λcs=>some ((sT θ t).put d (.one (.clo f cs))))=_;rw [WaU (show l.all hfO=true from hf) e];exact congrArg some (vj t d (.one (.clo f cs)))
 case mk z zs l c=>
  simp only [hfOp,zBA]at hf;obtain⟨a,e1,h⟩:=qa (show obind (liE (t.ev l)) (λl=>obind (liE (t.ev c)) λc=>xMk2 d t z zs l c)=some t' from h);obtain⟨b,e2,h⟩:=qa h;obtain⟨hg,h⟩:=Za h;show obind (liE ((sT θ t).ev l)) (λl=>obind (liE ((sT θ t).ev c)) λc=>xMk2 d (sT θ t) z zs l c)=_;rw [Xc hf.1.2,Xc hf.2,ybc e1];show obind (liE (sA θ (t.ev c))) (λc=>xMk2 d (sT θ t) z zs a c)=_;rw [ybc e2];show guardE _ (newE (sT θ t) ⟨List.replicate a.toNat zs,z,true⟩ (oneRow z a.toNat) d)=_;rw [qb hg];have e:(⟨List.replicate a.toNat zs,z,true⟩:Blk)=sBk θ ⟨List.replicate a.toNat zs,z,true⟩:=by
   show _=(⟨sR θ (List.replicate a.toNat zs),z,true⟩:Blk);rw [ua7,qU hf.1.1]
  rw [e];exact yy (XO _ _) h
 case sl z x lo hi=>
  simp only [hfOp,zBA]at hf;refine pu_s (λr e=>?_) (show pu d t (sliceE z t lo hi (t.ev x))=some t' from h);rw [Xc hf.1.1];exact Waj hf.1.2 hf.2 e
 case fa off x=>
  refine pu_s (λr e=>?_) (show pu d t (faE off (t.ev x))=some t' from h);rw [Xc (show hfO x=true from hf)];exact Jba e
 case fld n g off x=>
  refine pu_s (λr e=>?_) (show pu d t (fldE n g off (t.ev x))=some t' from h);rw [Xc (show hfO x=true from hf)];exact xaP e
 case idx z x i=>
  simp only [hfOp,zBA]at hf;refine pu_s (λr e=>?_) (show pu d t (idxE z (t.ev i) (t.ev x))=some t' from h);rw [Xc hf.1,Xc hf.2];exact Zbg e
 case ext i x=>
  refine pu_s (λr e=>?_) (show pu d t (extE i (t.ev x))=some t' from h);rw [Xc (show hfO x=true from hf)];exact Ja8 e
 case len x=>
  refine pu_s (λr e=>?_) (show pu d t (lenE (t.ev x))=some t' from h);rw [Xc (show hfO x=true from hf)];exact ubc e
 case app z x y=>
  simp only [hfOp,zBA]at hf;show appE z d (sT θ t) ((sT θ t).ev x) ((sT θ t).ev y)=_;rw [Xc hf.1,Xc hf.2];exact Xas h
 case app0 z x y=>
  simp only [hfOp,zBA]at hf;obtain⟨u,e,h⟩:=qa (show obind (empE (t.ev x)) (λ_=>appE z d t (.one .emp) (t.ev y))=some t' from h);show obind (empE ((sT θ t).ev x)) (λ_=>appE z d (sT θ t) (.one .emp) ((sT θ t).ev y))=_;rw [Xc hf.1,Xc hf.2,Qbe e];exact Xas (x:=.one .emp) h
 case appb b z x y=>
  simp only [hfOp,zBA]at hf;obtain⟨hg,h⟩:=Za (show guardE (appIsE b d (t.ev x) (t.ev y)) (appE z d t (t.ev x) (t.ev y))=some t' from h);show guardE (appIsE b d ((sT θ t).ev x) ((sT θ t).ev y)) (appE z d (sT θ t) ((sT θ t).ev x) ((sT θ t).ev y))=_;rw [Xc hf.1,Xc hf.2,qb (VaM hg)];exact Xas h
 case call f l=>
  show callE L' dr d (sT θ t) f (l.map (sT θ t).ev)=_;rw [xE (show l.all hfO=true from hf)];exact VaF hθ hL h
 case callv f l=>
  simp only [hfOp,zBA]at hf;obtain⟨p,e,h⟩:=qa (show obind (whoE (t.ev f) (l.map t.ev)) (λp=>guardE (!spF p.1) (callE L dr d t p.1 p.2))=some t' from h);obtain⟨hg,h⟩:=Za h;show obind (whoE ((sT θ t).ev f) (l.map (sT θ t).ev)) (λp=>guardE (!spF p.1) (callE L' dr d (sT θ t) p.1 p.2))=_;rw [Xc hf.1,xE hf.2,xbd hθ e];show guardE (!spF p.1) (callE L' dr d (sT θ t) p.1 (p.2.map (sA θ)))=_;rw [qb hg];exact VaF hθ hL h
 case callf f l=>
  show freshE L' dr d (sT θ t) f (l.map (sT θ t).ev)=_;rw [xE (show l.all hfO=true from hf)];exact jaH hθ hL h
 case snil neg x=>
  refine pu_s (λr e=>?_) (show pu d t (snilE neg (t.ev x))=some t' from h);rw [Xc (show hfO x=true from hf)];exact ua1 e
 case sop k l=>
  refine pu_s (λr e=>?_) (show pu d t (sopE k (l.map t.ev))=some t' from h);rw [xE (show l.all hfO=true from hf)];exact wa8 e
 case ai z n x i=>
  simp only [hfOp,zBA]at hf;obtain⟨j,e,h⟩:=qa (show obind (atE n (t.ev i)) (λj=>pu d t (faE (j*z) (t.ev x)))=some t' from h);show obind (atE n ((sT θ t).ev i)) (λj=>pu d (sT θ t) (faE (j*z) ((sT θ t).ev x)))=_;rw [Xc hf.1,Xc hf.2,wbd e];exact pu_s (λr e=>Jba e) h
 case aix z g n x i=>
  simp only [hfOp,zBA]at hf;obtain⟨j,e,h⟩:=qa (show obind (atE n (t.ev i)) (λj=>pu d t (fldE z g (j*z) (t.ev x)))=some t' from h);show obind (atE n ((sT θ t).ev i)) (λj=>pu d (sT θ t) (fldE z g (j*z) ((sT θ t).ev x)))=_;rw [Xc hf.1,Xc hf.2,wbd e];exact pu_s (λr e=>xaP e) h
 case rsl z n x=>
  refine pu_s (λr e=>?_) (show pu d t (rslE z n (t.ev x))=some t' from h);rw [Xc (show hfO x=true from hf)];exact JaP e
 case callr f l=>
  refine pu_s (λr e=>?_) (show pu d t (lookE L t f (l.map t.ev))=some t' from h);rw [xE (show l.all hfO=true from hf)];exact Xa5 hθ hL e
 case rsb z n x lo hi=>
  simp only [hfOp,zBA]at hf;obtain⟨y,e,h⟩:=qa (show obind (rslE z n (t.ev x)) (λr=>pu d t (sliceE z t lo hi r))=some t' from h);show obind (rslE z n ((sT θ t).ev x)) (λr=>pu d (sT θ t) (sliceE z (sT θ t) lo hi r))=_;rw [Xc hf.1.1,JaP e];exact pu_s (λr e=>Waj hf.1.2 hf.2 e) h
 case calli f l=>
  obtain⟨⟨r,t1⟩,e,h⟩:=qa (show obind (L.inl f (l.map t.ev) t) (λp=>some (p.2.put d p.1))=some t' from h);cases h
  show obind (L'.inl f (l.map (sT θ t).ev) (sT θ t)) (λp=>some (p.2.put d p.1))=_;rw [xE (show l.all hfO=true from hf),hL.inl _ _ _ _ _ e];exact congrArg some (vj t1 d r)
 case max l=>
  refine pu_s (λr e=>?_) (show pu d t (mmE mx t l)=some t' from h);exact Xbh hf e
 case min l=>
  refine pu_s (λr e=>?_) (show pu d t (mmE mn t l)=some t' from h);exact Xbh hf e
 case cpy z x y=>
  simp only [hfOp,zBA]at hf;obtain⟨g1,h⟩:=Za (show guardE (!dr) (obind (elemsE t (t.ev y)) λys=>guardE (allLen z ys) (obind (cpyE z t ys (t.ev x)) λt=>some (t.put d (.one (.lit (.int .i64 (ys.length:Nat)))))))=some t' from h);obtain⟨ys,e1,h⟩:=qa h;obtain⟨g2,h⟩:=Za h;obtain⟨t1,e2,h⟩:=qa h;cases h
  show guardE (!dr) (obind (elemsE (sT θ t) ((sT θ t).ev y)) λys=>guardE (allLen z ys) (obind (cpyE z (sT θ t) ys ((sT θ t).ev x)) λt=>some (t.put d (.one (.lit (.int .i64 (ys.length:Nat)))))))=_;rw [Xc hf.1,Xc hf.2,qb g1,Vab e1];show guardE (allLen z (sR θ ys)) (obind (cpyE z (sT θ t) (sR θ ys) (sA θ (t.ev x))) λt=>some (t.put d (.one (.lit (.int .i64 ((sR θ ys).length:Nat))))))=_;rw [qb (Wo g2),xa6 hθ e2,uh];exact congrArg some (vj t1 d (.one (.lit (.int .i64 (ys.length:Nat)))))
 all_goals exact Bool.noConfusion hf
def hfAO(o:AO):Bool:=hfOp o.o
theorem Va7(hθ:ThOk θ)(hL:LvS θ L L'){o:AO}(hf:hfAO o=true)(h:aoE o L dr t=some t'):aoE o L' dr (sT θ t)=some (sT θ t'):=by
 obtain⟨d,g,op⟩:=o;cases g with
 | none=>exact kbc hθ hL op hf h
 | some gw=>
  obtain⟨b,e,h⟩:=qa (show obind (wantE gw.2 (t.get gw.1)) (λb=>sel b (opE op L dr d t) (some (t.put d (.tup []))))=some t' from h);show obind (wantE gw.2 ((sT θ t).get gw.1)) (λb=>sel b (opE op L' dr d (sT θ t)) (some ((sT θ t).put d (.tup []))))=_;rw [Ju,Qa3 e];cases b with
  | true=>exact kbc hθ hL op hf h
  | false=>
   cases (show some (t.put d (.tup []))=some t' from h)
   exact congrArg some (uax t d)
theorem Wag(hθ:ThOk θ)(hL:LvS θ L L'):∀{l:List AO} {t t' : T},l.all hfAO=true->aosE L dr l t=some t'->aosE L' dr l (sT θ t)=some (sT θ t')
 | [],t,t',_,h=>by cases (show some t=some t' from h);rfl
 | o::l,t,t',hf,h=>by
  rw [List.all_cons,zBA]at hf;obtain⟨t1,e,h⟩:=qa (show obind (aoE o L dr t) (aosE L dr l)=some t' from h);show obind (aoE o L' dr (sT θ t)) (aosE L' dr l)=_;rw [Va7 hθ hL hf.1 e];exact Wag hθ hL hf.2 h
end Go.Abs
end
