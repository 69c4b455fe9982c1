/-
  Parts of the proof, merged: PolyF, PolyG, PolyH, PolyI, CoupP, PoseB, PoseC, ChartE, ChartF.
-/
import Derived.Test.YthoibmokhnoccaaGreatDoorM6
set_option linter.unusedVariables false
set_option linter.unusedSimpArgs false
set_option maxRecDepth 100000
section
namespace Go.Num
open Go.Abs
def lastO(l:List Mo):Nat->Option Mo
 | 0=>none
 | k+1=>some (l.getD k mo0)
theorem wag{l:List Mo}{k:Nat}{x:Mo}(o:Option Mo)(hx:l[k]?=some x):chkG o (l.drop k)=if chkT o x≠0 then chkT o x else chkG (some x) (l.drop (k+1)):=by
 rw [uC hx];rfl
def mkT(t:Mo):Nat:=if ¬inM t then 3 else if vldR t.2.2=false then 2 else 0
def mkG:List Mo->Nat
 | []=>0
 | t::l=>if mkT t≠0 then mkT t else mkG l
def mkC(l:List Mo):Nat:=if 325<l.length then 4 else mkG l
theorem Zar{l:List Mo}{k:Nat}{x:Mo}(hx:l[k]?=some x):mkG (l.drop k)=if mkT x≠0 then mkT x else mkG (l.drop (k+1)):=by
 rw [uC hx];rfl
theorem qb4{t:Mo}(h:mkT t=0):inM t/\vldR t.2.2=true:=by
 unfold mkT at h;split at h
 .contradiction
 .rename_i h1;split at h
  .contradiction
  .rename_i h2;exact⟨by simpa using h1,by simpa using h2⟩
theorem Xbf:∀{l:List Mo},mkG l=0->∀t∈l,inM t/\vldR t.2.2=true
 | [],_,t,ht=>by simp at ht
 | u::l,h,t,ht=>by
  rw [mkG]at h;split at h
  .rename_i h1;exact absurd h h1
  .rename_i h1;rcases List.mem_cons.1 ht with rfl | ht
   .exact qb4 (by simpa using h1)
   .exact Xbf h t ht
theorem Qm{l:List Mo}(h:chkB l=0)(hw:∀t∈l,WLM t):(∀t∈l,inM t)/\InQ (l.map mv)/\l.length<=325:=by
 obtain⟨h1,h2⟩:=Vo h hw;refine⟨λt ht=>?_,h1.ins,(Xbp h).1⟩;exact h1.ins (mv t) (List.mem_map.2 ⟨t,ht,rfl⟩)
def sclM(c:Rat)(l:List Mo):List Mo:=l.map λt=>(t.1,t.2.1,rcan (c*rv t.2.2))
def degM(l:List Mo):Int:=match l.getLast? with
 | none=>-1
 | some t=>t.1+t.2.1
theorem Vg(p:BQ):degM (mcs p)=degB p:=by
 unfold degM degB mcs;rw [List.getLast?_map];cases p.getLast? <;> rfl
def bres(c:Nat)(p:BQ):List Mo:=if c=0 then mcs p else []
theorem X4(p:BQ):bres 0 p=mcs p:=rfl
theorem QB{c:Nat}(h:c≠0)(p:BQ):bres c p=[]:=if_neg h
def chk2(p q:List Mo):Nat:=if chkB p≠0 then chkB p else chkB q
theorem Z4{p q:List Mo}(h:chk2 p q=0):chkB p=0/\chkB q=0:=by
 unfold chk2 at h;split at h
 .rename_i h1;exact absurd h h1
 .rename_i h1;exact⟨by simpa using h1,h⟩
end Go.Num
namespace Go.Abs
open Go.Num
variable {P:Program} {Γ:Nat->Spec}
def Vh(tE:Nat)(l:List AV)(K:AV->Prop):Prop:=
 match l with
 | [a]=>onMs (λl=>(∀t∈l,rl t.2.2<=4294967296)/\K (errV tE (chkB l))) a
 | _=>False
theorem kaa:type_of% @Vh.eq_1:=q_E @Vh.eq_1
@[congr] theorem ZbF tE{K}{l l'}(h:l=l'):Vh tE l K=Vh tE l' K:=by subst h;rfl
attribute [go_sem,go_sem ↓] kaa
theorem xak(tE:Nat):Good (Vh tE):=Ja λas=>by
 unfold Vh;split
 .exact(we λ_=>(.and λ_=>(.ret _)))
 .exact .of λK hk=>hk.elim
def Yf(tE:Nat)(l:List AV)(K:AV->Prop):Prop:=
 match l with
 | [a]=>onM2 (λp q=>(∀t∈p,rl t.2.2<=4294967296)/\(∀t∈q,rl t.2.2<=4294967296)/\K (errV tE (chk2 p q))) a
 | _=>False
theorem QP:type_of% @Yf.eq_1:=q_E @Yf.eq_1
@[congr] theorem vbA{tE}{K}{l l'}(h:l=l'):Yf tE l K=Yf tE l' K:=h▸rfl
attribute [go_sem,go_sem ↓] QP
theorem Z9(tE:Nat):Good (Yf tE):=Ja λas=>by
 unfold Yf;split
 .exact YaD λ_ _=>.and λ_=>.and λ_=>.ret _
 .exact .of λK hk=>hk.elim
def Vl(l:List AV)(K:AV->Prop):Prop:=
 match l with
 | [a]=>onMs (λl=>(∀t∈l,inM t)/\l.length<=1000000/\K (.one (.lit (.int .i64 (degM l))))) a
 | _=>False
theorem Qa8:type_of% @Vl.eq_1:=q_E @Vl.eq_1
@[congr] theorem QbY{K}{l l'}(h:l=l'):Vl l K=Vl l' K:=h▸rfl
attribute [go_sem,go_sem ↓] Qa8
theorem W7:Good Vl:=Ja λas=>by
 unfold Vl;split
 .exact(we λ_=>(.and λ_=>(.and λ_=>(.ret _))))
 .exact .of λK hk=>hk.elim
def kaq(l:List AV)(K:AV->Prop):Prop:=
 match l with
 | [a,c]=>onMs (λl=>onR (λx=>(∀t∈l,rl t.2.2<=1000000000)/\rl x<=1000000000/\l.length<=1000000/\K (.one (.slice ((sclM (rv x) l).map mC)))) c) a
 | _=>False
theorem XaV:type_of% @kaq.eq_1:=q_E @kaq.eq_1
@[congr] theorem qb1{K}{l l'}(h:l=l'):kaq l K=kaq l' K:=h▸rfl
attribute [go_sem,go_sem ↓] XaV
def Zt(tE:Nat)(l:List AV)(K:AV->Prop):Prop:=
 match l with
 | [a]=>onMs (λl=>(∀t∈l,rl t.2.2<=4294967296)/\sz (l.map mv)<=1000000000/\K (.tup [.one (.slice ((bres (mkC l) (nf (l.map mv))).map mC)),errV tE (mkC l)])) a
 | _=>False
theorem Zat:type_of% @Zt.eq_1:=q_E @Zt.eq_1
@[congr] theorem JbR tE{K}{l l'}(h:l=l'):Zt tE l K=Zt tE l' K:=by subst h;rfl
attribute [go_sem,go_sem ↓] Zat
theorem kaN(tE:Nat):Good (Zt tE):=Ja λas=>by
 unfold Zt;split
 .exact(we λ_=>(.and λ_=>(.and λ_=>(.ret _))))
 .exact .of λK hk=>hk.elim
def Qav(tE:Nat)(l:List AV)(K:AV->Prop):Prop:=
 match l with
 | [a,b]=>onMs (λp=>onMs (λq=>(∀t∈p,rl t.2.2<=4294967296)/\(∀t∈q,rl t.2.2<=4294967296)/\sz (p.map mv)+sz (q.map mv)<=1000000000/\K (.tup [.one (.slice ((bres (chk2 p q) (addB (p.map mv) (q.map mv))).map mC)),errV tE (chk2 p q)])) b) a
 | _=>False
theorem waT:type_of% @Qav.eq_1:=q_E @Qav.eq_1
@[congr] theorem zbW tE{K}{l l'}(h:l=l'):Qav tE l K=Qav tE l' K:=by subst h;rfl
attribute [go_sem,go_sem ↓] waT
def xaF(tE:Nat)(l:List AV)(K:AV->Prop):Prop:=
 match l with
 | [a,b]=>onMs (λp=>onMs (λq=>(∀t∈p,rl t.2.2<=1000000000)/\(∀t∈q,rl t.2.2<=1000000000)/\sz (p.map mv)+sz (q.map mv)<=1000000000/\K (.tup [.one (.slice ((bres (chk2 p q) (subB (p.map mv) (q.map mv))).map mC)),errV tE (chk2 p q)])) b) a
 | _=>False
theorem Qa0:type_of% @xaF.eq_1:=q_E @xaF.eq_1
@[congr] theorem QbV tE{K}{l l'}(h:l=l'):xaF tE l K=xaF tE l' K:=by subst h;rfl
attribute [go_sem,go_sem ↓] Qa0
def WH(tE:Nat)(l:List AV)(K:AV->Prop):Prop:=
 match l with
 | [a,c]=>onMs (λp=>onR (λx=>(∀t∈p,rl t.2.2<=1000000000)/\rl x<=1000000/\sz (p.map mv)<=100000000/\K (.tup [.one (.slice ((bres (chkB p) (sclB (rv x) (p.map mv))).map mC)),errV tE (chkB p)])) c) a
 | _=>False
theorem V3:type_of% @WH.eq_1:=q_E @WH.eq_1
@[congr] theorem UbB tE{K}{l l'}(h:l=l'):WH tE l K=WH tE l' K:=by subst h;rfl
attribute [go_sem,go_sem ↓] V3
def Zk(f0 f1 f2 f3 tE:Nat):AC:=(.o [.m 2 (.c (.one (.lit .nilIface)))] [0] (.f (.o [.M 5 0,.Z 6 5,.I 7 .gtr 6 325] [0,7] (.cond (.t 7) (.seq (.p [.u 8 (.iface tE (.i 4)),.M 2 8]) .ret) .skip)) [0] (.f (.o [.M 9 0,.Z 10 9,.N 11 0] [0,9,10,11] (.block 0 (.loop (.o [.B 12 .lss 11 10] [0,9,10,11,12] (.f (.cond (.t 12) .skip (.exit 0)) [0,9,10,11] (.f (.block 1 (.o [.M 13 11,.J 14 5 9 11,.L 15 5 14,.G 4 [(.lit (.int .i64 0)),(.lit (.int .i64 0)),.z,.emp,.emp],.M 3 13,.S 5 4 15] [0,3,4,9,10,11] (.block 2 (.o [.L 17 5 4,.H 18 f0 17,.u 19 (.un .not (.t 18)),.M 16 19] [0,3,4,9,10,11,16] (.cond (.t 16) (.seq (.p [.u 20 (.iface tE (.i 3)),.M 2 20]) .ret) (.o [.A 22 2 4,.L 23 3 22,.H 24 f1 23,.u 25 (.un .not (.t 24)),.M 21 25] [0,3,4,9,10,11,21] (.cond (.t 21) (.seq (.p [.u 26 (.iface tE (.i 2)),.M 2 26]) .ret) (.o [.A 28 2 4,.L 29 3 28,.H 30 f2 29,.I 31 .eql 30 0,.M 27 31] [0,3,4,9,10,11,27] (.cond (.t 27) (.seq (.p [.u 32 (.iface tE (.i 8)),.M 2 32]) .ret) (.f (.y [.M 34 3,.I 35 .gtr 34 0,.M 36 35,.V 37 36 true 0,.V 38 36 true 3,.w 39 36 true (.bin .sub (.t 38) (.i 1)),.w 40 36 true (.idx 5 (.t 37) (.t 39)),.U 41 36 true 5 true 40,.U 42 36 true 5 true 4,.Y 43 36 true f3 41 42,.w 44 36 true (.bin .geq (.t 43) (.i 0)),.P 45 36 44,.M 33 45]) [0,9,10,11,33] (.cond (.t 33) (.seq (.p [.u 46 (.iface tE (.i 12)),.M 2 46]) .ret) .skip))))))))))) [0,9,10,11] (.p [.I 47 .add 11 1,.M 11 47]))))))) [] (.seq (.p [.m 2 (.c (.one (.lit .nilIface)))]) .ret))))
def jo(f0:Nat):AC:=(.o [.m 2 (.c (.one (.lit .nilIface)))] [0] (.f (.o [.M 6 0,.Z 7 6,.N 8 0] [6,7,8] (.block 0 (.loop (.o [.B 9 .lss 8 7] [6,7,8,9] (.f (.cond (.t 9) .skip (.exit 0)) [6,7,8] (.f (.block 1 (.o [.J 10 1 6 8,.F 11 1 10,.M 4 11] [4,6,7,8] (.o [.M 12 4,.H 13 f0 12,.M 5 13] [5,6,7,8] (.o [.M 14 5,.R 15 14] [5,6,7,8,15] (.cond (.t 15) (.seq (.p [.M 16 5,.M 2 16]) .ret) .skip))))) [6,7,8] (.p [.I 17 .add 8 1,.M 8 17]))))))) [] (.seq (.p [.m 2 (.c (.one (.lit .nilIface)))]) .ret)))
def kj:AC:=(.o [.N 2 0] [0] (.f (.o [.M 3 0,.Z 4 3,.I 5 .eql 4 0] [0,5] (.cond (.t 5) (.seq (.p [.N 2 (-1)]) .ret) .skip)) [0] (.seq (.y [.M 6 0,.M 7 0,.Z 8 7,.I 9 .sub 8 1,.J 10 5 6 9,.A 11 0 10,.F 12 1 11,.M 13 0,.M 14 0,.Z 15 14,.I 16 .sub 15 1,.J 17 5 13 16,.A 18 1 17,.F 19 1 18,.B 20 .add 12 19,.M 2 20]) .ret)))
def um(f0 f1 f2 tE:Nat):AC:=(.o [.m 2 (.c (.one .emp)),.m 3 (.c (.one (.lit .nilIface)))] [0] (.f (.o [.M 6 0,.Z 7 6,.I 8 .gtr 7 325] [0,8] (.cond (.t 8) (.seq (.p [.u 9 (.iface tE (.i 4)),.m 2 (.c (.one .emp)),.M 3 9]) .ret) .skip)) [0] (.f (.o [.M 10 0,.Z 11 10,.N 12 0] [0,10,11,12] (.block 0 (.loop (.o [.B 13 .lss 12 11] [0,10,11,12,13] (.f (.cond (.t 13) .skip (.exit 0)) [0,10,11,12] (.f (.block 1 (.o [.J 14 5 10 12,.L 15 5 14,.G 5 [(.lit (.int .i64 0)),(.lit (.int .i64 0)),.z,.emp,.emp],.S 5 5 15] [0,5,10,11,12] (.f (.o [.L 16 5 5,.H 17 f0 16,.u 18 (.un .not (.t 17))] [0,5,10,11,12,18] (.cond (.t 18) (.seq (.p [.u 19 (.iface tE (.i 3)),.m 2 (.c (.one .emp)),.M 3 19]) .ret) .skip)) [0,5,10,11,12] (.o [.A 20 2 5,.L 21 3 20,.H 22 f1 21,.u 23 (.un .not (.t 22))] [0,10,11,12,23] (.cond (.t 23) (.seq (.p [.u 24 (.iface tE (.i 2)),.m 2 (.c (.one .emp)),.M 3 24]) .ret) .skip))))) [0,10,11,12] (.p [.I 25 .add 12 1,.M 12 25]))))))) [0] (.seq (.p [.M 26 0,.H 27 f2 26,.M 2 27,.m 3 (.c (.one (.lit .nilIface)))]) .ret))))
theorem qp{h h' : Nat->HB}{x:R}{z:Nat}{b:Bool}:okB h h' (some ⟨[[cb x,cn x,cd x]],z,b⟩) (some ⟨[[cb x,cn x,cd x]],z,b⟩):=
 ⟨⟨rfl,rfl⟩,.inl ⟨rfl,λe he c hc=>by
  rw [List.mem_singleton]at he;subst he;simp only [List.mem_cons,List.not_mem_nil,or_false]at hc;rcases hc with rfl | rfl | rfl
  .exact of_eq_true (zj _)
  .exact of_eq_true (qj _)
  .exact of_eq_true (Vj _)⟩⟩
theorem Qad(hΓ:Holds P Γ){f fi fv fs fo tE:Nat}(hi:Γ fi=.dat true ug)(hv:Γ fv=.dat true xc)(hs:Γ fs=.dat true ke)(ho:Γ fo=.dat true Yr)(hc:check P f=some (48,(Zk fi fv fs fo tE).strip,[.tmp 2])):Sound P f (.dat false (Vh tE)):=by
 refine Qa hc (xak tE) hΓ (λargs K hcl hfi hG=>?_);match args,hG with
 | [a],hG=>
  obtain⟨l,rfl,hw,hrl,hK⟩:=hG;refine⟨by simp,?_⟩
  by_cases h325:325<l.length
  .have e:chkB l=4:=if_pos h325;rw [e,Vd tE (by decide)]at hK
   have h325' : (325:Int)<(l.length:Int):=by omega
   simp only [go_sem,Zk,h325'];exact λ_=>hK
  .have h325' : ¬(325:Int)<(l.length:Int):=by omega
   have e:chkB l=chkG none l:=if_neg h325;rw [e]at hK;simp only [go_sem,Zk,h325'];intro _ _;refine ja (λk:Nat=>⟨mkV [(0,msA l),(9,msA l),(10,.one (.lit (.int .i64 l.length))),(11,.one (.lit (.int .i64 k)))],mkH []⟩) (λk=>k<=l.length/\chkG none l=chkG (lastO l k) (l.drop k)/\∀t∈l.take k,inM t) (λk=>l.length-k) 0 ?_ ?_ ?_
   .exact qa (by simp [bitvec_to_nat,msA,ms]) trivial
   .exact⟨Nat.zero_le _,rfl,by simp⟩
   .rintro k ⟨hk,hch,hin⟩;by_cases hlt:k<l.length
    .obtain⟨x,hx⟩:∃x,l.getD k mo0=x:=⟨_,rfl⟩;have hx0:=getDm hlt hx;have hxm:=List.mem_of_getElem? hx0;have hwx:=hw x hxm;have hrx:=hrl x hxm;rw [wag _ hx0]at hch;by_cases a1:inM x
     .cases a2:vldR x.2.2 with
      | false=>
       have ec:chkT (lastO l k) x=2:=by unfold chkT;rw [if_neg (by simp [a1]),if_pos a2]
       rw [ec,if_pos (by decide)]at hch
       rw [hch,Vd tE (by decide)]at hK
       simp only [go_sem,hlt,hx,hi,hv,mC,a2];exact⟨hwx,λ_=>⟨hwx.2.2,hrx,hK⟩,λh=>absurd a1 h⟩
      | true=>
       by_cases a3:rv x.2.2=0
       .have ec:chkT (lastO l k) x=8:=by unfold chkT;rw [if_neg (by simp [a1]),if_neg (by simp [a2]),if_pos a3]
        rw [ec,if_pos (by decide)]at hch
        rw [hch,Vd tE (by decide)]at hK
        have a3' : ordQ (rv x.2.2) 0=0:=Ve.2 a3;simp only [go_sem,hlt,hx,hi,hv,hs,mC,a2,a3'];exact⟨hwx,λ_=>⟨hwx.2.2,hrx,hwx.2.2,hrx,hK⟩,λh=>absurd a1 h⟩
       .have hin' : ∀t∈l.take (k+1),inM t:=λt ht=>by
         rw [List.take_add_one,hx0]at ht;rcases List.mem_append.1 ht with ht | ht
         .exact hin t ht
         .simp at ht;rw [ht];exact a1
        have a3' : ¬ordQ (rv x.2.2) 0=0:=λh=>a3 (Ve.1 h);cases k with
        | zero=>
         simp only [go_sem,hlt,hx,hi,hv,hs,mC,a2,a3',Int.lt_irrefl];have ec:chkT (lastO l 0) x=0:=by unfold chkT;rw [if_neg (by simp [a1]),if_neg (by simp [a2]),if_neg a3,if_neg (by simp [lastO,badO])]
         rw [ec,if_neg (by decide)]at hch
         have hl1:lastO l 1=some x:=congrArg some hx;refine⟨hwx,λ_=>⟨hwx.2.2,hrx,hwx.2.2,hrx,by omega,1,qa (by simp [bitvec_to_nat,msA,ms]) trivial,⟨by omega,by rw [hl1];exact hch,hin'⟩,by omega⟩,λh=>absurd a1 h⟩
        | succ j=>
         have hn1:((j+1:Nat):Int)-1=(j:Int):=by omega
         have hn2:(0:Int)<((j+1:Nat):Int):=by omega
         simp only [go_sem,hlt,hx,hi,hv,hs,ho,mC,a2,a3',hn1,hn2];have hym:l.getD j mo0∈l:=by
          rw [List.getD_eq_getElem?_getD,List.getElem?_eq_getElem (by omega)];exact List.getElem_mem _
         have hyt:l.getD j mo0∈l.take (j+1):=by
          rw [List.getD_eq_getElem?_getD,List.getElem?_eq_getElem (by omega),Option.getD_some]
          exact List.mem_iff_getElem.2 ⟨j,by rw [List.length_take];omega,by simp⟩
         have hiy:=hin _ hyt;have hwy:=hw _ hym;have hlj:lastO l (j+1)=some (l.getD j mo0):=rfl;have hl1:lastO l (j+1+1)=some x:=congrArg some hx;refine⟨hwx,λ_=>⟨hwx.2.2,hrx,hwx.2.2,hrx,by omega,by omega,hwy,hwx,hiy,a1,λh=>?_,λh=>?_⟩,λh=>absurd a1 h⟩
         .have h:0<=ordK (kM (l.getD j mo0)) (kM x):=h;rw [Ya8]at h;have ec:chkT (lastO l (j+1)) x=12:=by unfold chkT;rw [if_neg (by simp [a1]),if_neg (by simp [a2]),if_neg a3,if_pos (by rw [hlj];simpa [badO] using h)]
          rw [ec,if_pos (by decide)]at hch
          rw [hch,Vd tE (by decide)]at hK
          exact hK
         .have h:¬0<=ordK (kM (l.getD j mo0)) (kM x):=h;rw [Ya8]at h;have ec:chkT (lastO l (j+1)) x=0:=by unfold chkT;rw [if_neg (by simp [a1]),if_neg (by simp [a2]),if_neg a3,if_neg (by rw [hlj];simpa [badO] using h)]
          rw [ec,if_neg (by decide)]at hch
          exact⟨by omega,j+1+1,qa (by simp [bitvec_to_nat,msA,ms]) trivial,⟨by omega,by rw [hl1];exact hch,hin'⟩,by omega⟩
     .have ec:chkT (lastO l k) x=3:=by unfold chkT;rw [if_pos a1]
      rw [ec,if_pos (by decide)]at hch
      rw [hch,Vd tE (by decide)]at hK
      simp only [go_sem,hlt,hx,hi,mC,decide_eq_false a1];exact⟨hwx,hK⟩
    .rw [List.drop_of_length_le (by omega)]at hch
     have e0:chkG (lastO l k) []=0:=rfl;rw [hch,e0,Ud]at hK;simp only [go_sem,hlt];exact hK
theorem jT(hΓ:Holds P Γ){f fk tE:Nat}(hk:Γ fk=.dat false (Vh tE))(hc:check P f=some (18,(jo fk).strip,[.tmp 2])):Sound P f (.dat false (Yf tE)):=by
 refine Qa hc (Z9 tE) hΓ (λargs K hcl hfi hG=>?_);match args,hG with
 | [a],hG=>
  obtain⟨p,q,rfl,⟨hwp,hwq⟩,hp,hq,hK⟩:=hG;refine⟨by simp,?_⟩
  simp only [go_sem,jo,ms];refine ja (λk:Nat=>⟨mkV [(6,.one (.slice [[ms p],[ms q]])),(7,.one (.lit (.int .i64 2))),(8,.one (.lit (.int .i64 k)))],mkH []⟩) (λk=>k<=2/\(0<k->chkB p=0)/\(1<k->chkB q=0)) (λk=>2-k) 0 ?_ ?_ ?_
  .exact qa (by simp [bitvec_to_nat,ms]) trivial
  .exact⟨by decide,by omega,by omega⟩
  .rintro k ⟨hk2,h1,h2⟩;have hk3:k=0∨k=1∨k=2:=by omega
   unfold chk2 at hK;rcases hk3 with rfl | rfl | rfl
   .by_cases hx:chkB p=0
    .have e0:=Ud tE;rw [<-hx]at e0;simp only [go_sem,c02,hk,ms,e0];refine⟨hwp,hp,by decide,1,qa (by simp [bitvec_to_nat,ms]) trivial,⟨by omega,by simp [hx],by omega⟩,by omega⟩
    .rw [if_pos hx]at hK;have e0:=Vd tE hx;rw [e0]at hK;simp only [go_sem,c02,hk,ms,e0];exact⟨hwp,hp,hK⟩
   .have hx:=h1 (by omega)
    rw [if_neg (by simp [hx])]at hK
    by_cases hy:chkB q=0
    .have e0:=Ud tE;rw [<-hy]at e0;simp only [go_sem,c12,QR,hk,ms,e0];refine⟨hwq,hq,by decide,2,qa (by simp [bitvec_to_nat,ms]) trivial,⟨by omega,by simp [hx],by simp [hy]⟩,by omega⟩
    .have e0:=Vd tE hy;rw [e0]at hK;simp only [go_sem,c12,QR,hk,ms,e0];exact⟨hwq,hq,hK⟩
   .have hx:=h1 (by omega)
    have hy:=h2 (by omega)
    rw [if_neg (by simp [hx]),hy,Ud]at hK
    simp only [go_sem,c22];exact hK
theorem QaN(hΓ:Holds P Γ){f:Nat}(hc:check P f=some (21,kj.strip,[.tmp 2])):Sound P f (.dat true Vl):=by
 refine Qa hc W7 hΓ (λargs K hcl hfi hG=>?_);match args,hG with
 | [a],hG=>
  obtain⟨l,rfl,hw,hin,hl,hK⟩:=hG;refine⟨by simp,?_⟩
  rcases hl0:l with _ | ⟨t,l0⟩
  .subst hl0;simp only [go_sem,kj];simpa [degM] using hK
  .have hlen:l.length=l0.length+1:=by rw [hl0];rfl
   rw [<-hl0];obtain⟨y,hy⟩:∃y,l.getD l0.length mo0=y:=⟨_,rfl⟩;have hy0:=getDm (by omega) hy
   have hym:=List.mem_of_getElem? hy0;have hd:degM l=y.1+y.2.1:=by
    unfold degM;rw [List.getLast?_eq_getElem?,hlen,Nat.add_sub_cancel,hy0]
   rw [hd]at hK;obtain⟨i1,i2,i3⟩:=hin y hym;have hn1:((l0.length+1:Nat):Int)-1=(l0.length:Int):=by omega
   have hn0:¬((l0.length+1:Nat):Int)=0:=by omega
   simp only [go_sem,kj,hlen,hn1,hn0,hy,mC];exact λ_=>⟨by omega,by omega,by omega,by omega,by omega,by omega,⟨by omega,by omega⟩,hK⟩
theorem Wak(hΓ:Holds P Γ){f fi fv fs tE m:Nat}(hm:325<=m)(hi:Γ fi=.dat true ug)(hv:Γ fv=.dat true xc)(hs:Γ fs=.dat false (Xo m))(hc:check P f=some (28,(um fi fv fs tE).strip,[.tmp 2,.tmp 3])):Sound P f (.dat false (Zt tE)):=by
 refine Qa hc (kaN tE) hΓ (λargs K hcl hfi hG=>?_);match args,hG with
 | [a],hG=>
  obtain⟨l,rfl,hw,hrl,hsz,hK⟩:=hG;refine⟨by simp,?_⟩
  by_cases h325:325<l.length
  .have e:mkC l=4:=if_pos h325;rw [e,Vd tE (by decide),QB (by decide)]at hK
   have h325' : (325:Int)<(l.length:Int):=by omega
   simp only [go_sem,um,h325'];exact λ_=>hK
  .have h325' : ¬(325:Int)<(l.length:Int):=by omega
   have e:mkC l=mkG l:=if_neg h325;rw [e]at hK;simp only [go_sem,um,h325'];intro _ _;refine ja (λk:Nat=>⟨mkV [(0,msA l),(10,msA l),(11,.one (.lit (.int .i64 l.length))),(12,.one (.lit (.int .i64 k)))],mkH []⟩) (λk=>k<=l.length/\mkG l=mkG (l.drop k)) (λk=>l.length-k) 0 ?_ ?_ ?_
   .exact qa (by simp [bitvec_to_nat,msA,ms]) trivial
   .exact⟨Nat.zero_le _,rfl⟩
   .rintro k ⟨hk,hch⟩;by_cases hlt:k<l.length
    .obtain⟨x,hx⟩:∃x,l.getD k mo0=x:=⟨_,rfl⟩;have hx0:=getDm hlt hx;have hxm:=List.mem_of_getElem? hx0;have hwx:=hw x hxm;have hrx:=hrl x hxm;rw [Zar hx0]at hch;by_cases a1:inM x
     .cases a2:vldR x.2.2 with
      | false=>
       have ec:mkT x=2:=by unfold mkT;rw [if_neg (by simp [a1]),if_pos a2]
       rw [ec,if_pos (by decide)]at hch
       rw [hch,Vd tE (by decide),QB (by decide)]at hK
       simp only [go_sem,hlt,hx,hi,hv,mC,a2];exact⟨hwx,λ_=>⟨hwx.2.2,hrx,hK⟩,λh=>absurd a1 h⟩
      | true=>
       have ec:mkT x=0:=by unfold mkT;rw [if_neg (by simp [a1]),if_neg (by simp [a2])]
       rw [ec,if_neg (by decide)]at hch
       simp only [go_sem,hlt,hx,hi,hv,mC,a2];exact⟨hwx,λ_=>⟨hwx.2.2,hrx,by omega,k+1,qa (by simp [bitvec_to_nat,msA,ms]) trivial,⟨by omega,hch⟩,by omega⟩,λh=>absurd a1 h⟩
     .have ec:mkT x=3:=by unfold mkT;rw [if_pos a1]
      rw [ec,if_pos (by decide)]at hch
      rw [hch,Vd tE (by decide),QB (by decide)]at hK
      simp only [go_sem,hlt,hx,hi,mC,decide_eq_false a1];exact⟨hwx,hK⟩
    .rw [List.drop_of_length_le (by omega)]at hch
     have e0:mkG []=0:=rfl;rw [e0]at hch;rw [hch,Ud,X4]at hK;have hin:=Xbf hch;simp only [go_sem,hlt,hs];exact⟨hw,λt ht=>⟨(hin t ht).1,hrl t ht⟩,by omega,hsz,hK⟩
end Go.Abs
end
section
namespace Go.Num
open Go.Abs
end Go.Num
namespace Go.Abs
open Go.Num
variable {P:Program} {Γ:Nat->Spec}
def onM2f(k:List Mo->List Mo->Prop)(a:AV):Prop:=∃p q,a=.one (.full [[ms p],[ms q]])/\((∀x∈p,WLM x)/\(∀x∈q,WLM x))/\k p q
@[congr] theorem jbS{k:List Mo->List Mo->Prop}{a a'}(h:a=a'):onM2f k a=onM2f k a':=by subst h;rfl
theorem wa3(k:List Mo->List Mo->Prop)(p q:List Mo):onM2f k (.one (.full [[.slice (p.map mC)],[.slice (q.map mC)]]))=(((∀x∈p,WLM x)/\(∀x∈q,WLM x))/\k p q):=by
 refine propext ⟨λ⟨x,y,h,h1,h2⟩=>?_,λh=>⟨p,q,rfl,h⟩⟩;simp only [ms,AV.one.injEq,C.full.injEq,List.cons.injEq,C.slice.injEq,and_true]at h;obtain⟨e1,e2⟩:=h;have:=vm e1;have:=vm e2
 subst_vars;exact⟨h1,h2⟩
attribute [go_sem,go_sem ↓] wa3
def ZY(l:List AV)(K:List (List C)->Prop):Prop:=
 match l with
 | [a,n]=>a=.one .emp/\asInt (λk n=>k=.i64/\0<=n/\n<=1000000/\K []) n
 | _=>False
theorem JaH:type_of% @ZY.eq_1:=q_E @ZY.eq_1
@[congr] theorem vbS{K}{l l'}(h:l=l'):ZY l K=ZY l' K:=h▸rfl
attribute [go_sem,go_sem ↓] JaH
def Y0(l:List AV)(K:List (List C)->Prop):Prop:=
 match l with
 | [a]=>onM2f (λp q=>p.length<=400000/\q.length<=400000/\K ((p++q).map mC)) a
 | _=>False
theorem Vay:type_of% @Y0.eq_1:=q_E @Y0.eq_1
@[congr] theorem qbT{K}{l l'}(h:l=l'):Y0 l K=Y0 l' K:=h▸rfl
attribute [go_sem,go_sem ↓] Vay
end Go.Abs
end
section
namespace Go.Num
open Go.Abs
def prodT(a b:Mo):Mo:=(a.1+b.1,a.2.1+b.2.1,rcan (rv a.2.2*rv b.2.2))
def prodM(p q:List Mo):List Mo:=p.flatMap λa=>q.map λb=>prodT a b
theorem yG(p q:List Mo):(prodM p q).map mv=mulL (p.map mv) (q.map mv):=by
 induction p with
 | nil=>rfl
 | cons a p ih=>
  have e:prodM (a::p) q=(q.map λb=>prodT a b)++prodM p q:=by unfold prodM;rw [List.flatMap_cons]
  rw [e,List.map_append,ih,List.map_cons,JK,List.map_map,List.map_map];congr 1;refine List.map_congr_left λb _=>?_;simp only [Function.comp,mv,prodT,mulT,zk]
theorem X5(p q:List Mo):(prodM p q).length=p.length*q.length:=by
 have:=congrArg List.length (yG p q);rw [List.length_map,Ybe,List.length_map,List.length_map]at this;exact this
theorem waL{p q:List Mo}{k:Nat}{a:Mo}(ha:p[k]?=some a):prodM (p.take (k+1)) q=prodM (p.take k) q++q.map λb=>prodT a b:=by
 unfold prodM;rw [List.take_add_one,ha,List.flatMap_append];simp
theorem Vbe{p q:List Mo}(hwp:∀t∈p,WLM t)(hwq:∀t∈q,WLM t)(hp:∀t∈p,rl t.2.2<=1000000000)(hq:∀t∈q,rl t.2.2<=1000000000)(hi:InQ (mulL (p.map mv) (q.map mv))):∀t∈prodM p q,WLM t/\inM t/\rl t.2.2<=4294967296:=by
 intro t ht;have h1:inM t:=hi (mv t) (by rw [<-yG];exact List.mem_map.2 ⟨t,ht,rfl⟩)
 obtain⟨a,ha,hb⟩:=List.mem_flatMap.1 ht;obtain⟨b,hb',rfl⟩:=List.mem_map.1 hb;obtain⟨x1,x2,x3⟩:=h1;refine⟨⟨?_,?_,Ww _⟩,⟨x1,x2,x3⟩,?_⟩
 .unfold i64r;omega
 .unfold i64r;omega
 .have h2:=kk (rv a.2.2) (rv b.2.2);have h3:=vt (hwp a ha).2.2;have h4:=vt (hwq b hb').2.2;have h5:=hp a ha;have h6:=hq b hb';have h7:rl (prodT a b).2.2=rz (rv a.2.2*rv b.2.2):=rfl;omega
theorem ZJ{p:BQ}(hp:Canon p):∀t∈p,t.1+t.2.1<=degB p:=by
 intro t ht;unfold degB;cases hl:p.getLast? with
 | none=>rw [List.getLast?_eq_none_iff]at hl;subst hl;simp at ht
 | some u=>
  simp only;obtain⟨ys,hys⟩:=List.getLast?_eq_some_iff.1 hl;rw [hys]at ht hp;obtain⟨_,_,h3⟩:=List.pairwise_append.1 hp.str;rcases List.mem_append.1 ht with ht | ht
  .have:=h3 t ht u (by simp)
   rw [kb4 (hp.ins t (by simp [ht])) (hp.ins u (by simp))]at this
   omega
  .rw [List.mem_singleton.1 ht];exact Int.le_refl _
theorem QD{p:BQ}(hp:Canon p):-1<=degB p/\degB p<=24:=by
 unfold degB;cases hl:p.getLast? with
 | none=>simp
 | some u=>
  simp only;obtain⟨a,b,c⟩:=hp.ins u (List.mem_of_getLast? hl);omega
theorem jI{p:BQ}(hp:Canon p)(h:p≠[]):0<=degB p:=by
 unfold degB;cases hl:p.getLast? with
 | none=>rw [List.getLast?_eq_none_iff]at hl;exact absurd hl h
 | some u=>
  simp only;obtain⟨a,b,c⟩:=hp.ins u (List.mem_of_getLast? hl);omega
theorem xA{p:BQ}(hp:Canon p):Deg (degB p).toNat p:=λt ht=>by
 have h1:=ZJ hp t ht;have h2:=jI hp (λh=>by subst h;simp at ht)
 omega
theorem zbt:∀a<25,∀b<25,a+b<=24->tri (a+1)*tri (b+1)<=8281:=by decide
def mulC(p q:List Mo):Nat:=if chk2 p q≠0 then chk2 p q else if p≠[]/\q≠[]/\24<degM p+degM q then 4 else 0
theorem jbY{p q:List Mo}(hwp:∀t∈p,WLM t)(hwq:∀t∈q,WLM t)(h0:chk2 p q=0)(h1:¬(p≠[]/\q≠[]/\24<degM p+degM q)) :
  InQ (mulL (p.map mv) (q.map mv))/\p.length*q.length<=8281:=by
 obtain⟨c1,c2⟩:=Z4 h0;obtain⟨k1,e1⟩:=Vo c1 hwp;obtain⟨k2,e2⟩:=Vo c2 hwq;by_cases hp:p=[]
 .subst hp;exact⟨λt ht=>by simp [QaJ]at ht,by simp⟩
 by_cases hq:q=[]
 .subst hq;refine⟨?_,by simp⟩
  have:mulL (p.map mv) ([].map mv)=[]:=by unfold mulL;simp
  rw [this];exact λt ht=>by simp at ht
 have d1:degM p=degB (p.map mv):=by rw [<-Vg,e1]
 have d2:degM q=degB (q.map mv):=by rw [<-Vg,e2]
 have n1:=jI k1 (by simpa using hp)
 have n2:=jI k2 (by simpa using hq)
 have hd:degB (p.map mv)+degB (q.map mv)<=24:=by
  rw [<-d1,<-d2];exact Int.not_lt.1 λh=>h1 ⟨hp,hq,h⟩
 have D1:=xA k1;have D2:=xA k2;refine⟨qaP k1.ins k2.ins D1 D2 (by omega),?_⟩
 have l1:=vA k1 D1;have l2:=vA k2 D2;rw [List.length_map]at l1 l2;exact Nat.le_trans (Nat.mul_le_mul l1 l2) (zbt _ (by omega) _ (by omega) (by omega))
end Go.Num
namespace Go.Abs
open Go.Num
variable {P:Program} {Γ:Nat->Spec}
def xz(tE:Nat)(l:List AV)(K:AV->Prop):Prop:=
 match l with
 | [a,b]=>onMs (λp=>onMs (λq=>(∀t∈p,rl t.2.2<=1000000000)/\(∀t∈q,rl t.2.2<=1000000000)/\sz (p.map mv)+sz (q.map mv)<=3000000/\K (.tup [.one (.slice ((bres (mulC p q) (mulB (p.map mv) (q.map mv))).map mC)),errV tE (mulC p q)])) b) a
 | _=>False
theorem Ua5:type_of% @xz.eq_1:=q_E @xz.eq_1
@[congr] theorem ubZ tE{K}{l l'}(h:l=l'):xz tE l K=xz tE l' K:=by subst h;rfl
attribute [go_sem,go_sem ↓] Ua5
theorem Ya9(tE:Nat):Good (xz tE):=Ja λas=>by
 unfold xz;split
 .exact(we λ_=>(we λ_=>(.and λ_=>(.and λ_=>(.and λ_=>(.ret _))))))
 .exact .of λK hk=>hk.elim
def xk(f0 f1 f2 f3 tE:Nat):AC:=(.o [.m 4 (.c (.one .emp)),.m 5 (.c (.one (.lit .nilIface)))] [0,1] (.f (.o [.M 12 0,.M 13 1,.u 14 (.row 1 [[.x 1 (.t 12)],[.x 1 (.t 13)]]),.H 15 f0 14,.M 6 15] [0,1,6] (.o [.M 16 6,.R 17 16] [0,1,6,17] (.cond (.t 17) (.seq (.p [.M 18 6,.m 4 (.c (.one .emp)),.M 5 18]) .ret) .skip))) [0,1] (.f (.o [.M 19 0,.Z 20 19,.I 21 .gtr 20 0,.M 22 21,.V 23 22 true 1,.w 24 22 true (.len (.t 23)),.w 25 22 true (.bin .gtr (.t 24) (.i 0)),.P 26 22 25,.M 27 26,.V 28 27 true 0,.W 29 27 true f1 28,.V 30 27 true 1,.W 31 27 true f1 30,.w 32 27 true (.bin .add (.t 29) (.t 31)),.w 33 27 true (.bin .gtr (.t 32) (.i 24)),.P 34 27 33] [0,1,34] (.cond (.t 34) (.seq (.p [.u 35 (.iface tE (.i 4)),.m 4 (.c (.one .emp)),.M 5 35]) .ret) .skip)) [0,1] (.o [.m 7 (.c (.one .emp))] [0,1,7] (.f (.o [.M 36 0,.Z 37 36,.N 38 0] [1,7,36,37,38] (.block 0 (.loop (.o [.B 39 .lss 38 37] [1,7,36,37,38,39] (.f (.cond (.t 39) .skip (.exit 0)) [1,7,36,37,38] (.f (.block 1 (.o [.J 40 5 36 38,.L 41 5 40,.G 9 [(.lit (.int .i64 0)),(.lit (.int .i64 0)),.z,.emp,.emp],.S 5 9 41] [1,7,9,36,37,38] (.o [.M 42 1,.Z 43 42,.N 44 0] [1,7,9,36,37,38,42,43,44] (.block 2 (.loop (.o [.B 45 .lss 44 43] [1,7,9,36,37,38,42,43,44,45] (.f (.cond (.t 45) .skip (.exit 2)) [1,7,9,36,37,38,42,43,44] (.f (.block 3 (.o [.J 46 5 42 44,.L 47 5 46,.G 11 [(.lit (.int .i64 0)),(.lit (.int .i64 0)),.z,.emp,.emp],.S 5 11 47] [1,7,9,11,36,37,38,42,43,44] (.y [.M 48 7,.A 49 0 9,.F 50 1 49,.A 51 0 11,.F 52 1 51,.B 53 .add 50 52,.A 54 1 9,.F 55 1 54,.A 56 1 11,.F 57 1 56,.B 58 .add 55 57,.A 59 2 9,.L 60 3 59,.A 61 2 11,.L 62 3 61,.D 63 f2 60 62,.u 64 (.build [.x 1 (.t 53),.x 1 (.t 58),.x 3 (.t 63)]),.u 65 (.row 5 [[.x 5 (.t 64)]]),.u 66 (.app 5 (.t 48) (.t 65)),.M 7 66]))) [1,7,9,36,37,38,42,43,44] (.p [.I 67 .add 44 1,.M 44 67]))))))))) [1,7,36,37,38] (.p [.I 68 .add 38 1,.M 38 68]))))))) [7] (.seq (.p [.M 69 7,.H 70 f3 69,.M 4 70,.m 5 (.c (.one (.lit .nilIface)))]) .ret))))))
theorem XaN(hΓ:Holds P Γ){f fk fd fm fs tE m:Nat}(hm:10000<=m)(hk:Γ fk=.dat false (Yf tE))(hd:Γ fd=.dat true Vl)(hmu:Γ fm=.dat false Wl)(hs:Γ fs=.dat false (Xo m))(hc:check P f=some (71,(xk fk fd fm fs tE).strip,[.tmp 4,.tmp 5])):Sound P f (.dat false (xz tE)):=by
 refine Qa hc (Ya9 tE) hΓ (λargs K hcl hfi hG=>?_);match args,hG with
 | [a,b],hG=>
  obtain⟨p,rfl,hwp,q,rfl,hwq,hp,hq,hsz,hK⟩:=hG;refine⟨by simp,?_⟩
  have hp' : ∀t∈p,rl t.2.2<=4294967296:=λt ht=>Nat.le_trans (hp t ht) (by decide)
  have hq' : ∀t∈q,rl t.2.2<=4294967296:=λt ht=>Nat.le_trans (hq t ht) (by decide)
  by_cases h0:chk2 p q=0
  rotate_left
  .have e0:=Vd tE h0;have e1:mulC p q=chk2 p q:=if_pos h0;rw [e1,QB h0,e0]at hK;simp only [go_sem,xk,hk,hs,e0];exact⟨⟨hwp,hwq⟩,hp',hq',hK⟩
  have e0:=Ud tE;rw [<-h0]at e0;obtain⟨c1,c2⟩:=Z4 h0;obtain⟨i1,j1,l1⟩:=Qm c1 hwp;obtain⟨i2,j2,l2⟩:=Qm c2 hwq;by_cases h1:p≠[]/\q≠[]/\24<degM p+degM q
  .have e1:mulC p q=4:=by unfold mulC;rw [if_neg (by simp [h0]),if_pos h1]
   rw [e1,QB (by decide),Vd tE (by decide)]at hK
   obtain⟨g1,g2,g3⟩:=h1;have n1:(0:Int)<(p.length:Int):=by have:=List.length_pos_iff.2 g1;omega
   have n2:(0:Int)<(q.length:Int):=by have:=List.length_pos_iff.2 g2;omega
   obtain⟨k1,e1⟩:=Vo c1 hwp;obtain⟨k2,e2⟩:=Vo c2 hwq;have d1:degM p=degB (p.map mv):=by rw [<-Vg,e1]
   have d2:degM q=degB (q.map mv):=by rw [<-Vg,e2]
   have b1:=QD k1;have b2:=QD k2;simp only [go_sem,xk,hk,hd,hs,e0,n1,n2,g3];exact⟨⟨hwp,hwq⟩,hp',hq',λ_ _=>⟨hwp,i1,by omega,hwq,i2,by omega,⟨by omega,by omega⟩,hK⟩⟩
  .have e1:mulC p q=0:=by unfold mulC;rw [if_neg (by simp [h0]),if_neg h1]
   rw [e1,X4,Ud]at hK;obtain⟨hin,hl⟩:=jbY hwp hwq h0 h1;obtain⟨k1,q1⟩:=Vo c1 hwp;obtain⟨k2,q2⟩:=Vo c2 hwq;have d1:degM p=degB (p.map mv):=by rw [<-Vg,q1]
   have d2:degM q=degB (q.map mv):=by rw [<-Vg,q2]
   have b1:=QD k1;have b2:=QD k2;simp only [go_sem,xk,hk,hd,hs,e0];refine⟨⟨hwp,hwq⟩,hp',hq',λ_=>⟨λn1 _=>⟨λn2=>⟨hwp,i1,by omega,hwq,i2,by omega,⟨by omega,by omega⟩,λh=>?_,λ_ _=>?_⟩,λ_ _=>?_⟩,λ_ _=>?_⟩⟩
   .exact absurd ⟨List.length_pos_iff.1 (by omega),List.length_pos_iff.1 (by omega),h⟩ h1
   all_goals
    have hmb:mulB (p.map mv) (q.map mv)=nf ((prodM p q).map mv):=by unfold mulB;rw [yG]
    have hpo:=Vbe hwp hwq hp hq hin;have hpl:(prodM p q).length<=m:=by rw [X5];omega
    have hps:sz ((prodM p q).map mv)<=1000000000:=by
     rw [yG];have h1:=YaU (p.map mv) (q.map mv);rw [List.length_map,List.length_map]at h1;have h2:=Nat.mul_le_mul l2 (Nat.le_refl (sz (p.map mv)));have h3:=Nat.mul_le_mul l1 (Nat.le_refl (sz (q.map mv)));omega
    rw [hmb]at hK;refine ja (λk:Nat=>if prodM (p.take k) q=[] then ⟨mkV [(1,msA q),(7,.one .emp),(36,msA p),(37,.one (.lit (.int .i64 p.length))),(38,.one (.lit (.int .i64 k)))],mkH []⟩
      else ⟨mkV [(1,msA q),(7,.one (.own 66 1 5 0 (prodM (p.take k) q).length)),(36,msA p),(37,.one (.lit (.int .i64 p.length))),(38,.one (.lit (.int .i64 k)))],mkH [(66,⟨1,some ⟨(prodM (p.take k) q).map mC,5,true⟩⟩)]⟩) (λk=>k<=p.length) (λk=>p.length-k) 0 ?_ ?_ ?_
    .have e00:prodM (p.take 0) q=[]:=rfl;rw [if_pos e00];exact qa (by simp [bitvec_to_nat,msA,ms]) trivial
    .exact Nat.zero_le _
    .intro k hk2;by_cases hlt:k<p.length
     .obtain⟨x,hx⟩:∃x,p.getD k mo0=x:=⟨_,rfl⟩;have hx0:=getDm hlt hx;have hxm:=List.mem_of_getElem? hx0;have hpt:=waL (q:=q) hx0;obtain⟨x1,x2,x3⟩:=i1 x hxm;have hwx:=(hwp x hxm).2.2;have hrx:=hp x hxm;obtain⟨A,hA⟩:∃A,prodM (p.take k) q=A:=⟨_,rfl⟩;rw [hA]at hpt;have hAl:A.length<=400000:=by
       rw [<-hA,X5,List.length_take];have:=Nat.mul_le_mul (show min k p.length<=325 by omega) l2
       omega
      by_cases hA0:A=[]
      .have hA':=hA;rw [hA0]at hA';simp only [go_sem,hlt,hx,hA',mC];intro _;refine ja (λj:Nat=>if A++(q.take j).map (λb=>prodT x b)=[] then ⟨mkV [(1,msA q),(7,.one .emp),(9,.one (.ptr 9 1 0 0)),(36,msA p),(37,.one (.lit (.int .i64 p.length))),(38,.one (.lit (.int .i64 k))),(42,msA q),(43,.one (.lit (.int .i64 q.length))),(44,.one (.lit (.int .i64 j)))],mkH [(9,⟨1,some ⟨[mC x],5,true⟩⟩)]⟩
         else ⟨mkV [(1,msA q),(7,.one (.own 66 1 5 0 (A++(q.take j).map (λb=>prodT x b)).length)),(9,.one (.ptr 9 1 0 0)),(36,msA p),(37,.one (.lit (.int .i64 p.length))),(38,.one (.lit (.int .i64 k))),(42,msA q),(43,.one (.lit (.int .i64 q.length))),(44,.one (.lit (.int .i64 j)))],mkH [(9,⟨1,some ⟨[mC x],5,true⟩⟩),(66,⟨1,some ⟨(A++(q.take j).map (λb=>prodT x b)).map mC,5,true⟩⟩)]⟩) (λj=>j<=q.length) (λj=>q.length-j) 0 ?_ ?_ ?_
       .have e0:A++(q.take 0).map (λb=>prodT x b)=A:=by simp
        rw [e0]
        first
         | (rw [if_pos hA0];exact qa (by simp [bitvec_to_nat,msA,ms]) ⟨Jd (l':=[x]) rfl,trivial⟩)
         | (rw [if_neg hA0];exact qa (by simp [bitvec_to_nat,msA,ms]) ⟨Jd (l':=[x]) rfl,Jd rfl,trivial⟩)
       .exact Nat.zero_le _
       .intro j hj2;by_cases hlj:j<q.length
        .obtain⟨y,hy⟩:∃y,q.getD j mo0=y:=⟨_,rfl⟩;have hy0:=getDm hlj hy;have hym:=List.mem_of_getElem? hy0;obtain⟨y1,y2,y3⟩:=i2 y hym;have hwy:=(hwq y hym).2.2;have hry:=hq y hym;have hqt:A++(q.take (j+1)).map (λb=>prodT x b)=A++(q.take j).map (λb=>prodT x b)++[prodT x y]:=by rw [List.take_add_one,hy0];simp
         obtain⟨B,hB⟩:∃B,A++(q.take j).map (λb=>prodT x b)=B:=⟨_,rfl⟩;rw [hB]at hqt;have hBl:B.length<=500000:=by
          rw [<-hB,List.length_append,List.length_map,List.length_take];omega
         by_cases hB0:B=[]
         .rw [hB0]at hB;simp only [go_sem,hlj,hy,hB,hmu,mC];refine⟨⟨by omega,by omega⟩,⟨by omega,by omega⟩,hwx,hwy,by omega,by omega,λe he=>by rw [List.mem_singleton.1 he];rfl,?_⟩
          repeat first | refine q_Wk ?_ | intro _
          refine⟨j+1,?_,by omega,by omega⟩
          rw [hqt,if_neg (by simp)]
          exact qa (by simp [bitvec_to_nat,msA,ms,hB0]) ⟨Jd (l':=[x]) rfl,Jd (by rw [hB0];simp [mC,prodT]),trivial⟩
         .simp only [go_sem,hlj,hy,hB,hB0,hmu,mC];refine⟨⟨by omega,by omega⟩,⟨by omega,by omega⟩,hwx,hwy,by omega,by omega,λe he=>by rw [List.mem_singleton.1 he];rfl,?_⟩
          repeat first | refine q_Wk ?_ | intro _
          refine⟨j+1,?_,by omega,by omega⟩
          rw [hqt,if_neg (by simp)]
          exact qa (by simp [bitvec_to_nat,msA,ms]) ⟨Jd (l':=[x]) rfl,Jd (by simp [mC,prodT]),trivial⟩
        .have ej:A++(q.take j).map (λb=>prodT x b)=prodM (p.take (k+1)) q:=by rw [hpt,List.take_of_length_le (by omega)]
         obtain⟨B,hB⟩:∃B,prodM (p.take (k+1)) q=B:=⟨_,rfl⟩;rw [hB]at ej;by_cases hB0:B=[]
         .rw [hB0]at ej;simp only [go_sem,hlj,ej,mC];repeat first | refine q_Wk ?_ | intro _
          refine⟨k+1,?_,by omega,by omega⟩
          rw [hB,if_pos hB0];exact qa (by simp [bitvec_to_nat,msA,ms]) trivial
         .simp only [go_sem,hlj,ej,hB0,mC];repeat first | refine q_Wk ?_ | intro _
          refine⟨k+1,?_,by omega,by omega⟩
          rw [hB,if_neg hB0];exact qa (by simp [bitvec_to_nat,msA,ms]) ⟨Jd rfl,trivial⟩
      .simp only [go_sem,hlt,hx,hA,hA0,mC];intro _;refine ja (λj:Nat=>if A++(q.take j).map (λb=>prodT x b)=[] then ⟨mkV [(1,msA q),(7,.one .emp),(9,.one (.ptr 9 1 0 0)),(36,msA p),(37,.one (.lit (.int .i64 p.length))),(38,.one (.lit (.int .i64 k))),(42,msA q),(43,.one (.lit (.int .i64 q.length))),(44,.one (.lit (.int .i64 j)))],mkH [(9,⟨1,some ⟨[mC x],5,true⟩⟩)]⟩
         else ⟨mkV [(1,msA q),(7,.one (.own 66 1 5 0 (A++(q.take j).map (λb=>prodT x b)).length)),(9,.one (.ptr 9 1 0 0)),(36,msA p),(37,.one (.lit (.int .i64 p.length))),(38,.one (.lit (.int .i64 k))),(42,msA q),(43,.one (.lit (.int .i64 q.length))),(44,.one (.lit (.int .i64 j)))],mkH [(9,⟨1,some ⟨[mC x],5,true⟩⟩),(66,⟨1,some ⟨(A++(q.take j).map (λb=>prodT x b)).map mC,5,true⟩⟩)]⟩) (λj=>j<=q.length) (λj=>q.length-j) 0 ?_ ?_ ?_
       .have e0:A++(q.take 0).map (λb=>prodT x b)=A:=by simp
        rw [e0]
        first
         | (rw [if_pos hA0];exact qa (by simp [bitvec_to_nat,msA,ms]) ⟨Jd (l':=[x]) rfl,trivial⟩)
         | (rw [if_neg hA0];exact qa (by simp [bitvec_to_nat,msA,ms]) ⟨Jd (l':=[x]) rfl,Jd rfl,trivial⟩)
       .exact Nat.zero_le _
       .intro j hj2;by_cases hlj:j<q.length
        .obtain⟨y,hy⟩:∃y,q.getD j mo0=y:=⟨_,rfl⟩;have hy0:=getDm hlj hy;have hym:=List.mem_of_getElem? hy0;obtain⟨y1,y2,y3⟩:=i2 y hym;have hwy:=(hwq y hym).2.2;have hry:=hq y hym;have hqt:A++(q.take (j+1)).map (λb=>prodT x b)=A++(q.take j).map (λb=>prodT x b)++[prodT x y]:=by rw [List.take_add_one,hy0];simp
         obtain⟨B,hB⟩:∃B,A++(q.take j).map (λb=>prodT x b)=B:=⟨_,rfl⟩;rw [hB]at hqt;have hBl:B.length<=500000:=by
          rw [<-hB,List.length_append,List.length_map,List.length_take];omega
         by_cases hB0:B=[]
         .rw [hB0]at hB;simp only [go_sem,hlj,hy,hB,hmu,mC];refine⟨⟨by omega,by omega⟩,⟨by omega,by omega⟩,hwx,hwy,by omega,by omega,λe he=>by rw [List.mem_singleton.1 he];rfl,?_⟩
          repeat first | refine q_Wk ?_ | intro _
          refine⟨j+1,?_,by omega,by omega⟩
          rw [hqt,if_neg (by simp)]
          exact qa (by simp [bitvec_to_nat,msA,ms,hB0]) ⟨Jd (l':=[x]) rfl,Jd (by rw [hB0];simp [mC,prodT]),trivial⟩
         .simp only [go_sem,hlj,hy,hB,hB0,hmu,mC];refine⟨⟨by omega,by omega⟩,⟨by omega,by omega⟩,hwx,hwy,by omega,by omega,λe he=>by rw [List.mem_singleton.1 he];rfl,?_⟩
          repeat first | refine q_Wk ?_ | intro _
          refine⟨j+1,?_,by omega,by omega⟩
          rw [hqt,if_neg (by simp)]
          exact qa (by simp [bitvec_to_nat,msA,ms]) ⟨Jd (l':=[x]) rfl,Jd (by simp [mC,prodT]),trivial⟩
        .have ej:A++(q.take j).map (λb=>prodT x b)=prodM (p.take (k+1)) q:=by rw [hpt,List.take_of_length_le (by omega)]
         obtain⟨B,hB⟩:∃B,prodM (p.take (k+1)) q=B:=⟨_,rfl⟩;rw [hB]at ej;by_cases hB0:B=[]
         .rw [hB0]at ej;simp only [go_sem,hlj,ej,mC];repeat first | refine q_Wk ?_ | intro _
          refine⟨k+1,?_,by omega,by omega⟩
          rw [hB,if_pos hB0];exact qa (by simp [bitvec_to_nat,msA,ms]) trivial
         .simp only [go_sem,hlj,ej,hB0,mC];repeat first | refine q_Wk ?_ | intro _
          refine⟨k+1,?_,by omega,by omega⟩
          rw [hB,if_neg hB0];exact qa (by simp [bitvec_to_nat,msA,ms]) ⟨Jd rfl,trivial⟩
     .have ek:p.take k=p:=List.take_of_length_le (by omega)
      by_cases hA0:prodM p q=[]
      .rw [hA0]at hK;simp only [go_sem,hlt,ek,hA0,hs];exact⟨by simp,by omega,by simp [sz],hK⟩
      .simp only [go_sem,hlt,ek,hA0,hs];exact⟨λt ht=>(hpo t ht).1,λt ht=>(hpo t ht).2,hpl,hps,hK⟩
end Go.Abs
end
section
namespace Go.Num
open Go.Abs
theorem zbY{l:BQ}(h:InQ l)(x y:Rat):rz (ev l x y)<=sz l+l.length*(24*(rz x+2)+24*(rz y+2)+8):=by
 induction l with
 | nil=>have:=rz_0;simp only [ev,sz];omega
 | cons t l ih=>
  obtain⟨⟨a,b,c⟩,h2⟩:=ue.1 h;have ih:=ih h2;have h3:=ybF x t.1.toNat;have h4:=ybF y t.2.1.toNat;have h5:=kk (pw x t.1.toNat) (pw y t.2.1.toNat);have h6:=kk t.2.2 (pw x t.1.toNat*pw y t.2.1.toNat);have h7:=uJ (mev t x y) (ev l x y);have h8:t.1.toNat*(rz x+2)<=24*(rz x+2):=Nat.mul_le_mul_right _ (by omega)
  have h9:t.2.1.toNat*(rz y+2)<=24*(rz y+2):=Nat.mul_le_mul_right _ (by omega)
  have h10:mev t x y=t.2.2*(pw x t.1.toNat*pw y t.2.1.toNat):=rfl;rw [h10]at h7;simp only [ev,mev,sz,List.length_cons,Nat.add_mul,Nat.one_mul]at *
  omega
theorem rone1:((1:Int):Rat)=1:=by simp
end Go.Num
namespace Go.Abs
open Go.Num
variable {P:Program} {Γ:Nat->Spec}
theorem rQ_0:rQ 0=.agg [.lit (.bool false),.slice [],.slice []]:=by unfold rQ;rw [Jf];rfl
theorem kD{h h' : Nat->HB}{z:Nat}{b:Bool}:okB h h' (some ⟨[[.lit (.bool false),.emp,.emp]],z,b⟩) (some ⟨[[.lit (.bool false),.emp,.emp]],z,b⟩):=
 ⟨⟨rfl,rfl⟩,.inl ⟨rfl,λe he c hc=>by
  rw [List.mem_singleton]at he;subst he;simp only [List.mem_cons,List.not_mem_nil,or_false]at hc;rcases hc with rfl | rfl | rfl
  .exact .lit _
  .exact .emp
  .exact .emp⟩⟩
def wau(tE:Nat)(l:List AV)(K:AV->Prop):Prop:=
 match l with
 | [a,n]=>onR (λx=>asInt (λk n=>k=.i64/\0<=n/\n<=64/\rl x<=10000000/\K (.tup [rQ (pw (rv x) n.toNat),errV tE 0])) n) a
 | _=>False
theorem xa7:type_of% @wau.eq_1:=q_E @wau.eq_1
@[congr] theorem QbZ tE{K}{l l'}(h:l=l'):wau tE l K=wau tE l' K:=by subst h;rfl
attribute [go_sem,go_sem ↓] xa7
def yW(tE:Nat)(l:List AV)(K:AV->Prop):Prop:=
 match l with
 | [a,b,c]=>onMs (λp=>onR (λx=>onR (λy=>(∀t∈p,rl t.2.2<=1000000000)/\rl x<=10000/\rl y<=10000/\sz (p.map mv)<=100000000/\K (.tup [rQ (if chkB p=0 then ev (p.map mv) (rv x) (rv y) else 0),errV tE (chkB p)])) c) b) a
 | _=>False
theorem qau:type_of% @yW.eq_1:=q_E @yW.eq_1
@[congr] theorem UbR tE{K}{l l'}(h:l=l'):yW tE l K=yW tE l' K:=by subst h;rfl
attribute [go_sem,go_sem ↓] qau
end Go.Abs
end
section
namespace Go.Num
abbrev CpR:=V2×V2×Rat×Rat×Rat×Rat×Rat
structure CB (c:CpR):Prop where
 o1:rz c.1.1<=4000
 o2:rz c.1.2<=4000
 q1:rz c.2.1.1<=4000
 q2:rz c.2.1.2<=4000
 a2:rz c.2.2.1<=4000
 b2:rz c.2.2.2.1<=4000
 c2:rz c.2.2.2.2.1<=4000
 u:rz c.2.2.2.2.2.1<=4000
 v:rz c.2.2.2.2.2.2<=4000
def lxB(o:V2):BQ×BQ:=(linB false o.1,linB true o.2)
def timB(v:BQ×BQ)(u w:Rat):BQ×BQ:=(subB (sclB u v.1) (sclB w v.2),addB (sclB u v.2) (sclB w v.1))
def nrmB(v:BQ×BQ):BQ:=addB (mulB v.1 v.1) (mulB v.2 v.2)
def cRe(c:CpR):Rat:=1-c.2.2.2.2.2.1
def cAl(c:CpR):BQ×BQ:=timB (lxB c.1) c.2.2.2.2.2.1 (-c.2.2.2.2.2.2)
def cBe(c:CpR):BQ×BQ:=timB (lxB c.2.1) (cRe c) c.2.2.2.2.2.2
def cFi(c:CpR):Rat:=sqQ (c.2.2.2.2.2.1,c.2.2.2.2.2.2)*c.2.2.2.1-c.2.2.1
def cSe(c:CpR):Rat:=c.2.2.2.2.1-sqQ (cRe c,c.2.2.2.2.2.2)*c.2.2.2.1
def cE(c:CpR):BQ:=addB (nrmB (lxB c.1)) (conB (cFi c))
def cF(c:CpR):BQ:=subB (conB (cSe c)) (nrmB (lxB c.2.1))
def cM(c:CpR):BQ:=subB (mulB (cAl c).1 (cBe c).2) (mulB (cAl c).2 (cBe c).1)
def cX(c:CpR):BQ:=subB (mulB (cE c) (cBe c).2) (mulB (cF c) (cAl c).2)
def cY(c:CpR):BQ:=subB (mulB (cF c) (cAl c).1) (mulB (cE c) (cBe c).1)
def cMM(c:CpR):BQ:=mulB (cM c) (cM c)
def cLa(c:CpR):BQ:=sclB (4*c.2.2.2.1) (cMM c)
def cNo(c:CpR):BQ:=nrmB (cX c,cY c)
def cCur(c:CpR):BQ:=subB (cNo c) (cLa c)
theorem PB.nrm{v:BQ×BQ}{d s:Nat}(h1:PB d s v.1)(h2:PB d s v.2)(hd:d+d<=24):PB (d+d) (4*(tri (d+1)*s)) (nrmB v):=
 ((h1.mul h1 hd).add (h2.mul h2 hd)).mono (Nat.le_refl _) (by omega)
def timQ(a:V2)(u w:Rat):V2:=(a.1*u-a.2*w,a.2*u+a.1*w)
def wAl(c:CpR)(p:V2):V2:=timQ (subQ p c.1) c.2.2.2.2.2.1 (-c.2.2.2.2.2.2)
def wBe(c:CpR)(p:V2):V2:=timQ (subQ p c.2.1) (cRe c) c.2.2.2.2.2.2
def wE(c:CpR)(p:V2):Rat:=sqQ (subQ p c.1)+cFi c
def wF(c:CpR)(p:V2):Rat:=cSe c-sqQ (subQ p c.2.1)
def wM(c:CpR)(p:V2):Rat:=(wAl c p).1*(wBe c p).2-(wAl c p).2*(wBe c p).1
def wN(c:CpR)(p:V2):V2:=(wE c p*(wBe c p).2-wF c p*(wAl c p).2,wF c p*(wAl c p).1-wE c p*(wBe c p).1)
def wV(c:CpR)(p:V2):Rat:=sqQ (wN c p)-4*c.2.2.2.1*(wM c p*wM c p)
end Go.Num
end
section
namespace Go.Abs
open Go.Num
variable {P:Program} {Γ:Nat->Spec}
def pQ(x:V2):AV:=.agg [cb (rcan x.1),cn (rcan x.1),cd (rcan x.1),cb (rcan x.2),cn (rcan x.2),cd (rcan x.2)]
theorem zbE(x:V2):pQ x=.agg [cb (rcan x.1),cn (rcan x.1),cd (rcan x.1),cb (rcan x.2),cn (rcan x.2),cd (rcan x.2)]:=eq_of_heq (HEq.refl _)
def tQ(t:TnQ):AV:=.agg [cb (rcan t.1),cn (rcan t.1),cd (rcan t.1),.lit (.bool t.2)]
theorem vbM(t:TnQ):tQ t=.agg [cb (rcan t.1),cn (rcan t.1),cd (rcan t.1),.lit (.bool t.2)]:=eq_of_heq (HEq.refl _)
theorem zbo(a b:Rat):WLA (rcan a,rcan b)=True:=eq_true ⟨Ww _,Ww _⟩
attribute [go_sem,go_sem ↓] zbE vbM zbo
def jF(l:List AV)(K:AV->Prop):Prop:=
 match l with
 | [a]=>onA (λp=>al p<=100000000/\K (.one (.lit (.bool (avld p))))) a
 | _=>False
theorem Qai:type_of% @jF.eq_1:=q_E @jF.eq_1
@[congr] theorem kbO{K}{l l'}(h:l=l'):jF l K=jF l' K:=h▸rfl
attribute [go_sem,go_sem ↓] Qai
def YX(l:List AV)(K:AV->Prop):Prop:=
 match l with
 | [a,b]=>onA (λp=>onA (λq=>al p<=100000000/\al q<=100000000/\K (pQ (subQ (av p) (av q)))) b) a
 | _=>False
theorem qav:type_of% @YX.eq_1:=q_E @YX.eq_1
@[congr] theorem wbQ{K}{l l'}(h:l=l'):YX l K=YX l' K:=h▸rfl
attribute [go_sem,go_sem ↓] qav
def jY(l:List AV)(K:AV->Prop):Prop:=
 match l with
 | [a,b]=>onA (λp=>onA (λq=>al p<=100000000/\al q<=100000000/\K (pQ (addQ (av p) (av q)))) b) a
 | _=>False
theorem qaB:type_of% @jY.eq_1:=q_E @jY.eq_1
@[congr] theorem ybP{K}{l l'}(h:l=l'):jY l K=jY l' K:=h▸rfl
attribute [go_sem,go_sem ↓] qaB
def zF(l:List AV)(K:AV->Prop):Prop:=
 match l with
 | [a,b]=>onA (λp=>onA (λq=>al p<=100000000/\al q<=100000000/\K (rQ (crossQ (av p) (av q)))) b) a
 | _=>False
theorem W3:type_of% @zF.eq_1:=q_E @zF.eq_1
@[congr] theorem kbC{K}{l l'}(h:l=l'):zF l K=zF l' K:=h▸rfl
attribute [go_sem,go_sem ↓] W3
def wbe(l:List AV)(K:AV->Prop):Prop:=
 match l with
 | [a]=>onA (λp=>al p<=100000000/\K (rQ (sqQ (av p)))) a
 | _=>False
theorem Qbk:type_of% @wbe.eq_1:=q_E @wbe.eq_1
@[congr] theorem kb5{K}{l l'}(h:l=l'):wbe l K=wbe l' K:=h▸rfl
attribute [go_sem,go_sem ↓] Qbk
def xU(l:List AV)(K:AV->Prop):Prop:=
 match l with
 | [a,b]=>onA (λp=>onA (λq=>al p<=100000000/\al q<=100000000/\K (.one (.lit (.bool (decide (av p=av q)))))) b) a
 | _=>False
theorem UaC:type_of% @xU.eq_1:=q_E @xU.eq_1
@[congr] theorem UbP{K}{l l'}(h:l=l'):xU l K=xU l' K:=h▸rfl
attribute [go_sem,go_sem ↓] UaC
def qaJ(l:List AV)(K:AV->Prop):Prop:=
 match l with
 | [a]=>onA (λp=>al p<=100000000/\K (pQ (negQ (av p)))) a
 | _=>False
theorem ka3:type_of% @qaJ.eq_1:=q_E @qaJ.eq_1
@[congr] theorem ubU{K}{l l'}(h:l=l'):qaJ l K=qaJ l' K:=h▸rfl
attribute [go_sem,go_sem ↓] ka3
def QH(l:List AV)(K:AV->Prop):Prop:=
 match l with
 | [a]=>onA (λp=>al p<=100000000/\K (pQ (av p))) a
 | _=>False
theorem X7:type_of% @QH.eq_1:=q_E @QH.eq_1
@[congr] theorem vbI{K}{l l'}(h:l=l'):QH l K=QH l' K:=h▸rfl
attribute [go_sem,go_sem ↓] X7
def J0(l:List AV)(K:AV->Prop):Prop:=
 match l with
 | [a]=>onR (λx=>rl x<=4294967296/\K (.one (.lit (.bool (decide (rv x=0)))))) a
 | _=>False
theorem WaH:type_of% @J0.eq_1:=q_E @J0.eq_1
@[congr] theorem WbR{K}{l l'}(h:l=l'):J0 l K=J0 l' K:=h▸rfl
attribute [go_sem,go_sem ↓] WaH
def VV(l:List AV)(K:AV->Prop):Prop:=
 match l with
 | [a,b]=>onR (λx=>onR (λy=>rl x<=1073741824/\rl y<=1073741824/\K (rQ (rv x / rv y))) b) a
 | _=>False
theorem Yau:type_of% @VV.eq_1:=q_E @VV.eq_1
@[congr] theorem ybT{K}{l l'}(h:l=l'):VV l K=VV l' K:=h▸rfl
attribute [go_sem,go_sem ↓] Yau
def yF(tE:Nat)(l:List AV)(K:AV->Prop):Prop:=
 match l with
 | [a]=>onT (λt=>rl t.1<=100000000/\K (errV tE (tchk t))) a
 | _=>False
theorem wah:type_of% @yF.eq_1:=q_E @yF.eq_1
@[congr] theorem JbI tE{K}{l l'}(h:l=l'):yF tE l K=yF tE l' K:=by subst h;rfl
attribute [go_sem,go_sem ↓] wah
def qH(l:List AV)(K:AV->Prop):Prop:=
 match l with
 | [a]=>onT (λt=>rl t.1<=100000000/\K (.one (.lit (.bool (decide (tchk t=0)))))) a
 | _=>False
theorem Q4:type_of% @qH.eq_1:=q_E @qH.eq_1
@[congr] theorem WbG{K}{l l'}(h:l=l'):qH l K=qH l' K:=h▸rfl
attribute [go_sem,go_sem ↓] Q4
def kaE(l:List AV)(K:AV->Prop):Prop:=
 match l with
 | [a]=>onPo (λp=>pl p<=100000000/\K (.one (.lit (.bool (pvld p))))) a
 | _=>False
theorem ZaU:type_of% @kaE.eq_1:=q_E @kaE.eq_1
@[congr] theorem wbW{K}{l l'}(h:l=l'):kaE l K=kaE l' K:=h▸rfl
attribute [go_sem,go_sem ↓] ZaU
def Uax(l:List AV)(K:AV->Prop):Prop:=
 match l with
 | [a]=>onT (λt=>rl t.1<=100000000/\K (tQ (backQ (tv t)))) a
 | _=>False
theorem Vbb:type_of% @Uax.eq_1:=q_E @Uax.eq_1
@[congr] theorem xbW{K}{l l'}(h:l=l'):Uax l K=Uax l' K:=h▸rfl
attribute [go_sem,go_sem ↓] Vbb
def JaC(l:List AV)(K:AV->Prop):Prop:=
 match l with
 | [a]=>onT (λt=>rl t.1<=10000000/\K (.tup [rQ (cosQ (tv t)),rQ (sinQ (tv t))])) a
 | _=>False
theorem VaR:type_of% @JaC.eq_1:=q_E @JaC.eq_1
@[congr] theorem kb2{K}{l l'}(h:l=l'):JaC l K=JaC l' K:=h▸rfl
attribute [go_sem,go_sem ↓] VaR
def JX(l:List AV)(K:AV->Prop):Prop:=
 match l with
 | [a,b]=>onA (λp=>onA (λq=>al p<=4294967296/\K (.one (.lit (.bool (decide (p=q)))))) b) a
 | _=>False
theorem Zaz:type_of% @JX.eq_1:=q_E @JX.eq_1
@[congr] theorem QbT{K}{l l'}(h:l=l'):JX l K=JX l' K:=h▸rfl
attribute [go_sem,go_sem ↓] Zaz
end Go.Abs
end
section
namespace Go.Num
open Go.Abs
def aok(p:Ps)(q:Arc):Bool:=pvld p && avld q
def plchk(l:List Ps):Nat:=if l.length<2 then 10 else if 5<l.length then 4 else if l.all pvld then 0 else 2
def threeC(l:List Ps):Nat:=if plchk l≠0 then plchk l else if l.length=3 then 0 else 10
def imgs(l:List Ps)(q:Arc):List V2:=l.map λp=>appQ (pv p) (av q)
def imgC(l:List Ps)(q:Arc):Nat:=if l.all (λp=>aok p q) then 0 else 2
end Go.Num
namespace Go.Abs
open Go.Num
variable {P:Program} {Γ:Nat->Spec}
def psQ(p:PsQ):AV:=.agg [cb (rcan p.1.1),cn (rcan p.1.1),cd (rcan p.1.1),.lit (.bool p.1.2),cb (rcan p.2.1),cn (rcan p.2.1),cd (rcan p.2.1),cb (rcan p.2.2),cn (rcan p.2.2),cd (rcan p.2.2)]
theorem xbp(p:PsQ):psQ p=.agg [cb (rcan p.1.1),cn (rcan p.1.1),cd (rcan p.1.1),.lit (.bool p.1.2),cb (rcan p.2.1),cn (rcan p.2.1),cd (rcan p.2.1),cb (rcan p.2.2),cn (rcan p.2.2),cd (rcan p.2.2)]:=eq_of_heq (HEq.refl _)
attribute [go_sem,go_sem ↓] xbp
def qaG(tE:Nat)(l:List AV)(K:AV->Prop):Prop:=
 match l with
 | [a]=>onT (λt=>rl t.1<=10000000/\K (.tup [rQ (if tchk t=0 then cosQ (tv t) else 0),errV tE (tchk t)])) a
 | _=>False
theorem zaR:type_of% @qaG.eq_1:=q_E @qaG.eq_1
@[congr] theorem wbZ tE{K}{l l'}(h:l=l'):qaG tE l K=qaG tE l' K:=by subst h;rfl
attribute [go_sem,go_sem ↓] zaR
def VaE(tE:Nat)(l:List AV)(K:AV->Prop):Prop:=
 match l with
 | [a]=>onT (λt=>rl t.1<=10000000/\K (.tup [rQ (if tchk t=0 then sinQ (tv t) else 0),errV tE (tchk t)])) a
 | _=>False
theorem kaY:type_of% @VaE.eq_1:=q_E @VaE.eq_1
@[congr] theorem WbY tE{K}{l l'}(h:l=l'):VaE tE l K=VaE tE l' K:=by subst h;rfl
attribute [go_sem,go_sem ↓] kaY
def uaC(tE:Nat)(l:List AV)(K:AV->Prop):Prop:=
 match l with
 | [a]=>onT (λt=>rl t.1<=10000000/\K (.tup [rQ (if tchk t=0 then cosQ (tv t) else 0),rQ (if tchk t=0 then sinQ (tv t) else 0),errV tE (tchk t)])) a
 | _=>False
theorem xaT:type_of% @uaC.eq_1:=q_E @uaC.eq_1
@[congr] theorem vb4 tE{K}{l l'}(h:l=l'):uaC tE l K=uaC tE l' K:=by subst h;rfl
attribute [go_sem,go_sem ↓] xaT
def waA(tE:Nat)(l:List AV)(K:AV->Prop):Prop:=
 match l with
 | [a,b]=>onT (λt=>onA (λq=>rl t.1<=10000000/\al q<=10000000/\K (.tup [pQ (if tchk t=0 then rotQ (tv t) (av q) else (0,0)),errV tE (tchk t)])) b) a
 | _=>False
theorem ka4:type_of% @waA.eq_1:=q_E @waA.eq_1
@[congr] theorem QbU tE{K}{l l'}(h:l=l'):waA tE l K=waA tE l' K:=by subst h;rfl
attribute [go_sem,go_sem ↓] ka4
def XaC(l:List AV)(K:AV->Prop):Prop:=
 match l with
 | [a,b]=>onT (λt=>onA (λq=>rl t.1<=10000000/\al q<=10000000/\K (pQ (rotQ (tv t) (av q)))) b) a
 | _=>False
theorem VaW:type_of% @XaC.eq_1:=q_E @XaC.eq_1
@[congr] theorem vb3{K}{l l'}(h:l=l'):XaC l K=XaC l' K:=h▸rfl
attribute [go_sem,go_sem ↓] VaW
def uaz(tE:Nat)(l:List AV)(K:AV->Prop):Prop:=
 match l with
 | [a,b]=>onPo (λp=>onA (λq=>pl p<=1000000/\al q<=1000000/\K (.tup [pQ (if aok p q=true then appQ (pv p) (av q) else (0,0)),errV tE (if aok p q=true then 0 else 2)])) b) a
 | _=>False
theorem waS:type_of% @uaz.eq_1:=q_E @uaz.eq_1
@[congr] theorem VbX tE{K}{l l'}(h:l=l'):uaz tE l K=uaz tE l' K:=by subst h;rfl
attribute [go_sem,go_sem ↓] waS
def jap(l:List AV)(K:AV->Prop):Prop:=
 match l with
 | [a,b]=>onPo (λp=>onA (λq=>pl p<=1000000/\al q<=1000000/\K (pQ (appQ (pv p) (av q)))) b) a
 | _=>False
theorem Xa2:type_of% @jap.eq_1:=q_E @jap.eq_1
@[congr] theorem JbU{K}{l l'}(h:l=l'):jap l K=jap l' K:=h▸rfl
attribute [go_sem,go_sem ↓] Xa2
def jX(tE:Nat)(l:List AV)(K:AV->Prop):Prop:=
 match l with
 | [a]=>onT (λt=>rl t.1<=10000000/\K (.tup [tQ (if tchk t=0 then backQ (tv t) else (0,false)),errV tE (tchk t)])) a
 | _=>False
theorem Yat:type_of% @jX.eq_1:=q_E @jX.eq_1
@[congr] theorem zbT tE{K}{l l'}(h:l=l'):jX tE l K=jX tE l' K:=by subst h;rfl
attribute [go_sem,go_sem ↓] Yat
def Jao(tE:Nat)(l:List AV)(K:AV->Prop):Prop:=
 match l with
 | [a]=>onPo (λp=>pl p<=1000000/\K (.tup [psQ (if pvld p=true then invQ (pv p) else ((0,false),(0,0))),errV tE (if pvld p=true then 0 else 2)])) a
 | _=>False
theorem za7:type_of% @Jao.eq_1:=q_E @Jao.eq_1
@[congr] theorem wbX tE{K}{l l'}(h:l=l'):Jao tE l K=Jao tE l' K:=by subst h;rfl
attribute [go_sem,go_sem ↓] za7
def jay(l:List AV)(K:AV->Prop):Prop:=
 match l with
 | [a]=>onPo (λp=>pl p<=1000000/\K (psQ (invQ (pv p)))) a
 | _=>False
theorem Za0:type_of% @jay.eq_1:=q_E @jay.eq_1
@[congr] theorem kbY{K}{l l'}(h:l=l'):jay l K=jay l' K:=h▸rfl
attribute [go_sem,go_sem ↓] Za0
end Go.Abs
end
section
namespace Go.Num
def inA(y:Rat)(x:Arc):Bool:=decide (rv x.1<=y) && decide (y<rv x.2)
def idxOf(y:Rat)(l:List Arc):Int:=match l.findIdx? (inA y) with | some i=>i | none=>-1
end Go.Num
namespace Go.Abs
open Go.Num
variable {P:Program} {Γ:Nat->Spec}
def pA(y:R):AV:=.one (.ref [cb y,cn y,cd y])
def kA(f:Nat)(y:R):AV:=.one (.clo f [.ref [cb y,cn y,cd y]])
theorem ybB(x y:R)(h:pA x=pA y):x=y:=qs x y (by simpa [pA,rA] using h)
theorem YbC(f:Nat)(x y:R)(h:kA f x=kA f y):x=y:=qs x y (by simpa [kA,rA] using h)
def onP(k:R->Prop)(a:AV):Prop:=onE pA (λx=>WLR x/\k x) a
@[congr] theorem Ub4{k:R->Prop}{a a'}(h:a=a'):onP k a=onP k a':=by subst h;rfl
theorem qbI(k:R->Prop)(x:R):onP k (.one (.ref [cb x,cn x,cd x]))=(WLR x/\k x):=kf ybB (λx=>WLR x/\k x) x
def onKl(f:Nat)(k:R->Prop)(a:AV):Prop:=onE (kA f) (λx=>WLR x/\k x) a
@[congr] theorem VbY{f}{k:R->Prop}{a a'}(h:a=a'):onKl f k a=onKl f k a':=by subst h;rfl
theorem ybo(f:Nat)(k:R->Prop)(x:R):onKl f k (.one (.clo f [.ref [cb x,cn x,cd x]]))=(WLR x/\k x):=kf (YbC f) (λx=>WLR x/\k x) x
attribute [go_sem,go_sem ↓] qbI ybo
theorem ZaL(y:R):CleanL [cb y,cn y,cd y]:=by
 intro c hc;simp only [List.mem_cons,List.not_mem_nil,or_false]at hc;rcases hc with rfl | rfl | rfl
 .exact of_eq_true (zj _)
 .exact of_eq_true (qj _)
 .exact of_eq_true (Vj _)
def XU(l:List AV)(K:AV->Prop):Prop:=
 match l with
 | [a,b]=>onA (λx=>onP (λy=>al x<=4294967296/\rl y<=4294967296/\K (.one (.lit (.bool (inA (rv y) x))))) b) a
 | _=>False
theorem XaA:type_of% @XU.eq_1:=q_E @XU.eq_1
@[congr] theorem WbT{K}{l l'}(h:l=l'):XU l K=XU l' K:=h▸rfl
attribute [go_sem,go_sem ↓] XaA
def Yas(fc:Nat)(l:List AV)(K:AV->Prop):Prop:=
 match l with
 | [a,c]=>onAs (λl=>onKl fc (λy=>okAs 4294967296 l/\rl y<=4294967296/\K (.one (.lit (.int .i64 (idxOf (rv y) l))))) c) a
 | _=>False
theorem wa8:type_of% @Yas.eq_1:=q_E @Yas.eq_1
@[congr] theorem ZbZ fc{K}{l l'}(h:l=l'):Yas fc l K=Yas fc l' K:=by subst h;rfl
attribute [go_sem,go_sem ↓] wa8
def vY(fc:Nat)(l:List AV)(K:AV->Prop):Prop:=
 match l with
 | [a,c]=>onAs (λl=>onKl fc (λy=>okAs 4294967296 l/\rl y<=4294967296/\K (.one (.lit (.bool (l.any (inA (rv y))))))) c) a
 | _=>False
theorem qaI:type_of% @vY.eq_1:=q_E @vY.eq_1
@[congr] theorem zbS fc{K}{l l'}(h:l=l'):vY fc l K=vY fc l' K:=by subst h;rfl
attribute [go_sem,go_sem ↓] qaI
def ZaC(tE:Nat)(l:List AV)(K:AV->Prop):Prop:=
 match l with
 | [a,b]=>onAs (λl=>onR (λy=>okAs 4294967296 l/\rl y<=1000000000/\K (.tup [.one (.lit (.bool (decide (chk [l]=0) && (vldR y && l.any (inA (frac (rv y))))))),errV tE (if chk [l]=0 then (if vldR y then 0 else 3) else chk [l])])) b) a
 | _=>False
theorem ya0:type_of% @ZaC.eq_1:=q_E @ZaC.eq_1
@[congr] theorem YbV tE{K}{l l'}(h:l=l'):ZaC tE l K=ZaC tE l' K:=by subst h;rfl
attribute [go_sem,go_sem ↓] ya0
end Go.Abs
end
section
namespace Go.Num
def longR(x:R):Bool:=decide (4<x.2.1.length+x.2.2.length)
def largeL(l:List Arc):Bool:=if 20<l.length then (decide (l.length<=64) || decide (200<l.length)) else l.any λx=>longR x.1 || longR x.2
def validL(l:List Arc):Bool:=!largeL l && decide (chk1 l=0)
end Go.Num
namespace Go.Abs
open Go.Num
variable {P:Program} {Γ:Nat->Spec}
def xE(l:List AV)(K:AV->Prop):Prop:=
 match l with
 | [a]=>onAs (λl=>okAs 1073741824 l/\K (.one (.lit (.int .i64 (chk1 l:Nat))))) a
 | _=>False
theorem J3:type_of% @xE.eq_1:=q_E @xE.eq_1
@[congr] theorem WbN{K}{l l'}(h:l=l'):xE l K=xE l' K:=h▸rfl
attribute [go_sem,go_sem ↓] J3
def xX(l:List AV)(K:AV->Prop):Prop:=
 match l with
 | [a,b]=>onAs (λl=>onAs (λm=>okAs 1073741824 l/\okAs 1073741824 m/\K (.one (.lit (.bool (decide (vals l=vals m)))))) b) a
 | _=>False
theorem uax:type_of% @xX.eq_1:=q_E @xX.eq_1
@[congr] theorem YbT{K}{l l'}(h:l=l'):xX l K=xX l' K:=h▸rfl
attribute [go_sem,go_sem ↓] uax
def JV(l:List AV)(K:AV->Prop):Prop:=
 match l with
 | [a]=>onR (λx=>rl x<=1000000000/\K (.agg [cb (rcan (frac (rv x))),cn (rcan (frac (rv x))),cd (rcan (frac (rv x)))])) a
 | _=>False
theorem Yax:type_of% @JV.eq_1:=q_E @JV.eq_1
@[congr] theorem WbP{K}{l l'}(h:l=l'):JV l K=JV l' K:=h▸rfl
attribute [go_sem,go_sem ↓] Yax
def WX(l:List AV)(K:AV->Prop):Prop:=
 match l with
 | [a,b]=>asInt (λk n=>asInt (λk' d=>k=.i64/\k' = .i64/\(-9223372036854775808<=n/\n<=9223372036854775807)/\(-9223372036854775808<=d/\d<=9223372036854775807)/\d≠0/\K (.agg [cb (rcan (Rat.divInt n d)),cn (rcan (Rat.divInt n d)),cd (rcan (Rat.divInt n d))])) b) a
 | _=>False
theorem qaF:type_of% @WX.eq_1:=q_E @WX.eq_1
@[congr] theorem kbP{K}{l l'}(h:l=l'):WX l K=WX l' K:=h▸rfl
attribute [go_sem,go_sem ↓] qaF
def kX(l:List AV)(K:AV->Prop):Prop:=
 match l with
 | [a]=>onR (λx=>rl x<=4294967296/\K (.one (.lit (.bool (longR x))))) a
 | _=>False
theorem xas:type_of% @kX.eq_1:=q_E @kX.eq_1
@[congr] theorem YbS{K}{l l'}(h:l=l'):kX l K=kX l' K:=h▸rfl
attribute [go_sem,go_sem ↓] xas
def xG(l:List AV)(K:AV->Prop):Prop:=
 match l with
 | [a]=>onAs (λl=>okAs 1073741824 l/\K (.one (.lit (.bool (largeL l))))) a
 | _=>False
theorem Uae:type_of% @xG.eq_1:=q_E @xG.eq_1
@[congr] theorem JbL{K}{l l'}(h:l=l'):xG l K=xG l' K:=h▸rfl
attribute [go_sem,go_sem ↓] Uae
def xB(l:List AV)(K:AV->Prop):Prop:=
 match l with
 | [a]=>onAs (λl=>okAs 1073741824 l/\K (.one (.lit (.bool (validL l))))) a
 | _=>False
theorem vN:type_of% @xB.eq_1:=q_E @xB.eq_1
@[congr] theorem ybA{K}{l l'}(h:l=l'):xB l K=xB l' K:=h▸rfl
attribute [go_sem,go_sem ↓] vN
def YG(tE:Nat)(l:List AV)(K:AV->Prop):Prop:=
 match l with
 | [a]=>onAs (λl=>K (.tup [.one (.slice ((if 64<l.length then [] else l).map aC)),errV tE (if 64<l.length then 4 else 0)])) a
 | _=>False
theorem xac:type_of% @YG.eq_1:=q_E @YG.eq_1
@[congr] theorem vbD tE{K}{l l'}(h:l=l'):YG tE l K=YG tE l' K:=by subst h;rfl
attribute [go_sem,go_sem ↓] xac
end Go.Abs
end
