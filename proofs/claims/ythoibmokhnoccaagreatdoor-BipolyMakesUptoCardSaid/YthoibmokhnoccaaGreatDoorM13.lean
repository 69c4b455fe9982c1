/-
  Parts of the proof, merged: BiqB, BipK, BiqC, BiqD, BiqE, BiqF, BiqG, IntC, IntD, IntE, IntF, IntG, IntH, IntK.
-/
import Derived.Test.YthoibmokhnoccaaGreatDoorM12
import Derived.Lib.BitFns
set_option linter.unusedVariables false
set_option linter.unusedSimpArgs false
set_option maxRecDepth 100000
section
namespace Go.Num
open Go.Abs
theorem yaY{f:Mo->Bool}{l:List Mo}{k:Nat}{x:Mo}(hx:l[k]?=some x):(l.take (k+1)).filter f=(l.take k).filter f++if f x=true then [x] else []:=by
 rw [List.take_add_one,hx,List.filter_append];cases h:f x <;> simp [h]
end Go.Num
namespace Go.Abs
open Go.Num
variable {P:Program} {Γ:Nat->Spec}
def qz(l:List AV)(K:AV->Prop):Prop:=
 match l with
 | [a]=>onMs (λp=>(∀t∈p,rl t.2.2<=4294967296)/\K (.tup [.one (.slice ((if chkB p=0 then topM p else []).map mC)),.one (.lit (.int .i64 (chkB p:Nat)))])) a
 | _=>False
theorem Vba:type_of% @qz.eq_1:=q_E @qz.eq_1
@[congr] theorem XbU{K}{l l'}(h:l=l'):qz l K=qz l' K:=h▸rfl
attribute [go_sem,go_sem ↓] Vba
theorem ka5:Good qz:=Ja λas=>by
 unfold qz;split
 .exact(we λ_=>(.and λ_=>(.ret _)))
 .exact .of λK hk=>hk.elim
def jt(l:List AV)(K:AV->Prop):Prop:=
 match l with
 | [a]=>onMs (λl=>(∀t∈l,rl t.2.2<=4294967296)/\sz (l.map mv)<=1000000000/\K (.tup [.one (.slice ((bres (mkC l) (nf (l.map mv))).map mC)),.one (.lit (.int .i64 (mkC l:Nat)))])) a
 | _=>False
theorem Jap:type_of% @jt.eq_1:=q_E @jt.eq_1
@[congr] theorem jbT{K}{l l'}(h:l=l'):jt l K=jt l' K:=h▸rfl
attribute [go_sem,go_sem ↓] Jap
theorem zaM:Good jt:=Ja λas=>by
 unfold jt;split
 .exact(we λ_=>(.and λ_=>(.and λ_=>(.ret _))))
 .exact .of λK hk=>hk.elim
def ve(f0 f1:Nat):AC:=(.o [.m 2 (.c (.one .emp)),.N 3 0] [0] (.f (.o [.M 8 0,.H 9 f0 8,.M 4 9] [0,4] (.o [.M 10 4,.I 11 .neq 10 0] [0,4,11] (.cond (.t 11) (.seq (.p [.M 12 4,.m 2 (.c (.one .emp)),.M 3 12]) .ret) .skip))) [0] (.o [.m 5 (.c (.one .emp))] [0,5] (.f (.o [.M 13 0,.Z 14 13,.N 15 0] [0,5,13,14,15] (.block 0 (.loop (.o [.B 16 .lss 15 14] [0,5,13,14,15,16] (.f (.cond (.t 16) .skip (.exit 0)) [0,5,13,14,15] (.f (.block 1 (.o [.J 17 5 13 15,.L 18 5 17,.G 7 [(.lit (.int .i64 0)),(.lit (.int .i64 0)),.z,.emp,.emp],.S 5 7 18] [0,5,7,13,14,15] (.f (.y [.A 19 0 7,.F 20 1 19,.A 21 1 7,.F 22 1 21,.B 23 .add 20 22,.M 24 0,.H 25 f1 24,.B 26 .eql 23 25]) [0,5,7,13,14,15,26] (.cond (.t 26) (.p [.M 27 5,.L 28 5 7,.u 29 (.row 5 [[.x 5 (.t 28)]]),.u 30 (.app 5 (.t 27) (.t 29)),.M 5 30]) .skip)))) [0,5,13,14,15] (.p [.I 31 .add 15 1,.M 15 31]))))))) [5] (.seq (.p [.M 32 5,.M 2 32,.N 3 0]) .ret)))))
def qe(f0 f1 f2:Nat):AC:=(.o [.m 2 (.c (.one .emp)),.N 3 0] [0] (.f (.o [.M 7 0,.Z 8 7,.I 9 .gtr 8 325] [0,9] (.cond (.t 9) (.seq (.p [.m 2 (.c (.one .emp)),.N 3 4]) .ret) .skip)) [0] (.f (.o [.M 10 0,.Z 11 10,.N 12 0] [0,10,11,12] (.block 0 (.loop (.o [.B 13 .lss 12 11] [0,10,11,12,13] (.f (.cond (.t 13) .skip (.exit 0)) [0,10,11,12] (.f (.block 1 (.o [.J 14 5 10 12,.L 15 5 14,.G 5 [(.lit (.int .i64 0)),(.lit (.int .i64 0)),.z,.emp,.emp],.S 5 5 15] [0,5,10,11,12] (.f (.o [.L 16 5 5,.H 17 f0 16,.M 6 17] [0,5,6,10,11,12] (.o [.M 18 6,.I 19 .neq 18 0] [0,5,6,10,11,12,19] (.cond (.t 19) (.seq (.p [.M 20 6,.m 2 (.c (.one .emp)),.M 3 20]) .ret) .skip))) [0,5,10,11,12] (.o [.A 21 2 5,.L 22 3 21,.H 23 f1 22,.u 24 (.un .not (.t 23))] [0,10,11,12,24] (.cond (.t 24) (.seq (.p [.m 2 (.c (.one .emp)),.N 3 2]) .ret) .skip))))) [0,10,11,12] (.p [.I 25 .add 12 1,.M 12 25]))))))) [0] (.seq (.p [.M 26 0,.H 27 f2 26,.M 2 27,.N 3 0]) .ret))))
theorem QaL(hΓ:Holds P Γ){f fk fd:Nat}(hk:Γ fk=.dat false Wh)(hd:Γ fd=.dat true Vl)(hc:check P f=some (33,(ve fk fd).strip,[.tmp 2,.tmp 3])):Sound P f (.dat false qz):=by
 refine Qa hc ka5 hΓ (λargs K hcl hfi hG=>?_);match args,hG with
 | [a],hG=>
  obtain⟨p,rfl,hwp,hrp,hK⟩:=hG;refine⟨by simp,?_⟩
  by_cases h0:chkB p=0
  case neg=>
   rw [if_neg h0]at hK;simp only [go_sem,ve,hk,ms,h0];exact⟨hwp,hrp,hK⟩
  rw [if_pos h0,h0]at hK;obtain⟨i1,i2,i3⟩:=Qm h0 hwp;obtain⟨can,mcp⟩:=Vo h0 hwp;have hdeg:∀t∈p,t.1+t.2.1<=degM p:=λt ht=>by
   have h1:=ZJ can (mv t) (List.mem_map_of_mem ht);rw [<-Vg,mcp]at h1;exact h1
  obtain⟨dg,hdg⟩:∃d,degM p=d:=⟨_,rfl⟩;rw [hdg]at hdeg;have hT:topM p=p.filter (kpM dg):=by unfold topM;rw [hdg]
  rw [hT]at hK;have p1:p.length<=1000000:=by omega
  simp only [go_sem,ve,hk,ms,h0];refine⟨hwp,hrp,?_⟩;repeat first | refine q_Wk ?_ | intro _
  refine ja (λk:Nat=>if ((p.take k).filter (kpM dg)).length=0 then ⟨mkV [(0,msA p),(5,.one .emp),(13,msA p),(14,.one (.lit (.int .i64 p.length))),(15,.one (.lit (.int .i64 k)))],mkH []⟩
    else ⟨mkV [(0,msA p),(5,.one (.own 30 1 5 0 ((p.take k).filter (kpM dg)).length)),(13,msA p),(14,.one (.lit (.int .i64 p.length))),(15,.one (.lit (.int .i64 k)))],mkH [(30,⟨1,some ⟨((p.take k).filter (kpM dg)).map mC,5,true⟩⟩)]⟩) (λk=>k<=p.length) (λk=>p.length-k) 0 ?_ ?_ ?_
  .exact qa (by simp [bitvec_to_nat,msA,ms]) trivial
  .exact Nat.zero_le _
  .intro k hk';have hlk:((p.take k).filter (kpM dg)).length<=k:=Nat.le_trans (List.length_filter_le _ _) (by rw [List.length_take];omega)
   by_cases hlt:k<p.length
   .obtain⟨x,hx⟩:∃x,p.getD k mo0=x:=⟨_,rfl⟩;have hx0:=getDm hlt hx;have hxm:=List.mem_of_getElem? hx0;have hwx:=hwp x hxm;obtain⟨j1,j2,j3⟩:=i1 x hxm;have ht:=yaY (f:=kpM dg) hx0;have hle:=hdeg x hxm;have r1:-9223372036854775808<=x.1+x.2.1/\x.1+x.2.1<=9223372036854775807:=by omega
    have hall:∀e∈[[C.lit (.int .i64 x.1),C.lit (.int .i64 x.2.1),cb x.2.2,cn x.2.2,cd x.2.2]],e.length=5:=λe he=>by rw [List.mem_singleton.1 he];rfl
    obtain⟨n,hn⟩:∃n,((p.take k).filter (kpM dg)).length=n:=⟨_,rfl⟩;rw [hn]at hlk ⊢;by_cases hq:x.1+x.2.1=dg
    .have hkp:kpM dg x=true:=by unfold kpM;rw [decide_eq_false (by omega)];rfl
     rw [if_pos hkp]at ht;by_cases hn0:n=0
     .rw [if_pos hn0];have hnil:=List.length_eq_zero_iff.1 (hn.trans hn0);simp only [go_sem,hlt,hx,hd,mC,hdg,hq];repeat first | refine q_Wk ?_ | intro _
      refine⟨k+1,?_,by omega,by omega⟩
      rw [ht,List.length_append,hn,if_neg (by simp),hnil,hn0]
      exact qa (by simp [bitvec_to_nat,msA,ms]) ⟨Jd (by simp [mC]),trivial⟩
     .rw [if_neg hn0];simp only [go_sem,hlt,hx,hd,mC,hdg,hq,hn0,hn];repeat first | refine q_Wk ?_ | intro _
      refine⟨k+1,?_,by omega,by omega⟩
      rw [ht,List.length_append,hn,if_neg (by simp)]
      exact qa (by simp [bitvec_to_nat,msA,ms]) ⟨Jd (by simp [mC]),trivial⟩
    .have hkp:¬kpM dg x=true:=by unfold kpM;rw [decide_eq_true (by omega)];simp
     rw [if_neg hkp,List.append_nil]at ht;by_cases hn0:n=0
     .rw [if_pos hn0];simp only [go_sem,hlt,hx,hd,mC,hdg,hq];repeat first | refine q_Wk ?_ | intro _
      refine⟨k+1,?_,by omega,by omega⟩
      rw [ht,hn,if_pos hn0];exact qa (by simp [bitvec_to_nat,msA,ms]) trivial
     .rw [if_neg hn0];simp only [go_sem,hlt,hx,hd,mC,hdg,hq,hn0,hn];repeat first | refine q_Wk ?_ | intro _
      refine⟨k+1,?_,by omega,by omega⟩
      rw [ht,hn,if_neg hn0];exact qa (by simp [bitvec_to_nat,msA,ms]) ⟨Jd rfl,trivial⟩
   .have et:p.take k=p:=List.take_of_length_le (by omega)
    rw [et];by_cases hn0:(p.filter (kpM dg)).length=0
    .rw [if_pos hn0];have hnil:=List.length_eq_zero_iff.1 hn0;rw [hnil]at hK;simp only [go_sem,hlt];exact hK
    .rw [if_neg hn0];simp only [go_sem,hlt];exact hK
theorem zal(hΓ:Holds P Γ){f fi fv fs m:Nat}(hm:325<=m)(hi:Γ fi=.dat true Qx)(hv:Γ fv=.dat true xc)(hs:Γ fs=.dat false (Xo m))(hc:check P f=some (28,(qe fi fv fs).strip,[.tmp 2,.tmp 3])):Sound P f (.dat false jt):=by
 refine Qa hc zaM hΓ (λargs K hcl hfi hG=>?_);match args,hG with
 | [a],hG=>
  obtain⟨l,rfl,hw,hrl,hsz,hK⟩:=hG;refine⟨by simp,?_⟩
  by_cases h325:325<l.length
  .have e:mkC l=4:=if_pos h325;rw [e,QB (by decide)]at hK
   have h325' : (325:Int)<(l.length:Int):=by omega
   simp only [go_sem,qe,h325'];exact λ_=>hK
  .have h325' : ¬(325:Int)<(l.length:Int):=by omega
   have e:mkC l=mkG l:=if_neg h325;rw [e]at hK;simp only [go_sem,qe,h325'];intro _ _;refine ja (λk:Nat=>⟨mkV [(0,msA l),(10,msA l),(11,.one (.lit (.int .i64 l.length))),(12,.one (.lit (.int .i64 k)))],mkH []⟩) (λk=>k<=l.length/\mkG l=mkG (l.drop k)) (λk=>l.length-k) 0 ?_ ?_ ?_
   .exact qa (by simp [bitvec_to_nat,msA,ms]) trivial
   .exact⟨Nat.zero_le _,rfl⟩
   .rintro k ⟨hk,hch⟩;by_cases hlt:k<l.length
    .obtain⟨x,hx⟩:∃x,l.getD k mo0=x:=⟨_,rfl⟩;have hx0:=getDm hlt hx;have hxm:=List.mem_of_getElem? hx0;have hwx:=hw x hxm;have hrx:=hrl x hxm;rw [Zar hx0]at hch;by_cases a1:inM x
     .cases a2:vldR x.2.2 with
      | false=>
       have ec:mkT x=2:=by unfold mkT;rw [if_neg (by simp [a1]),if_pos a2]
       rw [ec,if_pos (by decide)]at hch
       rw [hch,QB (by decide)]at hK
       simp only [go_sem,hlt,hx,hi,hv,mC,a1,a2];exact⟨hwx,hwx.2.2,hrx,hK⟩
      | true=>
       have ec:mkT x=0:=by unfold mkT;rw [if_neg (by simp [a1]),if_neg (by simp [a2])]
       rw [ec,if_neg (by decide)]at hch
       simp only [go_sem,hlt,hx,hi,hv,mC,a1,a2];exact⟨hwx,hwx.2.2,hrx,by omega,k+1,qa (by simp [bitvec_to_nat,msA,ms]) trivial,⟨by omega,hch⟩,by omega⟩
     .have ec:mkT x=3:=by unfold mkT;rw [if_pos a1]
      rw [ec,if_pos (by decide)]at hch
      rw [hch,QB (by decide)]at hK
      have t30:¬(3:Int)=0:=by decide
      simp only [go_sem,hlt,hx,hi,mC,a1,t30];exact⟨hwx,hK⟩
    .rw [List.drop_of_length_le (by omega)]at hch
     have e0:mkG []=0:=rfl;rw [e0]at hch;rw [hch,X4]at hK;have hin:=Xbf hch;simp only [go_sem,hlt,hs];exact⟨hw,λt ht=>⟨(hin t ht).1,hrl t ht⟩,by omega,hsz,hK⟩
end Go.Abs
end
section
namespace Go.Num
open Go.Abs
end Go.Num
namespace Go.Abs
open Go.Num
variable {P:Program} {Γ:Nat->Spec}
def xW(l:List AV)(K:AV->Prop):Prop:=
 match l with
 | [a,b,c]=>onMs (λp=>onMs (λq=>onR (λu=>(p.length<=1048576/\∀t∈p,rl t.2.2<=1048576)/\(q.length<=1048576/\∀t∈q,rl t.2.2<=1048576)/\rl u<=1048576/\K (.one (.lit (.bool true)))) c) b) a
 | _=>False
theorem vaA:type_of% @xW.eq_1:=q_E @xW.eq_1
@[congr] theorem xbQ{K}{l l'}(h:l=l'):xW l K=xW l' K:=h▸rfl
attribute [go_sem,go_sem ↓] vaA
end Go.Abs
end
section
namespace Go.Num
open Go.Abs
end Go.Num
namespace Go.Abs
open Go.Num
variable {P:Program} {Γ:Nat->Spec}
def qB(l:List AV)(K:List (List C)->Prop):Prop:=
 match l with
 | [a,c]=>onMs (λl=>onR (λx=>(∀t∈l,rl t.2.2<=1000000000)/\rl x<=1000000000/\l.length<=1000000/\K ((sclM (rv x) l).map mC)) c) a
 | _=>False
theorem xO:type_of% @qB.eq_1:=q_E @qB.eq_1
@[congr] theorem qbA{K}{l l'}(h:l=l'):qB l K=qB l' K:=h▸rfl
attribute [go_sem,go_sem ↓] xO
def VG(l:List AV)(K:AV->Prop):Prop:=
 match l with
 | [a,c]=>onMs (λp=>onR (λx=>(∀t∈p,rl t.2.2<=1000000000)/\rl x<=1000000/\sz (p.map mv)<=100000000/\K (.tup [.one (.slice ((bres (chkB p) (sclB (rv x) (p.map mv))).map mC)),.one (.lit (.int .i64 (chkB p:Nat)))])) c) a
 | _=>False
theorem Uaa:type_of% @VG.eq_1:=q_E @VG.eq_1
@[congr] theorem qbC{K}{l l'}(h:l=l'):VG l K=VG l' K:=h▸rfl
attribute [go_sem,go_sem ↓] Uaa
def xaH(l:List AV)(K:AV->Prop):Prop:=
 match l with
 | [a,b]=>onMs (λp=>onMs (λq=>(∀t∈p,rl t.2.2<=1000000000)/\(∀t∈q,rl t.2.2<=1000000000)/\sz (p.map mv)+sz (q.map mv)<=100000000/\K (.tup [.one (.slice ((bres (chk2 p q) (addB (p.map mv) (q.map mv))).map mC)),.one (.lit (.int .i64 (chk2 p q:Nat)))])) b) a
 | _=>False
theorem ja1:type_of% @xaH.eq_1:=q_E @xaH.eq_1
@[congr] theorem ub0{K}{l l'}(h:l=l'):xaH l K=xaH l' K:=h▸rfl
attribute [go_sem,go_sem ↓] ja1
def Waz(l:List AV)(K:AV->Prop):Prop:=
 match l with
 | [a,b]=>onMs (λp=>onMs (λq=>(∀t∈p,rl t.2.2<=1000000000)/\(∀t∈q,rl t.2.2<=1000000000)/\sz (p.map mv)+sz (q.map mv)<=100000000/\K (.tup [.one (.slice ((bres (chk2 p q) (subB (p.map mv) (q.map mv))).map mC)),.one (.lit (.int .i64 (chk2 p q:Nat)))])) b) a
 | _=>False
theorem ZaR:type_of% @Waz.eq_1:=q_E @Waz.eq_1
@[congr] theorem jb4{K}{l l'}(h:l=l'):Waz l K=Waz l' K:=h▸rfl
attribute [go_sem,go_sem ↓] ZaR
end Go.Abs
end
section
namespace Go.Abs
open Go.Num
variable {P:Program} {Γ:Nat->Spec}
def Jaq(l:List AV)(K:AV->Prop):Prop:=
 match l with
 | [a,b]=>onMs (λp=>onMs (λq=>(∀t∈p,rl t.2.2<=1000000000)/\(∀t∈q,rl t.2.2<=1000000000)/\sz (p.map mv)+sz (q.map mv)<=3000000/\K (.tup [.one (.slice ((bres (mulC p q) (mulB (p.map mv) (q.map mv))).map mC)),.one (.lit (.int .i64 (mulC p q:Nat)))])) b) a
 | _=>False
theorem QaZ:type_of% @Jaq.eq_1:=q_E @Jaq.eq_1
@[congr] theorem jb2{K}{l l'}(h:l=l'):Jaq l K=Jaq l' K:=h▸rfl
attribute [go_sem,go_sem ↓] QaZ
end Go.Abs
end
section
namespace Go.Num
open Go.Abs
theorem ZaG{p:List Mo}(h:shortM p=true)(hw:∀t∈p,WLM t):p.length<=400/\(∀t∈p,rl t.2.2<=1)/\sz (p.map mv)<=1200:=by
 unfold shortM at h;simp only [Bool.and_eq_true,Bool.not_eq_true',List.all_eq_true]at h;obtain⟨h1,h4⟩:=h;unfold longM at h1;simp only [Bool.or_eq_false_iff,Bool.and_eq_false_iff,decide_eq_false_iff_not]at h1;have hl:p.length<=400:=by omega
 refine⟨hl,λt ht=>uaV (h4 t ht),?_⟩;have:=xbF (b:=1) (l:=p.map mv) λt ht=>by
  obtain⟨u,hu,rfl⟩:=List.mem_map.1 ht;exact Nat.le_trans (vt (hw u hu).2.2) (uaV (h4 u hu))
 rw [List.length_map]at this;omega
theorem Ybs{c:Nat}{X:BQ}{n:Nat}(h:c=0->InQ X/\sz X<=n):(∀t∈bres c X,WLM t)/\(∀t∈bres c X,rl t.2.2<=n)/\(bres c X).length<=n:=by
 by_cases hc:c=0
 .obtain⟨h1,h2⟩:=h hc;rw [hc,X4];refine⟨Xam h1,λt ht=>?_,?_⟩
  .obtain⟨u,hu,rfl⟩:=List.mem_map.1 ht;have:rz u.2.2<=sz X:=Uam hu;show rz u.2.2<=n;omega
  .have:=QbI X;unfold mcs;rw [List.length_map];omega
 .rw [QB hc];exact⟨λt ht=>by simp at ht,λt ht=>by simp at ht,Nat.zero_le _⟩
end Go.Num
namespace Go.Abs
open Go.Num
variable {P:Program} {Γ:Nat->Spec}
def V0(l:List AV)(K:AV->Prop):Prop:=
 match l with
 | [a,b,c]=>onMs (λp=>onMs (λq=>onR (λu=>(p.length<=1048576/\∀t∈p,rl t.2.2<=1048576)/\(q.length<=1048576/\∀t∈q,rl t.2.2<=1048576)/\rl u<=1048576/\K (.one (.lit (.bool true)))) c) b) a
 | _=>False
theorem Uay:type_of% @V0.eq_1:=q_E @V0.eq_1
@[congr] theorem qbQ{K}{l l'}(h:l=l'):V0 l K=V0 l' K:=h▸rfl
attribute [go_sem,go_sem ↓] Uay
end Go.Abs
end
section
namespace Go.Num
open Go.Abs
theorem ubz{p:List Mo}(h:chkB p=0)(hw:∀t∈p,WLM t):mcs (nf ((topM p).map mv))=topM p:=by
 obtain⟨c1,c2⟩:=Vo h hw;have e1:(topM p).map mv=topB (p.map mv):=by
  have:=qbg c1
  rwa [c2]at this
 rw [e1,Ybz (UM c1),<-e1];have hid:∀t∈p,mcan (mv t)=t:=λt ht=>by
  rw [<-c2]at ht;obtain⟨u,hu,rfl⟩:=List.mem_map.1 ht;rw [ua7]
 have:∀l:List Mo,(∀t∈l,t∈p)->mcs (l.map mv)=l:=λl hl=>by
  unfold mcs;rw [List.map_map];have h1:l.map (mcan ∘ mv)=l.map id:=List.map_congr_left λt ht=>hid t (hl t ht);rw [h1,List.map_id]
 exact this _ λt ht=>(List.mem_filter.1 ht).1
theorem yb0{p:List Mo}(h:mkC p=0):InQ (p.map mv):=λt ht=>by
 obtain⟨u,hu,rfl⟩:=List.mem_map.1 ht;unfold mkC at h;split at h
 .simp at h
 .exact(Xbf h u hu).1
end Go.Num
namespace Go.Abs
open Go.Num
variable {P:Program} {Γ:Nat->Spec}
def Yi(tE:Nat)(l:List AV)(K:AV->Prop):Prop:=
 match l with
 | [a]=>onMs (λl=>(∀t∈l,rl t.2.2<=4294967296)/\K (.tup [.one (.lit (.int .i64 (if chkB l=0 then degM l else 0))),errV tE (chkB l)])) a
 | _=>False
theorem xR:type_of% @Yi.eq_1:=q_E @Yi.eq_1
@[congr] theorem ZbA tE{K}{l l'}(h:l=l'):Yi tE l K=Yi tE l' K:=by subst h;rfl
attribute [go_sem,go_sem ↓] xR
theorem kaf(tE:Nat):Good (Yi tE):=Ja λas=>by
 unfold Yi;split
 .exact(we λ_=>(.and λ_=>(.ret _)))
 .exact .of λK hk=>hk.elim
def Zn(l:List AV)(K:AV->Prop):Prop:=
 match l with
 | [a,b]=>onMs (λp=>onMs (λq=>(p.length<=1048576/\∀t∈p,rl t.2.2<=1048576)/\(q.length<=1048576/\∀t∈q,rl t.2.2<=1048576)/\K (.one (.lit (.bool true)))) b) a
 | _=>False
theorem Z7:type_of% @Zn.eq_1:=q_E @Zn.eq_1
@[congr] theorem UbN{K}{l l'}(h:l=l'):Zn l K=Zn l' K:=h▸rfl
attribute [go_sem,go_sem ↓] Z7
theorem Qan:Good Zn:=Ja λas=>by
 unfold Zn;split
 .exact(we λ_=>(we λ_=>(.and λ_=>(.and λ_=>(.ret _)))))
 .exact .of λK hk=>hk.elim
def wj(f0 f1:Nat):AC:=(.o [.N 2 0,.m 3 (.c (.one (.lit .nilIface)))] [0] (.f (.o [.M 5 0,.H 6 f0 5,.M 4 6] [0,4] (.o [.M 7 4,.R 8 7] [0,4,8] (.cond (.t 8) (.seq (.p [.M 9 4,.N 2 0,.M 3 9]) .ret) .skip))) [0] (.seq (.p [.M 10 0,.H 11 f1 10,.M 2 11,.m 3 (.c (.one (.lit .nilIface)))]) .ret)))
def Zc(f0 f1 f2 f3 f4 f5 f6 f7 f8 f9 f10 f11 f12 f13:Nat):AC:=(.o [.m 4 .fa] [0,1] (.f (.o [.M 21 0,.M 22 1,.u 23 (.row 1 [[.x 1 (.t 21)],[.x 1 (.t 22)]]),.H 24 f0 23,.u 25 (.un .not (.t 24)),.M 26 25,.w 27 26 false (.call f1 []),.w 28 26 false (.un .not (.t 27)),.Q 29 26 28] [0,1,29] (.cond (.t 29) (.seq (.p [.u 30 (.call f1 []),.M 4 30]) .ret) .skip)) [0,1] (.o [.M 32 0,.H 33 f2 32,.M 31 33,.X 34 0 31,.X 35 1 31,.M 5 34,.M 6 35] [0,1,5,6] (.o [.M 37 0,.H 38 f3 37,.M 36 38,.X 39 0 36,.X 40 1 36,.M 7 39,.M 8 40] [0,1,5,6,7,8] (.o [.M 42 0,.H 43 f4 42,.M 41 43,.X 44 0 41,.X 45 1 41,.M 9 44,.M 10 45] [0,1,5,6,7,8,9,10] (.o [.M 47 0,.M 48 1,.D 49 f5 47 48,.M 46 49,.X 50 0 46,.X 51 1 46,.M 11 50,.M 12 51] [0,1,5,6,7,8,9,10,11,12] (.o [.M 53 0,.H 54 f6 53,.M 52 54,.X 55 0 52,.X 56 1 52,.M 13 55,.M 14 56] [0,1,5,6,7,8,9,10,11,12,13,14] (.o [.M 58 0,.H 59 f7 58,.M 57 59,.X 60 0 57,.X 61 1 57,.M 15 60,.M 16 61] [0,1,5,6,7,8,9,10,11,12,13,14,15,16] (.o [.M 63 0,.H 64 f8 63,.M 62 64,.X 65 0 62,.X 66 1 62,.M 17 65,.M 18 66] [0,1,5,6,7,8,9,10,11,12,13,14,15,16,17,18] (.o [.M 68 0,.M 69 1,.D 70 f9 68 69,.M 67 70,.X 71 0 67,.X 72 1 67,.M 19 71,.M 20 72] [0,5,6,7,8,9,10,11,12,13,14,15,16,17,18,19,20] (.seq (.p [.M 73 0,.H 74 f10 73,.H 75 f11 74,.M 76 0,.H 77 f12 76,.B 78 .eql 75 77,.M 79 78,.V 80 79 true 6,.W 81 79 true f11 80,.V 82 79 true 14,.w 83 79 true (.bin .eql (.t 81) (.t 82)),.P 84 79 83,.M 85 84,.V 86 85 true 5,.V 87 85 true 13,.Y 88 85 true f13 86 87,.P 89 85 88,.M 90 89,.V 91 90 true 8,.W 92 90 true f11 91,.V 93 90 true 16,.w 94 90 true (.bin .eql (.t 92) (.t 93)),.P 95 90 94,.M 96 95,.V 97 96 true 7,.V 98 96 true 15,.w 99 96 true (.bin .eql (.t 97) (.t 98)),.P 100 96 99,.M 101 100,.V 102 101 true 10,.W 103 101 true f11 102,.V 104 101 true 18,.w 105 101 true (.bin .eql (.t 103) (.t 104)),.P 106 101 105,.M 107 106,.V 108 107 true 9,.V 109 107 true 17,.Y 110 107 true f13 108 109,.P 111 107 110,.M 112 111,.V 113 112 true 12,.W 114 112 true f11 113,.V 115 112 true 20,.w 116 112 true (.bin .eql (.t 114) (.t 115)),.P 117 112 116,.M 118 117,.V 119 118 true 11,.V 120 118 true 19,.w 121 118 true (.binb .eql (.t 119) (.t 120)),.P 122 118 121,.M 4 122]) .ret)))))))))))
theorem xZ(hΓ:Holds P Γ){f fk fd tE:Nat}(hk:Γ fk=.dat false (Vh tE))(hd:Γ fd=.dat true Vl)(hc:check P f=some (12,(wj fk fd).strip,[.tmp 2,.tmp 3])):Sound P f (.dat false (Yi tE)):=by
 refine Qa hc (kaf tE) hΓ (λargs K hcl hfi hG=>?_);match args,hG with
 | [a],hG=>
  obtain⟨l,rfl,hw,hrl,hK⟩:=hG;refine⟨by simp,?_⟩
  by_cases h0:chkB l=0
  .obtain⟨i1,i2,i3⟩:=Qm h0 hw;rw [if_pos h0,h0,Ud]at hK;have e0:=Ud tE;simp only [go_sem,wj,hk,hd,h0,e0,ms];exact⟨hw,hrl,hw,i1,by omega,hK⟩
  .have e0:=Vd tE h0;rw [if_neg h0,e0]at hK;simp only [go_sem,wj,hk,hd,e0,ms];exact⟨hw,hrl,hK⟩
theorem zae(hΓ:Holds P Γ){f fv fw f1 f2 f3 f4 g1 g2 g3 g4 fk fn gk fq tE:Nat}(hv:Γ fv=.dat false Ui)(hw:Γ fw=.dat false Vn)(h1' : Γ f1=.dat false (Zt tE))(h2' : Γ f2=.dat false (Yi tE))(h3' : Γ f3=.dat false (Xy tE))(h4' : Γ f4=.dat false (qu tE))
  (r1' : Γ g1=.dat false jt) (r2' : Γ g2=.dat false ui) (r3' : Γ g3=.dat false qz) (r4' : Γ g4=.dat false Yt) (hk:Γ fk=.dat false (Vh tE)) (hn:Γ fn=.dat true (Zz tE)) (hgk:Γ gk=.dat false Wh) (hq:Γ fq=.dat false jk)
  (hc:check P f=some (123,(Zc fv fw f1 f2 f3 f4 g1 g2 g3 g4 fk fn gk fq).strip,[.tmp 4])):Sound P f (.dat true Zn):=by
 refine Qa hc Qan hΓ (λargs K hcl hfi hG=>?_);match args,hG with
 | [a,b],hG=>
  obtain⟨p,rfl,hwp,q,rfl,hwq,⟨hlp,hrp⟩,⟨hlq,hrq⟩,hK⟩:=hG;refine⟨by simp,?_⟩
  have g1:∀l∈[p,q],l.length<=10000000/\∀t∈l,rl t.2.2<=4294967296:=λl hl=>by
   simp only [List.mem_cons,List.not_mem_nil,or_false]at hl;rcases hl with rfl | rfl
   .exact⟨by omega,λt ht=>Nat.le_trans (hrp t ht) (by decide)⟩
   .exact⟨by omega,λt ht=>Nat.le_trans (hrq t ht) (by decide)⟩
  have g2:∀l∈[p,q],∀t∈l,WLM t:=λl hl=>by
   simp only [List.mem_cons,List.not_mem_nil,or_false]at hl;rcases hl with rfl | rfl <;> assumption
  cases h1:[p,q].all shortM with
  | false=>
   simp only [go_sem,Zc,hv,hw,ms,h1];exact⟨g2,g1,hK⟩
  | true=>
  obtain⟨lp,rp,sp⟩:=ZaG (List.all_eq_true.1 h1 p (by simp)) hwp
  obtain⟨lq,rq,sq⟩:=ZaG (List.all_eq_true.1 h1 q (by simp)) hwq
  obtain⟨X1,hX1⟩:∃X,bres (mkC p) (nf (p.map mv))=X:=⟨_,rfl⟩;have o1:=Ybs (c:=mkC p) (X:=nf (p.map mv)) (n:=1000000) λh=>by
   refine⟨(zt (yb0 h)).ins,?_⟩;have:=WaK (p.map mv);omega
  rw [hX1]at o1;obtain⟨w1,y1,l1⟩:=o1;have y1' : ∀t∈X1,rl t.2.2<=4294967296:=λt ht=>Nat.le_trans (y1 t ht) (by decide)
  have p9:∀t∈p,rl t.2.2<=1000000000:=λt ht=>Nat.le_trans (rp t ht) (by decide)
  have q9:∀t∈q,rl t.2.2<=1000000000:=λt ht=>Nat.le_trans (rq t ht) (by decide)
  have p6:∀t∈p,rl t.2.2<=1000000:=λt ht=>Nat.le_trans (rp t ht) (by decide)
  have q6:∀t∈q,rl t.2.2<=1000000:=λt ht=>Nat.le_trans (rq t ht) (by decide)
  have p4:∀t∈p,rl t.2.2<=4294967296:=λt ht=>Nat.le_trans (rp t ht) (by decide)
  have q4:∀t∈q,rl t.2.2<=4294967296:=λt ht=>Nat.le_trans (rq t ht) (by decide)
  have sp9:sz (p.map mv)<=1000000000:=by omega
  obtain⟨X2,hX2⟩:∃X,(if chkB p=0 then mcs (nf ((topM p).map mv)) else [])=X:=⟨_,rfl⟩
  have hX2' : (if chkB p=0 then topM p else [])=X2:=by
   rw [<-hX2];by_cases h0:chkB p=0
   .rw [if_pos h0,if_pos h0,ubz h0 hwp]
   .rw [if_neg h0,if_neg h0]
  have hsub:∀t∈X2,t∈p:=λt ht=>by
   rw [<-hX2']at ht;split at ht
   .exact(List.mem_filter.1 ht).1
   .simp at ht
  have w2:∀t∈X2,WLM t:=λt ht=>hwp t (hsub t ht);have y2:∀t∈X2,rl t.2.2<=4294967296:=λt ht=>p4 t (hsub t ht);have l2:X2.length<=1000000:=by
   rw [<-hX2'];split
   .have:(topM p).length<=p.length:=List.length_filter_le _ _;omega
   .simp
  obtain⟨D,hD⟩:∃D,(if chkB p=0 then degM p else 0)=D:=⟨_,rfl⟩
  obtain⟨S,hS⟩:∃S,(decide (chk2 p q=0) && smM p q)=S:=⟨_,rfl⟩;simp only [go_sem,Zc,hv,hw,h1',h2',h3',h4',r1',r2',r3',r4',hk,hn,hgk,hq,ms,h1,hX1,hX2,hX2',hD,hS];refine⟨g2,g1,?_⟩;repeat refine q_Wr ?_
  have e:(S == S)=true:=by cases S <;> rfl
  rw [e];exact hK
end Go.Abs
end
section
namespace Go.Num
open Go.Abs
def accB(l:BQ):BQ:=nfo l.reverse
theorem ua5(l:BQ)(t:MQ):accB (l++[t])=ins t (accB l):=by unfold accB;rw [List.reverse_append];rfl
theorem jaZ{l:BQ}(h:InQ l):InQ (accB l):=ka0 λt ht=>h t (by simpa using ht)
theorem YaW(l:BQ):sz (accB l)<=sz l:=by
 have h1:=jbl l.reverse;rw [VaS (List.reverse_perm l)]at h1;exact h1
theorem uao(l:BQ):(accB l).length<=l.length:=by
 have h1:=ubt l.reverse;rw [List.length_reverse]at h1;exact h1
theorem Ybr{l:BQ}(h:InQ l):(accB l).filter nz=nf l:=by
 show nf l.reverse=nf l;exact xbr (List.reverse_perm l) λt ht=>h t (by simpa using ht)
def befB(t:MQ):BQ->Nat
 | []=>0
 | u::p=>if kq u<kq t then befB t p+1 else 0
theorem vaa{t:MQ}:∀{p:BQ} {i:Nat} {u:MQ},p[i]?=some u->i<=befB t p->(kq u<kq t->i+1<=befB t p)/\(¬kq u<kq t->i=befB t p)
 | v::p,0,u,h,hi=>by
  simp only [List.getElem?_cons_zero,Option.some.injEq]at h;subst h;simp only [befB];exact⟨λh=>by rw [if_pos h];omega,λh=>by rw [if_neg h]⟩
 | v::p,i+1,u,h,hi=>by
  simp only [List.getElem?_cons_succ]at h;simp only [befB]at hi ⊢;by_cases hv:kq v<kq t
  .rw [if_pos hv]at hi ⊢;have:=vaa h (by omega:i<=befB t p)
   exact⟨λh=>by have:=this.1 h;omega,λh=>by have:=this.2 h;omega⟩
  .rw [if_neg hv]at hi;omega
theorem VaZ(t:MQ):∀p:BQ,befB t p<=p.length
 | []=>Nat.le_refl _
 | u::p=>by
  have:=VaZ t p;simp only [befB,List.length_cons];split <;> omega
theorem wam{t:MQ}:∀{p:BQ},(∀u,p[befB t p]?=some u->kq u≠kq t)->ins t p=p.take (befB t p)++t::p.drop (befB t p)
 | [],_=>rfl
 | u::p,h=>by
  simp only [befB,ins]at h ⊢;by_cases hu:kq u<kq t
  .simp only [if_pos hu,List.getElem?_cons_succ]at h ⊢;rw [if_neg (by omega),if_neg (by omega),wam h];rfl
  .simp only [if_neg hu,List.getElem?_cons_zero,Option.some.injEq,forall_eq']at h ⊢;rw [if_pos (by omega)];rfl
theorem jaO{t u:MQ}:∀{p:BQ},p[befB t p]?=some u->kq u=kq t->ins t p=p.set (befB t p) (u.1,u.2.1,u.2.2+t.2.2)
 | [],h,_=>by simp at h
 | v::p,h,e=>by
  simp only [befB,ins]at h ⊢;by_cases hu:kq v<kq t
  .simp only [if_pos hu,List.getElem?_cons_succ]at h ⊢;rw [if_neg (by omega),if_neg (by omega),jaO h e];rfl
  .simp only [if_neg hu,List.getElem?_cons_zero,Option.some.injEq]at h ⊢;subst h;rw [if_neg (by omega),if_pos e.symm];rfl
theorem xbs{p:BQ}{i:Nat}{u:MQ}(h:p[i]?=some u):(mcs p).getD i mo0=mcan u:=by
 unfold mcs;rw [List.getD_eq_getElem?_getD,List.getElem?_map,h];rfl
theorem YaG(p:BQ):(mcs p).length=p.length:=List.length_map _
theorem zbf{p:BQ}{i:Nat}{u:MQ}(c:Rat):(mcs p).set i ((mcan u).1,(mcan u).2.1,rcan (rv (mcan u).2.2+c))=mcs (p.set i (u.1,u.2.1,u.2.2+c)):=by
 have e:rv (mcan u).2.2=u.2.2:=zk _;rw [e];unfold mcs;rw [List.map_set];rfl
theorem kbe{p:BQ}{x:Mo}{i:Nat}(h1:((mcs p).take i).length=i):((mcs p).take i++[(x.1,x.2.1,rcan (rv x.2.2+0))]).take (i+1)++(mcs p).drop i=mcs (p.take i++mv x::p.drop i):=by
 rw [List.take_of_length_le (by simp only [List.length_append,List.length_cons,List.length_nil];omega),Yp]
 simp only [mcs,mcan,mv,Rat.add_zero,List.map_take,List.map_drop,List.map_cons,List.append_assoc,List.singleton_append]
theorem XaJ{f:Mo->Bool}{l:List Mo}{k:Nat}{x:Mo}(hx:l[k]?=some x):(l.take (k+1)).filter f=(l.take k).filter f++if f x=true then [x] else []:=by
 rw [List.take_add_one,hx,List.filter_append];cases h:f x <;> simp [h]
end Go.Num
namespace Go.Abs
open Go.Num
variable {P:Program} {Γ:Nat->Spec}
theorem XV{a b:Nat}(ha:a<pinA/\b<pinA){v:Nat->AV}{h:Nat->HB}{l l' : List (Nat×AV)}{k k' : List (Nat×HB)}(hl:swL a b l=l')(hk:swK a b k=k')(hh:okS h (mkH k) v l/\okH h (mkH k) k):Weak ⟨v,h⟩ ⟨mkV l',mkH k'⟩:=by
 subst hl;subst hk;exact zas ha hh
theorem xbb(a b ver z:Nat)(l:List Mo)(t:Bool):swB a b ⟨ver,some ⟨l.map mC,z,t⟩⟩=⟨ver,some ⟨l.map mC,z,t⟩⟩:=by
 unfold swB;simp only [Option.map_some,HB.mk.injEq,Option.some.injEq,Blk.mk.injEq,and_true,true_and];rw [List.map_map];exact List.map_congr_left λj _=>rfl
theorem Qam{p:BQ}{x:Mo}{i:Nat}(h1:((mcs p).take i).length=i):(((mcs p).take i).map mC++[[C.lit (.int .i64 x.1),C.lit (.int .i64 x.2.1),cb (rcan (rv x.2.2+0)),cn (rcan (rv x.2.2+0)),cd (rcan (rv x.2.2+0))]]).take (i+1)++((mcs p).drop i).map mC=(mcs (p.take i++mv x::p.drop i)).map mC:=by
 rw [<-kbe h1,vbK,XaR,uaW]
def ji(f0 f1 f2:Nat):AC:=(.o [.m 2 (.c (.one .emp))] [0] (.o [.m 3 (.c (.one .emp))] [0,3] (.f (.o [.M 11 0,.Z 12 11,.N 13 0] [3,11,12,13] (.block 0 (.loop (.o [.B 14 .lss 13 12] [3,11,12,13,14] (.f (.cond (.t 14) .skip (.exit 0)) [3,11,12,13] (.f (.block 1 (.o [.J 15 5 11 13,.L 16 5 15,.G 5 [(.lit (.int .i64 0)),(.lit (.int .i64 0)),.z,.emp,.emp],.S 5 5 16] [3,5,11,12,13] (.o [.N 6 0] [3,5,6,11,12,13] (.f (.block 2 (.loop (.f (.f (.y [.M 17 6,.M 18 3,.Z 19 18,.B 20 .lss 17 19,.M 21 20,.V 22 21 true 3,.V 23 21 true 6,.w 24 21 true (.idx 5 (.t 22) (.t 23)),.U 25 21 true 5 true 24,.U 26 21 true 5 true 5,.Y 27 21 true f0 25 26,.P 28 21 27]) [3,5,6,11,12,13,28] (.cond (.t 28) .skip (.exit 2))) [3,5,6,11,12,13] (.block 3 (.p [.M 29 6,.I 30 .add 29 1,.M 6 30]))))) [3,5,6,11,12,13] (.f (.f (.y [.M 31 6,.M 32 3,.Z 33 32,.B 34 .lss 31 33,.M 35 34,.V 36 35 true 3,.V 37 35 true 6,.w 38 35 true (.idx 5 (.t 36) (.t 37)),.T 39 35 true 0 38,.U 40 35 true 1 false 39,.T 41 35 true 0 5,.U 42 35 true 1 false 41,.w 43 35 true (.bin .eql (.t 40) (.t 42)),.P 44 35 43,.M 45 44,.V 46 45 true 3,.V 47 45 true 6,.w 48 45 true (.idx 5 (.t 46) (.t 47)),.T 49 45 true 1 48,.U 50 45 true 1 false 49,.T 51 45 true 1 5,.U 52 45 true 1 false 51,.w 53 45 true (.bin .eql (.t 50) (.t 52)),.P 54 45 53]) [3,5,6,11,12,13,54] (.cond (.t 54) (.seq (.y [.M 55 3,.M 56 6,.M 57 3,.M 58 6,.J 59 5 57 58,.A 60 2 59,.L 61 3 60,.A 62 2 5,.L 63 3 62,.D 64 f1 61 63,.J 65 5 55 56,.A 66 2 65,.S 3 66 64]) (.exit 1)) .skip)) [3,5,6,11,12,13] (.o [.m 67 (.c (.one .emp)),.M 68 3,.M 69 6,.u 70 (.sl 5 (.t 68) none (some (.t 69))),.u 71 (.app0 5 (.t 67) (.t 70)),.M 7 71] [3,5,6,7,11,12,13] (.f (.y [.M 72 7,.A 73 0 5,.F 74 1 73,.A 75 1 5,.F 76 1 75,.A 77 2 5,.L 78 3 77,.u 79 (.build [.z [.z,.emp,.emp]]),.D 80 f1 78 79,.u 81 (.build [.x 1 (.t 74),.x 1 (.t 76),.x 3 (.t 80)]),.u 82 (.row 5 [[.x 5 (.t 81)]]),.u 83 (.app 5 (.t 72) (.t 82)),.M 7 83]) [3,6,7,11,12,13] (.p [.M 84 7,.M 85 3,.M 86 6,.u 87 (.sl 5 (.t 85) (some (.t 86)) none),.u 88 (.app 5 (.t 84) (.t 87)),.M 3 88])))))))) [3,11,12,13] (.p [.I 89 .add 13 1,.M 13 89]))))))) [3] (.o [.m 8 (.c (.one .emp))] [3,8] (.f (.o [.M 90 3,.Z 91 90,.N 92 0] [8,90,91,92] (.block 4 (.loop (.o [.B 93 .lss 92 91] [8,90,91,92,93] (.f (.cond (.t 93) .skip (.exit 4)) [8,90,91,92] (.f (.block 5 (.o [.J 94 5 90 92,.L 95 5 94,.G 10 [(.lit (.int .i64 0)),(.lit (.int .i64 0)),.z,.emp,.emp],.S 5 10 95] [8,10,90,91,92] (.o [.A 96 2 10,.L 97 3 96,.H 98 f2 97,.I 99 .neq 98 0] [8,10,90,91,92,99] (.cond (.t 99) (.p [.M 100 8,.L 101 5 10,.u 102 (.row 5 [[.x 5 (.t 101)]]),.u 103 (.app 5 (.t 100) (.t 102)),.M 8 103]) .skip)))) [8,90,91,92] (.p [.I 104 .add 92 1,.M 92 104]))))))) [8] (.seq (.p [.M 105 8,.M 2 105]) .ret))))))
set_option maxHeartbeats 1000000 in
theorem waJ(hΓ:Holds P Γ){f fb fa fs m:Nat}(hm:m<=1000000000)(hb:Γ fb=.dat false Zx)(ha:Γ fa=.dat false Yl)(hs:Γ fs=.dat true ke)(hc:check P f=some (106,(ji fb fa fs).strip,[.tmp 2])):Sound P f (.dat false (Xo m)):=by
 refine Qa hc (uac m) hΓ (λargs K hcl hfi hG=>?_);match args,hG with
 | [a],hG=>
  obtain⟨l,rfl,hw,hok,hlm,hsz,hK⟩:=hG;refine⟨by simp,?_⟩
  have hin:InQ (l.map mv):=λt ht=>by
   obtain⟨x,hx,rfl⟩:=List.mem_map.1 ht;exact(hok x hx).1
  have hink:∀k,InQ ((l.take k).map mv):=λk t ht=>by
   obtain⟨x,hx,rfl⟩:=List.mem_map.1 ht;exact(hok x (List.mem_of_mem_take hx)).1
  have hszk:∀k,sz ((l.take k).map mv)<=1000000000:=λk=>by
   have h1:=ZR (l.map mv) k;rw [List.map_take];omega
  simp only [go_sem,ji];intro _;refine ja (λk:Nat=>if k=0 then ⟨mkV [(3,.one .emp),(11,msA l),(12,.one (.lit (.int .i64 l.length))),(13,.one (.lit (.int .i64 k)))],mkH []⟩
    else ⟨mkV [(3,.one (.own 3 1 5 0 (accB ((l.take k).map mv)).length)),(11,msA l),(12,.one (.lit (.int .i64 l.length))),(13,.one (.lit (.int .i64 k)))],mkH [(3,⟨1,some ⟨(mcs (accB ((l.take k).map mv))).map mC,5,true⟩⟩)]⟩) (λk=>k<=l.length) (λk=>l.length-k) 0 ?_ ?_ ?_
  .exact qa (by simp [bitvec_to_nat,msA,ms]) trivial
  .exact Nat.zero_le _
  .intro k hk;by_cases hlt:k<l.length
   .obtain⟨x,hx⟩:∃x,l.getD k mo0=x:=⟨_,rfl⟩;have hx0:=getDm hlt hx;have hxm:=List.mem_of_getElem? hx0;have hwx:=hw x hxm;have hwx3:=hwx.2.2;obtain⟨hix,hrx⟩:=hok x hxm;have rz0:=rz_0;have hnext:accB ((l.take (k+1)).map mv)=ins (mv x) (accB ((l.take k).map mv)):=by rw [zI hx0,ua5]
    by_cases hk0:k=0
    .subst hk0;have e0:accB ((l.take 0).map mv)=[]:=rfl;rw [e0]at hnext;simp only [go_sem,hlt,hx,mC,Int.lt_irrefl];refine Wbf 0 [3,5,6,11,12,13] [5] (by simp [go_sem]) ?_
     simp only [go_sem,hlt,hx,mC,Int.lt_irrefl,ha];refine⟨by omega,by simp,hwx3,hrx,by omega,λe he=>by rw [List.mem_singleton.1 he];rfl,by omega,by simp,by decide,1,?_,by omega,by omega⟩
     have hq:accB ((l.take 1).map mv)=[mv x]:=hnext;rw [if_neg (by decide),hq]
     exact XV (a:=71) (b:=3) (l:=[(3,.one (.own 71 1 5 0 1)),(11,msA l),(12,.one (.lit (.int .i64 l.length))),(13,.one (.lit (.int .i64 (1:Nat))))]) (k:=[(71,⟨1,some ⟨(mcs [mv x]).map mC,5,true⟩⟩)]) ⟨by decide,by decide⟩ rfl (by simp only [YT,QaM,xbb];rfl) ⟨by simp [bitvec_to_nat,msA,ms],Jd (by simp [mcs,mcan,mv,mC,Rat.add_zero]),trivial⟩
    .obtain⟨p,hp⟩:∃p,accB ((l.take k).map mv)=p:=⟨_,rfl⟩;have hpi:InQ p:=by rw [<-hp];exact jaZ (hink k)
     have hps:sz p<=1000000000:=by rw [<-hp];exact Nat.le_trans (YaW _) (hszk k)
     have hpl:p.length<=k:=by
      rw [<-hp];have:=uao ((l.take k).map mv);rw [List.length_map,List.length_take]at this;omega
     have hml:=YaG p;rw [hp]at hnext;have hbl:=VaZ (mv x) p;simp only [go_sem,hlt,hx,mC,hk0,hp];refine ja (λi:Nat=>⟨mkV [(3,.one (.own 3 1 5 0 p.length)),(5,.one (.ptr 5 1 0 0)),(6,.one (.lit (.int .i64 i))),(11,msA l),(12,.one (.lit (.int .i64 l.length))),(13,.one (.lit (.int .i64 k)))],mkH [(3,⟨1,some ⟨(mcs p).map mC,5,true⟩⟩),(5,⟨1,some ⟨[mC x],5,true⟩⟩)]⟩) (λi=>i<=befB (mv x) p) (λi=>p.length-i) 0 ?_ ?_ ?_
     .exact qa (by simp [bitvec_to_nat,msA,ms]) ⟨Jd rfl,Jd (l':=[x]) rfl,trivial⟩
     .exact Nat.zero_le _
     .intro i hi;have hil0:i<=p.length:=Nat.le_trans hi hbl;have hti:(List.take i (mcs p)).length=i:=by rw [List.length_take];omega
      have htd:List.take (p.length-i) (List.drop i (mcs p))=List.drop i (mcs p):=List.take_of_length_le (by rw [List.length_drop];omega)
      have hdl:(List.drop i (mcs p)).length=p.length-i:=by rw [List.length_drop];omega
      have hlen:(p.take i++mv x::p.drop i).length=i+1+(p.length-i):=by
       rw [List.length_append,List.length_take,List.length_cons,List.length_drop];omega
      by_cases hil:i<p.length
      .obtain⟨u,hu⟩:∃u,p[i]?=some u:=⟨_,List.getElem?_eq_getElem hil⟩;have hum:=List.mem_of_getElem? hu;have hui:inM (mcan u):=hpi u hum;have hwu:WLM (mcan u):=uH (hpi u hum);have hgd:=xbs hu;have hst:=vaa hu hi;have hkk:(kM (mcan u)<kM x)=(kq u<kq (mv x)):=rfl;by_cases hq:kq u<kq (mv x)
       .simp only [go_sem,hil,hgd,hml,hb,mC,hkk,hq];refine⟨by omega,hwu,hwx,hui,hix,by omega,i+1,?_,hst.1 hq,by omega⟩
        exact qa (by simp [bitvec_to_nat,msA,ms]) ⟨Jd rfl,Jd (l':=[x]) rfl,trivial⟩
       .have hib:=hst.2 hq;have hru:rl (mcan u).2.2<=4294967296:=by
         have h3:=Uam hum;have h4:rl (mcan u).2.2=rz u.2.2:=rfl;omega
        have hwu3:=hwu.2.2;by_cases e1:(mcan u).1=x.1/\(mcan u).2.1=x.2.1
        .have d1:=decide_eq_true e1.1;have d2:=decide_eq_true e1.2;have hkq:kq u=kq (mv x):=(ja0 (t:=mv x) (hpi u hum) (Xa6 hix)).2 e1;have hset:=jaO (t:=mv x) (by rw [<-hib];exact hu) hkq
         simp only [go_sem,hil,hgd,hml,hb,mC,hkk,hq,d1,d2,ha];refine⟨by omega,hwu,hwx,hui,hix,by omega,hwu3,hwx3,hru,hrx,by omega,k+1,?_,by omega,by omega⟩
         rw [if_neg (by omega),hnext,hset,<-hib]
         exact qa (by simp [bitvec_to_nat,msA,ms]) ⟨Jd (by rw [zbf];rfl),trivial⟩
        .have hkq:kq u≠kq (mv x):=λh=>e1 ((ja0 (t:=mv x) (hpi u hum) (Xa6 hix)).1 h);have hnew:=wam (t:=mv x) (p:=p) (λv hv=>by
          rw [<-hib,hu]at hv;simp only [Option.some.injEq]at hv;subst hv;exact hkq)
         rw [<-hib]at hnew;by_cases e2:(mcan u).1=x.1
         .have d1:=decide_eq_true e2;have d2:=decide_eq_false (λh=>e1 ⟨e2,h⟩:¬(mcan u).2.1=x.2.1);simp only [go_sem,hil,hgd,hml,hb,mC,hkk,hq,d1,d2,ha,hti,htd,hdl];refine⟨by omega,hwu,hwx,hui,hix,by omega,by omega,by omega,by omega,hwx3,hrx,by omega,λe he=>by rw [List.mem_singleton.1 he];rfl,by omega,by omega,by omega,⟨by rw [List.length_append,List.length_map,hti];exact Nat.le_refl _,by omega⟩,by omega,k+1,?_,by omega,by omega⟩
          rw [if_neg (by omega),hnext,hnew,hlen]
          exact XV (a:=71) (b:=3) (l:=[(3,.one (.own 71 1 5 0 (i+1+(p.length-i)))),(11,msA l),(12,.one (.lit (.int .i64 l.length))),(13,.one (.lit (.int .i64 (k+1:Nat))))]) (k:=[(71,⟨1,some ⟨(mcs (p.take i++mv x::p.drop i)).map mC,5,true⟩⟩)]) ⟨by decide,by decide⟩ rfl (by simp only [YT,QaM,xbb];rfl) ⟨by simp [bitvec_to_nat,msA,ms],Jd (Qam hti),trivial⟩
         .have d1:=decide_eq_false e2;simp only [go_sem,hil,hgd,hml,hb,mC,hkk,hq,d1,ha,hti,htd,hdl];refine⟨by omega,hwu,hwx,hui,hix,by omega,by omega,by omega,by omega,hwx3,hrx,by omega,λe he=>by rw [List.mem_singleton.1 he];rfl,by omega,by omega,by omega,⟨by rw [List.length_append,List.length_map,hti];exact Nat.le_refl _,by omega⟩,by omega,k+1,?_,by omega,by omega⟩
          rw [if_neg (by omega),hnext,hnew,hlen]
          exact XV (a:=71) (b:=3) (l:=[(3,.one (.own 71 1 5 0 (i+1+(p.length-i)))),(11,msA l),(12,.one (.lit (.int .i64 l.length))),(13,.one (.lit (.int .i64 (k+1:Nat))))]) (k:=[(71,⟨1,some ⟨(mcs (p.take i++mv x::p.drop i)).map mC,5,true⟩⟩)]) ⟨by decide,by decide⟩ rfl (by simp only [YT,QaM,xbb];rfl) ⟨by simp [bitvec_to_nat,msA,ms],Jd (Qam hti),trivial⟩
      .have hib:i=befB (mv x) p:=by omega
       have hnew:=wam (t:=mv x) (p:=p) (λv hv=>by
        rw [<-hib,List.getElem?_eq_none (by omega)]at hv;simp at hv)
       rw [<-hib]at hnew;simp only [go_sem,hil,hml,ha,hb,mC,hti,htd,hdl];refine⟨by omega,by omega,by omega,by omega,by omega,hwx3,hrx,by omega,λe he=>by rw [List.mem_singleton.1 he];rfl,by omega,by omega,by omega,⟨by rw [List.length_append,List.length_map,hti];exact Nat.le_refl _,by omega⟩,by omega,k+1,?_,by omega,by omega⟩
       rw [if_neg (by omega),hnext,hnew,hlen]
       exact XV (a:=71) (b:=3) (l:=[(3,.one (.own 71 1 5 0 (i+1+(p.length-i)))),(11,msA l),(12,.one (.lit (.int .i64 l.length))),(13,.one (.lit (.int .i64 (k+1:Nat))))]) (k:=[(71,⟨1,some ⟨(mcs (p.take i++mv x::p.drop i)).map mC,5,true⟩⟩)]) ⟨by decide,by decide⟩ rfl (by simp only [YT,QaM,xbb];rfl) ⟨by simp [bitvec_to_nat,msA,ms],Jd (Qam hti),trivial⟩
   .have ek:l.take k=l:=List.take_of_length_le (by omega)
    have hfin:(mcs (accB (l.map mv))).filter nzM=mcs (nf (l.map mv)):=by rw [WN,Ybr hin]
    by_cases hk0:k=0
    .subst hk0;have hl0:l=[]:=List.length_eq_zero_iff.1 (by omega)
     subst hl0;simp only [go_sem,hlt];refine Wbf 0 [8,90,91,92] [] (by simp [go_sem]) ?_
     simp only [go_sem,Int.lt_irrefl];exact hK
    .obtain⟨q,hq⟩:∃q,mcs (accB (l.map mv))=q:=⟨_,rfl⟩;have hql:(accB (l.map mv)).length=q.length:=by rw [<-hq,YaG]
     have hqb:q.length<=m:=by
      have:=uao (l.map mv);rw [List.length_map]at this;omega
     have hqw:∀t∈q,WLM t/\rl t.2.2<=4294967296:=λt ht=>by
      rw [<-hq]at ht;obtain⟨u,hu,rfl⟩:=List.mem_map.1 ht;refine⟨uH (jaZ hin u hu),?_⟩;have h3:=Uam hu;have h4:rl (mcan u).2.2=rz u.2.2:=rfl;have h5:=YaW (l.map mv);omega
     rw [hq]at hfin;rw [<-hfin]at hK;simp only [go_sem,hlt,hk0,ek,hq,hql];intro _;refine ja (λj:Nat=>if ((q.take j).filter nzM).length=0 then ⟨mkV [(8,.one .emp),(90,.one (.own 3 1 5 0 q.length)),(91,.one (.lit (.int .i64 q.length))),(92,.one (.lit (.int .i64 j)))],mkH [(3,⟨1,some ⟨q.map mC,5,true⟩⟩)]⟩
       else ⟨mkV [(8,.one (.own 103 1 5 0 ((q.take j).filter nzM).length)),(90,.one (.own 3 1 5 0 q.length)),(91,.one (.lit (.int .i64 q.length))),(92,.one (.lit (.int .i64 j)))],mkH [(3,⟨1,some ⟨q.map mC,5,true⟩⟩),(103,⟨1,some ⟨((q.take j).filter nzM).map mC,5,true⟩⟩)]⟩) (λj=>j<=q.length) (λj=>q.length-j) 0 ?_ ?_ ?_
     .exact qa (by simp [bitvec_to_nat]) ⟨Jd rfl,trivial⟩
     .exact Nat.zero_le _
     .intro j hj;by_cases hjl:j<q.length
      .obtain⟨y,hy⟩:∃y,q.getD j mo0=y:=⟨_,rfl⟩;have hy0:=getDm hjl hy;have hym:=List.mem_of_getElem? hy0;obtain⟨hwy,hry⟩:=hqw y hym;have hwy3:=hwy.2.2;have hta:=XaJ (f:=nzM) hy0;have hnl:((q.take j).filter nzM).length<=j:=Nat.le_trans (List.length_filter_le _ _) (by rw [List.length_take];omega)
       obtain⟨n,hn⟩:∃n,((q.take j).filter nzM).length=n:=⟨_,rfl⟩;rw [hn]at hnl ⊢;by_cases hz:ordQ (rv y.2.2) 0=0
       .have hnz:¬nzM y=true:=by unfold nzM;rw [Ve]at hz;simp [hz]
        rw [if_neg hnz,List.append_nil]at hta;by_cases hn0:n=0
        .rw [if_pos hn0];simp only [go_sem,hjl,hy,hs,mC,hz,hn0];repeat first | refine q_Wk ?_ | intro _
         refine⟨j+1,?_,by omega,by omega⟩
         rw [hta,hn,if_pos hn0];exact qa (by simp [bitvec_to_nat]) ⟨Jd rfl,trivial⟩
        .rw [if_neg hn0];simp only [go_sem,hjl,hy,hs,mC,hz,hn0,hn];repeat first | refine q_Wk ?_ | intro _
         refine⟨j+1,?_,by omega,by omega⟩
         rw [hta,hn,if_neg hn0];exact qa (by simp [bitvec_to_nat]) ⟨Jd rfl,Jd rfl,trivial⟩
       .have hnz:nzM y=true:=by unfold nzM;rw [Ve]at hz;simp [hz]
        rw [if_pos hnz]at hta;have hall:∀e∈[[C.lit (.int .i64 y.1),C.lit (.int .i64 y.2.1),cb y.2.2,cn y.2.2,cd y.2.2]],e.length=5:=λe he=>by rw [List.mem_singleton.1 he];rfl
        by_cases hn0:n=0
        .rw [if_pos hn0];have hnil:=List.length_eq_zero_iff.1 (hn.trans hn0);simp only [go_sem,hjl,hy,hs,mC,hz,hn0];repeat first | refine q_Wk ?_ | intro _
         refine⟨j+1,?_,by omega,by omega⟩
         rw [hta,List.length_append,hn,if_neg (by simp),hnil,hn0]
         exact qa (by simp [bitvec_to_nat]) ⟨Jd rfl,Jd (by simp [mC]),trivial⟩
        .rw [if_neg hn0];simp only [go_sem,hjl,hy,hs,mC,hz,hn0,hn];repeat first | refine q_Wk ?_ | intro _
         refine⟨j+1,?_,by omega,by omega⟩
         rw [hta,List.length_append,hn,if_neg (by simp)]
         exact qa (by simp [bitvec_to_nat]) ⟨Jd rfl,Jd (by simp [mC]),trivial⟩
      .have et:q.take j=q:=List.take_of_length_le (by omega)
       rw [et];by_cases hn0:(q.filter nzM).length=0
       .rw [if_pos hn0];have hnil:=List.length_eq_zero_iff.1 hn0;rw [hnil]at hK;simp only [go_sem,hjl];exact hK
       .rw [if_neg hn0];simp only [go_sem,hjl];exact hK
end Go.Abs
end
section
namespace Go.Abs
open Go.Num
variable {P:Program} {Γ:Nat->Spec}
def Vr:AC:=(.o [.m 2 (.c (.one .emp))] [0] (.o [.M 4 0,.Z 5 4,.M 3 5] [0,3] (.f (.block 0 (.loop (.f (.o [.M 6 3,.I 7 .gtr 6 0,.M 8 7,.V 9 8 true 0,.V 10 8 true 3,.w 11 8 true (.bin .sub (.t 10) (.i 1)),.w 12 8 true (.idx 1 (.t 9) (.t 11)),.U 13 8 true 1 false 12,.w 14 8 true (.bin .eql (.t 13) (.c (.one (.lit (.int .u32 0))))),.P 15 8 14] [0,3,15] (.cond (.t 15) .skip (.exit 0))) [0,3] (.block 1 (.p [.M 16 3,.I 17 .sub 16 1,.M 3 17]))))) [0,3] (.f (.o [.M 18 3,.I 19 .eql 18 0] [0,3,19] (.cond (.t 19) (.seq (.p [.m 2 (.c (.one .emp))]) .ret) .skip)) [0,3] (.seq (.p [.m 20 (.c (.one .emp)),.M 21 0,.M 22 3,.u 23 (.sl 1 (.t 21) none (some (.t 22))),.u 24 (.app0 1 (.t 20) (.t 23)),.M 2 24]) .ret)))))
def zl:AC:=(.o [.m 4 (.c (.one (.lit (.int .u64 0))))] [0,1] (.f (.o [.M 5 1,.M 6 0,.Z 7 6,.B 8 .lss 5 7] [0,1,8] (.cond (.t 8) (.seq (.p [.M 9 0,.M 10 1,.J 11 1 9 10,.F 12 1 11,.u 13 (.conv .u64 (.t 12)),.M 4 13]) .ret) .skip)) [] (.seq (.p [.m 4 (.c (.one (.lit (.int .u64 0))))]) .ret)))
def Xp(f0 f1:Nat):AC:=(.o [.m 4 (.c (.one .emp))] [0,1] (.o [.M 8 0,.Z 9 8,.M 10 1,.Z 11 10,.u 12 (.max [(.t 9),(.t 11)]),.I 13 .add 12 1,.u 14 (.mk 1 [(.lit (.int .u32 0))] (.t 13) (.t 13)),.M 5 14] [0,1,5] (.o [.m 6 (.c (.one (.lit (.int .u64 0))))] [0,1,5,6] (.f (.o [.M 15 5,.Z 16 15,.N 17 0] [0,1,5,6,16,17] (.block 0 (.loop (.o [.B 18 .lss 17 16] [0,1,5,6,16,17,18] (.f (.cond (.t 18) .skip (.exit 0)) [0,1,5,6,16,17] (.f (.block 1 (.o [.M 19 17,.M 7 19] [0,1,5,6,7,16,17] (.o [.M 20 6,.M 21 0,.M 22 7,.D 23 f0 21 22,.M 24 1,.M 25 7,.D 26 f0 24 25,.B 27 .add 23 26,.B 28 .add 20 27,.M 6 28] [0,1,5,6,7,16,17] (.o [.M 29 5,.M 30 7,.M 31 6,.u 32 (.conv .u32 (.t 31)),.J 33 1 29 30,.S 1 33 32] [0,1,5,6,16,17] (.p [.M 34 6,.u 35 (.bin .shr (.t 34) (.c (.one (.lit (.int .u64 32))))),.M 6 35]))))) [0,1,5,6,16,17] (.p [.I 36 .add 17 1,.M 17 36]))))))) [5] (.seq (.p [.M 37 5,.H 38 f1 37,.M 4 38]) .ret)))))
theorem zaL(hΓ:Holds P Γ){f:Nat}(hc:check P f=some (25,Vr.strip,[.tmp 2])):Sound P f (.dat false Yo):=by
 refine Qa hc YaP hΓ (λargs K hcl hfi hG=>?_);match args,hG with
 | [a],hG=>
  obtain⟨l,rfl,hl,hlen,hK⟩:=hG;refine⟨by simp,?_⟩
  simp only [go_sem,Vr];intro hmax;refine ja (λn:Nat=>⟨mkV [(0,wsA l),(3,.one (.lit (.int .i64 n)))],mkH []⟩) (λn=>n<=l.length/\val (l.take n)=val l) id l.length ?_ ?_ ?_
  .exact qa (by simp [bitvec_to_nat]) trivial
  .simp
  .rintro n ⟨hn,ht⟩;simp only [go_sem];refine⟨λh=>⟨by omega,by omega,by omega,λh0=>⟨by omega,n-1,qa (by simp [bitvec_to_nat];omega) trivial,⟨by omega,?_⟩,?_⟩,λh0=>⟨λh1=>by omega,λ_=>⟨by omega,by simp;omega,?_⟩⟩⟩,λh=>⟨λh1=>?_,λh1=>by omega⟩⟩
   .rw [show((n:Int)-1).toNat=n-1 by omega]at h0
    have:=Vb l (n-1);rw [show n-1+1=n by omega,h0,Nat.mul_zero,Nat.add_zero]at this
    rw [<-this];exact ht
   .simp only [id];omega
   .rw [show((n:Int)-1).toNat=n-1 by omega]at h0
    have:=Yd (zw hl n) (VI h hn h0);rw [<-this,ht];exact hK
   .subst h1;have:val l=0:=by rw [<-ht];simp [val]
    rw [this,Qb]at hK;exact hK
theorem kR(hΓ:Holds P Γ){f:Nat}(hc:check P f=some (14,zl.strip,[.tmp 4])):Sound P f (.dat true Xi):=by
 refine Qa hc ja3 hΓ (λargs K hcl hfi hG=>?_);match args,hG with
 | [a,b],hG=>
  obtain⟨l,rfl,hl,hG⟩:=hG;obtain⟨k,i,rfl,rfl,hi,hK⟩:=Ua hG;refine⟨by simp,?_⟩
  simp only [go_sem,zl];intro hmax;refine⟨λh=>⟨hi,by omega,?_⟩,λh=>?_⟩
  .have:=jb hl i.toNat;rw [Nat.mod_eq_of_lt (by omega)];exact hK
  .rw [List.getD_eq_getElem?_getD,List.getElem?_eq_none (by omega)]at hK;exact hK
theorem kaM(hΓ:Holds P Γ){f fw ft:Nat}(hw:Γ fw=.dat true Xi)(ht:Γ ft=.dat false Yo)(hc:check P f=some (39,(Xp fw ft).strip,[.tmp 4])):Sound P f (.dat false yn):=by
 refine Qa hc V6 hΓ (λargs K hcl hfi hG=>?_);match args,hG with
 | [a,b],hG=>
  obtain⟨x,rfl,hx,y,rfl,hy,hxl,hyl,hK⟩:=hG;refine⟨by simp,?_⟩
  simp only [go_sem,Xp,hw,ht];intro h1 h2;refine⟨by omega,by omega,λhN=>?_⟩
  generalize hNN:max x.length y.length+1=N at hN;refine ja (λp:List Nat×Nat=>⟨mkV [(0,wsA x),(1,wsA y),(5,.one (.own 14 1 1 0 N)),(6,.one (.lit (.int .u64 p.2))),(16,.one (.lit (.int .i64 N))),(17,.one (.lit (.int .i64 p.1.length)))],mkH [(14,⟨1,some ⟨(p.1++List.replicate (N-p.1.length) 0).map wc,1,true⟩⟩)]⟩)
   (λp=>p.1.length<=N/\WL p.1/\p.2<=1/\val p.1+4294967296 ^ p.1.length*p.2=val (x.take p.1.length)+val (y.take p.1.length)) (λp=>N-p.1.length) ([],0) ?_ ?_ ?_
  .exact qa (by simp [bitvec_to_nat]) (yf (by simp))
  .simp [qc,val]
  .rintro⟨o,c⟩ ⟨hoN,ho,hc1,hval⟩;simp only at hoN ho hc1 hval;have hlen:(o++List.replicate (N-o.length) 0).length=N:=by simp;omega
   simp only [go_sem,hw,ht,hlen];refine⟨λhlt=>⟨hx,hy,hlt,hlt,by omega,by omega,?_⟩,λhge=>?_⟩
   .have g1:=jb hx o.length;have g2:=jb hy o.length;rw [Nat.mod_eq_of_lt (show x.getD o.length 0+y.getD o.length 0<18446744073709551616 by omega),Nat.mod_eq_of_lt (show c+(x.getD o.length 0+y.getD o.length 0)<18446744073709551616 by omega)]
    generalize hs:c+(x.getD o.length 0+y.getD o.length 0)=s;refine⟨(o++[s % 4294967296],s / 4294967296),qa (by simp [bitvec_to_nat]) (yf ?_),⟨by simp;omega,Ze.2 ⟨ho,ub.2 ⟨Nat.mod_lt _ (by omega),qc⟩⟩,by simp only;omega,?_⟩,by simp;omega⟩
    .rw [show N-o.length=N-(o.length+1)+1 by omega,kal];simp
    .simp only [List.length_append,List.length_cons,List.length_nil,Nat.zero_add,Vb,Yb,vh,Zm,Nat.mul_zero,Nat.add_zero,Nat.pow_succ];rw [Nat.mul_assoc,Nat.add_assoc,<-Nat.mul_add,Nat.mod_add_div,<-hs,Nat.mul_add,<-Nat.add_assoc,hval,Nat.mul_add];omega
   .have e:o.length=N:=by omega
    simp only [e,Nat.sub_self,List.replicate_zero,List.append_nil,Nat.le_refl,if_true,JE];have hv:val o=val x+val y:=by
     rw [e,wh (by omega),wh (by omega)]at hval
     exact zaE hx hy (by omega) (by omega) (by omega) hval
    refine⟨ho,by omega,?_⟩
    rw [hv];exact hK
end Go.Abs
end
section
namespace Go.Abs
open Go.Num
variable {P:Program} {Γ:Nat->Spec}
def xr(f0 f1:Nat):AC:=(.o [.m 4 (.c (.one .emp))] [0,1] (.o [.M 9 0,.Z 10 9,.u 11 (.mk 1 [(.lit (.int .u32 0))] (.t 10) (.t 10)),.M 5 11] [0,1,5] (.o [.m 6 (.c (.one (.lit (.int .u64 0))))] [0,1,5,6] (.f (.o [.M 12 5,.Z 13 12,.N 14 0] [0,1,5,6,13,14] (.block 0 (.loop (.o [.B 15 .lss 14 13] [0,1,5,6,13,14,15] (.f (.cond (.t 15) .skip (.exit 0)) [0,1,5,6,13,14] (.f (.block 1 (.o [.M 16 14,.M 7 16] [0,1,5,6,7,13,14] (.f (.y [.M 17 0,.M 18 7,.J 19 1 17 18,.F 20 1 19,.u 21 (.conv .u64 (.t 20)),.M 22 1,.M 23 7,.D 24 f0 22 23,.B 25 .sub 21 24,.M 26 6,.B 27 .sub 25 26,.M 8 27]) [0,1,5,7,8,13,14] (.o [.M 28 5,.M 29 7,.M 30 8,.u 31 (.conv .u32 (.t 30)),.J 32 1 28 29,.S 1 32 31] [0,1,5,8,13,14] (.p [.M 33 8,.u 34 (.bin .shr (.t 33) (.c (.one (.lit (.int .u64 63))))),.M 6 34]))))) [0,1,5,6,13,14] (.p [.I 35 .add 14 1,.M 14 35]))))))) [5] (.seq (.p [.M 36 5,.H 37 f1 36,.M 4 37]) .ret)))))
def Uk:AC:=(.o [.N 4 0] [0,1] (.f (.o [.M 6 0,.Z 7 6,.M 8 1,.Z 9 8,.B 10 .neq 7 9] [0,1,10] (.cond (.t 10) (.f (.o [.M 11 0,.Z 12 11,.M 13 1,.Z 14 13,.B 15 .lss 12 14] [15] (.cond (.t 15) (.seq (.p [.N 4 (-1)]) .ret) .skip)) [] (.seq (.p [.N 4 1]) .ret)) .skip)) [0,1] (.f (.o [.M 16 0,.Z 17 16,.I 18 .sub 17 1,.M 5 18] [0,1,5] (.block 0 (.loop (.f (.o [.M 19 5,.I 20 .geq 19 0] [0,1,5,20] (.cond (.t 20) .skip (.exit 0))) [0,1,5] (.f (.block 1 (.f (.y [.M 23 0,.M 24 5,.J 25 1 23 24,.F 26 1 25,.M 27 1,.M 28 5,.J 29 1 27 28,.F 30 1 29,.B 31 .neq 26 30]) [0,1,5,31] (.cond (.t 31) (.f (.f (.y [.M 32 0,.M 33 5,.J 34 1 32 33,.F 35 1 34,.M 36 1,.M 37 5,.J 38 1 36 37,.F 39 1 38,.B 40 .lss 35 39]) [40] (.cond (.t 40) (.seq (.p [.N 4 (-1)]) .ret) .skip)) [] (.seq (.p [.N 4 1]) .ret)) .skip))) [0,1,5] (.p [.M 21 5,.I 22 .sub 21 1,.M 5 22])))))) [] (.seq (.p [.N 4 0]) .ret))))
def yo(f0:Nat):AC:=(.o [.m 4 (.c (.one .emp)),.m 5 (.c (.one (.lit (.int .u32 0))))] [0,1] (.o [.M 9 0,.Z 10 9,.u 11 (.mk 1 [(.lit (.int .u32 0))] (.t 10) (.t 10)),.M 6 11] [0,1,6] (.o [.m 7 (.c (.one (.lit (.int .u64 0))))] [0,1,6,7] (.f (.o [.M 12 0,.Z 13 12,.I 14 .sub 13 1,.M 8 14] [0,1,6,7,8] (.block 0 (.loop (.f (.o [.M 15 8,.I 16 .geq 15 0] [0,1,6,7,8,16] (.cond (.t 16) .skip (.exit 0))) [0,1,6,7,8] (.f (.block 1 (.o [.M 19 7,.u 20 (.bin .shl (.t 19) (.c (.one (.lit (.int .u64 32))))),.M 21 0,.M 22 8,.J 23 1 21 22,.F 24 1 23,.u 25 (.conv .u64 (.t 24)),.B 26 .or 20 25,.M 7 26] [0,1,6,7,8] (.o [.M 27 6,.M 28 8,.M 29 7,.M 30 1,.u 31 (.conv .u64 (.t 30)),.B 32 .quo 29 31,.u 33 (.conv .u32 (.t 32)),.J 34 1 27 28,.S 1 34 33] [0,1,6,7,8] (.p [.M 35 7,.M 36 1,.u 37 (.conv .u64 (.t 36)),.B 38 .rem 35 37,.M 7 38])))) [0,1,6,7,8] (.p [.M 17 8,.I 18 .sub 17 1,.M 8 18])))))) [6,7] (.seq (.p [.M 39 6,.H 40 f0 39,.M 41 7,.u 42 (.conv .u32 (.t 41)),.M 4 40,.M 5 42]) .ret)))))
theorem uaK(hΓ:Holds P Γ){f fw ft:Nat}(hw:Γ fw=.dat true Xi)(ht:Γ ft=.dat false Yo)(hc:check P f=some (38,(xr fw ft).strip,[.tmp 4])):Sound P f (.dat false Uo):=by
 refine Qa hc Wai hΓ (λargs K hcl hfi hG=>?_);match args,hG with
 | [a,b],hG=>
  obtain⟨x,rfl,hx,y,rfl,hy,hxl,hle,hK⟩:=hG;refine⟨by simp,?_⟩
  simp only [go_sem,xr,hw,ht];intro h1;refine⟨by omega,λ_=>?_⟩
  generalize hN:x.length=N at h1 hxl;refine ja (λp:List Nat×Nat=>⟨mkV [(0,wsA x),(1,wsA y),(5,.one (.own 11 1 1 0 N)),(6,.one (.lit (.int .u64 p.2))),(13,.one (.lit (.int .i64 N))),(14,.one (.lit (.int .i64 p.1.length)))],mkH [(11,⟨1,some ⟨(p.1++List.replicate (N-p.1.length) 0).map wc,1,true⟩⟩)]⟩)
   (λp=>p.1.length<=N/\WL p.1/\p.2<=1/\val p.1+val (y.take p.1.length)=val (x.take p.1.length)+4294967296 ^ p.1.length*p.2) (λp=>N-p.1.length) ([],0) ?_ ?_ ?_
  .exact qa (by simp [bitvec_to_nat]) (yf (by simp))
  .simp [qc,val]
  .rintro⟨o,c⟩ ⟨hoN,ho,hc1,hval⟩;simp only at hoN ho hc1 hval;have hlen:(o++List.replicate (N-o.length) 0).length=N:=by simp;omega
   simp only [go_sem,hw,ht,hlen];refine⟨λhlt=>⟨by omega,hy,hlt,hlt,by omega,by omega,?_⟩,λhge=>?_⟩
   .have g1:=jb hx o.length;have g2:=jb hy o.length;rw [Nat.mod_eq_of_lt (show x.getD o.length 0<18446744073709551616 by omega)]
    obtain⟨s1,s2⟩:=Uau g1 g2 hc1;generalize sub64 (sub64 (x.getD o.length 0) (y.getD o.length 0)) c=s at s1 s2;refine⟨(o++[s % 4294967296],s / 9223372036854775808),qa (by simp [bitvec_to_nat]) (yf ?_),⟨by simp;omega,Ze.2 ⟨ho,ub.2 ⟨Nat.mod_lt _ (by omega),qc⟩⟩,s2,?_⟩,by simp;omega⟩
    .rw [show N-o.length=N-(o.length+1)+1 by omega,kal];simp
    .simp only [List.length_append,List.length_cons,List.length_nil,Nat.zero_add,Vb,Yb,vh,Zm,Nat.mul_zero,Nat.add_zero,Nat.pow_succ];exact XG hval s1
   .have e:o.length=N:=by omega
    have hv:=ZF ho hx (by omega) hle hval
    simp only [e,Nat.sub_self,List.replicate_zero,List.append_nil];refine⟨ho,by omega,?_⟩
    rw [hv];exact hK
theorem kW(hΓ:Holds P Γ){f:Nat}(hc:check P f=some (41,Uk.strip,[.tmp 4])):Sound P f (.dat false Vf):=by
 refine Qa hc Yae hΓ (λargs K hcl hfi hG=>?_);match args,hG with
 | [a,b],hG=>
  obtain⟨x,rfl,hx,y,rfl,hy,hzx,hzy,hK⟩:=hG;refine⟨by simp,?_⟩
  simp only [go_sem,Uk];intro h1 h2;refine⟨λhl _=>⟨by omega,?_⟩,λhne _ _=>⟨λhlt=>?_,λhge=>?_⟩⟩
  rotate_left
  .rw [UV (xK hx hzy hlt)]at hK;exact hK
  .rw [kam (xK hy hzx (by omega))]at hK;exact hK
  refine ja (λn:Nat=>⟨mkV [(0,wsA x),(1,wsA y),(5,.one (.lit (.int .i64 ((n:Int)-1))))],mkH []⟩) (λn=>n<=x.length/\x.drop n=y.drop n) id x.length ?_ ?_ ?_
  .exact qa (by simp [bitvec_to_nat]) trivial
  .simp [hl]
  .rintro n ⟨hn,hd⟩;simp only [go_sem];refine⟨λh=>⟨by omega,by omega,by omega,by omega,λhe=>⟨by omega,n-1,qa (by simp [bitvec_to_nat];omega) trivial,⟨by omega,?_⟩,by simp only [id];omega⟩,λhne=>?_⟩,λh=>?_⟩
   .rw [show((n:Int)-1).toNat=n-1 by omega]at he
    rw [List.getD_eq_getElem?_getD,List.getD_eq_getElem?_getD,List.getElem?_eq_getElem (by omega),List.getElem?_eq_getElem (by omega)]at he
    have e1:=List.getElem_cons_drop (as:=x) (i:=n-1) (by omega)
    have e2:=List.getElem_cons_drop (as:=y) (i:=n-1) (by omega)
    rw [show n-1+1=n by omega]at e1 e2
    rw [<-e1,<-e2,hd];simp only [Option.getD_some]at he;rw [he]
   .rw [show((n:Int)-1).toNat=n-1 by omega]at hne ⊢
    refine⟨by omega,by omega,by omega,by omega,λhlt=>?_,λhge=>?_⟩
    .rw [UV (kbi (i:=n-1) hx hl (by omega) (by rw [show n-1+1=n by omega];exact hd) hlt)]at hK;exact hK
    .rw [kam (kbi (i:=n-1) hy hl.symm (by omega) (by rw [show n-1+1=n by omega];exact hd.symm) (by omega))]at hK;exact hK
   .have:n=0:=by omega
    subst this;simp only [List.drop_zero]at hd;rw [hd,wa5]at hK;exact hK
theorem jak(hΓ:Holds P Γ){f ft:Nat}(ht:Γ ft=.dat false Yo)(hc:check P f=some (43,(yo ft).strip,[.tmp 4,.tmp 5])):Sound P f (.dat false Xr):=by
 refine Qa hc zaK hΓ (λargs K hcl hfi hG=>?_);match args,hG with
 | [a,b],hG=>
  obtain⟨x,rfl,hx,hG⟩:=hG;obtain⟨k,m,rfl,rfl,hm,hmB,hxl,hK⟩:=Ua hG;obtain⟨m,rfl⟩:∃n:Nat,m=n:=⟨m.toNat,by omega⟩
  simp only [Int.toNat_natCast]at hK;refine⟨by simp,?_⟩
  simp only [go_sem,yo,ht];intro h1;refine⟨hxl,λ_=>⟨by omega,?_⟩⟩
  refine ja (λp:List Nat×Nat=>⟨mkV [(0,wsA x),(1,.one (.lit (.int .u32 m))),(6,.one (.own 11 1 1 0 x.length)),(7,.one (.lit (.int .u64 p.2))),(8,.one (.lit (.int .i64 ((x.length:Int)-p.1.length-1))))],mkH [(11,⟨1,some ⟨(List.replicate (x.length-p.1.length) 0++p.1).map wc,1,true⟩⟩)]⟩)
   (λp=>p.1.length<=x.length/\WL p.1/\p.2<m/\val p.1*m+p.2=val (x.drop (x.length-p.1.length))) (λp=>x.length-p.1.length) ([],0) ?_ ?_ ?_
  .exact qa (by simp [bitvec_to_nat]) (yf (by simp))
  .simp [qc,val];omega
  .rintro⟨q,r⟩ ⟨hq,hqw,hr,hval⟩;simp only at hq hqw hr hval;have hlen:(List.replicate (x.length-q.length) 0++q).length=x.length:=by simp;omega
   simp only [go_sem,ht,hlen];refine⟨λh=>?_,λh=>?_⟩
   .obtain⟨n,hn⟩:∃n,n=x.length-q.length:=⟨_,rfl⟩;have hn0:0<n:=by omega
    have hi:((x.length:Int)-q.length-1).toNat=n-1:=by omega
    have g1:=jb hx (n-1);have hd:=uI x hn0 (by omega)
    obtain⟨s1,s2⟩:=Zbg (by omega) hr g1
    have s3:=ua6 (B:=4294967296) (a:=x.getD (n-1) 0) (by omega) (hn▸hval)
    have e1:r*4294967296 % 18446744073709551616=r*4294967296:=by omega
    have e2:x.getD (n-1) 0 % 18446744073709551616=x.getD (n-1) 0:=by omega
    have e3:m % 18446744073709551616=m:=by omega
    rw [hi,<-hn,e1,e2,e3,or32 _ _ g1];generalize hs:r*4294967296+x.getD (n-1) 0=s at s1 s2 s3;rw [Nat.mod_eq_of_lt (show s / m<18446744073709551616 by omega),Nat.mod_eq_of_lt s1]
    have hm0:s % m<m:=Nat.mod_lt _ (by omega)
    refine⟨⟨rfl,by omega⟩,by omega,by omega,⟨rfl,by omega,by omega⟩,by omega,⟨by omega,by omega⟩,by omega,by omega,by omega,(s / m::q,s % m),qa (by simp [bitvec_to_nat];omega) (yf ?_),⟨by simp;omega,ub.2 ⟨s1,hqw⟩,hm0,?_⟩,by simp;omega⟩
    .simp only [List.length_cons];rw [Wq q _ hn0,show x.length-(q.length+1)=n-1 by omega]
    .rw [vh,List.length_cons,show x.length-(q.length+1)=n-1 by omega,hd];exact s3
   .have e:x.length-q.length=0:=by omega
    simp only [e,List.replicate_zero,List.nil_append,List.drop_zero]at hval ⊢;have h1:=Nat.div_mod_unique (show 0<m by omega) (a:=val x) (c:=r) (d:=val q)
    obtain⟨h2,h3⟩:=h1.2 ⟨by rw [<-hval,Nat.mul_comm m,Nat.add_comm],hr⟩
    rw [h2,h3]at hK;refine⟨hqw,by omega,?_⟩
    rw [Nat.mod_eq_of_lt (by omega)];exact hK
end Go.Abs
end
section
namespace Go.Abs
open Go.Num
variable {P:Program} {Γ:Nat->Spec}
def Yv:AC:=(.o [.m 4 (.c (.one .emp))] [0,1] (.o [.M 9 0,.Z 10 9,.I 11 .add 10 1,.u 12 (.mk 1 [(.lit (.int .u32 0))] (.t 11) (.t 11)),.M 5 12] [0,1,5] (.f (.o [.M 13 0,.Z 14 13,.N 15 0] [1,5,13,14,15] (.block 0 (.loop (.o [.B 16 .lss 15 14] [1,5,13,14,15,16] (.f (.cond (.t 16) .skip (.exit 0)) [1,5,13,14,15] (.f (.block 1 (.o [.M 17 15,.J 18 1 13 15,.F 19 1 18,.M 6 17,.M 7 19] [1,5,6,7,13,14,15] (.o [.M 20 7,.u 21 (.conv .u64 (.t 20)),.M 22 1,.B 23 .shl 21 22,.M 8 23] [1,5,6,8,13,14,15] (.o [.M 24 5,.M 25 6,.J 26 1 24 25,.F 27 1 26,.M 28 8,.u 29 (.conv .u32 (.t 28)),.B 30 .or 27 29,.J 31 1 24 25,.S 1 31 30] [1,5,6,8,13,14,15] (.p [.M 32 5,.M 33 6,.I 34 .add 33 1,.M 35 8,.u 36 (.bin .shr (.t 35) (.c (.one (.lit (.int .u64 32))))),.u 37 (.conv .u32 (.t 36)),.J 38 1 32 34,.S 1 38 37]))))) [1,5,13,14,15] (.p [.I 39 .add 15 1,.M 15 39]))))))) [5] (.seq (.p [.M 40 5,.M 4 40]) .ret))))
def Wr(f0 f1:Nat):AC:=(.o [.m 4 (.c (.one .emp))] [0,1] (.o [.M 7 0,.Z 8 7,.u 9 (.mk 1 [(.lit (.int .u32 0))] (.t 8) (.t 8)),.M 5 9] [0,1,5] (.f (.o [.M 10 0,.Z 11 10,.N 12 0] [0,1,5,11,12] (.block 0 (.loop (.o [.B 13 .lss 12 11] [0,1,5,11,12,13] (.f (.cond (.t 13) .skip (.exit 0)) [0,1,5,11,12] (.f (.block 1 (.o [.M 14 12,.M 6 14] [0,1,5,6,11,12] (.y [.M 15 5,.M 16 6,.M 17 0,.M 18 6,.J 19 1 17 18,.F 20 1 19,.u 21 (.conv .u64 (.t 20)),.M 22 0,.M 23 6,.I 24 .add 23 1,.D 25 f0 22 24,.u 26 (.bin .shl (.t 25) (.c (.one (.lit (.int .u64 32))))),.B 27 .or 21 26,.M 28 1,.B 29 .shr 27 28,.u 30 (.conv .u32 (.t 29)),.J 31 1 15 16,.S 1 31 30]))) [0,1,5,11,12] (.p [.I 32 .add 12 1,.M 12 32]))))))) [5] (.seq (.p [.M 33 5,.H 34 f1 33,.M 4 34]) .ret))))
def qo(f0:Nat):AC:=(.o [.m 4 (.c (.one .emp))] [0,1] (.o [.M 11 0,.Z 12 11,.M 13 1,.Z 14 13,.B 15 .add 12 14,.u 16 (.mk 1 [(.lit (.int .u32 0))] (.t 15) (.t 15)),.M 5 16] [0,1,5] (.f (.o [.M 17 0,.Z 18 17,.N 19 0] [1,5,17,18,19] (.block 0 (.loop (.o [.B 20 .lss 19 18] [1,5,17,18,19,20] (.f (.cond (.t 20) .skip (.exit 0)) [1,5,17,18,19] (.f (.block 1 (.o [.M 21 19,.J 22 1 17 19,.F 23 1 22,.M 6 21,.M 7 23] [1,5,6,7,17,18,19] (.o [.m 8 (.c (.one (.lit (.int .u64 0))))] [1,5,6,7,8,17,18,19] (.f (.o [.M 24 1,.Z 25 24,.N 26 0] [1,5,6,7,8,17,18,19,24,25,26] (.block 2 (.loop (.o [.B 27 .lss 26 25] [1,5,6,7,8,17,18,19,24,25,26,27] (.f (.cond (.t 27) .skip (.exit 2)) [1,5,6,7,8,17,18,19,24,25,26] (.f (.block 3 (.o [.M 28 26,.J 29 1 24 26,.F 30 1 29,.M 9 28,.M 10 30] [1,5,6,7,8,9,10,17,18,19,24,25,26] (.o [.M 31 8,.M 32 7,.u 33 (.conv .u64 (.t 32)),.M 34 10,.u 35 (.conv .u64 (.t 34)),.B 36 .mul 33 35,.M 37 5,.M 38 6,.M 39 9,.B 40 .add 38 39,.J 41 1 37 40,.F 42 1 41,.u 43 (.conv .u64 (.t 42)),.B 44 .add 36 43,.B 45 .add 31 44,.M 8 45] [1,5,6,7,8,9,17,18,19,24,25,26] (.o [.M 46 5,.M 47 6,.M 48 9,.B 49 .add 47 48,.M 50 8,.u 51 (.conv .u32 (.t 50)),.J 52 1 46 49,.S 1 52 51] [1,5,6,7,8,17,18,19,24,25,26] (.p [.M 53 8,.u 54 (.bin .shr (.t 53) (.c (.one (.lit (.int .u64 32))))),.M 8 54]))))) [1,5,6,7,8,17,18,19,24,25,26] (.p [.I 55 .add 26 1,.M 26 55]))))))) [1,5,6,8,17,18,19] (.p [.M 56 5,.M 57 6,.M 58 1,.Z 59 58,.B 60 .add 57 59,.M 61 8,.u 62 (.conv .u32 (.t 61)),.J 63 1 56 60,.S 1 63 62]))))) [1,5,17,18,19] (.p [.I 64 .add 19 1,.M 19 64]))))))) [5] (.seq (.p [.M 65 5,.H 66 f0 65,.M 4 66]) .ret))))
theorem wbg(hΓ:Holds P Γ){f:Nat}(hc:check P f=some (41,Yv.strip,[.tmp 4])):Sound P f (.fresh 1 up_G):=by
 refine uv hc Vbx hΓ (λargs K hcl hfi hG=>?_);match args,hG with
 | [a,b],hG=>
  obtain⟨x,rfl,hx,hG⟩:=hG;obtain⟨k,m,rfl,rfl,hm,hmB,hxl,hK⟩:=Ua hG;obtain⟨m,rfl⟩:∃n:Nat,m=n:=⟨m.toNat,by omega⟩
  simp only [Int.toNat_natCast]at hK;refine⟨by simp,?_⟩
  simp only [go_sem,Yv];intro h1;refine⟨by omega,by omega,λ_=>?_⟩
  refine ja (λp:List Nat×Nat=>⟨mkV [(1,.one (.lit (.int .i64 m))),(5,.one (.own 12 1 1 0 (x.length+1))),(13,wsA x),(14,.one (.lit (.int .i64 x.length))),(15,.one (.lit (.int .i64 p.1.length)))],mkH [(12,⟨1,some ⟨(p.1++p.2::List.replicate (x.length-p.1.length) 0).map wc,1,true⟩⟩)]⟩)
   (λp=>p.1.length<=x.length/\WL p.1/\p.2<2 ^ m/\val p.1+4294967296 ^ p.1.length*p.2=val (x.take p.1.length)*2 ^ m) (λp=>x.length-p.1.length) ([],0) ?_ ?_ ?_
  .exact qa (by simp [bitvec_to_nat]) (yf (by simp [List.replicate_succ]))
  .simp [qc,val];exact Nat.pow_pos (by omega)
  .rintro⟨o,c⟩ ⟨hoN,ho,hc1,hval⟩;simp only at hoN ho hc1 hval;have hlen:(o++c::List.replicate (x.length-o.length) 0).length=x.length+1:=by simp;omega
   simp only [go_sem,hlen,List.length_set];refine⟨λhlt=>?_,λhge=>?_⟩
   .have g1:=jb hx o.length;obtain⟨s1,s2,s3,s4⟩:=xbv (by omega) hc1 g1
    have e1:x.getD o.length 0 % 18446744073709551616=x.getD o.length 0:=by omega
    have hp:=WT (show m<32 by omega)
    rw [ZbG,e1,Nat.mod_eq_of_lt s1,s2,UbC];generalize hy:x.getD o.length 0*2 ^ m=y at s1 s2 s3 s4;rw [Nat.mod_eq_of_lt (show y / 4294967296<4294967296 by omega)]
    refine⟨hlt,⟨rfl,by omega⟩,by omega,by omega,⟨rfl,by omega,by omega⟩,by omega,by omega,by omega,by omega,by omega,by omega,by omega,(o++[y % 4294967296+c],y / 4294967296),qa (by simp [bitvec_to_nat]) (yf ?_),⟨by simp;omega,Ze.2 ⟨ho,ub.2 ⟨s3,qc⟩⟩,s4,?_⟩,by simp;omega⟩
    .rw [show x.length-o.length=(x.length-(o.length+1))+1 by omega,List.replicate_succ,Ubw];simp
    .simp only [List.length_append,List.length_cons,List.length_nil,Nat.zero_add,Vb,Yb,vh,Zm,Nat.mul_zero,Nat.add_zero,Nat.pow_succ];rw [xbK (B:=4294967296) (x:=y) hval rfl,Nat.add_mul,<-hy,Nat.mul_assoc]
   .have e:o.length=x.length:=by omega
    have hcB:c<4294967296:=by have:=WT (show m<32 by omega);omega
    rw [e,wh (Nat.le_refl _)]at hval;simp only [e,Nat.sub_self,List.replicate_zero];have hw:WL (o++[c]):=Ze.2 ⟨ho,ub.2 ⟨hcB,qc⟩⟩;have hv:val (o++[c])=val x*2 ^ m:=by rw [Yb,e];simpa [val] using hval
    have:=wA hw;rw [hv,List.length_append,List.length_singleton,e]at this;rw [<-this];exact hK
theorem yaM(hΓ:Holds P Γ){f fw ft:Nat}(hw:Γ fw=.dat true Xi)(ht:Γ ft=.dat false Yo)(hc:check P f=some (35,(Wr fw ft).strip,[.tmp 4])):Sound P f (.dat false Vz):=by
 refine Qa hc ja8 hΓ (λargs K hcl hfi hG=>?_);match args,hG with
 | [a,b],hG=>
  obtain⟨x,rfl,hx,hG⟩:=hG;obtain⟨k,m,rfl,rfl,hm,hmB,hxl,hK⟩:=Ua hG;obtain⟨m,rfl⟩:∃n:Nat,m=n:=⟨m.toNat,by omega⟩
  simp only [Int.toNat_natCast]at hK;refine⟨by simp,?_⟩
  simp only [go_sem,Wr,hw,ht];intro h1;refine⟨by omega,λ_=>?_⟩
  refine ja (λo:List Nat=>⟨mkV [(0,wsA x),(1,.one (.lit (.int .i64 m))),(5,.one (.own 9 1 1 0 x.length)),(11,.one (.lit (.int .i64 x.length))),(12,.one (.lit (.int .i64 o.length)))],mkH [(9,⟨1,some ⟨(o++List.replicate (x.length-o.length) 0).map wc,1,true⟩⟩)]⟩)
   (λo=>o.length<=x.length/\WL o/\val o=val x / 2 ^ m % 4294967296 ^ o.length) (λo=>x.length-o.length) [] ?_ ?_ ?_
  .exact qa (by simp [bitvec_to_nat]) (yf (by simp))
  .simp [qc,val,Nat.mod_one]
  .rintro o ⟨hoN,ho,hval⟩;have hlen:(o++List.replicate (x.length-o.length) 0).length=x.length:=by simp;omega
   simp only [go_sem,hw,ht,hlen];refine⟨λhlt=>⟨hlt,by omega,hx,⟨rfl,by omega⟩,⟨rfl,by omega,by omega⟩,by omega,hlt,hlt,by omega,?_⟩,λhge=>?_⟩
   .have g1:=jb hx o.length;have g2:=jb hx (o.length+1);have e1:x.getD o.length 0 % 18446744073709551616=x.getD o.length 0:=by omega
    have e2:x.getD (o.length+1) 0*4294967296 % 18446744073709551616=x.getD (o.length+1) 0*4294967296:=by omega
    rw [e1,e2,or32' _ _ g1,show x.getD (o.length+1) 0*4294967296+x.getD o.length 0=x.getD o.length 0+4294967296*x.getD (o.length+1) 0 by omega,xai hx (by omega)]
    generalize hv:val x / 2 ^ m / 4294967296 ^ o.length % 4294967296=v;have hvB:v<4294967296:=by rw [<-hv];exact Nat.mod_lt _ (by omega)
    refine⟨o++[v],qa (by simp [bitvec_to_nat]) (yf ?_),⟨by simp;omega,Ze.2 ⟨ho,ub.2 ⟨hvB,qc⟩⟩,?_⟩,by simp;omega⟩
    .rw [show x.length-o.length=x.length-(o.length+1)+1 by omega,kal];simp
    .rw [Yb,List.length_append,List.length_singleton,VE,hv,<-hval];simp [val]
   .have e:o.length=x.length:=by omega
    have hlt:val x / 2 ^ m<4294967296 ^ x.length:=Nat.lt_of_le_of_lt (Nat.div_le_self _ _) (Jl hx);rw [e,Nat.mod_eq_of_lt hlt]at hval;simp only [e,Nat.sub_self,List.replicate_zero,List.append_nil];refine⟨ho,by omega,?_⟩
    rw [hval];exact hK
theorem vaj(hΓ:Holds P Γ){f ft:Nat}(ht:Γ ft=.dat false Yo)(hc:check P f=some (67,(qo ft).strip,[.tmp 4])):Sound P f (.dat false jm):=by
 refine Qa hc wO hΓ (λargs K hcl hfi hG=>?_);match args,hG with
 | [a,b],hG=>
  obtain⟨x,rfl,hx,y,rfl,hy,hxl,hyl,hK⟩:=hG;refine⟨by simp,?_⟩
  simp only [go_sem,qo,ht];intro h1 h2;refine⟨by omega,by omega,λ_=>?_⟩
  generalize hN:x.length+y.length=N;refine ja (λp:Nat×List Nat=>⟨mkV [(1,wsA y),(5,.one (.own 16 1 1 0 N)),(17,wsA x),(18,.one (.lit (.int .i64 x.length))),(19,.one (.lit (.int .i64 p.1)))],mkH [(16,⟨1,some ⟨p.2.map wc,1,true⟩⟩)]⟩)
   (λp=>p.1<=x.length/\WL p.2/\p.2.length=N/\val p.2=val (x.take p.1)*val y/\∀j,p.1+y.length<=j->p.2.getD j 0=0) (λp=>x.length-p.1) (0,List.replicate N 0) ?_ ?_ ?_
  .exact qa (by simp [bitvec_to_nat]) (yf (by simp))
  .simp [Ja4,val,JW];intro j _;rw [List.getElem?_replicate];split <;> rfl
  .rintro⟨i,o⟩ ⟨hi,ho,hoN,hval,hz⟩;simp only at hi ho hoN hval hz;simp only [go_sem,ht,hoN];refine⟨λhlt=>⟨hlt,λ_=>?_⟩,λhge=>?_⟩
   .have g1:=jb hx i;refine ja (λp:Nat×Nat×List Nat=>⟨mkV [(1,wsA y),(5,.one (.own 16 1 1 0 N)),(6,.one (.lit (.int .i64 i))),(7,.one (.lit (.int .u32 (x.getD i 0:Nat)))),(8,.one (.lit (.int .u64 p.2.1))),(17,wsA x),(18,.one (.lit (.int .i64 x.length))),(19,.one (.lit (.int .i64 i))),(24,wsA y),(25,.one (.lit (.int .i64 y.length))),(26,.one (.lit (.int .i64 p.1)))],mkH [(16,⟨1,some ⟨p.2.2.map wc,1,true⟩⟩)]⟩)
     (λp=>p.1<=y.length/\p.2.1<4294967296/\WL p.2.2/\p.2.2.length=N/\val p.2.2+4294967296 ^ i*4294967296 ^ p.1*p.2.1=val (x.take i)*val y+4294967296 ^ i*x.getD i 0*val (y.take p.1)/\∀j,i+y.length<=j->p.2.2.getD j 0=0) (λp=>y.length-p.1) (0,0,o) ?_ ?_ ?_
    .exact qa (by simp [bitvec_to_nat]) (yf rfl)
    .exact⟨Nat.zero_le _,by simp,ho,hoN,by simp [val,hval],hz⟩
    .rintro⟨k,c,o⟩ ⟨hk,hc,ho,hoN,hval,hz⟩;simp only at hk hc ho hoN hval hz;simp only [go_sem,ht,hoN];refine⟨λhlt2=>?_,λhge2=>?_⟩
     .have g2:=jb hy k;have g3:=jb ho (i+k);have s1:=VX g1 g2 hc g3;have e1:x.getD i 0 % 18446744073709551616=x.getD i 0:=by omega
      have e2:y.getD k 0 % 18446744073709551616=y.getD k 0:=by omega
      have e3:o.getD (i+k) 0 % 18446744073709551616=o.getD (i+k) 0:=by omega
      have hstep:=XR hval (by omega) rfl
      rw [e1,e2,e3,Nat.mod_eq_of_lt (show x.getD i 0*y.getD k 0<18446744073709551616 by omega),Nat.mod_eq_of_lt (show x.getD i 0*y.getD k 0+o.getD (i+k) 0<18446744073709551616 by omega),Nat.mod_eq_of_lt s1]
      generalize hs:c+(x.getD i 0*y.getD k 0+o.getD (i+k) 0)=s at s1 hstep;refine⟨hlt2,by omega,by omega,by omega,by omega,by omega,by omega,by omega,by omega,(k+1,s / 4294967296,o.set (i+k) (s % 4294967296)),qa (by simp [bitvec_to_nat]) (yf rfl),⟨by simp only;omega,by simp only;omega,U4 ho _ (Nat.mod_lt _ (by omega)),by simp [hoN],hstep,?_⟩,by simp only;omega⟩
      intro j hj;simp only;rw [Num.getD_set_ne (by omega)];exact hz j hj
     .have e:k=y.length:=by omega
      subst e;have hend:=xaa hval (by omega) (hz _ (Nat.le_refl _))
      rw [Nat.mod_eq_of_lt hc];refine λ_=>⟨by omega,by omega,by omega,by omega,(i+1,o.set (i+y.length) c),qa (by simp [bitvec_to_nat]) (yf rfl),⟨by simp only;omega,U4 ho _ hc,by simp [hoN],hend,?_⟩,by simp only;omega⟩
      intro j hj;simp only at hj ⊢;rw [Num.getD_set_ne (by omega)];exact hz j (by omega)
   .have e:i=x.length:=by omega
    subst e;rw [wh (Nat.le_refl _)]at hval;refine⟨ho,by omega,?_⟩
    rw [hval];exact hK
end Go.Abs
end
section
namespace Go.Abs
open Go.Num
variable {P:Program} {Γ:Nat->Spec}
def qm(f0:Nat):AC:=(.o [.m 6 .fa] [0,1,2] (.o [.m 7 (.c (.one (.lit (.int .u64 0)))),.m 8 (.c (.one (.lit (.int .u64 0))))] [0,1,2,7,8] (.f (.o [.M 11 0,.Z 12 11,.N 13 0] [0,1,2,7,8,12,13] (.block 0 (.loop (.o [.B 14 .lss 13 12] [0,1,2,7,8,12,13,14] (.f (.cond (.t 14) .skip (.exit 0)) [0,1,2,7,8,12,13] (.f (.block 1 (.o [.M 15 13,.M 9 15] [0,1,2,7,8,9,12,13] (.o [.M 16 7,.M 17 2,.M 18 1,.M 19 9,.D 20 f0 18 19,.B 21 .mul 17 20,.B 22 .add 16 21,.M 7 22] [0,1,2,7,8,9,12,13] (.o [.M 23 0,.M 24 9,.J 25 1 23 24,.F 26 1 25,.u 27 (.conv .u64 (.t 26)),.M 28 7,.u 29 (.conv .u32 (.t 28)),.u 30 (.conv .u64 (.t 29)),.B 31 .sub 27 30,.M 32 8,.B 33 .sub 31 32,.M 10 33] [0,1,2,7,9,10,12,13] (.o [.M 34 0,.M 35 9,.M 36 10,.u 37 (.conv .u32 (.t 36)),.J 38 1 34 35,.S 1 38 37] [0,1,2,7,10,12,13] (.o [.M 39 10,.u 40 (.bin .shr (.t 39) (.c (.one (.lit (.int .u64 63))))),.M 8 40] [0,1,2,7,8,12,13] (.p [.M 41 7,.u 42 (.bin .shr (.t 41) (.c (.one (.lit (.int .u64 32))))),.M 7 42]))))))) [0,1,2,7,8,12,13] (.p [.I 43 .add 13 1,.M 13 43]))))))) [8] (.seq (.p [.M 44 8,.u 45 (.bin .eql (.t 44) (.c (.one (.lit (.int .u64 1))))),.M 6 45]) .ret))))
def Up(f0:Nat):AC:=(.o [.m 4 (.c (.one (.lit (.int .u64 0))))] [0,1,4] (.o [.M 6 0,.Z 7 6,.N 8 0] [0,1,4,7,8] (.block 0 (.loop (.o [.B 9 .lss 8 7] [0,1,4,7,8,9] (.f (.cond (.t 9) .skip (.exit 0)) [0,1,4,7,8] (.f (.block 1 (.o [.M 10 8,.M 5 10] [0,1,4,5,7,8] (.f (.y [.M 11 4,.M 12 0,.M 13 5,.J 14 1 12 13,.F 15 1 14,.u 16 (.conv .u64 (.t 15)),.M 17 1,.M 18 5,.D 19 f0 17 18,.B 20 .add 16 19,.B 21 .add 11 20,.M 4 21]) [0,1,4,5,7,8] (.o [.M 22 0,.M 23 5,.M 24 4,.u 25 (.conv .u32 (.t 24)),.J 26 1 22 23,.S 1 26 25] [0,1,4,7,8] (.p [.M 27 4,.u 28 (.bin .shr (.t 27) (.c (.one (.lit (.int .u64 32))))),.M 4 28]))))) [0,1,4,7,8] (.p [.I 29 .add 8 1,.M 8 29]))))))))
theorem Xac(hΓ:Holds P Γ){f fw:Nat}(hw:Γ fw=.dat true Xi)(hc:check P f=some (46,(qm fw).strip,[.tmp 6])):Sound P f (.own Zp):=by
 refine Ye hc hΓ (λd args h K hG=>?_);unfold Zp at hG;split at hG
 case h_2=>exact hG.elim
 rename_i r ver off len b n;obtain⟨v,rfl,hv,pre,seg,post,m,rfl,rfl,rfl,hr,hseg,hm,hvl,hlt,hsl,hK⟩:=hG;refine⟨[r],[⟨(pre++seg++post).map wc,1,true⟩],[.one (.own 1048576 ver 1 pre.length seg.length),wsA v,.one (.lit (.int .u64 m))],by simp,rfl,?_,?_,?_,λhfi=>⟨by simp,?_⟩⟩
 .intro i r' b h1 h2;cases i with
  | zero=>simp only [List.getElem?_cons_zero,Option.some.injEq]at h1 h2;subst h1 h2;exact⟨by rw [hr],rfl,of_eq_true (wd _)⟩
  | succ i=>simp at h1
 .simp [exA,exC,exB,nameOf,pinA,wsA,ws]
 .intro a ha;simp only [List.mem_cons,List.not_mem_nil,or_false]at ha;rcases ha with rfl | rfl | rfl
  .simp [pasA,pasC,pasB,nameOf,pinA]
  .exact .slice _ (of_eq_true (wd _))
  .exact .lit _
 simp only [go_sem,qm,hw,hr];intro h1;refine ja (λp:List Nat×Nat×Nat×Nat=>⟨mkV [(0,.one (.own 1048576 ver 1 pre.length seg.length)),(1,wsA v),(2,.one (.lit (.int .u64 m))),(7,.one (.lit (.int .u64 p.2.1))),(8,.one (.lit (.int .u64 p.2.2.1))),(12,.one (.lit (.int .i64 seg.length))),(13,.one (.lit (.int .i64 p.1.length)))],
   mkH [(1048576,⟨ver,some ⟨(pre++(p.1++seg.drop p.1.length)++post).map wc,1,true⟩⟩)]⟩)
  (λp=>p.1.length<=seg.length/\WL p.1/\(p.2.1=0∨p.2.1<m)/\p.2.2.1<=1/\p.2.2.2+4294967296 ^ p.1.length*p.2.1=m*val (v.take p.1.length)/\val p.1+p.2.2.2=val (seg.take p.1.length)+4294967296 ^ p.1.length*p.2.2.1) (λp=>seg.length-p.1.length) ([],0,0,0) ?_ ?_ ?_
 .exact qa (by simp [bitvec_to_nat]) (yf (by simp))
 .simp [qc,val]
 .rintro⟨o,c,bw,p⟩ ⟨hoN,ho,hc1,hb1,hp1,hp2⟩;simp only at hoN ho hc1 hb1 hp1 hp2;have hlen:(pre++(o++seg.drop o.length)++post).length=pre.length+seg.length+post.length:=by simp;omega
  simp only [go_sem,hw,hr,hlen];refine⟨λhlt2=>?_,λhge=>?_⟩
  .have g1:=jb hseg o.length;have g2:=jb hv o.length;obtain⟨s1,s2⟩:=xaO hm g2 hc1;have a1:=xbd (B:=4294967296) (v:=v.getD o.length 0) hp1;have e1:m*v.getD o.length 0 % 18446744073709551616=m*v.getD o.length 0:=Nat.mod_eq_of_lt (by omega)
   have e2:seg.getD o.length 0 % 18446744073709551616=seg.getD o.length 0:=by omega
   rw [Ua0 _ _ _ _ hlt2,e1,e2,Nat.mod_eq_of_lt s1,Vam _ _ _ _ _ hlt2];generalize hs:c+m*v.getD o.length 0=s at s1 s2 a1;have e3:s % 4294967296 % 18446744073709551616=s % 4294967296:=by omega
   rw [e3];obtain⟨t1,t2⟩:=Uau (b:=s % 4294967296) g1 (by omega) hb1
   generalize sub64 (sub64 (seg.getD o.length 0) (s % 4294967296)) bw=d at t1 t2;have a2:=Jbd hp2 t1;refine⟨hv,hlt2,by omega,hlt2,by omega,by omega,by omega,by omega,(o++[d % 4294967296],s / 4294967296,d / 9223372036854775808,p+4294967296 ^ o.length*(s % 4294967296)),qa (by simp [bitvec_to_nat]) (yf rfl),⟨by simp;omega,Ze.2 ⟨ho,ub.2 ⟨Nat.mod_lt _ (by omega),qc⟩⟩,s2,t2,?_,?_⟩,by simp;omega⟩
   .simp only [List.length_append,List.length_cons,List.length_nil,Nat.zero_add,Vb,Nat.pow_succ];exact a1
   .simp only [List.length_append,List.length_cons,List.length_nil,Nat.zero_add,Vb,Yb,vh,Zm,Nat.mul_zero,Nat.add_zero,Nat.pow_succ];exact a2
  .have e:o.length=seg.length:=by omega
   rw [e]at hp1 hp2;rw [wh hvl]at hp1;rw [wh (Nat.le_refl _)]at hp2;obtain⟨t1,t2⟩:=Ubr ho e hp1 hlt hp2 hb1;rw [List.drop_of_length_le (by omega),List.append_nil]
   rw [<-t1]at hK;have:(decide ((bw:Int)=1))=decide (val seg<m*val v):=by
    rw [decide_eq_decide,<-t2];omega
   rw [this];exact hK
theorem xaJ(hΓ:Holds P Γ){f fw:Nat}(hw:Γ fw=.dat true Xi)(hc:check P f=some (30,(Up fw).strip,[])):Sound P f (.own jC):=by
 refine Ye hc hΓ (λd args h K hG=>?_);unfold jC at hG;split at hG
 case h_2=>exact hG.elim
 rename_i r ver off len b;obtain⟨v,rfl,hv,pre,seg,post,rfl,rfl,hr,hseg,hvl,hsl,hK⟩:=hG;refine⟨[r],[⟨(pre++seg++post).map wc,1,true⟩],[.one (.own 1048576 ver 1 pre.length seg.length),wsA v],by simp,rfl,?_,?_,?_,λhfi=>⟨by simp,?_⟩⟩
 .intro i r' b h1 h2;cases i with
  | zero=>simp only [List.getElem?_cons_zero,Option.some.injEq]at h1 h2;subst h1 h2;exact⟨by rw [hr],rfl,of_eq_true (wd _)⟩
  | succ i=>simp at h1
 .simp [exA,exC,exB,nameOf,pinA,wsA,ws]
 .intro a ha;simp only [List.mem_cons,List.not_mem_nil,or_false]at ha;rcases ha with rfl | rfl
  .simp [pasA,pasC,pasB,nameOf,pinA]
  .exact .slice _ (of_eq_true (wd _))
 simp only [go_sem,Up,hw,hr];intro h1;refine ja (λp:List Nat×Nat=>⟨mkV [(0,.one (.own 1048576 ver 1 pre.length seg.length)),(1,wsA v),(4,.one (.lit (.int .u64 p.2))),(7,.one (.lit (.int .i64 seg.length))),(8,.one (.lit (.int .i64 p.1.length)))],
   mkH [(1048576,⟨ver,some ⟨(pre++(p.1++seg.drop p.1.length)++post).map wc,1,true⟩⟩)]⟩)
  (λp=>p.1.length<=seg.length/\WL p.1/\p.2<=1/\val p.1+4294967296 ^ p.1.length*p.2=val (seg.take p.1.length)+val (v.take p.1.length)) (λp=>seg.length-p.1.length) ([],0) ?_ ?_ ?_
 .exact qa (by simp [bitvec_to_nat]) (yf (by simp))
 .simp [qc,val]
 .rintro⟨o,c⟩ ⟨hoN,ho,hc1,hp1⟩;simp only at hoN ho hc1 hp1;have hlen:(pre++(o++seg.drop o.length)++post).length=pre.length+seg.length+post.length:=by simp;omega
  simp only [go_sem,hw,hr,hlen];refine⟨λhlt2=>?_,λhge=>?_⟩
  .have g1:=jb hseg o.length;have g2:=jb hv o.length;have e2:seg.getD o.length 0 % 18446744073709551616=seg.getD o.length 0:=by omega
   rw [Ua0 _ _ _ _ hlt2,e2,Nat.mod_eq_of_lt (show seg.getD o.length 0+v.getD o.length 0<18446744073709551616 by omega),Nat.mod_eq_of_lt (show c+(seg.getD o.length 0+v.getD o.length 0)<18446744073709551616 by omega),Vam _ _ _ _ _ hlt2]
   have a1:=Wbe (B:=4294967296) (a:=seg.getD o.length 0) (b:=v.getD o.length 0) hp1 rfl;generalize hs:c+(seg.getD o.length 0+v.getD o.length 0)=s at a1;refine⟨hlt2,by omega,hv,hlt2,by omega,by omega,by omega,(o++[s % 4294967296],s / 4294967296),qa (by simp [bitvec_to_nat]) (yf rfl),⟨by simp;omega,Ze.2 ⟨ho,ub.2 ⟨Nat.mod_lt _ (by omega),qc⟩⟩,by simp only;omega,?_⟩,by simp;omega⟩
   simp only [List.length_append,List.length_cons,List.length_nil,Nat.zero_add,Vb,Yb,vh,Zm,Nat.mul_zero,Nat.add_zero,Nat.pow_succ];exact a1
  .have e:o.length=seg.length:=by omega
   rw [e,wh hvl,wh (Nat.le_refl _)]at hp1;have t1:=vbg ho e hp1;rw [List.drop_of_length_le (by omega),List.append_nil]
   rw [<-t1]at hK;exact hK
end Go.Abs
end
section
namespace Go.Num
theorem Qy:∀(a b X:Nat),dig (a+b) X=dig a X++dig b (X / 4294967296 ^ a)
 | 0,b,X=>by simp [dig]
 | a+1,b,X=>by
  rw [show a+1+b=(a+b)+1 by omega,dig,dig,Qy a b,Nat.div_div_eq_div_mul,Nat.pow_succ,Nat.mul_comm 4294967296];simp
theorem qaw:∀k,dig k 0=List.replicate k 0
 | 0=>rfl
 | k+1=>by rw [dig,Nat.zero_mod,Nat.zero_div,qaw k,List.replicate_succ]
theorem WW:∀(k i X:Nat),i<k->(dig k X).getD i 0=X / 4294967296 ^ i % 4294967296
 | k+1,0,X,_=>by simp [dig]
 | k+1,i+1,X,h=>by
  rw [dig,List.getD_cons_succ,WW k i _ (by omega),Nat.div_div_eq_div_mul,Nat.pow_succ,Nat.mul_comm 4294967296]
theorem qU:∀(k X:Nat),dig k (X % 4294967296 ^ k)=dig k X:=by
 intro k X;refine yam (Xk _ _) (Xk _ _) (by rw [Wa,Wa]) ?_
 rw [Wj,Wj,Nat.mod_mod]
theorem uby{j X Y:Nat}:dig j (X % 4294967296 ^ j+4294967296 ^ j*Y)=dig j X:=by
 rw [<-qU,Nat.add_mul_mod_self_left,Nat.mod_mod,qU]
theorem JI{L j n X:Nat}(h:j+(n+1)<=L)(hX:X / 4294967296 ^ j<4294967296 ^ (n+1)) :
  dig L X=dig j X++dig (n+1) (X / 4294967296 ^ j)++List.replicate (L-(j+(n+1))) 0:=by
 conv=>lhs;rw [show L=j+(n+1)+(L-(j+(n+1))) by omega]
 rw [Qy,Qy,Nat.pow_add,<-Nat.div_div_eq_div_mul,Nat.div_eq_of_lt hX,qaw]
theorem YaC{L j n X R:Nat}(h:j+(n+1)<=L)(hR:R<4294967296 ^ (n+1)) :
  dig j X++dig (n+1) R++List.replicate (L-(j+(n+1))) 0=dig L (X % 4294967296 ^ j+4294967296 ^ j*R):=by
 have e:(X % 4294967296 ^ j+4294967296 ^ j*R) / 4294967296 ^ j=R:=by
  rw [Nat.add_mul_div_left _ _ (pow_pos j),Nat.div_eq_of_lt (Nat.mod_lt _ (pow_pos j)),Nat.zero_add]
 rw [JI h (by rw [e];exact hR),e,uby]
structure Step (B n V P top next head u2:Nat):Prop where
 hB:2<=B
 hn:2<=n
 vlow:∃l,V=(top*B+next)*B ^ (n-2)+l/\l<B ^ (n-2)
 plow:∃l,P=(head*B+u2)*B ^ (n-2)+l/\l<B ^ (n-2)
 nextB:next<B
 topB:top<B
 half:B<=2*top
 u2B:u2<B
 lt:P<V*B
namespace Step
variable {B n V P top next head u2:Nat}
theorem vpos(s:Step B n V P top next head u2):0<V:=by
 obtain⟨l,h,_⟩:=s.vlow;have:0<B ^ (n-2):=Nat.pow_pos (by have:=s.hB;omega)
 have h2:0<top*B+next:=by
  have:=Nat.mul_pos (show 0<top by have:=s.half;have:=s.hB;omega) (show 0<B by have:=s.hB;omega)
  omega
 have:=Nat.mul_pos h2 this;omega
theorem down(s:Step B n V P top next head u2){g r:Nat}(hg:g*top+r=head)(h:B<=g∨r*B+u2<g*next):P / V<g:=by
 rw [Nat.div_lt_iff_lt_mul s.vpos];rcases h with h | h
 .have h1:=Nat.mul_le_mul_right V h;have:=s.lt;rw [Nat.mul_comm V]at this;omega
 .obtain⟨lv,hv,hlv⟩:=s.vlow;obtain⟨lp,hp,hlp⟩:=s.plow;generalize B ^ (n-2)=p at hv hlv hp hlp;have h1:head*B+u2+1<=g*(top*B+next):=by
   rw [<-hg];have:(g*top+r)*B=g*(top*B)+r*B:=by rw [Nat.add_mul,Nat.mul_assoc]
   rw [this,Nat.mul_add];omega
  have h2:=Nat.mul_le_mul_right p h1;rw [Nat.add_mul,Nat.one_mul]at h2;have h3:g*(top*B+next)*p<=g*V:=by
   rw [Nat.mul_assoc];exact Nat.mul_le_mul_left _ (by omega)
  omega
theorem stop(s:Step B n V P top next head u2){g r:Nat}(hg:g*top+r=head)(hgB:g<=B)(h:B<=r∨(g<B/\g*next<=r*B+u2)):g*V<=P+V:=by
 obtain⟨lv,hv,hlv⟩:=s.vlow;obtain⟨lp,hp,hlp⟩:=s.plow;have hB:=s.hB;have hn:=s.hn;have hpp:0<B ^ (n-2):=Nat.pow_pos (by omega)
 have h1:g*(top*B+next)<=head*B+u2:=by
  rw [<-hg,Nat.add_mul,Nat.mul_add,Nat.mul_assoc];rcases h with h | h
  .have h3:g*next<=B*B:=Nat.mul_le_mul hgB (Nat.le_of_lt s.nextB)
   have h4:B*B<=r*B:=Nat.mul_le_mul_right _ h;omega
  .omega
 have hVtop:B*B ^ (n-2)<=V:=by
  have:B<=top*B:=Nat.le_mul_of_pos_left _ (by have:=s.half;omega)
  have:=Nat.mul_le_mul_right (B ^ (n-2)) (show B<=top*B+next by omega)
  omega
 generalize B ^ (n-2)=p at hv hlv hp hlp hpp hVtop;have h2:=Nat.mul_le_mul_right p h1;have h5:g*V<=g*((top*B+next)*p)+g*p:=by
  rw [hv,Nat.mul_add];exact Nat.add_le_add_left (Nat.mul_le_mul_left _ (Nat.le_of_lt hlv)) _
 have h6:g*p<=B*p:=Nat.mul_le_mul_right _ hgB;rw [<-Nat.mul_assoc]at h5;omega
theorem first(s:Step B n V P top next head u2):head / top<=B+1/\P / V<=head / top:=by
 have hB:=s.hB;have ht:0<top:=by have:=s.half;omega
 obtain⟨lv,hv,hlv⟩:=s.vlow;obtain⟨lp,hp,hlp⟩:=s.plow;have hlt:=s.lt;have hnext:=s.nextB;have hu2:=s.u2B;constructor
 .have h1:head<=top*B+next:=by
   rcases Nat.lt_or_ge (top*B+next) head with h | h
   .exfalso;have h2:=Nat.mul_le_mul_right (B ^ (n-2)) (Nat.mul_le_mul_right B h);have h3:(top*B+next+1)*B*B ^ (n-2)=((top*B+next)*B ^ (n-2)+B ^ (n-2))*B:=by
     generalize B ^ (n-2)=p;grind
    rw [Nat.succ_eq_add_one,h3]at h2;have h4:V*B<=((top*B+next)*B ^ (n-2)+B ^ (n-2))*B:=Nat.mul_le_mul_right _ (by omega)
    have h5:head*B*B ^ (n-2)<=P:=by
     rw [hp,Nat.add_mul];omega
    omega
   .exact h
  have h2:head<(B+2)*top:=by
   have:=s.half;have:(B+2)*top=top*B+2*top:=by rw [Nat.add_mul,Nat.mul_comm B]
   omega
  have:=(Nat.div_lt_iff_lt_mul ht).2 h2;omega
 .have:P / V<head / top+1:=by
   rw [Nat.div_lt_iff_lt_mul s.vpos];have h1:head<(head / top+1)*top:=by
    have:=Nat.div_add_mod head top;have:=Nat.mod_lt head ht;rw [Nat.add_mul,Nat.one_mul,Nat.mul_comm (head / top)];omega
   have h2:head+1<=(head / top+1)*top:=h1;have h3:=Nat.mul_le_mul_right (B ^ (n-2)) (Nat.mul_le_mul_right B h2);have h4:(head / top+1)*top*B*B ^ (n-2)<=(head / top+1)*V:=by
    rw [Nat.mul_assoc,Nat.mul_assoc];refine Nat.mul_le_mul_left _ ?_;rw [hv,Nat.add_mul,<-Nat.mul_assoc];omega
   have h5:P<(head+1)*B*B ^ (n-2):=by
    rw [hp];have:(head*B+u2+1)*B ^ (n-2)<=(head+1)*B*B ^ (n-2):=Nat.mul_le_mul_right _ (by rw [Nat.add_mul,Nat.one_mul];omega)
    rw [Nat.add_mul,Nat.one_mul]at this;omega
   omega
  omega
theorem left(s:Step B n V P top next head u2){g:Nat}(h1:P / V<=g)(h2:g*V<=P+V) :
  (P<g*V->g=P / V+1)/\(¬P<g*V->g=P / V):=by
 have hv:=s.vpos;have e:=Nat.div_add_mod P V;have m:=Nat.mod_lt P hv;constructor
 .intro h;have h3:g<=P / V+1:=by
   rcases Nat.lt_or_ge (P / V+1) g with h4 | h4
   .exfalso;have:=Nat.mul_le_mul_right V (show P / V+2<=g from h4);rw [Nat.add_mul,Nat.mul_comm (P / V)]at this;omega
   .exact h4
  have h5:P / V<g:=by rw [Nat.div_lt_iff_lt_mul hv];exact h
  omega
 .intro h;have:g<=P / V:=by rw [Nat.le_div_iff_mul_le hv];omega
  omega
theorem quot(s:Step B n V P top next head u2):P / V<B:=by
 rw [Nat.div_lt_iff_lt_mul s.vpos,Nat.mul_comm];exact s.lt
end Step
theorem Ube(n k X:Nat):(dig (n+k) X).take n=dig n X:=by
 rw [Qy,List.take_append_of_le_length (by rw [Wa];exact Nat.le_refl _),List.take_of_length_le (by rw [Wa];exact Nat.le_refl _)]
theorem waK{t:Nat}(h0:0<t)(h:t<4294967296):Lib.bitLen t=Nat.log2 t+1:=by
 have h1:2 ^ Nat.log2 t<=t:=Nat.log2_self_le (by omega)
 have h2:t<2 ^ (Nat.log2 t+1):=Nat.lt_log2_self;rw [Lib.bitLen_shift _ _ h1 (by omega)]
 have:t / 2 ^ Nat.log2 t=1:=by
  rw [Nat.pow_succ]at h2;have hp:0<2 ^ Nat.log2 t:=Nat.pow_pos (by omega)
  generalize 2 ^ Nat.log2 t=p at h1 h2 hp;have a:t / p<2:=(Nat.div_lt_iff_lt_mul hp).2 (by omega)
  have b:1<=t / p:=(Nat.le_div_iff_mul_le hp).2 (by omega)
  omega
 rw [this];rfl
theorem Ubz{t:Nat}(h0:0<t)(h:t<4294967296):∃s:Nat,s<32/\(32-(Lib.bitLen t:Int))=s/\2147483648<=t*2 ^ s/\(t+1)*2 ^ s<=4294967296:=by
 have h1:2 ^ Nat.log2 t<=t:=Nat.log2_self_le (by omega)
 have h2:t<2 ^ (Nat.log2 t+1):=Nat.lt_log2_self;have hl:Nat.log2 t<32:=by rw [Nat.log2_lt (by omega)];exact h
 rw [waK h0 h];refine⟨31-Nat.log2 t,by omega,by omega,?_,?_⟩
 .have:=Nat.mul_le_mul_right (2 ^ (31-Nat.log2 t)) h1;rw [<-Nat.pow_add,show Nat.log2 t+(31-Nat.log2 t)=31 by omega]at this
  exact this
 .have:=Nat.mul_le_mul_right (2 ^ (31-Nat.log2 t)) (show t+1<=_ from h2);rw [<-Nat.pow_add,show Nat.log2 t+1+(31-Nat.log2 t)=32 by omega]at this
  exact this
theorem shifted{y:List Nat}{s:Nat}(hy:WL y)(hn:0<y.length)(h1:2147483648<=y.getD (y.length-1) 0*2 ^ s)(h2:(y.getD (y.length-1) 0+1)*2 ^ s<=4294967296) :
  val y*2 ^ s<4294967296 ^ y.length/\4294967296 ^ y.length<=2*(val y*2 ^ s):=by
 have e:=XI y (y.length-1) (by omega)
 rw [List.drop_of_length_le (by omega),Zm,Nat.mul_zero,Nat.add_zero]at e
 have hl:=Jl (zw hy (y.length-1));rw [List.length_take,Nat.min_eq_left (by omega)]at hl
 rw [e,kG hn];generalize y.getD (y.length-1) 0=t at *
 generalize 4294967296 ^ (y.length-1)=p at *
 generalize val (y.take (y.length-1))=v at *
 have hs:0<2 ^ s:=Nat.pow_pos (by omega)
 generalize 2 ^ s=q at *
 have a1:=Nat.mul_le_mul_left p h1;have a2:=Nat.mul_le_mul_left p h2;have a3:=(Nat.mul_lt_mul_right hs).2 hl;rw [Nat.add_mul,Nat.one_mul,Nat.mul_add]at a2;rw [Nat.add_mul,Nat.mul_assoc p t q];constructor
 .omega
 .have:2*(p*2147483648)=p*(2*2147483648):=Nat.mul_left_comm _ _ _;rw [show 2*2147483648=4294967296 from rfl]at this;rw [<-this];exact Nat.mul_le_mul_left 2 (Nat.le_trans a1 (Nat.le_add_left _ _))
theorem Ybf{x y:List Nat}{s:Nat}(hx:WL x)(hs:s<32)(hV:4294967296 ^ y.length<=2*(val y*2 ^ s))(hl:y.length<=x.length+1) :
  val x*2 ^ s<val y*2 ^ s*4294967296 ^ (x.length+1-y.length):=by
 have h1:=Jl hx;have h2:=WT hs;have h3:4294967296 ^ x.length*4294967296=4294967296 ^ y.length*4294967296 ^ (x.length+1-y.length):=by
  rw [<-Nat.pow_succ,<-Nat.pow_add];congr 1;omega
 have h4:=Nat.mul_le_mul_right (4294967296 ^ (x.length+1-y.length)) hV;rw [<-h3,Nat.mul_assoc]at h4;have h5:val x*2 ^ s<4294967296 ^ x.length*2147483648:=
  Nat.lt_of_lt_of_le ((Nat.mul_lt_mul_right (Nat.pow_pos (by omega))).2 h1) (Nat.mul_le_mul_left _ h2)
 omega
theorem zbx{n V P:Nat}(hn:2<=n)(hV1:V<4294967296 ^ n)(hV2:4294967296 ^ n<=2*V)(hP:P<V*4294967296) :
  Step 4294967296 n V P (V / 4294967296 ^ (n-1) % 4294967296) (V / 4294967296 ^ (n-2) % 4294967296) (P / 4294967296 ^ n % 4294967296*4294967296+P / 4294967296 ^ (n-1) % 4294967296) (P / 4294967296 ^ (n-2) % 4294967296):=by
 have e1:4294967296 ^ n=4294967296 ^ (n-1)*4294967296:=kG (by omega)
 have e2:4294967296 ^ (n-1)=4294967296 ^ (n-2)*4294967296:=by rw [kG (show 0<n-1 by omega),show n-1-1=n-2 by omega]
 have hp:=pow_pos (n-2);have ht:V / 4294967296 ^ (n-1)<4294967296:=by
  rw [Nat.div_lt_iff_lt_mul (pow_pos _),Nat.mul_comm,<-e1];exact hV1
 have hh:P / 4294967296 ^ n<4294967296:=by
  rw [Nat.div_lt_iff_lt_mul (pow_pos _)];have:=(Nat.mul_lt_mul_right (show 0<4294967296 by omega)).2 hV1
  rw [Nat.mul_comm (4294967296 ^ n)]at this;omega
 have q1:V / 4294967296 ^ (n-1)=V / 4294967296 ^ (n-2) / 4294967296:=by rw [e2,Nat.div_div_eq_div_mul]
 have q2:P / 4294967296 ^ (n-1)=P / 4294967296 ^ (n-2) / 4294967296:=by rw [e2,Nat.div_div_eq_div_mul]
 have q3:P / 4294967296 ^ n=P / 4294967296 ^ (n-1) / 4294967296:=by rw [e1,Nat.div_div_eq_div_mul]
 refine⟨by omega,hn,⟨V % 4294967296 ^ (n-2),?_,Nat.mod_lt _ hp⟩,⟨P % 4294967296 ^ (n-2),?_,Nat.mod_lt _ hp⟩,Nat.mod_lt _ (by omega),Nat.mod_lt _ (by omega),?_,Nat.mod_lt _ (by omega),hP⟩
 .rw [Nat.mod_eq_of_lt ht,q1];rw [Nat.div_add_mod' (V / 4294967296 ^ (n-2)),Nat.mul_comm];exact(Nat.div_add_mod _ _).symm
 .rw [Nat.mod_eq_of_lt hh,q3,q2];rw [Nat.div_add_mod' (P / 4294967296 ^ (n-2) / 4294967296),Nat.div_add_mod' (P / 4294967296 ^ (n-2)),Nat.mul_comm];exact(Nat.div_add_mod _ _).symm
 .rw [Nat.mod_eq_of_lt ht];have:2147483648<=V / 4294967296 ^ (n-1):=by
   rw [Nat.le_div_iff_mul_le (pow_pos _)];rw [e1]at hV2;generalize 4294967296 ^ (n-1)=p at hV2 ⊢;omega
  omega
theorem Ybd{a b:Nat}(h:¬a<b):(ordN a b<0)=False:=by
 unfold ordN;rw [if_neg h];split <;> simp
theorem kay{j X V A q Q:Nat}(hV:0<V)(hA:A=X+V*4294967296 ^ (j+1)*Q)(hq:q=X / 4294967296 ^ j / V) :
  A=(X % 4294967296 ^ j+4294967296 ^ j*(X / 4294967296 ^ j % V))+V*4294967296 ^ j*(q+4294967296*Q)/\X % 4294967296 ^ j+4294967296 ^ j*(X / 4294967296 ^ j % V)<V*4294967296 ^ j:=by
 have hp:=pow_pos j;rw [Nat.pow_succ]at hA;generalize 4294967296 ^ j=p at *
 have e1:=Nat.div_add_mod X p;have e2:=Nat.div_add_mod (X / p) V;have m1:=Nat.mod_lt X hp;have m2:=Nat.mod_lt (X / p) hV;rw [<-hq]at e2;generalize X % p=r at *
 generalize hS:X / p % V=S at *
 generalize X / p=Z at *
 generalize 4294967296=B at hA ⊢;subst hA e2 e1;constructor
 .grind
 .have:p*(S+1)<=p*V:=Nat.mul_le_mul_left _ m2;rw [Nat.mul_add,Nat.mul_one]at this;rw [Nat.mul_comm V];omega
theorem uO(k X:Nat):dig k (X+4294967296 ^ k)=dig k X:=by
 rw [<-qU,Nat.add_mod_right,qU]
theorem Zbj{k P V g:Nat}(hg:g=P / V):dig k (P+4294967296 ^ k-g*V)=dig k (P % V):=by
 have e:g*V+P % V=P:=by rw [hg,Nat.mul_comm];exact Nat.div_add_mod P V
 clear hg;generalize P % V=r at *
 generalize hp:4294967296 ^ k=p;rw [show P+p-g*V=r+p by omega,<-hp,uO]
theorem vbk{k P V g:Nat}(hg:g=P / V+1)(hb:P<g*V)(hk:g*V<4294967296 ^ k):dig k (val (dig k (P+4294967296 ^ k-g*V))+V)=dig k (P % V):=by
 have e:P / V*V+P % V=P:=by rw [Nat.mul_comm];exact Nat.div_add_mod P V
 have:g*V=P / V*V+V:=by rw [hg,Nat.add_mul,Nat.one_mul]
 rw [Wj,Nat.mod_eq_of_lt (by omega)]
 clear hg;generalize P / V*V=q at *
 generalize P % V=r at *
 generalize g*V=gv at *
 generalize hp:4294967296 ^ k=p at *
 rw [show P+p-gv+V=r+p by omega,<-hp,uO]
theorem uaP{a b:Nat}(ha:a<4294967296)(hb:b<4294967296):a*b<18446744073709551616:=by
 have h:=VX ha hb (c:=0) (d:=0) (by decide) (by decide)
 rwa [Nat.zero_add,Nat.add_zero]at h
theorem QN{q:Nat}(h:q<4294967296):sub64 (q+1) 1=q:=by rw [yy (by omega) (by omega)];omega
theorem Zbr{r:Nat}(h:r<4294967296):r*4294967296 % 18446744073709551616=r*4294967296:=by omega
end Go.Num
end
section
namespace Go.Abs
open Go.Num
variable {P:Program} {Γ:Nat->Spec}
def xh(f0 f1 f2 f3 f4 f5 f6 f7:Nat):AC:=(.o [.m 4 (.c (.one .emp)),.m 5 (.c (.one .emp))] [0,1] (.f (.o [.M 19 0,.M 20 1,.D 21 f0 19 20,.I 22 .lss 21 0] [0,1,22] (.cond (.t 22) (.seq (.p [.M 23 0,.H 24 f1 23,.m 4 (.c (.one .emp)),.M 5 24]) .ret) .skip)) [0,1] (.f (.o [.M 25 1,.Z 26 25,.I 27 .eql 26 1] [0,1,27] (.cond (.t 27) (.o [.M 29 0,.M 30 1,.u 31 (.idx 1 (.t 30) (.i 0)),.F 32 1 31,.D 33 f2 29 32,.M 28 33,.X 34 0 28,.X 35 1 28,.M 6 34,.M 7 35] [6,7] (.seq (.p [.M 36 6,.M 37 7,.u 38 (.row 1 [[.x 1 (.t 37)]]),.H 39 f1 38,.M 4 36,.M 5 39]) .ret)) .skip)) [0,1] (.o [.M 40 1,.M 41 1,.Z 42 41,.I 43 .sub 42 1,.J 44 1 40 43,.F 45 1 44,.H 46 f3 45,.M 8 46] [0,1,8] (.f (.y [.M 47 1,.M 48 8,.u 49 (.callf f4 [(.t 47),(.t 48)]),.M 50 1,.Z 51 50,.u 52 (.sl 1 (.t 49) none (some (.t 51))),.M 53 0,.M 54 8,.u 55 (.callf f4 [(.t 53),(.t 54)]),.M 9 52,.M 10 55]) [8,9,10] (.fz [9] (.o [.M 56 10,.Z 57 56,.M 58 9,.Z 59 58,.B 60 .sub 57 59,.u 61 (.mk 1 [(.lit (.int .u32 0))] (.t 60) (.t 60)),.M 11 61] [8,9,10,11] (.f (.y [.M 62 9,.M 63 9,.Z 64 63,.I 65 .sub 64 1,.J 66 1 62 65,.F 67 1 66,.u 68 (.conv .u64 (.t 67)),.M 69 9,.M 70 9,.Z 71 70,.I 72 .sub 71 2,.J 73 1 69 72,.F 74 1 73,.u 75 (.conv .u64 (.t 74)),.M 12 68,.M 13 75]) [8,9,10,11,12,13] (.f (.o [.M 76 11,.Z 77 76,.I 78 .sub 77 1,.M 14 78] [8,9,10,11,12,13,14] (.block 0 (.loop (.f (.o [.M 79 14,.I 80 .geq 79 0] [8,9,10,11,12,13,14,80] (.cond (.t 80) .skip (.exit 0))) [8,9,10,11,12,13,14] (.f (.block 1 (.o [.M 83 10,.M 84 14,.M 85 14,.M 86 9,.Z 87 86,.B 88 .add 85 87,.I 89 .add 88 1,.u 90 (.sl 1 (.t 83) (some (.t 84)) (some (.t 89))),.M 15 90] [8,9,10,11,12,13,14,15] (.f (.y [.M 91 15,.M 92 9,.Z 93 92,.J 94 1 91 93,.F 95 1 94,.u 96 (.conv .u64 (.t 95)),.u 97 (.bin .shl (.t 96) (.c (.one (.lit (.int .u64 32))))),.M 98 15,.M 99 9,.Z 100 99,.I 101 .sub 100 1,.J 102 1 98 101,.F 103 1 102,.u 104 (.conv .u64 (.t 103)),.B 105 .or 97 104,.M 16 105]) [8,9,10,11,12,13,14,15,16] (.f (.y [.M 106 16,.M 107 12,.B 108 .quo 106 107,.M 109 16,.M 110 12,.B 111 .rem 109 110,.M 17 108,.M 18 111]) [8,9,10,11,12,13,14,15,17,18] (.f (.block 2 (.loop (.f (.o [.M 112 18,.u 113 (.bin .lss (.t 112) (.c (.one (.lit (.int .u64 4294967296))))),.M 114 113,.V 115 114 true 17,.w 116 114 true (.bin .geq (.t 115) (.c (.one (.lit (.int .u64 4294967296))))),.V 117 114 true 116,.V 118 117 false 17,.V 119 117 false 13,.w 120 117 false (.bin .mul (.t 118) (.t 119)),.V 121 117 false 18,.w 122 117 false (.bin .shl (.t 121) (.c (.one (.lit (.int .u64 32))))),.V 123 117 false 15,.V 124 117 false 9,.w 125 117 false (.len (.t 124)),.w 126 117 false (.bin .sub (.t 125) (.i 2)),.w 127 117 false (.idx 1 (.t 123) (.t 126)),.U 128 117 false 1 false 127,.w 129 117 false (.conv .u64 (.t 128)),.w 130 117 false (.bin .or (.t 122) (.t 129)),.w 131 117 false (.bin .gtr (.t 120) (.t 130)),.w 132 114 true (.pick (.t 117) .tr (.t 131)),.P 133 114 132] [8,9,10,11,12,13,14,15,17,18,133] (.cond (.t 133) .skip (.exit 2))) [8,9,10,11,12,13,14,15,17,18] (.block 3 (.o [.M 134 17,.u 135 (.bin .sub (.t 134) (.c (.one (.lit (.int .u64 1))))),.M 17 135] [8,9,10,11,12,13,14,15,17,18] (.p [.M 136 18,.M 137 12,.B 138 .add 136 137,.M 18 138])))))) [8,9,10,11,12,13,14,15,17] (.f (.o [.M 139 15,.M 140 9,.M 141 17,.E 142 f5 139 140 141] [8,9,10,11,12,13,14,15,17,142] (.cond (.t 142) (.o [.M 143 17,.u 144 (.bin .sub (.t 143) (.c (.one (.lit (.int .u64 1))))),.M 17 144] [8,9,10,11,12,13,14,15,17] (.p [.M 145 15,.M 146 9,.D 147 f6 145 146])) .skip)) [8,9,10,11,12,13,14,17] (.p [.M 148 11,.M 149 14,.M 150 17,.u 151 (.conv .u32 (.t 150)),.J 152 1 148 149,.S 1 152 151]))))))) [8,9,10,11,12,13,14] (.p [.M 81 14,.I 82 .sub 81 1,.M 14 82])))))) [8,10,11] (.seq (.p [.M 153 11,.H 154 f1 153,.M 155 10,.M 156 8,.D 157 f7 155 156,.M 4 154,.M 5 157]) .ret))))))))))
set_option maxHeartbeats 4000000 in
theorem J9(hΓ:Holds P Γ){f fcmp ftrim fshort flz fup frem fback fdown:Nat}(h1:Γ fcmp=.dat false Vf)(h2:Γ ftrim=.dat false Yo)(h3:Γ fshort=.dat false Xr)(h4:Γ flz=.dat true lz_G)
  (h5:Γ fup=.fresh 1 up_G) (h6:Γ frem=.own Zp) (h7:Γ fback=.own jC) (h8:Γ fdown=.dat false Vz)
  (hc:check P f=some (158,(xh fcmp ftrim fshort flz fup frem fback fdown).strip,[.tmp 4,.tmp 5])):Sound P f (.dat false Ue):=by
 refine Qa hc wK hΓ (λargs K hcl hfi hG=>?_);match args,hG with
 | [a,b],hG=>
  obtain⟨x,rfl,hx,y,rfl,hy,hzx,hzy,hy0,hxl,hyl,hK⟩:=hG;refine⟨by simp,?_⟩
  have hn:0<y.length:=by cases y with | nil=>exact(hy0 rfl).elim | cons=>simp
  have ht0:y.getD (y.length-1) 0≠0:=by
   intro e;refine hzy ?_;rw [List.getLast?_eq_getElem?];rw [List.getD_eq_getElem?_getD,List.getElem?_eq_getElem (by omega)]at e
   rw [List.getElem?_eq_getElem (by omega)]
   simpa using e
  have htB:=jb hy (y.length-1);obtain⟨s,hs32,hs,hs1,hs2⟩:=Ubz (Nat.pos_of_ne_zero ht0) htB;have hlast:((y.length:Int)-1).toNat=y.length-1:=by omega
  have hle:(y.length<=y.length+1)=True:=eq_true (by omega)
  obtain⟨hV1,hV2⟩:=shifted hy hn hs1 hs2;by_cases hlt:val x<val y
  .simp only [go_sem,xh,h1,h2,h3,h4,h5,h8,UV hlt];refine⟨hx,hy,hzx,hzy,λ_=>⟨hx,by omega,?_⟩,λh=>absurd (show(-1:Int)<0 by omega) h⟩
   rw [Nat.div_eq_of_lt hlt,Nat.mod_eq_of_lt hlt,Qb]at hK;exact hK
  have hlen:y.length<=x.length:=by
   rcases Nat.lt_or_ge x.length y.length with h | h
   .exact absurd (xK hx hzy h) hlt
   .exact h
  obtain⟨M,hM⟩:∃M,M=x.length+1-y.length:=⟨_,rfl⟩;have hM2:((x.length+1:Nat):Int)-(y.length:Int)=(M:Int):=by omega
  simp only [go_sem,xh,h1,h2,h3,h4,h5,h8,hlast,hs,Wa,Ube,hle,Ybd hlt,hM2];refine⟨hx,hy,hzx,hzy,λ_=>⟨λhone=>?_,λhone=>?_⟩⟩
  .have hone:y.length=1:=by omega
   match y,hone with
   | [t],_=>
    simp only [List.length_singleton,Nat.sub_self,List.getD_cons_zero]at ht0 htB ⊢;refine⟨by omega,by omega,hx,by omega,by omega,by omega,ub.2 ⟨Nat.lt_trans (Nat.mod_lt _ (by omega)) htB,qc⟩,?_⟩
    simpa [val] using hK
  have hone:2<=y.length:=by omega
  generalize hV:val y*2 ^ s=V at hV1 hV2;generalize hA:val x*2 ^ s=A;generalize hnn:y.length=n at *
  generalize hLL:x.length+1=L at *
  have hV0:0<V:=by have:=pow_pos n;omega
  have htop:(dig n V).getD (n-1) 0=V / 4294967296 ^ (n-1) % 4294967296:=WW _ _ _ (by omega)
  have hnext:(dig n V).getD ((n:Int)-2).toNat 0=V / 4294967296 ^ (n-2) % 4294967296:=by
   rw [show((n:Int)-2).toNat=n-2 by omega];exact WW _ _ _ (by omega)
  have hvv:val (dig n V)=V:=by rw [Wj,Nat.mod_eq_of_lt hV1]
  repeat first | refine q_Wk ?_ | intro _
  obtain⟨top,htd⟩:∃t,t=V / 4294967296 ^ (n-1) % 4294967296:=⟨_,rfl⟩;obtain⟨next,hnd⟩:∃t,t=V / 4294967296 ^ (n-2) % 4294967296:=⟨_,rfl⟩
  have htB:top<4294967296:=by rw [htd];exact Nat.mod_lt _ (by omega)
  have hnB:next<4294967296:=by rw [hnd];exact Nat.mod_lt _ (by omega)
  rw [htop,hnext,<-htd,<-hnd,Nat.mod_eq_of_lt (show top<18446744073709551616 by omega),Nat.mod_eq_of_lt (show next<18446744073709551616 by omega)]
  have hstart:=Ybf hx hs32 (y:=y) (by rw [hnn,hV];exact hV2) (by omega)
  rw [hV,hA,hLL,hnn,<-hM]at hstart;refine ja (λp:Nat×Nat×List Nat=>⟨mkV [(8,.one (.lit (.int .i64 s))),(9,wsA (dig n V)),(10,.one (.own 55 1 1 0 L)),(11,.one (.own 61 1 1 0 M)),(12,.one (.lit (.int .u64 top))),(13,.one (.lit (.int .u64 next))),(14,.one (.lit (.int .i64 ((p.1:Int)-1))))],
    mkH [(55,⟨1,some ⟨(dig L p.2.1).map wc,1,true⟩⟩),(61,⟨1,some ⟨(List.replicate p.1 0++p.2.2).map wc,1,true⟩⟩)]⟩)
   (λp=>p.1<=M/\p.2.1<V*4294967296 ^ p.1/\A=p.2.1+V*4294967296 ^ p.1*val p.2.2/\WL p.2.2/\p.2.2.length=M-p.1) (λp=>p.1) (M,A,[]) ?_ ?_ ?_
  .exact qa (by simp [bitvec_to_nat]) ⟨qb rfl,qb (by simp),trivial⟩
  .exact⟨Nat.le_refl _,hstart,by simp [val],qc,by simp⟩
  .rintro⟨j1,X,qd⟩ ⟨hj,hX,hAX,hqd,hqdl⟩;simp only at hj hX hAX hqd hqdl;have hql:(List.replicate j1 0++qd).length=M:=by simp;omega
   rcases Nat.eq_zero_or_pos j1 with hj0 | hj0
   .subst hj0;simp only [Nat.pow_zero,Nat.mul_one]at hX hAX;have h0f:((0:Int)<=((0:Nat):Int)-1)=False:=eq_false (by omega)
    simp only [go_sem,h1,h2,h3,h4,h5,h8,Wa,hql,h0f];refine⟨hqd,by omega,Xk _ _,by omega,by omega,?_⟩
    have hXL:X<4294967296 ^ L:=Nat.lt_trans hX (Nat.lt_of_lt_of_le hV1 (Nat.pow_le_pow_right (by omega) (by omega)))
    rw [Wj,Nat.mod_eq_of_lt hXL];have hs0:0<2 ^ s:=Nat.pow_pos (by omega)
    have hA2:=(Nat.div_mod_unique hV0 (a:=A) (c:=X) (d:=val qd)).2 ⟨hAX.symm,hX⟩;have e1:val x / val y=val qd:=by rw [<-hA2.1,<-hA,<-hV,Nat.mul_div_mul_right _ _ hs0]
    have e2:val x % val y=X / 2 ^ s:=by
     rw [<-hA2.2,<-hA,<-hV,Nat.mul_mod_mul_right,Nat.mul_div_cancel _ hs0]
    rw [e1,e2]at hK;exact hK
   .obtain⟨j,rfl⟩:∃j,j1=j+1:=⟨j1-1,by omega⟩
    have hj1:(((j+1:Nat):Int)-1)=(j:Int):=by omega
    simp only [hj1];generalize hPP:X / 4294967296 ^ j=P';have hPV:P' < V*4294967296:=by
     rw [<-hPP,Nat.div_lt_iff_lt_mul (pow_pos _),Nat.mul_assoc,Nat.mul_comm 4294967296,<-Nat.pow_succ];exact hX
    have hPL:P' < 4294967296 ^ (n+1):=by
     have:=(Nat.mul_lt_mul_right (show 0<4294967296 by omega)).2 hV1
     rw [Nat.pow_succ];exact Nat.lt_trans hPV this
    have st:=zbx hone hV1 hV2 hPV;rw [<-htd,<-hnd]at st;have hread:∀k,k<=n->(dig L X).getD (j+k) 0=P' / 4294967296 ^ k % 4294967296:=by
     intro k hk;rw [WW _ _ _ (by omega),Nat.pow_add,<-Nat.div_div_eq_div_mul,hPP]
    have hr0:=hread n (Nat.le_refl _);have hr1:=hread (n-1) (by omega)
    have hr2:=hread (n-2) (by omega)
    obtain⟨a,ha⟩:∃a,a=P' / 4294967296 ^ n % 4294967296:=⟨_,rfl⟩;obtain⟨b,hb⟩:∃b,b=P' / 4294967296 ^ (n-1) % 4294967296:=⟨_,rfl⟩;obtain⟨u2,hu⟩:∃u2,u2=P' / 4294967296 ^ (n-2) % 4294967296:=⟨_,rfl⟩;rw [<-ha]at hr0 st;rw [<-hb]at hr1 st;rw [<-hu]at hr2 st;have haB:a<4294967296:=by rw [ha];exact Nat.mod_lt _ (by omega)
    have hbB:b<4294967296:=by rw [hb];exact Nat.mod_lt _ (by omega)
    have huB:u2<4294967296:=by rw [hu];exact Nat.mod_lt _ (by omega)
    have htop0:0<top:=by have:=st.half;omega
    have hsub:j+n+1-j=n+1:=by omega
    have hsub1:((n:Int)-1).toNat=n-1:=by omega
    have hsub2:((n:Int)-2).toNat=n-2:=by omega
    have ea1:a % 18446744073709551616=a:=by omega
    have ea2:a*4294967296 % 18446744073709551616=a*4294967296:=by omega
    have eb1:b % 18446744073709551616=b:=by omega
    have eu1:u2 % 18446744073709551616=u2:=by omega
    have eor:=or32 a b hbB;simp only [go_sem,h1,h2,h3,h4,h5,h8,Wa,hql,hsub,hsub1,hsub2,hr0,hr1,hr2,ea1,ea2,eb1,eor];repeat first | refine q_Wk ?_ | intro _
    obtain⟨q1,q2⟩:=st.first
    generalize hhead:a*4294967296+b=head at *
    have hqB:=st.quot;rw [Nat.mod_eq_of_lt (show head / top<18446744073709551616 by omega)]
    refine ja (λp:Nat×Nat=>⟨mkV [(8,.one (.lit (.int .i64 s))),(9,wsA (dig n V)),(10,.one (.own 55 1 1 0 L)),(11,.one (.own 61 1 1 0 M)),(12,.one (.lit (.int .u64 top))),(13,.one (.lit (.int .u64 next))),(14,.one (.lit (.int .i64 j))),(15,.one (.own 55 1 1 j (n+1))),(17,.one (.lit (.int .u64 p.1))),(18,.one (.lit (.int .u64 p.2)))],
      mkH [(55,⟨1,some ⟨(dig L X).map wc,1,true⟩⟩),(61,⟨1,some ⟨(List.replicate (j+1) 0++qd).map wc,1,true⟩⟩)]⟩)
     (λp=>p.1*top+p.2=head/\P' / V<=p.1/\p.1<=4294967297/\p.2<8589934592/\(4294967296<p.1->p.2<4294967296)) (λp=>p.1) (head / top,head % top) ?_ ?_ ?_
    .exact qa (by simp [bitvec_to_nat]) ⟨qb rfl,qb rfl,trivial⟩
    .have m1:=Nat.mod_lt head htop0;exact⟨Nat.div_add_mod' head top,q2,q1,by simp only;omega,λ_=>by simp only;omega⟩
    .rintro⟨g,r⟩ ⟨hg,hqg,hgB,hrB,hgr⟩;simp only at hg hqg hgB hrB hgr;rcases Nat.lt_or_ge r 4294967296 with hr | hr
     .have hr' : ((r:Int)<4294967296)=True:=eq_true (by omega)
      rcases Nat.lt_or_ge g 4294967296 with hgl | hgl
      .have hg' : ((4294967296:Int)<=(g:Int))=False:=eq_false (by omega)
       have hm:g*next<18446744073709551616:=uaP hgl hnB
       have em:g*next % 18446744073709551616=g*next:=by rw [Nat.mod_eq_of_lt hm]
       have er:=Zbr hr;have eo:=or32 r u2 huB;by_cases hcmp:r*4294967296+u2<g*next
       .simp only [go_sem,h1,h2,h3,h4,h5,h6,h7,h8,Wa,hql,hsub,hsub1,hsub2,hr0,hr1,hr2,eu1,hr',hg',em,er,eo,hcmp];repeat first | refine q_Wk ?_ | intro _
        have hdown:4294967296<=g∨r*4294967296+u2<g*next:=.inr hcmp
        have hdn:=st.down hg hdown;have hg0:1<=g:=Nat.lt_of_le_of_lt (Nat.zero_le _) hdn;have hqg1:P' / V<=g-1:=Nat.le_sub_one_of_lt hdn;have hg1:sub64 g 1=g-1:=yy hg0 (by omega)
        refine⟨(g-1,r+top),qa (by simp [bitvec_to_nat,hg1];omega) ⟨qb rfl,qb rfl,trivial⟩,⟨?_,hqg1,by simp only;omega,by simp only;omega,λ_=>by simp only at *;omega⟩,by simp only;omega⟩
        simp only;obtain⟨g',rfl⟩:∃g',g=g' + 1:=⟨g-1,by omega⟩
        rw [Nat.add_sub_cancel,<-hg,Nat.add_mul];omega
       .simp only [go_sem,h1,h2,h3,h4,h5,h6,h7,h8,Wa,hql,hsub,hsub1,hsub2,hr0,hr1,hr2,eu1,hr',hg',em,er,eo,hcmp];repeat first | refine q_Wk ?_ | intro _
        have hstop:4294967296<=r∨(g<4294967296/\g*next<=r*4294967296+u2):=.inr ⟨hgl,by omega⟩
        have hgB2:g<=4294967296:=by omega
        have hle:=st.stop hg hgB2 hstop;obtain⟨l1,l2⟩:=st.left hqg hle;have hgV:g*V<4294967296 ^ (n+1):=by
         have a1:=Nat.mul_le_mul_right V hgB2;have a2:=(Nat.mul_lt_mul_left (show 0<4294967296 by omega)).2 hV1
         rw [Nat.pow_succ,Nat.mul_comm (4294967296 ^ n)];exact Nat.lt_of_le_of_lt a1 a2
        have hsplit:=JI (L:=L) (j:=j) (n:=n) (X:=X) (by omega) (by rw [hPP];exact hPL)
        rw [hPP]at hsplit;have hvp:val (dig (n+1) P')=P':=by rw [Wj,Nat.mod_eq_of_lt hPL]
        have hrl:P' % V<4294967296 ^ (n+1):=Nat.lt_of_le_of_lt (Nat.mod_le _ _) hPL;have hjoin:=YaC (L:=L) (j:=j) (n:=n) (X:=X) (by omega) hrl
        have hdiv:=kay (j:=j) (q:=P' / V) hV0 hAX (by rw [hPP])
        rw [hPP]at hdiv;simp only [Zp,JE];refine⟨Xk _ _,dig j X,dig (n+1) P',List.replicate (L-(j+(n+1))) 0,g,(Wa _ _).symm,(Wa _ _).symm,rfl,by simp only [za,↓reduceIte,Nat.reduceEqDiff];rw [hsplit],Xk _ _,hgB2,by rw [Wa,Wa];omega,by rw [hvv,Wa];exact hgV,by rw [Wa];omega,?_⟩
        rw [hvp,hvv,Wa];by_cases hb:P' < g*V
        .have hgq:=l1 hb;simp only [go_sem,h1,h2,h3,h4,h5,h7,h8,hb,hql];simp only [jC,JE];refine⟨Xk _ _,dig j X,dig (n+1) (P' + 4294967296 ^ (n+1)-g*V),List.replicate (L-(j+(n+1))) 0,(Wa _ _).symm,(Wa _ _).symm,by simp only [za,↓reduceIte,Nat.reduceEqDiff],Xk _ _,by rw [Wa,Wa];omega,by rw [Wa];omega,?_⟩
         rw [Wa,hvv,vbk hgq hb hgV,hjoin];have hg1:sub64 g 1=P' / V:=by rw [hgq];exact QN hqB
         simp only [go_sem,h1,h2,h3,h4,h5,h7,h8,hql,hg1];rw [Nat.mod_eq_of_lt hqB];have hset:=Wq (n:=j+1) qd (P' / V) (by omega)
         rw [Nat.add_sub_cancel]at hset;rw [hset];repeat first | refine q_Wk ?_ | intro _
         exact⟨(j,X % 4294967296 ^ j+4294967296 ^ j*(P' % V),P' / V::qd),qa (by simp [bitvec_to_nat]) ⟨qb rfl,qb rfl,trivial⟩,⟨by simp only;omega,hdiv.2,hdiv.1,ub.2 ⟨hqB,hqd⟩,by simp only [List.length_cons];omega⟩,by simp only;omega⟩
        .have hgq:=l2 hb;rw [Zbj hgq,hjoin];simp only [go_sem,h1,h2,h3,h4,h5,h7,h8,hb,hql];rw [hgq,Nat.mod_eq_of_lt hqB];have hset:=Wq (n:=j+1) qd (P' / V) (by omega)
         rw [Nat.add_sub_cancel]at hset;rw [hset];repeat first | refine q_Wk ?_ | intro _
         exact⟨(j,X % 4294967296 ^ j+4294967296 ^ j*(P' % V),P' / V::qd),qa (by simp [bitvec_to_nat]) ⟨qb rfl,qb rfl,trivial⟩,⟨by simp only;omega,hdiv.2,hdiv.1,ub.2 ⟨hqB,hqd⟩,by simp only [List.length_cons];omega⟩,by simp only;omega⟩
      .have hg' : ((4294967296:Int)<=(g:Int))=True:=eq_true (by omega)
       simp only [go_sem,h1,h2,h3,h4,h5,h6,h7,h8,Wa,hql,hsub,hsub1,hsub2,hr0,hr1,hr2,eu1,hr',hg'];repeat first | refine q_Wk ?_ | intro _
       have hdown:4294967296<=g∨r*4294967296+u2<g*next:=.inl hgl
       have hdn:=st.down hg hdown;have hg0:1<=g:=Nat.lt_of_le_of_lt (Nat.zero_le _) hdn;have hqg1:P' / V<=g-1:=Nat.le_sub_one_of_lt hdn;have hg1:sub64 g 1=g-1:=yy hg0 (by omega)
       refine⟨(g-1,r+top),qa (by simp [bitvec_to_nat,hg1];omega) ⟨qb rfl,qb rfl,trivial⟩,⟨?_,hqg1,by simp only;omega,by simp only;omega,λ_=>by simp only at *;omega⟩,by simp only;omega⟩
       simp only;obtain⟨g',rfl⟩:∃g',g=g' + 1:=⟨g-1,by omega⟩
       rw [Nat.add_sub_cancel,<-hg,Nat.add_mul];omega
     .have hr' : ((r:Int)<4294967296)=False:=eq_false (by omega)
      simp only [go_sem,h1,h2,h3,h4,h5,h6,h7,h8,Wa,hql,hsub,hsub1,hsub2,hr0,hr1,hr2,eu1,hr'];repeat first | refine q_Wk ?_ | intro _
      have hstop:4294967296<=r∨(g<4294967296/\g*next<=r*4294967296+u2):=.inl hr
      have hgB2:g<=4294967296:=by omega
      have hle:=st.stop hg hgB2 hstop;obtain⟨l1,l2⟩:=st.left hqg hle;have hgV:g*V<4294967296 ^ (n+1):=by
       have a1:=Nat.mul_le_mul_right V hgB2;have a2:=(Nat.mul_lt_mul_left (show 0<4294967296 by omega)).2 hV1
       rw [Nat.pow_succ,Nat.mul_comm (4294967296 ^ n)];exact Nat.lt_of_le_of_lt a1 a2
      have hsplit:=JI (L:=L) (j:=j) (n:=n) (X:=X) (by omega) (by rw [hPP];exact hPL)
      rw [hPP]at hsplit;have hvp:val (dig (n+1) P')=P':=by rw [Wj,Nat.mod_eq_of_lt hPL]
      have hrl:P' % V<4294967296 ^ (n+1):=Nat.lt_of_le_of_lt (Nat.mod_le _ _) hPL;have hjoin:=YaC (L:=L) (j:=j) (n:=n) (X:=X) (by omega) hrl
      have hdiv:=kay (j:=j) (q:=P' / V) hV0 hAX (by rw [hPP])
      rw [hPP]at hdiv;simp only [Zp,JE];refine⟨Xk _ _,dig j X,dig (n+1) P',List.replicate (L-(j+(n+1))) 0,g,(Wa _ _).symm,(Wa _ _).symm,rfl,by simp only [za,↓reduceIte,Nat.reduceEqDiff];rw [hsplit],Xk _ _,hgB2,by rw [Wa,Wa];omega,by rw [hvv,Wa];exact hgV,by rw [Wa];omega,?_⟩
      rw [hvp,hvv,Wa];by_cases hb:P' < g*V
      .have hgq:=l1 hb;simp only [go_sem,h1,h2,h3,h4,h5,h7,h8,hb,hql];simp only [jC,JE];refine⟨Xk _ _,dig j X,dig (n+1) (P' + 4294967296 ^ (n+1)-g*V),List.replicate (L-(j+(n+1))) 0,(Wa _ _).symm,(Wa _ _).symm,by simp only [za,↓reduceIte,Nat.reduceEqDiff],Xk _ _,by rw [Wa,Wa];omega,by rw [Wa];omega,?_⟩
       rw [Wa,hvv,vbk hgq hb hgV,hjoin];have hg1:sub64 g 1=P' / V:=by rw [hgq];exact QN hqB
       simp only [go_sem,h1,h2,h3,h4,h5,h7,h8,hql,hg1];rw [Nat.mod_eq_of_lt hqB];have hset:=Wq (n:=j+1) qd (P' / V) (by omega)
       rw [Nat.add_sub_cancel]at hset;rw [hset];repeat first | refine q_Wk ?_ | intro _
       exact⟨(j,X % 4294967296 ^ j+4294967296 ^ j*(P' % V),P' / V::qd),qa (by simp [bitvec_to_nat]) ⟨qb rfl,qb rfl,trivial⟩,⟨by simp only;omega,hdiv.2,hdiv.1,ub.2 ⟨hqB,hqd⟩,by simp only [List.length_cons];omega⟩,by simp only;omega⟩
      .have hgq:=l2 hb;rw [Zbj hgq,hjoin];simp only [go_sem,h1,h2,h3,h4,h5,h7,h8,hb,hql];rw [hgq,Nat.mod_eq_of_lt hqB];have hset:=Wq (n:=j+1) qd (P' / V) (by omega)
       rw [Nat.add_sub_cancel]at hset;rw [hset];repeat first | refine q_Wk ?_ | intro _
       exact⟨(j,X % 4294967296 ^ j+4294967296 ^ j*(P' % V),P' / V::qd),qa (by simp [bitvec_to_nat]) ⟨qb rfl,qb rfl,trivial⟩,⟨by simp only;omega,hdiv.2,hdiv.1,ub.2 ⟨hqB,hqd⟩,by simp only [List.length_cons];omega⟩,by simp only;omega⟩
end Go.Abs
end
section
namespace Go.Abs
open Go.Num
variable {P:Program} {Γ:Nat->Spec}
def Jj:AC:=(.o [.K 1 2 0,.m 2 .fa] [1] (.f (.o [.A 3 1 1,.F 4 1 3,.Z 5 4,.I 6 .eql 5 0] [1,6] (.cond (.t 6) (.seq (.p [.A 7 0 1,.F 8 1 7,.u 9 (.un .not (.t 8)),.M 2 9]) .ret) .skip)) [1] (.seq (.p [.A 10 1 1,.F 11 1 10,.A 12 1 1,.F 13 1 12,.Z 14 13,.I 15 .sub 14 1,.J 16 1 11 15,.F 17 1 16,.u 18 (.bin .neq (.t 17) (.c (.one (.lit (.int .u32 0))))),.M 2 18]) .ret)))
def vn(f0:Nat):AC:=(.o [.K 1 2 0,.m 2 (.c (.one .emp))] [1] (.f (.o [.L 3 2 1,.H 4 f0 3,.u 5 (.un .not (.t 4))] [1,5] (.cond (.t 5) (.seq (.p [.m 2 (.c (.one .emp))]) .ret) .skip)) [1] (.seq (.p [.A 6 1 1,.F 7 1 6,.M 2 7]) .ret)))
def km(f0:Nat):AC:=(.o [.K 1 2 0,.m 2 .fa] [1] (.seq (.p [.L 3 2 1,.H 4 f0 3,.M 5 4,.T 6 5 true 0 1,.U 7 5 true 1 false 6,.P 8 5 7,.M 2 8]) .ret))
def Jo(f0:Nat):AC:=(.o [.G 4 [.z,.emp]] [0,1,4] (.o [.M 5 1,.H 6 f0 5,.M 1 6] [0,1,4] (.seq (.p [.M 7 0,.M 8 7,.V 9 8 true 1,.w 10 8 true (.len (.t 9)),.w 11 8 true (.bin .gtr (.t 10) (.i 0)),.P 12 8 11,.M 13 1,.u 14 (.build [.x 1 (.t 12),.x 1 (.t 13)]),.S 2 4 14]) .ret)))
def jp(f0:Nat):AC:=(.o [.G 2 [.z,.emp]] [0,2] (.o [.M 4 0,.u 5 (.conv .u64 (.t 4)),.M 3 5] [0,2,3] (.f (.o [.M 6 0,.I 7 .lss 6 0] [0,2,3,7] (.cond (.t 7) (.p [.M 8 3,.u 9 (.un .neg (.t 8)),.M 3 9]) .skip)) [0,2,3] (.seq (.p [.M 10 0,.I 11 .lss 10 0,.M 12 3,.u 13 (.conv .u32 (.t 12)),.M 14 3,.u 15 (.bin .shr (.t 14) (.c (.one (.lit (.int .u64 32))))),.u 16 (.conv .u32 (.t 15)),.u 17 (.row 1 [[.x 1 (.t 13)],[.x 1 (.t 16)]]),.D 18 f0 11 17,.S 2 2 18]) .ret))))
def Uq(f0:Nat):AC:=(.o [.K 1 2 0,.N 2 0] [1] (.f (.block 0 (.o [.L 4 2 1,.H 5 f0 4,.Z 6 5,.I 7 .eql 6 0,.M 3 7] [1,3] (.cond (.t 3) (.seq (.p [.N 2 0]) .ret) (.o [.A 9 0 1,.F 10 1 9,.M 8 10] [8] (.cond (.t 8) (.seq (.p [.N 2 (-1)]) .ret) .skip))))) [] (.seq (.p [.N 2 1]) .ret)))
def zu(f0 f1 f2 f3:Nat):AC:=(.o [.K 2 2 0,.K 3 2 1,.N 4 0] [2,3] (.f (.f (.y [.L 8 2 2,.H 9 f0 8,.L 10 2 3,.H 11 f0 10,.M 5 9,.M 6 11]) [2,3,5,6] (.o [.M 12 5,.M 13 6,.B 14 .neq 12 13] [2,3,5,6,14] (.cond (.t 14) (.f (.o [.M 15 5,.M 16 6,.B 17 .lss 15 16] [17] (.cond (.t 17) (.seq (.p [.N 4 (-1)]) .ret) .skip)) [] (.seq (.p [.N 4 1]) .ret)) .skip))) [2,3] (.f (.y [.L 18 2 2,.H 19 f1 18,.L 20 2 3,.H 21 f1 20,.D 22 f2 19 21,.M 7 22]) [2,7] (.f (.o [.L 23 2 2,.H 24 f3 23] [7,24] (.cond (.t 24) (.seq (.p [.M 25 7,.u 26 (.un .neg (.t 25)),.M 4 26]) .ret) .skip)) [7] (.seq (.p [.M 27 7,.M 4 27]) .ret)))))
def Wm(f0 f1 f2:Nat):AC:=(.o [.K 1 2 0,.G 2 [.z,.emp]] [1,2] (.seq (.y [.L 3 2 1,.H 4 f0 3,.u 5 (.un .not (.t 4)),.L 6 2 1,.H 7 f1 6,.D 8 f2 5 7,.S 2 2 8]) .ret))
def wt(f0 f1 f2 f3 f4 f5:Nat):AC:=(.o [.K 2 2 0,.K 3 2 1,.G 4 [.z,.emp]] [2,3,4] (.f (.y [.L 7 2 2,.H 8 f0 7,.L 9 2 3,.H 10 f0 9,.M 5 8,.M 6 10]) [2,3,4,5,6] (.f (.block 0 (.f (.y [.L 12 2 2,.H 13 f1 12,.L 14 2 3,.H 15 f1 14,.u 16 (.binb .eql (.t 13) (.t 15)),.M 11 16]) [2,3,4,5,6,11] (.cond (.t 11) (.seq (.p [.L 17 2 2,.H 18 f1 17,.M 19 5,.M 20 6,.D 21 f2 19 20,.D 22 f3 18 21,.S 2 4 22]) .ret) (.o [.M 24 5,.M 25 6,.D 26 f4 24 25,.I 27 .geq 26 0,.M 23 27] [2,3,4,5,6,23] (.cond (.t 23) (.seq (.p [.L 28 2 2,.H 29 f1 28,.M 30 5,.M 31 6,.D 32 f5 30 31,.D 33 f3 29 32,.S 2 4 33]) .ret) .skip))))) [3,4,5,6] (.seq (.p [.L 34 2 3,.H 35 f1 34,.M 36 6,.M 37 5,.D 38 f5 36 37,.D 39 f3 35 38,.S 2 4 39]) .ret))))
def ym(f0 f1 f2 f3:Nat):AC:=(.o [.K 2 2 0,.K 3 2 1,.G 4 [.z,.emp]] [2,3,4] (.seq (.y [.L 5 2 2,.H 6 f0 5,.L 7 2 3,.H 8 f0 7,.u 9 (.binb .neq (.t 6) (.t 8)),.L 10 2 2,.H 11 f1 10,.L 12 2 3,.H 13 f1 12,.D 14 f2 11 13,.D 15 f3 9 14,.S 2 4 15]) .ret))
def ju(f0 f1 f2:Nat):AC:=(.o [.K 2 2 0,.K 3 2 1,.G 4 [.z,.emp]] [2,3,4] (.f (.y [.L 9 2 2,.H 10 f0 9,.L 11 2 3,.H 12 f0 11,.M 5 10,.M 6 12]) [4,5,6] (.f (.block 0 (.loop (.f (.o [.M 13 6,.Z 14 13,.I 15 .gtr 14 0] [4,5,6,15] (.cond (.t 15) .skip (.exit 0))) [4,5,6] (.block 1 (.o [.M 17 5,.M 18 6,.D 19 f1 17 18,.M 16 19,.X 20 0 16,.X 21 1 16,.M 7 20,.M 8 21] [4,6,8] (.p [.M 22 6,.M 23 8,.M 5 22,.M 6 23])))))) [4,5] (.seq (.p [.M 24 5,.u 25 (.call f2 [.fa,(.t 24)]),.S 2 4 25]) .ret))))
def xt(f0 f1 f2 f3 f4 f5 tE:Nat):AC:=(.o [.K 2 2 0,.K 3 2 1,.G 4 [.z,.emp],.G 5 [.z,.emp],.m 6 (.c (.one (.lit .nilIface)))] [2,3,4,5] (.o [.L 10 2 3,.H 11 f0 10,.M 7 11] [2,3,4,5,7] (.f (.o [.M 12 7,.Z 13 12,.I 14 .eql 13 0] [2,3,4,5,7,14] (.cond (.t 14) (.seq (.p [.u 15 (.build [.z [.z,.emp]]),.u 16 (.build [.z [.z,.emp]]),.u 17 (.iface tE (.i 8)),.S 2 4 15,.S 2 5 16,.M 6 17]) .ret) .skip)) [2,3,4,5,7] (.o [.L 19 2 2,.H 20 f0 19,.M 21 7,.D 22 f1 20 21,.M 18 22,.X 23 0 18,.X 24 1 18,.M 8 23,.M 9 24] [2,3,4,5,7,8,9] (.f (.o [.L 25 2 2,.H 26 f2 25,.M 27 26,.V 28 27 true 9,.w 29 27 true (.len (.t 28)),.w 30 27 true (.bin .gtr (.t 29) (.i 0)),.P 31 27 30] [2,3,4,5,7,8,9,31] (.cond (.t 31) (.p [.M 32 8,.u 33 (.row 1 [[.x 1 (.c (.one (.lit (.int .u32 1))))]]),.D 34 f3 32 33,.M 35 7,.M 36 9,.D 37 f4 35 36,.M 8 34,.M 9 37]) .skip)) [2,3,4,5,8,9] (.seq (.y [.L 38 2 2,.H 39 f2 38,.L 40 2 3,.H 41 f2 40,.u 42 (.binb .neq (.t 39) (.t 41)),.M 43 8,.D 44 f5 42 43,.M 45 9,.u 46 (.call f5 [.fa,(.t 45)]),.S 2 4 44,.S 2 5 46,.m 6 (.c (.one (.lit .nilIface)))]) .ret))))))
theorem ZE(hΓ:Holds P Γ){f:Nat}(hc:check P f=some (19,Jj.strip,[.tmp 2])):Sound P f (.dat true vg):=by
 refine Qa hc wal hΓ (λargs K hcl hfi hG=>?_);match args,hG with
 | [a],hG=>
  obtain⟨w,rfl,hw,hK⟩:=hG;refine⟨by simp,?_⟩
  simp only [go_sem,Jj,Vby,ZaK];unfold vldW at hK;intro hlen;refine⟨λh=>?_,λh _=>?_⟩
  .rw [if_pos (List.length_eq_zero_iff.1 h)]at hK;exact hK
  .have hn:w.2≠[]:=λe=>h (by rw [e];rfl)
   rw [if_neg hn]at hK;refine⟨⟨by omega,by omega⟩,by omega,by omega,?_⟩
   have e1:((w.2.length:Int)-1).toNat=w.2.length-1:=by omega
   rw [e1];have e2:(!decide (w.2.getD (w.2.length-1) 0=0))=decide (NZ w.2):=by
    rw [<-decide_not,decide_eq_decide];unfold NZ;rw [List.getLast?_eq_getElem?,List.getElem?_eq_getElem (by omega),List.getD_eq_getElem?_getD,List.getElem?_eq_getElem (by omega)]
    simp
   rw [e2];exact hK
theorem ZP(hΓ:Holds P Γ){f fv:Nat}(hv:Γ fv=.dat true vg)(hc:check P f=some (8,(vn fv).strip,[.tmp 2])):Sound P f (.dat false Xg):=by
 refine Qa hc yaR hΓ (λargs K hcl hfi hG=>?_);match args,hG with
 | [a],hG=>
  obtain⟨w,rfl,hw,hK⟩:=hG;refine⟨by simp,?_⟩
  simp only [go_sem,vn,hv,hw];rw [<-VbD hw]at hK;refine⟨λh=>?_,λh=>?_⟩
  .rw [if_pos h]at hK;exact hK
  .rw [if_neg (by rw [h];simp)]at hK;exact hK
theorem uK(hΓ:Holds P Γ){f fv:Nat}(hv:Γ fv=.dat true vg)(hc:check P f=some (9,(km fv).strip,[.tmp 2])):Sound P f (.dat true ye):=by
 refine Qa hc zaN hΓ (λargs K hcl hfi hG=>?_);match args,hG with
 | [a],hG=>
  obtain⟨w,rfl,hw,hK⟩:=hG;refine⟨by simp,?_⟩
  simp only [go_sem,km,hv,hw];rw [<-JaW hw]at hK;refine⟨λh=>?_,λh=>?_⟩
  .rw [h,Bool.true_and]at hK;exact hK
  .rw [h,Bool.false_and]at hK;exact hK
theorem Xak(hΓ:Holds P Γ){f ft:Nat}(ht:Γ ft=.dat false Yo)(hc:check P f=some (15,(Jo ft).strip,[.cell 4 2 true])):Sound P f (.dat false je):=by
 refine Qa hc QO hΓ (λargs K hcl hfi hG=>?_);match args,hG with
 | [a,m],hG=>
  obtain⟨b,rfl,hG⟩:=vy hG;obtain⟨l,rfl,hl,hlen,hK⟩:=hG;refine⟨by simp,?_⟩
  simp only [go_sem,Jo,ht];rw [<-VO]at hK;refine⟨hl,hlen,λh _=>?_,λh=>?_⟩
  .rw [h,Bool.true_and]at hK;exact hK
  .rw [h,Bool.false_and]at hK;exact hK
theorem U5(hΓ:Holds P Γ){f fw:Nat}(hw:Γ fw=.dat false je)(hc:check P f=some (19,(jp fw).strip,[.cell 2 2 true])):Sound P f (.dat false vD):=by
 refine Qa hc jbe hΓ (λargs K hcl hfi hG=>?_);match args,hG with
 | [a],hG=>
  obtain⟨k,n,rfl,rfl,hn1,hn2,hK⟩:=Ua hG;refine⟨by simp,?_⟩
  simp only [go_sem,jp,hw];have e0:(18446744073709551616:Int)=((18446744073709551616:Nat):Int):=rfl;have key:∀(x:Nat) (b:Bool),x<18446744073709551616->sg b x=n->
    onWs (λl=>l.length<=68719476736/\K (AV.agg [zb (zcan (sg b (val l))),zm (zcan (sg b (val l)))]))
     (AV.one (C.slice [[C.lit (Value.int IntKind.u32 ((x:Int) % 4294967296))],[C.lit (Value.int IntKind.u32 ((x:Int) / 2 ^ 32 % 4294967296))]])):=by
   intro x b hx hs;have e1:((x:Int) % 4294967296)=((x % 4294967296:Nat):Int):=by omega
   have e2:((x:Int) / 2 ^ 32 % 4294967296)=((x / 4294967296:Nat):Int):=by omega
   rw [e1,e2,qa9];refine⟨?_,by simp,?_⟩
   .rw [ub,ub];exact⟨by omega,by omega,qc⟩
   .have:val [x % 4294967296,x / 4294967296]=x:=by
     simp only [vh,Zm];omega
    rw [this,hs];exact hK
  refine⟨λh=>⟨⟨by omega,by omega,by decide⟩,?_⟩,λh=>⟨⟨by omega,by omega,by decide⟩,?_⟩⟩
  .have e:(-(n % 18446744073709551616) % 18446744073709551616:Int)=((-n).toNat:Int):=by omega
   rw [e];refine key _ _ (by omega) ?_
   rw [decide_eq_true h];unfold sg;rw [if_pos rfl];omega
  .have e:(n % 18446744073709551616:Int)=(n.toNat:Int):=by omega
   rw [e];refine key _ _ (by omega) ?_
   rw [decide_eq_false h];unfold sg;rw [if_neg (by simp)];omega
theorem Xaj(hΓ:Holds P Γ){f fm:Nat}(hm:Γ fm=.dat false Xg)(hc:check P f=some (11,(Uq fm).strip,[.tmp 2])):Sound P f (.dat true Zf):=by
 refine Qa hc YN hΓ (λargs K hcl hfi hG=>?_);match args,hG with
 | [a],hG=>
  obtain⟨w,rfl,hw,hK⟩:=hG;refine⟨by simp,?_⟩
  simp only [go_sem,Uq,hm,hw,Vby,ZaK];intro _;show((digs (zv w).natAbs).length=0->_)/\(¬(digs (zv w).natAbs).length=0->_);have h0:(digs (zv w).natAbs).length=0↔zv w=0:=Jv;rw [h0];refine⟨λh=>?_,λh=>⟨λhb=>?_,λhb=>?_⟩⟩
  .rw [h]at hK;exact hK
  .have:zv w<0:=by
    have:=JaW hw;rw [hb,Bool.and_true]at this;have hv:vldW w=true:=by
     cases hv:vldW w with
     | true=>rfl
     | false=>exact absurd (Qak hv) h
    rw [hv]at this;simpa using this.symm
   rw [Int.sign_eq_neg_one_of_neg this]at hK;exact hK
  .have:¬zv w<0:=by
    have:=JaW hw;rw [hb,Bool.and_false]at this;simpa using this.symm
   rw [Int.sign_eq_one_of_pos (by omega)]at hK;exact hK
theorem WaL(hΓ:Holds P Γ){f fs fm fc fn:Nat}(hs:Γ fs=.dat true Zf)(hm:Γ fm=.dat false Xg)(hc' : Γ fc=.dat false Vf)(hn:Γ fn=.dat true ye)
  (hc:check P f=some (28,(zu fs fm fc fn).strip,[.tmp 4])):Sound P f (.dat true yw):=by
 refine Qa hc VaY hΓ (λargs K hcl hfi hG=>?_);match args,hG with
 | [a,b],hG=>
  obtain⟨v,rfl,hv,w,rfl,hw,hK⟩:=hG;refine⟨by simp,?_⟩
  simp only [go_sem,zu,hs,hm,hc',hn,hv,hw];simp only [Ya];have hs:∀n:Int,Int.sign n=if n<0 then -1 else if n=0 then 0 else 1:=by
   intro n;split
   .exact Int.sign_eq_neg_one_of_neg ‹_›
   .split
    .rename_i h;rw [h];rfl
    .exact Int.sign_eq_one_of_pos (by omega)
  rw [hs,hs];generalize zv v=x at hK ⊢;generalize zv w=y at hK ⊢;refine⟨λh=>⟨wa _,wa _,Zo _,Zo _,λhx=>⟨?_,?_⟩,λhx=>?_⟩,λh=>⟨λh'=>?_,λh'=>?_⟩⟩
  .unfold ordN;split <;> (try split) <;> omega
  .have e:-ordN x.natAbs y.natAbs=ordI x y:=by
    unfold ordN ordI;rw [if_pos hx]at h;have hy:y<0:=by
     split at h
     .assumption
     .split at h <;> omega
    split <;> (try split) <;> (try split) <;> (try split) <;> omega
   rw [e];exact hK
  .have e:ordN x.natAbs y.natAbs=ordI x y:=by
    unfold ordN ordI;rw [if_neg hx]at h;have hy:¬y<0:=by
     intro hy;rw [if_pos hy]at h;split at h <;> omega
    split <;> (try split) <;> (try split) <;> (try split) <;> omega
   rw [e];exact hK
  .have e:ordI x y = -1:=qbr (by
    split at h' <;> split at h' <;> (try split at h') <;> (try split at h') <;> omega)
   rw [e]at hK;exact hK
  .have e:ordI x y=1:=Wbw (by
    split at h' <;> split at h' <;> (try split at h') <;> (try split at h') <;> (try split at h) <;> (try split at h) <;> (try split at h) <;> (try split at h) <;> omega)
   rw [e]at hK;exact hK
theorem XO(hΓ:Holds P Γ){f fn fm fw:Nat}(hn:Γ fn=.dat true ye)(hm:Γ fm=.dat false Xg)(hw' : Γ fw=.dat false je)(hc:check P f=some (9,(Wm fn fm fw).strip,[.cell 2 2 true])):Sound P f (.dat false Zq):=by
 refine Qa hc XaQ hΓ (λargs K hcl hfi hG=>?_);match args,hG with
 | [a],hG=>
  obtain⟨w,rfl,hw,hz,hK⟩:=hG;refine⟨by simp,?_⟩
  simp only [go_sem,Wm,hn,hm,hw',hw];rw [Ya];refine⟨wa _,hz,?_⟩;have e:sg (!decide (zv w<0)) (zv w).natAbs = -zv w:=by
   unfold sg;by_cases h:zv w<0 <;> simp [h] <;> omega
  rw [e];exact hK
theorem jQ(hΓ:Holds P Γ){f fn fm ft fw:Nat}(hn:Γ fn=.dat true ye)(hm:Γ fm=.dat false Xg)(ht:Γ ft=.dat false jm)(hw' : Γ fw=.dat false je)(hc:check P f=some (16,(ym fn fm ft fw).strip,[.cell 4 2 true])):Sound P f (.dat false jq):=by
 refine Qa hc kaR hΓ (λargs K hcl hfi hG=>?_);match args,hG with
 | [a,b],hG=>
  obtain⟨v,rfl,hv,w,rfl,hw,hz,hz',hK⟩:=hG;refine⟨by simp,?_⟩
  simp only [go_sem,ym,hn,hm,ht,hw',hw,hv];simp only [Ya];have e:sg (!(decide (zv v<0) == decide (zv w<0))) ((zv v).natAbs*(zv w).natAbs)=zv v*zv w:=QbP _ _;rw [e];refine⟨wa _,wa _,hz,hz',wa _,?_,hK⟩;have:=yr (zv v) (zv w);unfold zs at *
  rw [<-Int.natAbs_mul];omega
theorem qaN(hΓ:Holds P Γ){f fn fm fp fw fc fl:Nat}(hn:Γ fn=.dat true ye)(hm:Γ fm=.dat false Xg)(hp:Γ fp=.dat false yn)(hw' : Γ fw=.dat false je)(hc' : Γ fc=.dat false Vf)(hl:Γ fl=.dat false Uo)(hc:check P f=some (40,(wt fm fn fp fw fc fl).strip,[.cell 4 2 true])):Sound P f (.dat false Vs):=by
 refine Qa hc vai hΓ (λargs K hcl hfi hG=>?_);match args,hG with
 | [a,b],hG=>
  obtain⟨v,rfl,hv,w,rfl,hw,hz,hz',hK⟩:=hG;refine⟨by simp,?_⟩
  simp only [go_sem,wt,hn,hm,hp,hw',hc',hl,hw,hv];simp only [Ya];have hsz:=vL (zv v) (zv w);refine⟨λh=>⟨wa _,wa _,hz,hz',wa _,?_,?_⟩,λh=>⟨wa _,wa _,Zo _,Zo _,λho=>⟨wa _,wa _,by unfold zs at hz;omega,?_,wa _,?_,?_⟩,λho=>⟨wa _,wa _,by unfold zs at hz';omega,?_,wa _,?_,?_⟩⟩⟩
  .have e:=ww (kh h);rw [show(zv v).natAbs+(zv w).natAbs=(zv v+zv w).natAbs by have:=kh h;omega]
   unfold zs at *;omega
  .rw [ww (kh h)];exact hK
  .exact(Qt.1 ho)
  .have:=ka (Nat.sub_le (zv v).natAbs (zv w).natAbs);unfold zs at *;omega
  .have h1:=Qt.1 ho;rw [QaC (vp h) h1];exact hK
  .have:=mt Qt.2 ho;omega
  .have:=ka (Nat.sub_le (zv w).natAbs (zv v).natAbs);unfold zs at *;omega
  .have h1:=mt Qt.2 ho;rw [QaC (λe=>vp h e.symm) (by omega),Int.add_comm];exact hK
theorem uaN(hΓ:Holds P Γ){f fn fm fp fw fd fl tE:Nat}(hn:Γ fn=.dat true ye)(hm:Γ fm=.dat false Xg)(hp:Γ fp=.dat false yn)(hw' : Γ fw=.dat false je)(hd:Γ fd=.dat false Ue)(hl:Γ fl=.dat false Uo)(hc:check P f=some (47,(xt fm fd fn fp fl fw tE).strip,[.cell 4 2 true,.cell 5 2 true,.tmp 6])):Sound P f (.dat false Jz):=by
 refine Qa hc za0 hΓ (λargs K hcl hfi hG=>?_);match args,hG with
 | [a,b],hG=>
  obtain⟨v,rfl,hv,w,rfl,hw,hz,hz',h0,hK⟩:=hG;refine⟨by simp,?_⟩
  simp only [go_sem,xt,hn,hm,hp,hw',hd,hl,hw,hv];simp only [Ya];have hne:¬(digs (zv w).natAbs).length=0:=λe=>h0 (Jv.1 e);intro _;refine⟨λe=>absurd e hne,λ_=>⟨wa _,wa _,Zo _,Zo _,λe=>hne (by rw [e];rfl),hz,hz',?_⟩⟩
  have hq:(digs ((zv v).natAbs / (zv w).natAbs)).length<=17179869184:=Nat.le_trans (ka (Nat.div_le_self _ _)) hz;have hr:(digs ((zv v).natAbs % (zv w).natAbs)).length<=17179869184:=Nat.le_trans (ka (Nat.mod_le _ _)) hz;have hz'' : (digs (zv w).natAbs).length<=17179869184:=hz';have hlt:=Nat.mod_lt (zv v).natAbs (show 0<(zv w).natAbs by omega)
  have hfin:(0<=zv v∨(zv v).natAbs % (zv w).natAbs=0)->K (AV.tup
    [AV.agg [zb (zcan (sg (!(decide (zv v<0) == decide (zv w<0))) ((zv v).natAbs / (zv w).natAbs))),zm (zcan (sg (!(decide (zv v<0) == decide (zv w<0))) ((zv v).natAbs / (zv w).natAbs)))],
     AV.agg [zb (zcan (sg false ((zv v).natAbs % (zv w).natAbs))),zm (zcan (sg false ((zv v).natAbs % (zv w).natAbs)))],AV.one (C.lit Value.nilIface)]):=by
   intro h;obtain⟨e1,e2⟩:=vay h0 h;have e1' : sg (!(decide (zv v<0) == decide (zv w<0))) ((zv v).natAbs / (zv w).natAbs)=zv v / zv w:=e1;have e2' : sg false ((zv v).natAbs % (zv w).natAbs)=zv v % zv w:=e2;rw [e1',e2'];exact hK
  refine⟨λhneg _=>⟨λhp=>⟨wa _,(kaF _ 1).mpr ⟨ub.2 ⟨by decide,qc⟩,hq,by decide,wa _,wa _,by omega,by omega,wa _,?_,wa _,?_,?_⟩⟩,λhp=>⟨wa _,by omega,wa _,by omega,hfin (.inr ?_)⟩⟩,λhneg=>⟨wa _,by omega,wa _,by omega,hfin (.inl (by omega))⟩⟩
  .have hv1:val [1]=1:=rfl;rw [hv1];have h1:zs 1<=2:=Jaj (by decide)
   have:=vL (((zv v).natAbs / (zv w).natAbs:Nat):Int) 1;have e:(((zv v).natAbs / (zv w).natAbs:Nat):Int)+1=(((zv v).natAbs / (zv w).natAbs+1:Nat):Int):=by omega
   rw [e]at this;have h3:zs (((zv v).natAbs / (zv w).natAbs:Nat):Int)=(digs ((zv v).natAbs / (zv w).natAbs)).length:=rfl;have h4:zs (((zv v).natAbs / (zv w).natAbs+1:Nat):Int)=(digs ((zv v).natAbs / (zv w).natAbs+1)).length:=rfl;rw [h3,h4]at this;omega
  .have:=ka (Nat.sub_le (zv w).natAbs ((zv v).natAbs % (zv w).natAbs));omega
  .have hv1:val [1]=1:=rfl;rw [hv1];have hne' : (zv v).natAbs % (zv w).natAbs≠0:=by
    intro e;rw [e,Qb]at hp;simp at hp
   obtain⟨e1,e2⟩:=uaq h0 hneg hne';have e1' : sg (!(decide (zv v<0) == decide (zv w<0))) ((zv v).natAbs / (zv w).natAbs+1)=zv v / zv w:=e1;have e2' : sg false ((zv w).natAbs-(zv v).natAbs % (zv w).natAbs)=zv v % zv w:=e2;rw [e1',e2'];exact hK
  .have:digs ((zv v).natAbs % (zv w).natAbs)=[]:=List.eq_nil_of_length_eq_zero (by omega)
   exact zf.1 this
theorem vaN(hΓ:Holds P Γ){f fm fd fw:Nat}(hm:Γ fm=.dat false Xg)(hw' : Γ fw=.dat false je)(hd:Γ fd=.dat false Ue)(hc:check P f=some (26,(ju fm fd fw).strip,[.cell 4 2 true])):Sound P f (.dat false uo):=by
 refine Qa hc waf hΓ (λargs K hcl hfi hG=>?_);match args,hG with
 | [a,b],hG=>
  obtain⟨v,rfl,hv,w,rfl,hw,hz,hz',hK⟩:=hG;refine⟨by simp,?_⟩
  simp only [go_sem,ju,hm,hw',hd,hw,hv];refine ja (λp:Nat×Nat=>⟨mkV [(4,.one (.ptr 4 1 0 0)),(5,.one (ws (digs p.1))),(6,.one (ws (digs p.2)))],mkH [(4,⟨1,some ⟨[[.lit (.bool false),.emp]],2,true⟩⟩)]⟩)
   (λp=>(digs p.1).length<=17179869184/\(digs p.2).length<=17179869184/\Nat.gcd p.1 p.2=Int.gcd (zv v) (zv w)) (λp=>p.2) ((zv v).natAbs,(zv w).natAbs) ?_ ?_ ?_
  .exact qa (by simp [bitvec_to_nat]) ⟨⟨⟨rfl,rfl⟩,.inr ⟨⟨rfl,trivial,trivial⟩,trivial⟩⟩,trivial⟩
  .exact⟨hz,hz',rfl⟩
  .rintro⟨a,b⟩ ⟨ha,hb,hg⟩;simp only at ha hb hg;simp only [go_sem,hm,hw',hd,ws];simp only [Ya];refine λ_=>⟨λh=>⟨wa _,wa _,Zo _,Zo _,λe=>by rw [e]at h;simp at h,ha,hb,?_⟩,λh=>⟨wa _,by omega,?_⟩⟩
   .have hb0:0<b:=by
     rcases Nat.eq_zero_or_pos b with e | e
     .rw [e,Qb]at h;simp at h
     .exact e
    refine⟨(b,a % b),qa (by simp [bitvec_to_nat]) ⟨⟨⟨rfl,rfl⟩,.inr ⟨⟨rfl,trivial,trivial⟩,trivial⟩⟩,trivial⟩,⟨hb,Nat.le_trans (ka (Nat.mod_le _ _)) ha,?_⟩,Nat.mod_lt _ hb0⟩
    rw [<-hg];show Nat.gcd b (a % b)=_;rw [Nat.gcd_comm b,<-Nat.gcd_rec,Nat.gcd_comm]
   .have:digs b=[]:=List.eq_nil_of_length_eq_zero (by omega)
    rw [zf.1 this,Nat.gcd_zero_right]at hg;rw [hg];exact hK
end Go.Abs
end
