/-
  Parts of the proof, merged: BipH, BipU, CogT, BipT, BipV, BipW, BipO, BipM, IntC.
-/
import Derived.Test.YthoibmokhnoccaaGreatDoorM11
import Derived.Lib.Join
set_option linter.unusedVariables false
set_option linter.unusedSimpArgs false
set_option maxRecDepth 100000
section
namespace Go.Num
open Go.Abs
def erC(p q:List Mo):Nat:=if chk2 p q≠0 then chk2 p q else if p=[]∨q=[] then 8 else if 8<topY (p.map mv)+topY (q.map mv)-2∨64<degM p*degM q then 4 else 0
end Go.Num
namespace Go.Abs
open Go.Num
variable {P:Program} {Γ:Nat->Spec}
theorem Y1(l:List Rat):plC l=[.slice ((l.map rcan).map rC)]:=eq_of_heq (HEq.refl _)
theorem kaV(l:List Rat):(plC l).length=1:=eq_of_heq (HEq.refl _)
theorem Yap(K:List C->Prop)(L:PL)(i:Nat):getE K (L.map plC) i=(i<L.length/\K (plC (L.getD i []))):=by
 simp only [getE,List.length_map,List.getElem?_map];refine propext ⟨λh=>⟨h.1,h.2 _ (by simp [h.1,List.getD_eq_getElem?_getD])⟩,λh=>⟨h.1,λe he=>?_⟩⟩
 simp [h.1]at he;subst he;have:=h.2;simpa [List.getD_eq_getElem?_getD,h.1] using this
theorem ZK(L:PL):CleanR (L.map plC)=True:=eq_true λe he c hc=>by
 obtain⟨l,_,rfl⟩:=List.mem_map.1 he;rw [Y1,List.mem_singleton]at hc;subst hc;exact of_eq_true (qF _)
theorem waW(L:PL):(∀e∈L.map plC,e.length=1)=True:=eq_true λe he=>by
 obtain⟨l,_,rfl⟩:=List.mem_map.1 he;rfl
theorem kX(L:PL):Clean (.slice (L.map plC))=True:=eq_true (.slice _ (of_eq_true (ZK L)))
attribute [go_sem,go_sem ↓] kaV Yap ZK waW kX
theorem WbM{a b ver:Nat}(L:List Rat):swB a b ⟨ver,some ⟨(L.map rcan).map rC,3,true⟩⟩=⟨ver,some ⟨(L.map rcan).map rC,3,true⟩⟩:=by
 unfold swB;simp only [Option.map_some,HB.mk.injEq,Option.some.injEq,Blk.mk.injEq,and_true,true_and];rw [List.map_map];exact List.map_congr_left λj _=>rfl
def valC(t:Nat):C:=if t=0 then .emp else .own 99 1 3 0 t
def valB(t:Nat)(L:List Rat):HB:=if t=0 then ⟨0,none⟩ else ⟨1,some ⟨((L.take t).map rcan).map rC,3,true⟩⟩
theorem uR{h h' : Nat->HB}{t:Nat}{L:List Rat}{b:HB}(e:t≠0->b.blk=some ⟨((L.take t).map rcan).map rC,3,true⟩):okB h h' b.blk (valB t L).blk:=by
 unfold valB;by_cases h:t=0
 .rw [if_pos h];cases b.blk <;> trivial
 .rw [if_neg h,e h];exact jn rfl
theorem xaj(L:List Rat)(x:Rat):(L.map rcan).map rC++[[cb (rcan x),cn (rcan x),cd (rcan x)]]=((L++[x]).map rcan).map rC:=by simp [rC]
def Zs(tE:Nat)(l:List AV)(K:AV->Prop):Prop:=
 match l with
 | [a,b]=>onMs (λp=>onMs (λq=>(∀t∈p,rl t.2.2<=1000000)/\(∀t∈q,rl t.2.2<=1000000)/\(erC p q=0->degM p*degM q<=9/\SmE (p.map mv) (q.map mv))/\K (.tup [.one (.slice (((if erC p q=0 then elL (p.map mv) (q.map mv) else []).map rcan).map rC)),errV tE (erC p q)])) b) a
 | _=>False
theorem xan tE a b K:Zs tE [a,b] K=(onMs (λp=>onMs (λq=>(∀t∈p,rl t.2.2<=1000000)/\(∀t∈q,rl t.2.2<=1000000)/\(erC p q=0->degM p*degM q<=9/\SmE (p.map mv) (q.map mv))/\K (.tup [.one (.slice (((if erC p q=0 then elL (p.map mv) (q.map mv) else []).map rcan).map rC)),errV tE (erC p q)])) b) a):=propext Iff.rfl
@[congr] theorem ubN tE{K}{l l'}(h:l=l'):Zs tE l K=Zs tE l' K:=by subst h;rfl
attribute [go_sem,go_sem ↓] xan
theorem ZaJ(tE:Nat):Good (Zs tE):=Ja λas=>by
 unfold Zs;split
 .exact(Jg λ_=>(Jg λ_=>(.and λ_=>(.and λ_=>(.and λ_=>(.ret _))))))
 .exact .of λK hk=>hk.elim
def Wb(f0 f1 f2 f3 f4 f5 f6 tE:Nat):AC:=(.o [.m 4 (.c (.one .emp)),.m 5 (.c (.one (.lit .nilIface)))] [0,1] (.f (.o [.M 22 0,.M 23 1,.u 24 (.row 1 [[.x 1 (.t 22)],[.x 1 (.t 23)]]),.H 25 f0 24,.M 6 25] [0,1,6] (.o [.M 26 6,.R 27 26] [0,1,6,27] (.cond (.t 27) (.seq (.p [.M 28 6,.m 4 (.c (.one .emp)),.M 5 28]) .ret) .skip))) [0,1] (.f (.o [.M 29 0,.Z 30 29,.I 31 .eql 30 0,.M 32 31,.V 33 32 false 1,.w 34 32 false (.len (.t 33)),.w 35 32 false (.bin .eql (.t 34) (.i 0)),.Q 36 32 35] [0,1,36] (.cond (.t 36) (.seq (.p [.u 37 (.iface tE (.i 8)),.m 4 (.c (.one .emp)),.M 5 37]) .ret) .skip)) [0,1] (.o [.M 38 0,.H 39 f1 38,.M 40 1,.H 41 f1 40,.M 7 39,.M 8 41] [0,1,7,8] (.f (.o [.M 42 7,.Z 43 42,.M 44 8,.Z 45 44,.B 46 .add 43 45,.I 47 .sub 46 2,.I 48 .gtr 47 8,.M 49 48,.V 50 49 false 0,.W 51 49 false f2 50,.V 52 49 false 1,.W 53 49 false f2 52,.w 54 49 false (.bin .mul (.t 51) (.t 53)),.w 55 49 false (.bin .gtr (.t 54) (.i 64)),.Q 56 49 55] [0,1,7,8,56] (.cond (.t 56) (.seq (.p [.u 57 (.iface tE (.i 4)),.m 4 (.c (.one .emp)),.M 5 57]) .ret) .skip)) [0,1,7,8] (.o [.m 9 (.c (.one .emp)),.m 10 (.c (.one .emp))] [0,1,7,8,9,10] (.f (.o [.M 58 0,.H 59 f2 58,.M 60 1,.H 61 f2 60,.B 62 .mul 59 61,.I 63 .add 62 1,.N 64 0] [7,8,9,10,63,64] (.block 0 (.loop (.o [.B 65 .lss 64 63] [7,8,9,10,63,64,65] (.f (.cond (.t 65) .skip (.exit 0)) [7,8,9,10,63,64] (.f (.block 1 (.o [.M 66 64,.M 11 66] [7,8,9,10,11,63,64] (.o [.M 67 11,.H 68 f3 67,.G 12 [.z,.emp,.emp],.S 3 12 68] [7,8,9,10,12,63,64] (.o [.G 13 [.emp,.emp]] [7,8,9,10,12,13,63,64] (.f (.o [.M 69 7,.M 70 8,.u 71 (.row 1 [[.x 1 (.t 69)],[.x 1 (.t 70)]]),.Z 72 71,.N 73 0] [7,8,9,10,12,13,63,64,71,72,73] (.block 2 (.loop (.o [.B 74 .lss 73 72] [7,8,9,10,12,13,63,64,71,72,73,74] (.f (.cond (.t 74) .skip (.exit 2)) [7,8,9,10,12,13,63,64,71,72,73] (.f (.block 3 (.o [.M 75 73,.J 76 1 71 73,.F 77 1 76,.M 14 75,.M 15 77] [7,8,9,10,12,13,14,15,63,64,71,72,73] (.o [.M 78 15,.Z 79 78,.N 80 0] [7,8,9,10,12,13,14,63,64,71,72,73,78,79,80] (.block 4 (.loop (.o [.B 81 .lss 80 79] [7,8,9,10,12,13,14,63,64,71,72,73,78,79,80,81] (.f (.cond (.t 81) .skip (.exit 4)) [7,8,9,10,12,13,14,63,64,71,72,73,78,79,80] (.f (.block 5 (.o [.J 82 1 78 80,.F 83 1 82,.M 17 83] [7,8,9,10,12,13,14,17,63,64,71,72,73,78,79,80] (.o [.M 85 17,.L 86 3 12,.D 87 f4 85 86,.M 84 87,.X 88 0 84,.X 89 1 84,.G 18 [.z,.emp,.emp],.S 3 18 88,.M 19 89] [7,8,9,10,12,13,14,18,19,63,64,71,72,73,78,79,80] (.f (.o [.M 90 19,.R 91 90] [7,8,9,10,12,13,14,18,19,63,64,71,72,73,78,79,80,91] (.cond (.t 91) (.seq (.p [.M 92 19,.m 4 (.c (.one .emp)),.M 5 92]) .ret) .skip)) [7,8,9,10,12,13,14,18,63,64,71,72,73,78,79,80] (.y [.M 93 14,.M 94 14,.u 95 (.ai 1 2 (.t 13) (.t 94)),.F 96 1 95,.L 97 3 18,.u 98 (.row 3 [[.x 3 (.t 97)]]),.u 99 (.app 3 (.t 96) (.t 98)),.u 100 (.ai 1 2 (.t 13) (.t 93)),.S 1 100 99]))))) [7,8,9,10,12,13,14,63,64,71,72,73,78,79,80] (.p [.I 101 .add 80 1,.M 80 101]))))))))) [7,8,9,10,12,13,63,64,71,72,73] (.p [.I 102 .add 73 1,.M 73 102]))))))) [7,8,9,10,12,13,63,64] (.o [.u 104 (.ai 1 2 (.t 13) (.i 0)),.F 105 1 104,.u 106 (.ai 1 2 (.t 13) (.i 1)),.F 107 1 106,.D 108 f5 105 107,.M 103 108,.X 109 0 103,.X 110 1 103,.G 20 [.z,.emp,.emp],.S 3 20 109,.M 21 110] [7,8,9,10,12,20,21,63,64] (.f (.o [.M 111 21,.R 112 111] [7,8,9,10,12,20,21,63,64,112] (.cond (.t 112) (.seq (.p [.M 113 21,.m 4 (.c (.one .emp)),.M 5 113]) .ret) .skip)) [7,8,9,10,12,20,63,64] (.y [.M 114 9,.u 115 (.ld (some 12) 3 true (.t 12)),.u 116 (.row 3 [[.x 3 (.t 115)]]),.u 117 (.appb 117 3 (.t 114) (.t 116)),.M 118 10,.u 119 (.ld (some 20) 3 true (.t 20)),.u 120 (.row 3 [[.x 3 (.t 119)]]),.u 121 (.appb 121 3 (.t 118) (.t 120)),.M 9 117,.M 10 121])))))))) [7,8,9,10,63,64] (.p [.I 122 .add 64 1,.M 64 122]))))))) [9,10] (.seq (.p [.M 123 9,.M 124 10,.D 125 f6 123 124,.X 126 0 125,.X 127 1 125,.M 4 126,.M 5 127]) .ret))))))))
theorem Qai(hΓ:Holds P Γ){f fk fr fd fo fe fv ft tE:Nat}(hk:Γ fk=.dat false (Wg tE))(hr:Γ fr=.dat false vw)(hd:Γ fd=.dat true Qr)(ho:Γ fo=.dat false Qz)(he:Γ fe=.dat false (Zr tE))(hvl:Γ fv=.dat false (qo tE))(ht:Γ ft=.dat false (wv tE))(hc:check P f=some (128,(Wb fk fr fd fo fe fv ft tE).strip,[.tmp 4,.tmp 5])):Sound P f (.dat false (Zs tE)):=by
 refine Qa hc (ZaJ tE) hΓ (λargs K hcl hfi hG=>?_);match args,hG with
 | [a0,a1],hG=>
  obtain⟨p,rfl,hwp,q,rfl,hwq,hrp,hrq,hside,hK⟩:=hG;refine⟨by simp,?_⟩
  have hrp4:∀t∈p,rl t.2.2<=4294967296:=λt ht=>Nat.le_trans (hrp t ht) (by decide)
  have hrq4:∀t∈q,rl t.2.2<=4294967296:=λt ht=>Nat.le_trans (hrq t ht) (by decide)
  by_cases h0:chk2 p q=0
  case neg=>
   have ec:erC p q=chk2 p q:=if_pos h0;rw [ec,if_neg h0,ud tE h0]at hK;have e1:=ud tE h0;simp only [go_sem,Wb,hk,e1,ms];exact⟨⟨hwp,hwq⟩,hrp4,hrq4,hK⟩
  have e0:=Xd tE;obtain⟨c1,c2⟩:=way h0;have ec:erC p q=if p=[]∨q=[] then 8 else if 8<topY (p.map mv)+topY (q.map mv)-2∨64<degM p*degM q then 4 else 0:=if_neg (by simp [h0])
  by_cases hp0:p=[]
  .rw [if_pos (.inl hp0)]at ec;rw [ec,if_neg (by decide),ud tE (by decide)]at hK
   have l0:p.length=0:=List.length_eq_zero_iff.2 hp0;simp only [go_sem,Wb,hk,h0,e0,ms,l0];exact⟨⟨hwp,hwq⟩,hrp4,hrq4,hK⟩
  have lp0:p.length≠0:=λe=>hp0 (List.length_eq_zero_iff.1 e);have lp0' : ¬(p.length:Int)=0:=by omega
  by_cases hq0:q=[]
  .rw [if_pos (.inr hq0)]at ec;rw [ec,if_neg (by decide),ud tE (by decide)]at hK
   have l0:q.length=0:=List.length_eq_zero_iff.2 hq0;simp only [go_sem,Wb,hk,h0,e0,ms,l0,lp0'];refine⟨⟨hwp,hwq⟩,?_⟩;repeat first | refine q_Wk ?_ | intro _
   exact hK
  have lq0:q.length≠0:=λe=>hq0 (List.length_eq_zero_iff.1 e);have lq0' : ¬(q.length:Int)=0:=by omega
  rw [if_neg (λh=>h.elim hp0 hq0)]at ec;obtain⟨canp,mcp⟩:=Vl c1 hwp;obtain⟨canq,mcq⟩:=Vl c2 hwq;obtain⟨i1,_,l1⟩:=Vs c1 hwp;obtain⟨i2,_,l2⟩:=Vs c2 hwq;have hrp9:∀t∈p,rl t.2.2<=4000000000:=λt ht=>Nat.le_trans (hrp t ht) (by decide)
  have hrq9:∀t∈q,rl t.2.2<=4000000000:=λt ht=>Nat.le_trans (hrq t ht) (by decide)
  have t1:=zR canp.ins;have t2:=zR canq.ins;have t3:=qy (p:=p.map mv) (by simpa using hp0)
  have t4:=qy (p:=q.map mv) (by simpa using hq0)
  have la:=Zc (p.map mv);have lb:=Zc (q.map mv);have d1:=xw canp;have d2:=xw canq;have d3:=Zz canp (by simpa using hp0)
  have d4:=Zz canq (by simpa using hq0)
  rw [<-zd,mcp]at d1 d3;rw [<-zd,mcq]at d2 d4;obtain⟨dp,hdp⟩:=Int.eq_ofNat_of_zero_le d3;obtain⟨dq,hdq⟩:=Int.eq_ofNat_of_zero_le d4;have hdpq:degM p*degM q=((dp*dq:Nat):Int):=by rw [hdp,hdq,Int.natCast_mul]
  have hdpq' : (dp:Int)*(dq:Int)=((dp*dq:Nat):Int):=(Int.natCast_mul ..).symm;have hdpq24:dp*dq<=24*24:=Nat.mul_le_mul (by omega) (by omega)
  obtain⟨a,ha⟩:∃a,topY (p.map mv)=a:=⟨_,rfl⟩;obtain⟨b,hb⟩:∃b,topY (q.map mv)=b:=⟨_,rfl⟩;rw [ha]at t1 t3 la;rw [hb]at t2 t4 lb;rw [ha,hb,hdpq]at ec;have lenpq:((rowsP (p.map mv)).length:Int)+((rowsP (q.map mv)).length:Int)-2=((a+b-2:Nat):Int):=by omega
  by_cases h8:8<a+b-2
  .have h8' : (8:Int)<((a+b:Nat):Int)-2:=by omega
   rw [if_pos (.inl h8)]at ec;rw [ec,if_neg (by decide),ud tE (by decide)]at hK
   simp only [go_sem,Wb,hk,hr,hd,h0,c1,c2,e0,ms,lp0',lq0',lenpq,hdp,hdq,hdpq',la,lb,h8'];refine⟨⟨hwp,hwq⟩,?_⟩;repeat first | refine q_Wk ?_ | intro _
   exact hK
  have h8' : ¬(8:Int)<((a+b:Nat):Int)-2:=by omega
  by_cases h64:64<dp*dq
  .have h64' : (64:Int)<((dp*dq:Nat):Int):=by omega
   rw [if_pos (.inr h64')]at ec;rw [ec,if_neg (by decide),ud tE (by decide)]at hK
   simp only [go_sem,Wb,hk,hr,hd,h0,c1,c2,e0,ms,lp0',lq0',lenpq,hdp,hdq,hdpq',la,lb,h8',h64'];refine⟨⟨hwp,hwq⟩,?_⟩;repeat first | refine q_Wk ?_ | intro _
   exact hK
  have h64' : ¬(64:Int)<((dp*dq:Nat):Int):=by omega
  rw [if_neg (λh=>h.elim h8 h64')]at ec;obtain⟨hd9,hsm⟩:=hside ec;rw [hdpq]at hd9;rw [ec,if_pos rfl,e0]at hK;simp only [go_sem,Wb,hk,hr,hd,h0,c1,c2,e0,ms,lp0',lq0',lenpq,hdp,hdq,hdpq',la,lb,h8',h64'];refine⟨⟨hwp,hwq⟩,?_⟩;repeat first | refine q_Wk ?_ | intro _
  obtain⟨n,hn⟩:∃n,dp*dq+1=n:=⟨_,rfl⟩;rw [hn];have hn10:n<=10:=by omega
  obtain⟨pq,hpq⟩:∃u,p.map mv=u:=⟨_,rfl⟩;obtain⟨qq,hqq⟩:∃u,q.map mv=u:=⟨_,rfl⟩;rw [hpq,hqq]at hK ⊢;rw [hpq]at la canp ha;rw [hqq]at lb canq hb;rw [hpq,hqq]at hsm;obtain⟨D,E,hD0,hDw,hEw,bp,bq⟩:=hsm;refine ja (λk:Nat=>⟨mkV [(7,.one (.slice ((rowsP pq).map plC))),(8,.one (.slice ((rowsP qq).map plC))),(9,if k=0 then .one .emp else .one (.own 117 1 3 0 k)),(10,if k=0 then .one .emp else .one (.own 121 1 3 0 k)),(63,.one (.lit (.int .i64 n))),(64,.one (.lit (.int .i64 k)))],mkH (if k=0 then [] else [(117,⟨1,some ⟨((xsn k).map rcan).map rC,3,true⟩⟩),(121,⟨1,some ⟨((ysE pq qq k).map rcan).map rC,3,true⟩⟩)])⟩) (λk=>k<=n) (λk=>n-k) 0 ?_ ?_ ?_
  .exact qa (by simp [bitvec_to_nat]) trivial
  .exact Nat.zero_le _
  .intro k hkn;obtain⟨s9,hs9⟩:∃s:AV,(if k=0 then .one .emp else .one (.own 117 1 3 0 k))=s:=⟨_,rfl⟩
   obtain⟨s10,hs10⟩:∃s:AV,(if k=0 then .one .emp else .one (.own 121 1 3 0 k))=s:=⟨_,rfl⟩
   obtain⟨Z,hZ⟩:∃Z:List (Nat×HB),(if k=0 then [] else [(117,⟨1,some ⟨((xsn k).map rcan).map rC,3,true⟩⟩),(121,⟨1,some ⟨((ysE pq qq k).map rcan).map rC,3,true⟩⟩)])=Z:=⟨_,rfl⟩
   rw [hs9,hs10,hZ];have zno:∀r,r≠117->r≠121->mkH Z r=⟨0,none⟩:=λr h1 h2=>by
    rw [<-hZ];split
    .rfl
    .rw [za,if_neg h1,za,if_neg h2];rfl
   have zv:∀h h',h 117=mkH Z 117->h' 117=mkH Z 117->h 121=mkH Z 121->h' 121=mkH Z 121->okV h h' s9 s9/\okV h h' s10 s10:=λh h' h1 h2 h3 h4=>by
    rw [<-hZ]at h1 h2 h3 h4;rw [<-hs9,<-hs10];by_cases k0:k=0
    .rw [if_pos k0,if_pos k0];exact⟨trivial,trivial⟩
    .rw [if_neg k0]at h1 h2 h3 h4;rw [if_neg k0,if_neg k0];simp [za,-List.map_map]at h1 h2 h3 h4;simp [okV,okC,h1,h2,h3,h4]
   have z3:∀(h h' : Nat->HB) (R:Prop),h 117=mkH Z 117->h' 117=mkH Z 117->h 121=mkH Z 121->h' 121=mkH Z 121->R->okV h h' s9 s9/\okV h h' s10 s10/\R:=λh h' R h1 h2 h3 h4 r=>⟨(zv h h' h1 h2 h3 h4).1,(zv h h' h1 h2 h3 h4).2,r⟩;have zh:∀h h',h 117=mkH Z 117->h 121=mkH Z 121->okH h h' Z:=λh h' h1 h2=>by
    rw [<-hZ]at h1 h2 ⊢;by_cases k0:k=0
    .rw [if_pos k0];trivial
    .rw [if_neg k0]at h1 h2 ⊢;simp [za,-List.map_map]at h1 h2;refine⟨?_,?_,trivial⟩
     .rw [h1];exact jn rfl
     .rw [h2];exact jn rfl
   by_cases hlt:k<n
   .have hlt' : (k:Int)<(n:Int):=by omega
    have z12:=zno 12 (by decide) (by decide)
    have z13:=zno 13 (by decide) (by decide)
    have z18:=zno 18 (by decide) (by decide)
    have z20:=zno 20 (by decide) (by decide)
    have z99:=zno 99 (by decide) (by decide)
    simp only [go_sem,hlt',z12,z13,ho,Rat.intCast_natCast];repeat first | refine q_Wk ?_ | intro _
    obtain⟨va,hva⟩:∃l,(rowsP pq).map (λl=>hv l (k:Rat))=l:=⟨_,rfl⟩;obtain⟨vb,hvb⟩:∃l,(rowsP qq).map (λl=>hv l (k:Rat))=l:=⟨_,rfl⟩;have lva:va.length=a:=by rw [<-hva,List.length_map,la]
    have lvb:vb.length=b:=by rw [<-hvb,List.length_map,lb]
    have sw9:swA 99 500 s9=s9/\swA 99 500 s10=s10/\swK 99 500 Z=Z:=by
     rw [<-hs9,<-hs10,<-hZ];by_cases k0:k=0
     .simp only [if_pos k0];exact⟨rfl,rfl,rfl⟩
     .simp only [if_neg k0];refine⟨rfl,rfl,?_⟩;simp only [Va2,XbE,WbM];rfl
    refine Zav 2 ⟨mkV [(9,s9),(10,s10),(7,.one (.slice ((rowsP pq).map plC))),(8,.one (.slice ((rowsP qq).map plC))),(12,.one (.ptr 12 1 0 0)),(13,.one (.ptr 13 1 0 0)),(63,.one (.lit (.int .i64 n))),(64,.one (.lit (.int .i64 k))),(71,.one (.full [[.slice ((rowsP pq).map plC)],[.slice ((rowsP qq).map plC)]])),(72,.one (.lit (.int .i64 2))),(73,.one (.lit (.int .i64 0)))],mkH ((13,⟨1,some ⟨[[.emp,.emp]],2,true⟩⟩)::(12,⟨1,some ⟨[[cb (rcan (k:Rat)),cn (rcan (k:Rat)),cd (rcan (k:Rat))]],3,true⟩⟩)::Z)⟩ ?_ ?_
    .have z:=zv (mkH ((13,⟨1,some ⟨[[.emp,.emp]],2,true⟩⟩)::(12,⟨1,some ⟨[[cb (rcan (k:Rat)),cn (rcan (k:Rat)),cd (rcan (k:Rat))]],3,true⟩⟩)::(12,⟨1,some ⟨[[.lit (.bool false),.emp,.emp]],3,true⟩⟩)::Z)) (mkH ((13,⟨1,some ⟨[[.emp,.emp]],2,true⟩⟩)::(12,⟨1,some ⟨[[cb (rcan (k:Rat)),cn (rcan (k:Rat)),cd (rcan (k:Rat))]],3,true⟩⟩)::Z)) (by simp [za]) (by simp [za]) (by simp [za]) (by simp [za])
     refine qa ?_ ⟨⟨⟨rfl,rfl⟩,.inr (by simp [bitvec_to_nat])⟩,ye,zh _ _ (by simp [za]) (by simp [za])⟩
     simp only [okS,ko,Nat.reduceEqDiff,if_false,if_true];exact⟨z.1,z.2,by simp [bitvec_to_nat]⟩
    .simp only [go_sem,Int.reduceLT,decide_true];repeat first | refine q_Wk ?_ | intro _
     refine ja (λt:Nat=>⟨mkV [(9,s9),(10,s10),(7,.one (.slice ((rowsP pq).map plC))),(8,.one (.slice ((rowsP qq).map plC))),(12,.one (.ptr 12 1 0 0)),(13,.one (.ptr 13 1 0 0)),(14,.one (.lit (.int .i64 0))),(63,.one (.lit (.int .i64 n))),(64,.one (.lit (.int .i64 k))),(71,.one (.full [[.slice ((rowsP pq).map plC)],[.slice ((rowsP qq).map plC)]])),(72,.one (.lit (.int .i64 2))),(73,.one (.lit (.int .i64 0))),(78,.one (.slice ((rowsP pq).map plC))),(79,.one (.lit (.int .i64 a))),(80,.one (.lit (.int .i64 t)))],mkH ((13,⟨1,some ⟨[[valC t,.emp]],2,true⟩⟩)::(12,⟨1,some ⟨[[cb (rcan (k:Rat)),cn (rcan (k:Rat)),cd (rcan (k:Rat))]],3,true⟩⟩)::(99,valB t va)::Z)⟩) (λt=>t<=a) (λt=>a-t) 0 ?_ ?_ ?_
     .have z:=zv (mkH ((13,⟨1,some ⟨[[.emp,.emp]],2,true⟩⟩)::(12,⟨1,some ⟨[[cb (rcan (k:Rat)),cn (rcan (k:Rat)),cd (rcan (k:Rat))]],3,true⟩⟩)::Z)) (mkH ((13,⟨1,some ⟨[[valC 0,.emp]],2,true⟩⟩)::(12,⟨1,some ⟨[[cb (rcan (k:Rat)),cn (rcan (k:Rat)),cd (rcan (k:Rat))]],3,true⟩⟩)::(99,valB 0 va)::Z)) (by simp [za]) (by simp [za]) (by simp [za]) (by simp [za])
      refine qa ?_ ⟨⟨⟨rfl,rfl⟩,.inr (by simp [bitvec_to_nat,valC])⟩,ye,uR (λh=>(h rfl).elim),zh _ _ (by simp [za]) (by simp [za])⟩
      simp only [okS,ko,Nat.reduceEqDiff,if_false,if_true];exact⟨z.1,z.2,by simp [bitvec_to_nat,la]⟩
     .exact Nat.zero_le _
     .intro t hta;by_cases htl:t<a
      .have htl' : (t:Int)<(a:Int):=by omega
       obtain⟨c,hcc⟩:∃c,(rowsP pq).getD t []=c:=⟨_,rfl⟩;have hcm:c∈rowsP pq:=by
        rw [<-hcc,List.getD_eq_getElem?_getD,List.getElem?_eq_getElem (by omega)]
        exact List.getElem_mem _
       obtain⟨tc1,tc2⟩:=WE hcm;have rc:=waR hD0 hDw hEw canp bp hcm;have rc6:∀x∈c,rz x<=1000000:=λx hx=>Nat.le_trans (rc x hx) (by decide)
       have rk:=Xx (k:=k) (by omega)
       obtain⟨y,hy⟩:∃y,hv c (k:Rat)=y:=⟨_,rfl⟩;have hvt:va.take (t+1)=va.take t++[y]:=by
        rw [List.take_add_one,<-hva,List.getElem?_map,<-hy,<-hcc,List.getD_eq_getElem?_getD,List.getElem?_eq_getElem (by omega)]
        rfl
       have c65:c.length<=65:=by omega
       rcases Nat.eq_zero_or_pos t with t0 | t0
       case' inl=>
        subst t0;have eC:valC 0=.emp:=rfl;have eB:valB 0 va=⟨0,none⟩:=rfl;rw [eC,eB];simp only [go_sem,htl,htl',Y1,hcc,he,e0,rQ,hy,la,z18,Int.toNat_zero,Int.toNat_natCast];repeat first | refine q_Wk ?_ | intro _
       case' inr=>
        have eC:valC t=.own 99 1 3 0 t:=if_neg (by omega)
        have eB:valB t va=⟨1,some ⟨((va.take t).map rcan).map rC,3,true⟩⟩:=if_neg (by omega)
        have htk:(((va.take t).map rcan).map rC).take t=((va.take t).map rcan).map rC:=List.take_of_length_le (by rw [List.length_map,List.length_map,List.length_take];omega)
        have hlv:((va.take t).map rcan).length=t:=by rw [List.length_map,List.length_take];omega
        rw [eC,eB];simp only [go_sem,htl,htl',Y1,hcc,he,e0,rQ,hy,la,z18,htk,hlv,List.length_map,xaj,Int.toNat_zero,Int.toNat_natCast];repeat first | refine q_Wk ?_ | intro _
       all_goals
        refine⟨λe he=>by rw [List.mem_singleton.1 he];rfl,?_⟩
        repeat first | refine q_Wk ?_ | intro _
       case' inl=>refine⟨0+1,?_,by omega,by omega⟩
       case' inr=>refine⟨t+1,?_,by omega,by omega⟩
       all_goals
        refine qa ?_ ⟨⟨⟨rfl,rfl⟩,.inr (by simp [bitvec_to_nat,valC,valB])⟩,ye,uR (λ_=>?_),zh _ _ (by simp [za]) (by simp [za])⟩
        .simp only [okS,ko,Nat.reduceEqDiff,if_false,if_true];refine z3 _ _ _ (by simp [za]) (by simp [za]) (by simp [za]) (by simp [za]) ?_
         simp [bitvec_to_nat]
        .rw [hvt];simp [za,rC]
      .have eta:t=a:=by omega
       have htl' : ¬(t:Int)<(a:Int):=by omega
       have eC:valC t=.own 99 1 3 0 a:=by rw [eta];exact if_neg (by omega)
       have eB:valB t va=⟨1,some ⟨(va.map rcan).map rC,3,true⟩⟩:=by
        rw [eta];unfold valB;rw [if_neg (by omega),List.take_of_length_le (by omega)]
       rw [eC,eB];simp only [go_sem,htl'];repeat first | refine q_Wk ?_ | intro _
       refine Jaj ⟨mkV [(9,s9),(10,s10),(7,.one (.slice ((rowsP pq).map plC))),(8,.one (.slice ((rowsP qq).map plC))),(12,.one (.ptr 12 1 0 0)),(13,.one (.ptr 13 1 0 0)),(63,.one (.lit (.int .i64 n))),(64,.one (.lit (.int .i64 k))),(71,.one (.full [[.slice ((rowsP pq).map plC)],[.slice ((rowsP qq).map plC)]])),(72,.one (.lit (.int .i64 2))),(73,.one (.lit (.int .i64 1)))],mkH ((13,⟨1,some ⟨[[.own 500 1 3 0 a,.emp]],2,true⟩⟩)::(12,⟨1,some ⟨[[cb (rcan (k:Rat)),cn (rcan (k:Rat)),cd (rcan (k:Rat))]],3,true⟩⟩)::(500,⟨1,some ⟨(va.map rcan).map rC,3,true⟩⟩)::Z)⟩ ?_ ?_
       .have w:=kaQ (a:=99) (b:=500) ⟨by decide,by decide⟩ (v:=mkV ?_) (h:=mkH ?_) (l:=[(9,s9),(10,s10),(7,.one (.slice ((rowsP pq).map plC))),(8,.one (.slice ((rowsP qq).map plC))),(12,.one (.ptr 12 1 0 0)),(13,.one (.ptr 13 1 0 0)),(63,.one (.lit (.int .i64 n))),(64,.one (.lit (.int .i64 k))),(71,.one (.full [[.slice ((rowsP pq).map plC)],[.slice ((rowsP qq).map plC)]])),(72,.one (.lit (.int .i64 2))),(73,.one (.lit (.int .i64 1)))]) (k:=(13,⟨1,some ⟨[[.own 99 1 3 0 a,.emp]],2,true⟩⟩)::(12,⟨1,some ⟨[[cb (rcan (k:Rat)),cn (rcan (k:Rat)),cd (rcan (k:Rat))]],3,true⟩⟩)::(99,⟨1,some ⟨(va.map rcan).map rC,3,true⟩⟩)::Z) ⟨?_,?_⟩
        .have e1:swL 99 500 [(9,s9),(10,s10),(7,.one (.slice ((rowsP pq).map plC))),(8,.one (.slice ((rowsP qq).map plC))),(12,.one (.ptr 12 1 0 0)),(13,.one (.ptr 13 1 0 0)),(63,.one (.lit (.int .i64 n))),(64,.one (.lit (.int .i64 k))),(71,.one (.full [[.slice ((rowsP pq).map plC)],[.slice ((rowsP qq).map plC)]])),(72,.one (.lit (.int .i64 2))),(73,.one (.lit (.int .i64 1)))]=[(9,s9),(10,s10),(7,.one (.slice ((rowsP pq).map plC))),(8,.one (.slice ((rowsP qq).map plC))),(12,.one (.ptr 12 1 0 0)),(13,.one (.ptr 13 1 0 0)),(63,.one (.lit (.int .i64 n))),(64,.one (.lit (.int .i64 k))),(71,.one (.full [[.slice ((rowsP pq).map plC)],[.slice ((rowsP qq).map plC)]])),(72,.one (.lit (.int .i64 2))),(73,.one (.lit (.int .i64 1)))]:=by
          simp [ua2,qaL,sw9.1,sw9.2.1,YaW,zaN,Wa1,Za7,YbA,Ua4]
         have e2:swK 99 500 ((13,⟨1,some ⟨[[.own 99 1 3 0 a,.emp]],2,true⟩⟩)::(12,⟨1,some ⟨[[cb (rcan (k:Rat)),cn (rcan (k:Rat)),cd (rcan (k:Rat))]],3,true⟩⟩)::(99,⟨1,some ⟨(va.map rcan).map rC,3,true⟩⟩)::Z)=(13,⟨1,some ⟨[[.own 500 1 3 0 a,.emp]],2,true⟩⟩)::(12,⟨1,some ⟨[[cb (rcan (k:Rat)),cn (rcan (k:Rat)),cd (rcan (k:Rat))]],3,true⟩⟩)::(500,⟨1,some ⟨(va.map rcan).map rC,3,true⟩⟩)::Z:=by
          rw [Va2,Va2,Va2,sw9.2.2,WbM];rfl
         rw [e1,e2]at w;exact w
        .simp only [okS,ko,Nat.reduceEqDiff,if_false,if_true];refine z3 _ _ _ (by simp [za]) (by simp [za]) (by simp [za]) (by simp [za]) ?_
         simp [bitvec_to_nat]
        .exact⟨⟨⟨rfl,rfl⟩,.inr (by simp [bitvec_to_nat])⟩,ye,jn rfl,zh _ _ (by simp [za]) (by simp [za])⟩
       .simp only [go_sem,Int.reduceLT,Int.reduceAdd,decide_true];repeat first | refine q_Wk ?_ | intro _
        refine ja (λt:Nat=>⟨mkV [(9,s9),(10,s10),(7,.one (.slice ((rowsP pq).map plC))),(8,.one (.slice ((rowsP qq).map plC))),(12,.one (.ptr 12 1 0 0)),(13,.one (.ptr 13 1 0 0)),(14,.one (.lit (.int .i64 1))),(63,.one (.lit (.int .i64 n))),(64,.one (.lit (.int .i64 k))),(71,.one (.full [[.slice ((rowsP pq).map plC)],[.slice ((rowsP qq).map plC)]])),(72,.one (.lit (.int .i64 2))),(73,.one (.lit (.int .i64 1))),(78,.one (.slice ((rowsP qq).map plC))),(79,.one (.lit (.int .i64 b))),(80,.one (.lit (.int .i64 t)))],mkH ((13,⟨1,some ⟨[[.own 500 1 3 0 a,valC t]],2,true⟩⟩)::(12,⟨1,some ⟨[[cb (rcan (k:Rat)),cn (rcan (k:Rat)),cd (rcan (k:Rat))]],3,true⟩⟩)::(500,⟨1,some ⟨(va.map rcan).map rC,3,true⟩⟩)::(99,valB t vb)::Z)⟩) (λt=>t<=b) (λt=>b-t) 0 ?_ ?_ ?_
        .refine qa ?_ ⟨⟨⟨rfl,rfl⟩,.inr (by simp [bitvec_to_nat,valC])⟩,ye,jn rfl,uR (λh=>(h rfl).elim),zh _ _ (by simp [za]) (by simp [za])⟩
         simp only [okS,ko,Nat.reduceEqDiff,if_false,if_true];refine z3 _ _ _ (by simp [za]) (by simp [za]) (by simp [za]) (by simp [za]) ?_
         simp [bitvec_to_nat,lb]
        .exact Nat.zero_le _
        .clear eC eB htl' htl eta hta t;intro t htb;by_cases htl:t<b
         .have htl' : (t:Int)<(b:Int):=by omega
          obtain⟨c,hcc⟩:∃c,(rowsP qq).getD t []=c:=⟨_,rfl⟩;have hcm:c∈rowsP qq:=by
           rw [<-hcc,List.getD_eq_getElem?_getD,List.getElem?_eq_getElem (by omega)]
           exact List.getElem_mem _
          obtain⟨tc1,tc2⟩:=WE hcm;have rc:=waR hD0 hDw hEw canq bq hcm;have rc6:∀x∈c,rz x<=1000000:=λx hx=>Nat.le_trans (rc x hx) (by decide)
          have rk:=Xx (k:=k) (by omega)
          obtain⟨y,hy⟩:∃y,hv c (k:Rat)=y:=⟨_,rfl⟩;have hvt:vb.take (t+1)=vb.take t++[y]:=by
           rw [List.take_add_one,<-hvb,List.getElem?_map,<-hy,<-hcc,List.getD_eq_getElem?_getD,List.getElem?_eq_getElem (by omega)]
           rfl
          have c65:c.length<=65:=by omega
          rcases Nat.eq_zero_or_pos t with t0 | t0
          case' inl=>
           subst t0;have eC:valC 0=.emp:=rfl;have eB:valB 0 vb=⟨0,none⟩:=rfl;rw [eC,eB];simp only [go_sem,htl,htl',Y1,hcc,he,e0,rQ,hy,lb,z18,Int.reduceMul,Int.toNat_zero,Int.toNat_natCast];repeat first | refine q_Wk ?_ | intro _
          case' inr=>
           have eC:valC t=.own 99 1 3 0 t:=if_neg (by omega)
           have eB:valB t vb=⟨1,some ⟨((vb.take t).map rcan).map rC,3,true⟩⟩:=if_neg (by omega)
           have htk:(((vb.take t).map rcan).map rC).take t=((vb.take t).map rcan).map rC:=List.take_of_length_le (by rw [List.length_map,List.length_map,List.length_take];omega)
           have hlv:((vb.take t).map rcan).length=t:=by rw [List.length_map,List.length_take];omega
           rw [eC,eB];simp only [go_sem,htl,htl',Y1,hcc,he,e0,rQ,hy,lb,z18,htk,hlv,List.length_map,xaj,Int.toNat_zero,Int.toNat_natCast];repeat first | refine q_Wk ?_ | intro _
          all_goals
           refine⟨λe he=>by rw [List.mem_singleton.1 he];rfl,?_⟩
           repeat first | refine q_Wk ?_ | intro _
          case' inl=>refine⟨0+1,?_,by omega,by omega⟩
          case' inr=>refine⟨t+1,?_,by omega,by omega⟩
          all_goals
           refine qa ?_ ⟨⟨⟨rfl,rfl⟩,.inr (by simp [bitvec_to_nat,valC,valB])⟩,ye,jn rfl,uR (λ_=>?_),zh _ _ (by simp [za]) (by simp [za])⟩
           .simp only [okS,ko,Nat.reduceEqDiff,if_false,if_true];refine z3 _ _ _ (by simp [za]) (by simp [za]) (by simp [za]) (by simp [za]) ?_
            simp [bitvec_to_nat]
           .rw [hvt];simp [za,rC]
         .have eta:t=b:=by omega
          have htl' : ¬(t:Int)<(b:Int):=by omega
          have eC:valC t=.own 99 1 3 0 b:=by rw [eta];exact if_neg (by omega)
          have eB:valB t vb=⟨1,some ⟨(vb.map rcan).map rC,3,true⟩⟩:=by
           rw [eta];unfold valB;rw [if_neg (by omega),List.take_of_length_le (by omega)]
          rw [eC,eB];simp only [go_sem,htl'];repeat first | refine q_Wk ?_ | intro _
          refine Jaj ⟨mkV [(9,s9),(10,s10),(7,.one (.slice ((rowsP pq).map plC))),(8,.one (.slice ((rowsP qq).map plC))),(12,.one (.ptr 12 1 0 0)),(13,.one (.ptr 13 1 0 0)),(63,.one (.lit (.int .i64 n))),(64,.one (.lit (.int .i64 k))),(71,.one (.full [[.slice ((rowsP pq).map plC)],[.slice ((rowsP qq).map plC)]])),(72,.one (.lit (.int .i64 2))),(73,.one (.lit (.int .i64 2)))],mkH ((13,⟨1,some ⟨[[.own 500 1 3 0 a,.own 99 1 3 0 b]],2,true⟩⟩)::(12,⟨1,some ⟨[[cb (rcan (k:Rat)),cn (rcan (k:Rat)),cd (rcan (k:Rat))]],3,true⟩⟩)::(500,⟨1,some ⟨(va.map rcan).map rC,3,true⟩⟩)::(99,⟨1,some ⟨(vb.map rcan).map rC,3,true⟩⟩)::Z)⟩ ?_ ?_
          .refine qa ?_ ⟨⟨⟨rfl,rfl⟩,.inr (by simp [bitvec_to_nat])⟩,ye,jn rfl,jn rfl,zh _ _ (by simp [za]) (by simp [za])⟩
           simp only [okS,ko,Nat.reduceEqDiff,if_false,if_true];refine z3 _ _ _ (by simp [za]) (by simp [za]) (by simp [za]) (by simp [za]) ?_
           simp [bitvec_to_nat]
          .have va0:va≠[]:=λe=>by rw [e]at lva;simp at lva;omega
           have vb0:vb≠[]:=λe=>by rw [e]at lvb;simp at lvb;omega
           have rva:=VbB (k:=k) hD0 hDw hEw (by omega) canp bp
           have rvb:=VbB (k:=k) hD0 hDw hEw (by omega) canq bq
           rw [hva]at rva;rw [hvb]at rvb;have hab:va.length+vb.length<=10:=by omega
           have rva' : ∀x∈va,rz x<=1000:=λx hx=>Nat.le_trans (rva x hx) (by decide)
           have rvb' : ∀x∈vb,rz x<=1000:=λx hx=>Nat.le_trans (rvb x hx) (by decide)
           have hval:resQ va vb=valE pq qq k:=by rw [<-hva,<-hvb];rfl
           have tka:((va.map rcan).map rC).take a=(va.map rcan).map rC:=List.take_of_length_le (by rw [List.length_map,List.length_map];omega)
           have tkb:((vb.map rcan).map rC).take b=(vb.map rcan).map rC:=List.take_of_length_le (by rw [List.length_map,List.length_map];omega)
           have a3:a<=va.length:=by omega
           have b3:b<=vb.length:=by omega
           simp only [go_sem,Int.reduceLT,Int.reduceAdd,decide_false,hvl,e0,rQ,hval,tka,tkb,List.length_map,lva,lvb,z20,Int.toNat_zero,Int.toNat_natCast];repeat first | refine q_Wk ?_ | intro _
           clear z3 zh zv zno sw9;subst hs9 hs10 hZ;have xl:=vah k;have yl:=uaP pq qq k;by_cases hk0:k=0
           .simp only [if_pos hk0];simp only [go_sem];have ex:((xsn 0++[((0:Nat):Rat)]).map rcan).map rC=[[cb (rcan ((0:Nat):Rat)),cn (rcan ((0:Nat):Rat)),cd (rcan ((0:Nat):Rat))]]:=rfl;have ey:((ysE pq qq 0++[valE pq qq 0]).map rcan).map rC=[[cb (rcan (valE pq qq 0)),cn (rcan (valE pq qq 0)),cd (rcan (valE pq qq 0))]]:=rfl;subst hk0;refine⟨λe he=>by rw [List.mem_singleton.1 he];rfl,λe he=>by rw [List.mem_singleton.1 he];rfl,by omega,?_⟩
            refine⟨0+1,?_,by omega,by omega⟩
            rw [if_neg (by omega),if_neg (by omega),if_neg (by omega),<-zaP,<-yaV,ex,ey]
            refine qa (by simp [bitvec_to_nat]) ⟨?_,?_,trivial⟩
            .rw [<-ex];exact jn (by rw [ex])
            .rw [<-ey];exact jn (by rw [ey])
           .simp only [if_neg hk0];have tkx:(((xsn k).map rcan).map rC).take k=((xsn k).map rcan).map rC:=List.take_of_length_le (by rw [List.length_map,List.length_map];omega)
            have tky:(((ysE pq qq k).map rcan).map rC).take k=((ysE pq qq k).map rcan).map rC:=List.take_of_length_le (by rw [List.length_map,List.length_map];omega)
            simp only [go_sem,List.length_map,xl,yl,tkx,tky,xaj];refine⟨λe he=>by rw [List.mem_singleton.1 he];rfl,by omega,λe he=>by rw [List.mem_singleton.1 he];rfl,by omega,by omega,?_⟩
            refine⟨k+1,?_,by omega,by omega⟩
            rw [if_neg (by omega),if_neg (by omega),if_neg (by omega),<-zaP,<-yaV]
            exact qa (by simp [bitvec_to_nat]) ⟨jn (by simp [za]),jn (by simp [za]),trivial⟩
   .have ekn:k=n:=by omega
    have hlt' : ¬(k:Int)<(n:Int):=by omega
    have hk0:¬k=0:=by omega
    clear z3 zh zv zno;subst hs9 hs10 hZ;have hh8:topY pq-1+(topY qq-1)<=8:=by rw [ha,hb];omega
    have hy10:=uaP pq qq k;have hsml:=vbq (n:=k) canp canq ⟨D,E,hD0,hDw,hEw,bp,bq⟩ hh8 (by omega)
    have hry:∀x∈ysE pq qq k,rz x<=10000:=λx hx=>by
     unfold ysE at hx;obtain⟨j,hj,rfl⟩:=List.mem_map.1 hx;have:=Qbq (k:=j) canp canq ⟨D,E,hD0,hDw,hEw,bp,bq⟩ hh8 (by have:=List.mem_range.1 hj;omega)
     omega
    have hthr:thr (ysE pq qq k)=elL pq qq:=by
     rw [ekn,<-hn];have g1:=Jx canp;have g2:=Jx canq;have e1:(degB pq).toNat=dp:=by rw [<-hpq,<-zd,mcp,hdp];exact Int.toNat_natCast dp
     have e2:(degB qq).toNat=dq:=by rw [<-hqq,<-zd,mcq,hdq];exact Int.toNat_natCast dq
     rw [e1]at g1;rw [e2]at g2;exact qbo canp.ins canq.ins g1 g2
    have xl:=vah k;have k10:k<=10:=by omega
    have tkx:(((xsn k).map rcan).map rC).take k=((xsn k).map rcan).map rC:=List.take_of_length_le (by rw [List.length_map,List.length_map];omega)
    have tky:(((ysE pq qq k).map rcan).map rC).take k=((ysE pq qq k).map rcan).map rC:=List.take_of_length_le (by rw [List.length_map,List.length_map];omega)
    simp only [if_neg hk0];simp only [go_sem,hlt',List.length_map,xl,hy10,tkx,tky,ht,e0,hthr];repeat first | refine q_Wk ?_ | intro _
    exact hK
end Go.Abs
end
section
namespace Go.Num
open Go.Abs
def lowB(n d:Int)(x:R):Bool:=decide (x.2.1.length<2) && (decide (x.2.2.length<2) && ((decide (x.2.1.length=0) || decide ((x.2.1.getD 0 0:Int)<=n)) && (decide (x.2.2.length=0) || decide ((x.2.2.getD 0 0:Int)<=d))))
def lowR(x:R):Bool:=lowB 1000 60 x
def longM(p:List Mo):Bool:=decide (15<p.length) && decide (p.length<=325) || decide (400<p.length)
def shortM(p:List Mo):Bool:=!longM p && p.all λt=>lowR t.2.2
def vldM(p:List Mo):Bool:=shortM p && (decide (chkB p=0) && decide (degM p<=5))
end Go.Num
namespace Go.Abs
open Go.Num
variable {P:Program} {Γ:Nat->Spec}
theorem YE{α β:Type}{f:α->β}(hf:∀a b,f a=f b->a=b):∀{l m:List α},l.map f=m.map f->l=m
 | [],[],_=>rfl
 | [],_::_,h=>by simp at h
 | _::_,[],h=>by simp at h
 | x::l,y::m,h=>by
  simp only [List.map_cons,List.cons.injEq]at h;rw [hf x y h.1,YE hf h.2]
def mlA(L:List (List Mo)):AV:=.one (.slice (L.map λl=>[.slice (l.map mC)]))
theorem QbH{a b:List Mo}(h:ms a=ms b):a=b:=Vam a b (by unfold msA;rw [h])
theorem vag(x y:List (List Mo))(h:mlA x=mlA y):x=y:=by
 simp only [mlA,AV.one.injEq,C.slice.injEq]at h;exact YE (λa b h=>QbH (by simpa [ms] using h)) h
def onMl(k:List (List Mo)->Prop)(a:AV):Prop:=onE mlA (λL=>(∀l∈L,∀t∈l,WLM t)/\k L) a
@[congr] theorem QbT{k:List (List Mo)->Prop}{a a'}(h:a=a'):onMl k a=onMl k a':=by subst h;rfl
theorem zbh(k:List (List Mo)->Prop)(p:List Mo):onMl k (.one (.slice [[.slice (p.map mC)]]))=((∀l∈[p],∀t∈l,WLM t)/\k [p]):=jg vag _ [p]
theorem ubm(k:List (List Mo)->Prop)(p q:List Mo):onMl k (.one (.slice [[.slice (p.map mC)],[.slice (q.map mC)]]))=((∀l∈[p,q],∀t∈l,WLM t)/\k [p,q]):=jg vag _ [p,q]
theorem ZaV{β:Type}{T:List (List Mo)->(β->Prop)->Prop}(h:∀l,GoodT (T l)){a:AV}:GoodT λK=>onMl (λl=>T l K) a:=
 yB (e:=mlA) (T:=λL K=>(∀l∈L,∀t∈l,WLM t)/\T L K) vag λL=>GoodT.and (c:=∀l∈L,∀t∈l,WLM t) (T:=T L) λ_=>h L
theorem QaO(K:List C->Prop)(L:List (List Mo))(i:Nat):getE K (L.map λl=>[.slice (l.map mC)]) i=(i<L.length/\K [.slice ((L.getD i []).map mC)]):=by
 simp only [getE,List.length_map,List.getElem?_map];refine propext ⟨λh=>⟨h.1,h.2 _ (by simp [h.1,List.getD_eq_getElem?_getD])⟩,λh=>⟨h.1,λe he=>?_⟩⟩
 simp [h.1]at he;subst he;have:=h.2;simpa [List.getD_eq_getElem?_getD,h.1] using this
theorem vaz(L:List (List Mo)):Clean (.slice (L.map λl=>[.slice (l.map mC)]))=True:=eq_true (.slice _ λe he c hc=>by
 obtain⟨l,_,rfl⟩:=List.mem_map.1 he;rw [List.mem_singleton]at hc;subst hc;exact of_eq_true (Xw _))
theorem ubl(k:List R->Prop)(x:R):onRs k (.one (.slice [[cb x,cn x,cd x]]))=((∀y∈[x],WLR y)/\k [x]):=UaC k [x]
theorem ubk(k:List R->Prop)(x y:R):onRs k (.one (.slice [[cb x,cn x,cd x],[cb y,cn y,cd y]]))=((∀z∈[x,y],WLR z)/\k [x,y]):=UaC k [x,y]
attribute [go_sem,go_sem ↓] zbh ubm QaO vaz ubl ubk
def jC(l:List AV)(K:AV->Prop):Prop:=
 match l with
 | [a,b]=>onM (λx=>onM (λy=>inM x/\inM y/\K (.one (.lit (.bool (decide (kM x<kM y)))))) b) a
 | _=>False
theorem va8 a b K:jC [a,b] K=(onM (λx=>onM (λy=>inM x/\inM y/\K (.one (.lit (.bool (decide (kM x<kM y)))))) b) a):=propext Iff.rfl
@[congr] theorem ZbX{K}{l l'}(h:l=l'):jC l K=jC l' K:=by subst h;rfl
attribute [go_sem,go_sem ↓] va8
theorem uaL:Good jC:=Ja λas=>by
 unfold jC;split
 .exact(uQ λ_=>(uQ λ_=>(.and λ_=>(.and λ_=>(.ret _)))))
 .exact .of λK hk=>hk.elim
def vA(l:List AV)(K:AV->Prop):Prop:=
 match l with
 | [a]=>onM (λt=>K (.one (.lit (.int .i64 (if inM t then 0 else 3))))) a
 | _=>False
theorem Za1 a K:vA [a] K=(onM (λt=>K (.one (.lit (.int .i64 (if inM t then 0 else 3))))) a):=propext Iff.rfl
@[congr] theorem zbY{K}{l l'}(h:l=l'):vA l K=vA l' K:=by subst h;rfl
attribute [go_sem,go_sem ↓] Za1
theorem ya1:Good vA:=Ja λas=>by
 unfold vA;split
 .exact(uQ λ_=>(.ret _))
 .exact .of λK hk=>hk.elim
def Wo(l:List AV)(K:AV->Prop):Prop:=
 match l with
 | [a]=>onMs (λl=>(∀t∈l,rl t.2.2<=4294967296)/\K (.one (.lit (.int .i64 (chkB l:Nat))))) a
 | _=>False
theorem vac a K:Wo [a] K=(onMs (λl=>(∀t∈l,rl t.2.2<=4294967296)/\K (.one (.lit (.int .i64 (chkB l:Nat))))) a):=propext Iff.rfl
@[congr] theorem YbC{K}{l l'}(h:l=l'):Wo l K=Wo l' K:=by subst h;rfl
attribute [go_sem,go_sem ↓] vac
theorem xaf:Good Wo:=Ja λas=>by
 unfold Wo;split
 .exact(Jg λ_=>(.and λ_=>(.ret _)))
 .exact .of λK hk=>hk.elim
def Vi(l:List AV)(K:AV->Prop):Prop:=
 match l with
 | [a]=>onMs (λl=>(∀t∈l,rl t.2.2<=4294967296)/\K (.tup [.one (.lit (.int .i64 (if chkB l=0 then degM l else 0))),.one (.lit (.int .i64 (chkB l:Nat)))])) a
 | _=>False
theorem WO a K:Vi [a] K=(onMs (λl=>(∀t∈l,rl t.2.2<=4294967296)/\K (.tup [.one (.lit (.int .i64 (if chkB l=0 then degM l else 0))),.one (.lit (.int .i64 (chkB l:Nat)))])) a):=propext Iff.rfl
@[congr] theorem jbx{K}{l l'}(h:l=l'):Vi l K=Vi l' K:=by subst h;rfl
attribute [go_sem,go_sem ↓] WO
theorem X3:Good Vi:=Ja λas=>by
 unfold Vi;split
 .exact(Jg λ_=>(.and λ_=>(.ret _)))
 .exact .of λK hk=>hk.elim
def Jag(l:List AV)(K:AV->Prop):Prop:=
 match l with
 | [a]=>onM2 (λp q=>(∀t∈p,rl t.2.2<=4294967296)/\(∀t∈q,rl t.2.2<=4294967296)/\K (.one (.lit (.int .i64 (chk2 p q:Nat))))) a
 | _=>False
theorem vao a K:Jag [a] K=(onM2 (λp q=>(∀t∈p,rl t.2.2<=4294967296)/\(∀t∈q,rl t.2.2<=4294967296)/\K (.one (.lit (.int .i64 (chk2 p q:Nat))))) a):=propext Iff.rfl
@[congr] theorem kbR{K}{l l'}(h:l=l'):Jag l K=Jag l' K:=by subst h;rfl
attribute [go_sem,go_sem ↓] vao
def Yo(l:List AV)(K:AV->Prop):Prop:=
 match l with
 | [a,b]=>onMs (λp=>onMs (λq=>(∀t∈p,rl t.2.2<=4294967296)/\p.length<=1000000/\K (.one (.lit (.bool (decide (p=q)))))) b) a
 | _=>False
theorem Z3 a b K:Yo [a,b] K=(onMs (λp=>onMs (λq=>(∀t∈p,rl t.2.2<=4294967296)/\p.length<=1000000/\K (.one (.lit (.bool (decide (p=q)))))) b) a):=propext Iff.rfl
@[congr] theorem YbI{K}{l l'}(h:l=l'):Yo l K=Yo l' K:=by subst h;rfl
attribute [go_sem,go_sem ↓] Z3
theorem Zam:Good Yo:=Ja λas=>by
 unfold Yo;split
 .exact(Jg λ_=>(Jg λ_=>(.and λ_=>(.and λ_=>(.ret _)))))
 .exact .of λK hk=>hk.elim
def wy(l:List AV)(K:AV->Prop):Prop:=
 match l with
 | [a,b,c]=>onR (λx=>asInt (λk n=>asInt (λk' d=>k=.u32/\k' = .u32/\rl x<=4294967296/\K (.one (.lit (.bool (lowB n d x))))) c) b) a
 | _=>False
theorem uai a b c K:wy [a,b,c] K=(onR (λx=>asInt (λk n=>asInt (λk' d=>k=.u32/\k' = .u32/\rl x<=4294967296/\K (.one (.lit (.bool (lowB n d x))))) c) b) a):=propext Iff.rfl
@[congr] theorem wbX{K}{l l'}(h:l=l'):wy l K=wy l' K:=by subst h;rfl
attribute [go_sem,go_sem ↓] uai
theorem UaP:Good wy:=Ja λas=>by
 unfold wy;split
 .repeat (first | exact .ret _ | exact .of (λK hk=>hk.elim) | (refine .and λ_=>?_) | (refine We λ_=>?_) | (refine ZaV λ_=>?_) | (refine uQ λ_=>?_) | (refine Qo λ_=>?_) | (refine Jg λ_=>?_) | (refine zaC λ_=>?_) | (refine ZaV λ_=>?_) | (refine qaM λ_=>?_) | (refine jc (λ_ _=>?_) _) | (refine kE (λ_=>?_) _) | (refine yB ?_ ?_) | (intro _) | assumption)
 .exact .of λK hk=>hk.elim
def xo(l:List AV)(K:AV->Prop):Prop:=
 match l with
 | [a]=>onRs (λl=>okRs 4294967296 l/\l.length<=1000000/\K (.one (.lit (.bool (l.all lowR))))) a
 | _=>False
theorem xab a K:xo [a] K=(onRs (λl=>okRs 4294967296 l/\l.length<=1000000/\K (.one (.lit (.bool (l.all lowR))))) a):=propext Iff.rfl
@[congr] theorem WbK{K}{l l'}(h:l=l'):xo l K=xo l' K:=by subst h;rfl
attribute [go_sem,go_sem ↓] xab
theorem Uai:Good xo:=Ja λas=>by
 unfold xo;split
 .exact(qaM λ_=>(.and λ_=>(.and λ_=>(.ret _))))
 .exact .of λK hk=>hk.elim
def uj(l:List AV)(K:AV->Prop):Prop:=
 match l with
 | [a]=>onMl (λL=>(∀l∈L,l.length<=10000000/\∀t∈l,rl t.2.2<=4294967296)/\L.length<=1000000/\K (.one (.lit (.bool (L.all shortM))))) a
 | _=>False
theorem xP a K:uj [a] K=(onMl (λL=>(∀l∈L,l.length<=10000000/\∀t∈l,rl t.2.2<=4294967296)/\L.length<=1000000/\K (.one (.lit (.bool (L.all shortM))))) a):=propext Iff.rfl
@[congr] theorem ybx{K}{l l'}(h:l=l'):uj l K=uj l' K:=by subst h;rfl
attribute [go_sem,go_sem ↓] xP
theorem UY:Good uj:=Ja λas=>by
 unfold uj;split
 .exact(ZaV λ_=>(.and λ_=>(.and λ_=>(.ret _))))
 .exact .of λK hk=>hk.elim
def xk(l:List AV)(K:AV->Prop):Prop:=
 match l with
 | [a]=>onM2 (λp q=>(p.length<=10000000/\∀t∈p,rl t.2.2<=4294967296)/\(q.length<=10000000/\∀t∈q,rl t.2.2<=4294967296)/\K (.one (.lit (.bool (vldM p && vldM q))))) a
 | _=>False
theorem zP a K:xk [a] K=(onM2 (λp q=>(p.length<=10000000/\∀t∈p,rl t.2.2<=4294967296)/\(q.length<=10000000/\∀t∈q,rl t.2.2<=4294967296)/\K (.one (.lit (.bool (vldM p && vldM q))))) a):=propext Iff.rfl
@[congr] theorem Ubx{K}{l l'}(h:l=l'):xk l K=xk l' K:=by subst h;rfl
attribute [go_sem,go_sem ↓] zP
theorem J0:Good xk:=Ja λas=>by
 unfold xk;split
 .exact(zaC λ_ _=>(.and λ_=>(.and λ_=>(.ret _))))
 .exact .of λK hk=>hk.elim
def jd:AC:=(.o [.K 2 5 0,.K 3 5 1,.m 4 .fa] [2,3] (.f (.o [.A 5 0 2,.F 6 1 5,.A 7 1 2,.F 8 1 7,.B 9 .add 6 8,.A 10 0 3,.F 11 1 10,.A 12 1 3,.F 13 1 12,.B 14 .add 11 13,.B 15 .neq 9 14] [2,3,15] (.cond (.t 15) (.seq (.p [.A 16 0 2,.F 17 1 16,.A 18 1 2,.F 19 1 18,.B 20 .add 17 19,.A 21 0 3,.F 22 1 21,.A 23 1 3,.F 24 1 23,.B 25 .add 22 24,.B 26 .lss 20 25,.M 4 26]) .ret) .skip)) [2,3] (.seq (.p [.A 27 0 2,.F 28 1 27,.A 29 0 3,.F 30 1 29,.B 31 .lss 28 30,.M 4 31]) .ret)))
def Zb:AC:=(.o [.K 1 5 0,.N 2 0] [1] (.f (.o [.A 3 0 1,.F 4 1 3,.I 5 .lss 4 0,.M 6 5,.T 7 6 false 1 1,.U 8 6 false 1 false 7,.w 9 6 false (.bin .lss (.t 8) (.i 0)),.Q 10 6 9,.M 11 10,.T 12 11 false 0 1,.U 13 11 false 1 false 12,.w 14 11 false (.bin .gtr (.t 13) (.i 24)),.Q 15 11 14,.M 16 15,.T 17 16 false 1 1,.U 18 16 false 1 false 17,.w 19 16 false (.bin .gtr (.t 18) (.i 24)),.Q 20 16 19,.M 21 20,.T 22 21 false 0 1,.U 23 21 false 1 false 22,.T 24 21 false 1 1,.U 25 21 false 1 false 24,.w 26 21 false (.bin .add (.t 23) (.t 25)),.w 27 21 false (.bin .gtr (.t 26) (.i 24)),.Q 28 21 27] [28] (.cond (.t 28) (.seq (.p [.N 2 3]) .ret) .skip)) [] (.seq (.p [.N 2 0]) .ret)))
def yd(f0 f1 f2 f3:Nat):AC:=(.o [.N 2 0] [0] (.f (.o [.M 6 0,.Z 7 6,.I 8 .gtr 7 325] [0,8] (.cond (.t 8) (.seq (.p [.N 2 4]) .ret) .skip)) [0] (.f (.o [.M 9 0,.Z 10 9,.N 11 0] [0,9,10,11] (.block 0 (.loop (.o [.B 12 .lss 11 10] [0,9,10,11,12] (.f (.cond (.t 12) .skip (.exit 0)) [0,9,10,11] (.f (.block 1 (.o [.M 13 11,.J 14 5 9 11,.L 15 5 14,.G 4 [(.lit (.int .i64 0)),(.lit (.int .i64 0)),.z,.emp,.emp],.M 3 13,.S 5 4 15] [0,3,4,9,10,11] (.f (.o [.L 16 5 4,.H 17 f0 16,.M 5 17] [0,3,4,5,9,10,11] (.o [.M 18 5,.I 19 .neq 18 0] [0,3,4,5,9,10,11,19] (.cond (.t 19) (.seq (.p [.M 20 5,.M 2 20]) .ret) .skip))) [0,3,4,9,10,11] (.f (.o [.A 21 2 4,.L 22 3 21,.H 23 f1 22,.u 24 (.un .not (.t 23))] [0,3,4,9,10,11,24] (.cond (.t 24) (.seq (.p [.N 2 2]) .ret) .skip)) [0,3,4,9,10,11] (.f (.o [.A 25 2 4,.L 26 3 25,.H 27 f2 26,.I 28 .eql 27 0] [0,3,4,9,10,11,28] (.cond (.t 28) (.seq (.p [.N 2 8]) .ret) .skip)) [0,3,4,9,10,11] (.f (.y [.M 29 3,.I 30 .gtr 29 0,.M 31 30,.V 32 31 true 0,.V 33 31 true 3,.w 34 31 true (.bin .sub (.t 33) (.i 1)),.w 35 31 true (.idx 5 (.t 32) (.t 34)),.U 36 31 true 5 true 35,.U 37 31 true 5 true 4,.Y 38 31 true f3 36 37,.w 39 31 true (.un .not (.t 38)),.P 40 31 39]) [0,9,10,11,40] (.cond (.t 40) (.seq (.p [.N 2 12]) .ret) .skip))))))) [0,9,10,11] (.p [.I 41 .add 11 1,.M 11 41]))))))) [] (.seq (.p [.N 2 0]) .ret))))
def Qd:AC:=(.o [.N 2 0] [0] (.f (.o [.M 4 0,.Z 5 4,.I 6 .eql 5 0] [0,6] (.cond (.t 6) (.seq (.p [.N 2 (-1)]) .ret) .skip)) [0] (.o [.M 7 0,.M 8 0,.Z 9 8,.I 10 .sub 9 1,.J 11 5 7 10,.L 12 5 11,.G 3 [(.lit (.int .i64 0)),(.lit (.int .i64 0)),.z,.emp,.emp],.S 5 3 12] [3] (.seq (.p [.A 13 0 3,.F 14 1 13,.A 15 1 3,.F 16 1 15,.B 17 .add 14 16,.M 2 17]) .ret))))
def Zd(f0 f1:Nat):AC:=(.o [.N 2 0,.N 3 0] [0] (.f (.o [.M 5 0,.H 6 f0 5,.M 4 6] [0,4] (.o [.M 7 4,.I 8 .neq 7 0] [0,4,8] (.cond (.t 8) (.seq (.p [.M 9 4,.N 2 0,.M 3 9]) .ret) .skip))) [0] (.seq (.p [.M 10 0,.H 11 f1 10,.M 2 11,.N 3 0]) .ret)))
def Xg(f0:Nat):AC:=(.o [.K 2 3 0,.K 3 3 1,.m 4 .fa] [2,3] (.seq (.p [.L 5 3 2,.L 6 3 3,.D 7 f0 5 6,.M 4 7]) .ret))
def Yd(f0:Nat):AC:=(.o [.m 4 .fa] [0,1] (.f (.o [.M 6 0,.Z 7 6,.M 8 1,.Z 9 8,.B 10 .neq 7 9] [0,1,10] (.cond (.t 10) (.seq (.p [.m 4 .fa]) .ret) .skip)) [0,1] (.f (.o [.M 11 0,.Z 12 11,.N 13 0] [0,1,12,13] (.block 0 (.loop (.o [.B 14 .lss 13 12] [0,1,12,13,14] (.f (.cond (.t 14) .skip (.exit 0)) [0,1,12,13] (.f (.block 1 (.o [.M 15 13,.M 5 15] [0,1,5,12,13] (.f (.y [.M 16 0,.M 17 5,.J 18 5 16 17,.A 19 0 18,.F 20 1 19,.M 21 1,.M 22 5,.J 23 5 21 22,.A 24 0 23,.F 25 1 24,.B 26 .neq 20 25,.M 27 26,.V 28 27 false 0,.V 29 27 false 5,.w 30 27 false (.idx 5 (.t 28) (.t 29)),.T 31 27 false 1 30,.U 32 27 false 1 false 31,.V 33 27 false 1,.V 34 27 false 5,.w 35 27 false (.idx 5 (.t 33) (.t 34)),.T 36 27 false 1 35,.U 37 27 false 1 false 36,.w 38 27 false (.bin .neq (.t 32) (.t 37)),.Q 39 27 38,.M 40 39,.V 41 40 false 0,.V 42 40 false 5,.w 43 40 false (.idx 5 (.t 41) (.t 42)),.T 44 40 false 2 43,.U 45 40 false 3 true 44,.V 46 40 false 1,.V 47 40 false 5,.w 48 40 false (.idx 5 (.t 46) (.t 47)),.T 49 40 false 2 48,.U 50 40 false 3 true 49,.Y 51 40 false f0 45 50,.w 52 40 false (.un .not (.t 51)),.Q 53 40 52]) [0,1,12,13,53] (.cond (.t 53) (.seq (.p [.m 4 .fa]) .ret) .skip)))) [0,1,12,13] (.p [.I 54 .add 13 1,.M 13 54]))))))) [] (.seq (.p [.m 4 .tr]) .ret))))
def Uc:AC:=(.o [.K 3 3 0,.m 6 .fa] [1,2,3] (.seq (.p [.A 7 1 3,.F 8 1 7,.Z 9 8,.I 10 .lss 9 2,.M 11 10,.T 12 11 true 2 3,.U 13 11 true 1 false 12,.w 14 11 true (.len (.t 13)),.w 15 11 true (.bin .lss (.t 14) (.i 2)),.P 16 11 15,.M 17 16,.T 18 17 true 1 3,.U 19 17 true 1 false 18,.w 20 17 true (.len (.t 19)),.w 21 17 true (.bin .eql (.t 20) (.i 0)),.V 22 17 true 21,.T 23 22 false 1 3,.U 24 22 false 1 false 23,.w 25 22 false (.idx 1 (.t 24) (.i 0)),.U 26 22 false 1 false 25,.V 27 22 false 1,.w 28 22 false (.bin .leq (.t 26) (.t 27)),.w 29 17 true (.pick (.t 22) .tr (.t 28)),.P 30 17 29,.M 31 30,.T 32 31 true 2 3,.U 33 31 true 1 false 32,.w 34 31 true (.len (.t 33)),.w 35 31 true (.bin .eql (.t 34) (.i 0)),.V 36 31 true 35,.T 37 36 false 2 3,.U 38 36 false 1 false 37,.w 39 36 false (.idx 1 (.t 38) (.i 0)),.U 40 36 false 1 false 39,.V 41 36 false 2,.w 42 36 false (.bin .leq (.t 40) (.t 41)),.w 43 31 true (.pick (.t 36) .tr (.t 42)),.P 44 31 43,.M 6 44]) .ret))
def Vf(f0:Nat):AC:=(.o [.m 2 .fa] [0] (.f (.o [.M 5 0,.Z 6 5,.N 7 0] [5,6,7] (.block 0 (.loop (.o [.B 8 .lss 7 6] [5,6,7,8] (.f (.cond (.t 8) .skip (.exit 0)) [5,6,7] (.f (.block 1 (.o [.J 9 3 5 7,.L 10 3 9,.G 4 [.z,.emp,.emp],.S 3 4 10] [4,5,6,7] (.o [.L 11 3 4,.u 12 (.call f0 [(.t 11),(.c (.one (.lit (.int .u32 1000)))),(.c (.one (.lit (.int .u32 60))))]),.u 13 (.un .not (.t 12))] [5,6,7,13] (.cond (.t 13) (.seq (.p [.m 2 .fa]) .ret) .skip)))) [5,6,7] (.p [.I 14 .add 7 1,.M 7 14]))))))) [] (.seq (.p [.m 2 .tr]) .ret)))
def kf(f0:Nat):AC:=(.o [.m 2 .fa] [0] (.f (.o [.M 7 0,.Z 8 7,.N 9 0] [7,8,9] (.block 0 (.loop (.o [.B 10 .lss 9 8] [7,8,9,10] (.f (.cond (.t 10) .skip (.exit 0)) [7,8,9] (.f (.block 1 (.o [.J 11 1 7 9,.F 12 1 11,.M 4 12] [4,7,8,9] (.f (.o [.M 13 4,.Z 14 13,.I 15 .gtr 14 15,.M 16 15,.V 17 16 true 4,.w 18 16 true (.len (.t 17)),.w 19 16 true (.bin .leq (.t 18) (.i 325)),.P 20 16 19,.M 21 20,.V 22 21 false 4,.w 23 21 false (.len (.t 22)),.w 24 21 false (.bin .gtr (.t 23) (.i 400)),.Q 25 21 24] [4,7,8,9,25] (.cond (.t 25) (.seq (.p [.m 2 .fa]) .ret) .skip)) [4,7,8,9] (.o [.M 26 4,.Z 27 26,.N 28 0] [7,8,9,26,27,28] (.block 2 (.loop (.o [.B 29 .lss 28 27] [7,8,9,26,27,28,29] (.f (.cond (.t 29) .skip (.exit 2)) [7,8,9,26,27,28] (.f (.block 3 (.o [.J 30 5 26 28,.L 31 5 30,.G 6 [(.lit (.int .i64 0)),(.lit (.int .i64 0)),.z,.emp,.emp],.S 5 6 31] [6,7,8,9,26,27,28] (.o [.A 32 2 6,.L 33 3 32,.u 34 (.call f0 [(.t 33),(.c (.one (.lit (.int .u32 1000)))),(.c (.one (.lit (.int .u32 60))))]),.u 35 (.un .not (.t 34))] [7,8,9,26,27,28,35] (.cond (.t 35) (.seq (.p [.m 2 .fa]) .ret) .skip)))) [7,8,9,26,27,28] (.p [.I 36 .add 28 1,.M 28 36])))))))))) [7,8,9] (.p [.I 37 .add 9 1,.M 9 37]))))))) [] (.seq (.p [.m 2 .tr]) .ret)))
def Qf(f0 f1:Nat):AC:=(.o [.m 2 .fa] [0] (.f (.o [.M 7 0,.Z 8 7,.N 9 0] [7,8,9] (.block 0 (.loop (.o [.B 10 .lss 9 8] [7,8,9,10] (.f (.cond (.t 10) .skip (.exit 0)) [7,8,9] (.f (.block 1 (.o [.J 11 1 7 9,.F 12 1 11,.M 4 12] [4,7,8,9] (.o [.M 14 4,.H 15 f0 14,.M 13 15,.X 16 0 13,.X 17 1 13,.M 5 16,.M 6 17] [4,5,6,7,8,9] (.o [.M 18 4,.u 19 (.row 1 [[.x 1 (.t 18)]]),.H 20 f1 19,.u 21 (.un .not (.t 20)),.M 22 21,.V 23 22 false 6,.w 24 22 false (.bin .neq (.t 23) (.i 0)),.Q 25 22 24,.M 26 25,.V 27 26 false 5,.w 28 26 false (.bin .gtr (.t 27) (.i 5)),.Q 29 26 28] [7,8,9,29] (.cond (.t 29) (.seq (.p [.m 2 .fa]) .ret) .skip))))) [7,8,9] (.p [.I 30 .add 9 1,.M 9 30]))))))) [] (.seq (.p [.m 2 .tr]) .ret)))
theorem jaG(hΓ:Holds P Γ){f:Nat}(hc:check P f=some (32,jd.strip,[.tmp 4])):Sound P f (.dat false jC):=by
 refine Qa hc uaL hΓ (λargs K hcl hfi hG=>?_);match args,hG with
 | [a,b],hG=>
  obtain⟨s,rfl,hws,t,rfl,hwt,hs,ht,hK⟩:=hG;refine⟨by simp,?_⟩
  have h1:=xaH hs ht;obtain⟨s1,s2,s3⟩:=hs;obtain⟨t1,t2,t3⟩:=ht;by_cases e:s.1+s.2.1=t.1+t.2.1
  .simp only [go_sem,jd,mC,e];have h2:decide (kM s<kM t)=decide (s.1<t.1):=by rw [decide_eq_decide,h1];omega
   rw [h2]at hK;exact⟨⟨by omega,by omega⟩,⟨by omega,by omega⟩,hK⟩
  .simp only [go_sem,jd,mC,e];have h2:decide (kM s<kM t)=decide (s.1+s.2.1<t.1+t.2.1):=by rw [decide_eq_decide,h1];omega
   rw [h2]at hK;exact⟨⟨by omega,by omega⟩,⟨by omega,by omega⟩,⟨by omega,by omega⟩,⟨by omega,by omega⟩,hK⟩
theorem UaE(hΓ:Holds P Γ){f:Nat}(hc:check P f=some (29,Zb.strip,[.tmp 2])):Sound P f (.dat true vA):=by
 refine Qa hc ya1 hΓ (λargs K hcl hfi hG=>?_);match args,hG with
 | [a],hG=>
  obtain⟨t,rfl,⟨hw1,hw2,hw3⟩,hK⟩:=hG;refine⟨by simp,?_⟩
  unfold i64r at hw1 hw2;have no:¬inM t->K (.one (.lit (.int .i64 3))):=λh=>by rw [if_neg h]at hK;exact hK
  have yes:inM t->K (.one (.lit (.int .i64 0))):=λh=>by rw [if_pos h]at hK;exact hK
  by_cases a1:t.1<0
  .simp only [go_sem,Zb,mC,a1];exact no λh=>by unfold inM at h;omega
  by_cases a2:t.2.1<0
  .simp only [go_sem,Zb,mC,a1,a2];exact no λh=>by unfold inM at h;omega
  by_cases a3:24<t.1
  .simp only [go_sem,Zb,mC,a1,a2,a3];exact no λh=>by unfold inM at h;omega
  by_cases a4:24<t.2.1
  .simp only [go_sem,Zb,mC,a1,a2,a3,a4];exact no λh=>by unfold inM at h;omega
  simp only [go_sem,Zb,mC,a1,a2,a3,a4];refine⟨⟨by omega,by omega⟩,λh=>no λh'=>?_,λh=>yes ?_⟩
  .unfold inM at h';omega
  .unfold inM;omega
theorem UaG(hΓ:Holds P Γ){f:Nat}(hc:check P f=some (18,Qd.strip,[.tmp 2])):Sound P f (.dat true Qr):=by
 refine Qa hc V3 hΓ (λargs K hcl hfi hG=>?_);match args,hG with
 | [a],hG=>
  obtain⟨l,rfl,hw,hin,hl,hK⟩:=hG;refine⟨by simp,?_⟩
  rcases hl0:l with _ | ⟨t,l0⟩
  .subst hl0;simp only [go_sem,Qd];simpa [degM] using hK
  .have hlen:l.length=l0.length+1:=by rw [hl0];rfl
   rw [<-hl0];obtain⟨y,hy⟩:∃y,l.getD l0.length mo0=y:=⟨_,rfl⟩;have hy0:=getDm (by omega) hy
   have hym:=List.mem_of_getElem? hy0;have hd:degM l=y.1+y.2.1:=by
    unfold degM;rw [List.getLast?_eq_getElem?,hlen,Nat.add_sub_cancel,hy0]
   rw [hd]at hK;obtain⟨i1,i2,i3⟩:=hin y hym;have hn1:((l0.length+1:Nat):Int)-1=(l0.length:Int):=by omega
   have hn0:¬((l0.length+1:Nat):Int)=0:=by omega
   simp only [go_sem,Qd,hlen,hn1,hn0,hy,mC];exact λ_ _=>⟨by omega,by omega,⟨by omega,by omega⟩,hK⟩
theorem VS(hΓ:Holds P Γ){f fk fd:Nat}(hk:Γ fk=.dat false Wo)(hd:Γ fd=.dat true Qr)(hc:check P f=some (12,(Zd fk fd).strip,[.tmp 2,.tmp 3])):Sound P f (.dat false Vi):=by
 refine Qa hc X3 hΓ (λargs K hcl hfi hG=>?_);match args,hG with
 | [a],hG=>
  obtain⟨l,rfl,hw,hrl,hK⟩:=hG;refine⟨by simp,?_⟩
  by_cases h0:chkB l=0
  .obtain⟨i1,i2,i3⟩:=Vs h0 hw;rw [if_pos h0,h0]at hK;simp only [go_sem,Zd,hk,hd,h0];exact⟨hw,hrl,hw,i1,by omega,hK⟩
  .rw [if_neg h0]at hK;have h0' : ¬(chkB l:Int)=0:=by omega
   simp only [go_sem,Zd,hk,hd,h0'];exact⟨hw,hrl,hK⟩
theorem Yam(hΓ:Holds P Γ){f fr:Nat}(hr:Γ fr=.dat true vu)(hc:check P f=some (8,(Xg fr).strip,[.tmp 4])):Sound P f (.dat true vu):=by
 refine Qa hc U0 hΓ (λargs K hcl hfi hG=>?_);match args,hG with
 | [a,b],hG=>
  obtain⟨x,rfl,hx,y,rfl,hy,hxl,hK⟩:=hG;refine⟨by simp,?_⟩
  simp only [go_sem,Xg,hr];exact⟨hx,hy,hxl,hK⟩
theorem J3(hΓ:Holds P Γ){f fi fv fs fo:Nat}(hi:Γ fi=.dat true vA)(hv:Γ fv=.dat true xd)(hs:Γ fs=.dat true Xf)(ho:Γ fo=.dat false jC)(hc:check P f=some (42,(yd fi fv fs fo).strip,[.tmp 2])):Sound P f (.dat false Wo):=by
 refine Qa hc xaf hΓ (λargs K hcl hfi hG=>?_);match args,hG with
 | [a],hG=>
  obtain⟨l,rfl,hw,hrl,hK⟩:=hG;refine⟨by simp,?_⟩
  by_cases h325:325<l.length
  .have e:chkB l=4:=if_pos h325;rw [e]at hK;have h325' : (325:Int)<(l.length:Int):=by omega
   simp only [go_sem,yd,h325'];exact λ_=>hK
  .have h325' : ¬(325:Int)<(l.length:Int):=by omega
   have e:chkB l=chkG none l:=if_neg h325;rw [e]at hK;simp only [go_sem,yd,h325'];intro _ _;refine ja (λk:Nat=>⟨mkV [(0,msA l),(9,msA l),(10,.one (.lit (.int .i64 l.length))),(11,.one (.lit (.int .i64 k)))],mkH []⟩) (λk=>k<=l.length/\chkG none l=chkG (lastO l k) (l.drop k)/\∀t∈l.take k,inM t) (λk=>l.length-k) 0 ?_ ?_ ?_
   .exact qa (by simp [bitvec_to_nat,msA,ms]) trivial
   .exact⟨Nat.zero_le _,rfl,by simp⟩
   .rintro k ⟨hk,hch,hin⟩;by_cases hlt:k<l.length
    .obtain⟨x,hx⟩:∃x,l.getD k mo0=x:=⟨_,rfl⟩;have hx0:=getDm hlt hx;have hxm:=List.mem_of_getElem? hx0;have hwx:=hw x hxm;have hrx:=hrl x hxm;rw [yab _ hx0]at hch;by_cases a1:inM x
     .cases a2:vldR x.2.2 with
      | false=>
       have ec:chkT (lastO l k) x=2:=by unfold chkT;rw [if_neg (by simp [a1]),if_pos a2]
       rw [ec,if_pos (by decide)]at hch
       rw [hch]at hK;simp only [go_sem,hlt,hx,hi,hv,mC,a1,a2];exact⟨hwx,hwx.2.2,hrx,hK⟩
      | true=>
       by_cases a3:rv x.2.2=0
       .have ec:chkT (lastO l k) x=8:=by unfold chkT;rw [if_neg (by simp [a1]),if_neg (by simp [a2]),if_pos a3]
        rw [ec,if_pos (by decide)]at hch
        rw [hch]at hK;have a3' : ordQ (rv x.2.2) 0=0:=Zj.2 a3;simp only [go_sem,hlt,hx,hi,hv,hs,mC,a1,a2,a3'];exact⟨hwx,hwx.2.2,hrx,hwx.2.2,hrx,hK⟩
       .have hin' : ∀t∈l.take (k+1),inM t:=λt ht=>by
         rw [List.take_add_one,hx0]at ht;rcases List.mem_append.1 ht with ht | ht
         .exact hin t ht
         .simp at ht;rw [ht];exact a1
        have a3' : ¬ordQ (rv x.2.2) 0=0:=λh=>a3 (Zj.1 h);cases k with
        | zero=>
         simp only [go_sem,hlt,hx,hi,hv,hs,mC,a1,a2,a3',Int.lt_irrefl];have ec:chkT (lastO l 0) x=0:=by unfold chkT;rw [if_neg (by simp [a1]),if_neg (by simp [a2]),if_neg a3,if_neg (by simp [lastO,badO])]
         rw [ec,if_neg (by decide)]at hch
         have hl1:lastO l 1=some x:=congrArg some hx;exact⟨hwx,hwx.2.2,hrx,hwx.2.2,hrx,by omega,1,qa (by simp [bitvec_to_nat,msA,ms]) trivial,⟨by omega,by rw [hl1];exact hch,hin'⟩,by omega⟩
        | succ j=>
         have hn1:((j+1:Nat):Int)-1=(j:Int):=by omega
         have hn2:(0:Int)<((j+1:Nat):Int):=by omega
         have hym:l.getD j mo0∈l:=by
          rw [List.getD_eq_getElem?_getD,List.getElem?_eq_getElem (by omega)];exact List.getElem_mem _
         have hyt:l.getD j mo0∈l.take (j+1):=by
          rw [List.getD_eq_getElem?_getD,List.getElem?_eq_getElem (by omega),Option.getD_some]
          exact List.mem_iff_getElem.2 ⟨j,by rw [List.length_take];omega,by simp⟩
         have hiy:=hin _ hyt;have hwy:=hw _ hym;have hlj:lastO l (j+1)=some (l.getD j mo0):=rfl;have hl1:lastO l (j+1+1)=some x:=congrArg some hx;by_cases h:kM (l.getD j mo0)<kM x
         .have ec:chkT (lastO l (j+1)) x=0:=by unfold chkT;rw [if_neg (by simp [a1]),if_neg (by simp [a2]),if_neg a3,if_neg (by rw [hlj];simpa [badO] using h)]
          rw [ec,if_neg (by decide)]at hch
          simp only [go_sem,hlt,hx,hi,hv,hs,ho,mC,a1,a2,a3',hn1,hn2,h];exact⟨hwx,hwx.2.2,hrx,hwx.2.2,hrx,by omega,by omega,hwy,hwx,hiy,by omega,j+1+1,qa (by simp [bitvec_to_nat,msA,ms]) trivial,⟨by omega,by rw [hl1];exact hch,hin'⟩,by omega⟩
         .have ec:chkT (lastO l (j+1)) x=12:=by unfold chkT;rw [if_neg (by simp [a1]),if_neg (by simp [a2]),if_neg a3,if_pos (by rw [hlj];simpa [badO] using h)]
          rw [ec,if_pos (by decide)]at hch
          rw [hch]at hK;simp only [go_sem,hlt,hx,hi,hv,hs,ho,mC,a1,a2,a3',hn1,hn2,h];exact⟨hwx,hwx.2.2,hrx,hwx.2.2,hrx,by omega,by omega,hwy,hwx,hiy,hK⟩
     .have ec:chkT (lastO l k) x=3:=by unfold chkT;rw [if_pos a1]
      rw [ec,if_pos (by decide)]at hch
      rw [hch]at hK;have t30:¬(3:Int)=0:=by decide
      simp only [go_sem,hlt,hx,hi,mC,a1,t30];exact⟨hwx,hK⟩
    .rw [List.drop_of_length_le (by omega)]at hch
     have e0:chkG (lastO l k) []=0:=rfl;rw [hch,e0]at hK;simp only [go_sem,hlt];exact hK
theorem Zaa(hΓ:Holds P Γ){f fs:Nat}(hs:Γ fs=.dat true vu)(hc:check P f=some (55,(Yd fs).strip,[.tmp 4])):Sound P f (.dat false Yo):=by
 refine Qa hc Zam hΓ (λargs K hcl hfi hG=>?_);match args,hG with
 | [a,b],hG=>
  obtain⟨p,rfl,hwp,q,rfl,hwq,hrp,hl,hK⟩:=hG;refine⟨by simp,?_⟩
  by_cases hle:p.length=q.length
  case neg=>
   rw [decide_eq_false (λe=>hle (by rw [e]))]at hK
   have hle' : ¬(p.length:Int)=(q.length:Int):=by omega
   simp only [go_sem,Yd,ms,hle'];repeat first | refine q_Wk ?_ | intro _
   exact hK
  have hle' : (p.length:Int)=(q.length:Int):=by omega
  simp only [go_sem,Yd,ms,hle];repeat first | refine q_Wk ?_ | intro _
  refine ja (λk:Nat=>⟨mkV [(0,msA p),(1,msA q),(12,.one (.lit (.int .i64 q.length))),(13,.one (.lit (.int .i64 k)))],mkH []⟩) (λk=>k<=q.length/\p.take k=q.take k) (λk=>q.length-k) 0 ?_ ?_ ?_
  .exact qa (by simp [bitvec_to_nat,msA,ms]) trivial
  .exact⟨Nat.zero_le _,rfl⟩
  .rintro k ⟨hk,htk⟩;by_cases hlt:k<q.length
   .obtain⟨x,hx⟩:∃x,p.getD k mo0=x:=⟨_,rfl⟩;obtain⟨y,hy⟩:∃y,q.getD k mo0=y:=⟨_,rfl⟩;have hltp:k<p.length:=by omega
    have hx0:=getDm hltp hx;have hy0:=getDm hlt hy;have hxm:=List.mem_of_getElem? hx0;have hym:=List.mem_of_getElem? hy0;have hwx:=hwp x hxm;have hwy:=hwq y hym;have hrx:=hrp x hxm;have ne:x≠y->K (.one (.lit (.bool false))):=λhne=>by
     rw [decide_eq_false (λe=>hne (by rw [e,hy0]at hx0;simpa using hx0.symm))]at hK
     exact hK
    by_cases e1:x.1=y.1
    case neg=>
     simp only [go_sem,hlt,hltp,hx,hy,mC,e1,hs];repeat first | refine q_Wk ?_ | intro _
     exact ne λe=>e1 (by rw [e])
    by_cases e2:x.2.1=y.2.1
    case neg=>
     simp only [go_sem,hlt,hltp,hx,hy,mC,e1,e2,hs];repeat first | refine q_Wk ?_ | intro _
     exact ne λe=>e2 (by rw [e])
    by_cases e3:x.2.2=y.2.2
    case neg=>
     simp only [go_sem,hlt,hltp,hx,hy,mC,e1,e2,e3,hs];repeat first | refine q_Wk ?_ | intro _
     refine⟨hwx.2.2,hwy.2.2,hrx,?_⟩;exact ne λe=>e3 (by rw [e])
    have exy:x=y:=by
     obtain⟨a1,a2,a3⟩:=x;obtain⟨b1,b2,b3⟩:=y;simp only at e1 e2 e3;rw [e1,e2,e3]
    simp only [go_sem,hlt,hltp,hx,hy,mC,e1,e2,e3,hs];repeat first | refine q_Wk ?_ | intro _
    refine⟨hwy.2.2,hwy.2.2,by rw [<-e3];exact hrx,by omega,k+1,qa (by simp [bitvec_to_nat,msA,ms]) trivial,⟨by omega,by rw [List.take_add_one,List.take_add_one,htk,hx0,hy0,exy]⟩,by omega⟩
   .have e:p=q:=by
     rw [List.take_of_length_le (by omega),List.take_of_length_le (by omega)]at htk
     exact htk
    rw [decide_eq_true e]at hK;simp only [go_sem,hlt];exact hK
theorem vaH(hΓ:Holds P Γ){f:Nat}(hc:check P f=some (45,Uc.strip,[.tmp 6])):Sound P f (.dat true wy):=by
 refine Qa hc UaP hΓ (λargs K hcl hfi hG=>?_);match args,hG with
 | [a,b,c],hG=>
  rw [uai]at hG;obtain⟨x,rfl,hx,hG1⟩:=hG;obtain⟨k1,n,rfl,hG2⟩:=ua hG1;obtain⟨k2,d,rfl,rfl,rfl,hl,hK⟩:=ua hG2;clear hG1 hG2;refine⟨by simp,?_⟩
  have hl1:x.2.1.length<=4294967296:=Nat.le_trans (Nat.le_max_left _ _) hl;have hl2:x.2.2.length<=4294967296:=Nat.le_trans (Nat.le_max_right _ _) hl;unfold lowB at hK;by_cases a1:x.2.1.length<2
  case neg=>
   have a1' : ¬(x.2.1.length:Int)<2:=by omega
   rw [decide_eq_false a1]at hK;simp only [go_sem,Uc,uP,yQ,UU,a1'];repeat first | refine q_Wk ?_ | intro _
   exact hK
  by_cases a2:x.2.2.length<2
  case neg=>
   have a1' : (x.2.1.length:Int)<2:=by omega
   have a2' : ¬(x.2.2.length:Int)<2:=by omega
   rw [decide_eq_true a1,decide_eq_false a2]at hK;simp only [go_sem,Uc,uP,yQ,UU,a1',a2'];repeat first | refine q_Wk ?_ | intro _
   exact hK
  have a1' : (x.2.1.length:Int)<2:=by omega
  have a2' : (x.2.2.length:Int)<2:=by omega
  simp only [go_sem,Uc,uP,yQ,UU,a1',a2'];rw [decide_eq_true a1,decide_eq_true a2,Bool.true_and,Bool.true_and]at hK;refine λ_ _ _=>⟨λb1 _=>⟨λb2=>?_,λb2=>⟨by decide,by omega,?_⟩⟩,λb1=>⟨by decide,by omega,λc1 _=>⟨λb2=>?_,λb2=>⟨by decide,by omega,?_⟩⟩,λc1=>?_⟩⟩
  .rw [decide_eq_true b1,decide_eq_true b2]at hK;exact hK
  .rw [decide_eq_true b1,decide_eq_false b2]at hK;exact hK
  .rw [decide_eq_false b1,decide_eq_true c1,decide_eq_true b2]at hK;exact hK
  .rw [decide_eq_false b1,decide_eq_true c1,decide_eq_false b2]at hK;exact hK
  .rw [decide_eq_false b1,decide_eq_false c1]at hK;exact hK
theorem yac(hΓ:Holds P Γ){f fl:Nat}(hl:Γ fl=.dat true wy)(hc:check P f=some (15,(Vf fl).strip,[.tmp 2])):Sound P f (.dat false xo):=by
 refine Qa hc Uai hΓ (λargs K hcl hfi hG=>?_);match args,hG with
 | [a],hG=>
  obtain⟨l,rfl,hw,hok,hlen,hK⟩:=hG;refine⟨by simp,?_⟩
  simp only [go_sem,Vf,wa4];intro _;refine ja (λk:Nat=>⟨mkV [(5,rsA l),(6,.one (.lit (.int .i64 l.length))),(7,.one (.lit (.int .i64 k)))],mkH []⟩) (λk=>k<=l.length/\(l.take k).all lowR=true) (λk=>l.length-k) 0 ?_ ?_ ?_
  .exact qa (by simp [bitvec_to_nat,rsA]) trivial
  .exact⟨Nat.zero_le _,rfl⟩
  .rintro k ⟨hk,htk⟩;by_cases hlt:k<l.length
   .obtain⟨x,hx⟩:∃x,l.getD k (rcan 0)=x:=⟨_,rfl⟩;have hx0:l[k]?=some x:=by
     rw [List.getD_eq_getElem?_getD,List.getElem?_eq_getElem hlt]at hx;rw [List.getElem?_eq_getElem hlt];simpa using hx
    have hxm:=List.mem_of_getElem? hx0;have hwx:=hw x hxm;have hrx:=(hok x hxm).2;cases hb:lowB 1000 60 x with
    | false=>
     have e:l.all lowR=false:=by
      rw [Bool.eq_false_iff];intro h;have:=List.all_eq_true.1 h x hxm;unfold lowR at this;rw [hb]at this;simp at this
     rw [e]at hK;simp only [go_sem,hlt,hx,hl,hb,rC];repeat first | refine q_Wk ?_ | intro _
     exact hK
    | true=>
     simp only [go_sem,hlt,hx,hl,hb,rC];repeat first | refine q_Wk ?_ | intro _
     refine⟨k+1,qa (by simp [bitvec_to_nat,rsA]) trivial,⟨by omega,?_⟩,by omega⟩
     rw [List.take_add_one,hx0,List.all_append,htk];simpa [lowR] using hb
   .rw [List.take_of_length_le (by omega)]at htk
    rw [htk]at hK;simp only [go_sem,hlt];exact hK
theorem getDl{L:List (List Mo)}{i:Nat}{x:List Mo}(hi:i<L.length)(h:L.getD i []=x):L[i]?=some x:=by
 rw [List.getD_eq_getElem?_getD,List.getElem?_eq_getElem hi]at h;rw [List.getElem?_eq_getElem hi];simpa using h
theorem UQ(hΓ:Holds P Γ){f fl:Nat}(hl:Γ fl=.dat true wy)(hc:check P f=some (38,(kf fl).strip,[.tmp 2])):Sound P f (.dat false uj):=by
 refine Qa hc UY hΓ (λargs K hcl hfi hG=>?_);match args,hG with
 | [a],hG=>
  obtain⟨L,rfl,hw,hok,hlen,hK⟩:=hG;refine⟨by simp,?_⟩
  simp only [go_sem,kf,mlA];intro _;refine ja (λk:Nat=>⟨mkV [(7,mlA L),(8,.one (.lit (.int .i64 L.length))),(9,.one (.lit (.int .i64 k)))],mkH []⟩) (λk=>k<=L.length/\(L.take k).all shortM=true) (λk=>L.length-k) 0 ?_ ?_ ?_
  .exact qa (by simp [bitvec_to_nat,mlA]) trivial
  .exact⟨Nat.zero_le _,rfl⟩
  .rintro k ⟨hk,htk⟩;by_cases hlt:k<L.length
   .obtain⟨p,hp⟩:∃p,L.getD k []=p:=⟨_,rfl⟩;have hp0:=getDl hlt hp;have hpm:=List.mem_of_getElem? hp0;have hwp:=hw p hpm;obtain⟨hlp,hrp⟩:=hok p hpm;have bad:shortM p=false->K (.one (.lit (.bool false))):=λh=>by
     have e:L.all shortM=false:=by
      rw [Bool.eq_false_iff];intro h';have:=List.all_eq_true.1 h' p hpm;rw [h]at this;simp at this
     rw [e]at hK;exact hK
    have good:(∀t∈p,lowR t.2.2=true)->longM p=false->((L.take (k+1)).all shortM=true):=λh1 h2=>by
     rw [List.take_add_one,hp0,List.all_append,htk];have:shortM p=true:=by
      unfold shortM;rw [h2,List.all_eq_true.2 h1];rfl
     simpa using this
    have nol:longM p=true->shortM p=false:=λh=>by unfold shortM;rw [h];rfl
    by_cases h15:(15:Int)<(p.length:Int)
    .by_cases h325:(p.length:Int)<=325
     .simp only [go_sem,hlt,hp,mlA,h15,h325];repeat first | refine q_Wk ?_ | intro _
      exact bad (nol (by unfold longM;rw [decide_eq_true (by omega),decide_eq_true (by omega)];rfl))
     .by_cases h400:(400:Int)<(p.length:Int)
      .simp only [go_sem,hlt,hp,mlA,h15,h325,h400];repeat first | refine q_Wk ?_ | intro _
       exact bad (nol (by unfold longM;rw [decide_eq_true (show 400<p.length by omega)];simp))
      have hnl:longM p=false:=by unfold longM;rw [decide_eq_false (show ¬400<p.length by omega),decide_eq_false (show ¬p.length<=325 by omega)];simp
      simp only [go_sem,hlt,hp,mlA,h15,h325,h400];repeat first | refine q_Wk ?_ | intro _
      refine ja (λj:Nat=>⟨mkV [(26,msA p),(27,.one (.lit (.int .i64 p.length))),(28,.one (.lit (.int .i64 j))),(7,.one (.slice (L.map λl=>[.slice (l.map mC)]))),(8,.one (.lit (.int .i64 L.length))),(9,.one (.lit (.int .i64 k)))],mkH []⟩) (λj=>j<=p.length/\∀t∈p.take j,lowR t.2.2=true) (λj=>p.length-j) 0 ?_ ?_ ?_
      .exact qa (by simp [bitvec_to_nat,msA,ms]) trivial
      .exact⟨Nat.zero_le _,by simp⟩
      .rintro j ⟨hj,hall⟩;by_cases hlj:j<p.length
       .obtain⟨x,hx⟩:∃x,p.getD j mo0=x:=⟨_,rfl⟩;have hx0:=getDm hlj hx;have hxm:=List.mem_of_getElem? hx0;have hwx:=hwp x hxm;have hrx:=hrp x hxm;cases hb:lowB 1000 60 x.2.2 with
        | false=>
         have e:shortM p=false:=by
          unfold shortM;have:(p.all λt=>lowR t.2.2)=false:=by
           rw [Bool.eq_false_iff];intro h;have:=List.all_eq_true.1 h x hxm;unfold lowR at this;rw [hb]at this;simp at this
          rw [this,Bool.and_false]
         simp only [go_sem,hlj,hx,hl,hb,mC];repeat first | refine q_Wk ?_ | intro _
         exact⟨hwx.2.2,hrx,bad e⟩
        | true=>
         simp only [go_sem,hlj,hx,hl,hb,mC];repeat first | refine q_Wk ?_ | intro _
         refine⟨hwx.2.2,hrx,by omega,j+1,qa (by simp [bitvec_to_nat,msA,ms]) trivial,⟨by omega,λt ht=>?_⟩,by omega⟩
         rw [List.take_add_one,hx0]at ht;rcases List.mem_append.1 ht with ht | ht
         .exact hall t ht
         .simp at ht;rw [ht];exact hb
       .rw [List.take_of_length_le (by omega)]at hall
        simp only [go_sem,hlj];exact⟨by omega,k+1,qa (by simp [bitvec_to_nat,mlA]) trivial,⟨by omega,good hall hnl⟩,by omega⟩
    .have h400:¬(400:Int)<(p.length:Int):=by omega
     have hnl:longM p=false:=by unfold longM;rw [decide_eq_false (show ¬400<p.length by omega),decide_eq_false (show ¬15<p.length by omega)];simp
     simp only [go_sem,hlt,hp,mlA,h15,h400];repeat first | refine q_Wk ?_ | intro _
     refine ja (λj:Nat=>⟨mkV [(26,msA p),(27,.one (.lit (.int .i64 p.length))),(28,.one (.lit (.int .i64 j))),(7,.one (.slice (L.map λl=>[.slice (l.map mC)]))),(8,.one (.lit (.int .i64 L.length))),(9,.one (.lit (.int .i64 k)))],mkH []⟩) (λj=>j<=p.length/\∀t∈p.take j,lowR t.2.2=true) (λj=>p.length-j) 0 ?_ ?_ ?_
     .exact qa (by simp [bitvec_to_nat,msA,ms]) trivial
     .exact⟨Nat.zero_le _,by simp⟩
     .rintro j ⟨hj,hall⟩;by_cases hlj:j<p.length
      .obtain⟨x,hx⟩:∃x,p.getD j mo0=x:=⟨_,rfl⟩;have hx0:=getDm hlj hx;have hxm:=List.mem_of_getElem? hx0;have hwx:=hwp x hxm;have hrx:=hrp x hxm;cases hb:lowB 1000 60 x.2.2 with
       | false=>
        have e:shortM p=false:=by
         unfold shortM;have:(p.all λt=>lowR t.2.2)=false:=by
          rw [Bool.eq_false_iff];intro h;have:=List.all_eq_true.1 h x hxm;unfold lowR at this;rw [hb]at this;simp at this
         rw [this,Bool.and_false]
        simp only [go_sem,hlj,hx,hl,hb,mC];repeat first | refine q_Wk ?_ | intro _
        exact⟨hwx.2.2,hrx,bad e⟩
       | true=>
        simp only [go_sem,hlj,hx,hl,hb,mC];repeat first | refine q_Wk ?_ | intro _
        refine⟨hwx.2.2,hrx,by omega,j+1,qa (by simp [bitvec_to_nat,msA,ms]) trivial,⟨by omega,λt ht=>?_⟩,by omega⟩
        rw [List.take_add_one,hx0]at ht;rcases List.mem_append.1 ht with ht | ht
        .exact hall t ht
        .simp at ht;rw [ht];exact hb
      .rw [List.take_of_length_le (by omega)]at hall
       simp only [go_sem,hlj];exact⟨by omega,k+1,qa (by simp [bitvec_to_nat,mlA]) trivial,⟨by omega,good hall hnl⟩,by omega⟩
   .rw [List.take_of_length_le (by omega)]at htk
    rw [htk]at hK;simp only [go_sem,hlt];exact hK
theorem zV(hΓ:Holds P Γ){f fd fs:Nat}(hd:Γ fd=.dat false Vi)(hs:Γ fs=.dat false uj)(hc:check P f=some (31,(Qf fd fs).strip,[.tmp 2])):Sound P f (.dat false xk):=by
 refine Qa hc J0 hΓ (λargs K hcl hfi hG=>?_);match args,hG with
 | [a],hG=>
  obtain⟨p,q,rfl,⟨hwp,hwq⟩,⟨hlp,hp⟩,⟨hlq,hq⟩,hK⟩:=hG;refine⟨by simp,?_⟩
  simp only [go_sem,Qf,ms];refine ja (λk:Nat=>⟨mkV [(7,.one (.slice [[ms p],[ms q]])),(8,.one (.lit (.int .i64 2))),(9,.one (.lit (.int .i64 k)))],mkH []⟩) (λk=>k<=2/\(0<k->vldM p=true)/\(1<k->vldM q=true)) (λk=>2-k) 0 ?_ ?_ ?_
  .exact qa (by simp [bitvec_to_nat,ms]) trivial
  .exact⟨by decide,by omega,by omega⟩
  .rintro k ⟨hk2,h1,h2⟩;have hk3:k=0∨k=1∨k=2:=by omega
   rcases hk3 with rfl | rfl | rfl
   .have ao:([p]:List (List Mo)).all shortM=shortM p:=by simp
    have a1:∀l∈[p],l.length<=10000000/\∀t∈l,rl t.2.2<=4294967296:=λl hl=>by rw [List.mem_singleton.1 hl];exact⟨hlp,hp⟩
    have a2:∀l∈[p],∀t∈l,WLM t:=λl hl=>by rw [List.mem_singleton.1 hl];exact hwp
    have bad:vldM p=false->K (.one (.lit (.bool false))):=λh=>by rw [h]at hK;exact hK
    cases hsh:shortM p with
    | false=>
     simp only [go_sem,c02,hd,hs,ms,ao,hsh];refine⟨hwp,hp,a2,a1,?_⟩;repeat first | refine q_Wk ?_ | intro _
     exact bad (by unfold vldM;rw [hsh];rfl)
    | true=>
     by_cases hx:chkB p=0
     .simp only [go_sem,c02,hd,hs,ms,ao,hsh,hx];refine⟨hwp,hp,a2,a1,⟨λh=>?_,λh=>?_⟩,λh=>absurd trivial h⟩
      .exact bad (by unfold vldM;rw [decide_eq_false (show ¬degM p<=5 by omega)];simp)
      .have hv:vldM p=true:=by unfold vldM;rw [hsh,decide_eq_true hx,decide_eq_true (show degM p<=5 by omega)];rfl
       exact⟨by decide,1,qa (by simp [bitvec_to_nat,ms]) trivial,⟨by omega,λ_=>hv,by omega⟩,by omega⟩
     .simp only [go_sem,c02,hd,hs,ms,ao,hsh,hx];refine⟨hwp,hp,a2,a1,?_⟩;repeat first | refine q_Wk ?_ | intro _
      exact bad (by unfold vldM;rw [decide_eq_false hx];simp)
   .have ao:([q]:List (List Mo)).all shortM=shortM q:=by simp
    have a1:∀l∈[q],l.length<=10000000/\∀t∈l,rl t.2.2<=4294967296:=λl hl=>by rw [List.mem_singleton.1 hl];exact⟨hlq,hq⟩
    have a2:∀l∈[q],∀t∈l,WLM t:=λl hl=>by rw [List.mem_singleton.1 hl];exact hwq
    have hvp:=h1 (by omega)
    have bad:vldM q=false->K (.one (.lit (.bool false))):=λh=>by rw [h,Bool.and_false]at hK;exact hK
    cases hsh:shortM q with
    | false=>
     simp only [go_sem,c12,ZC,hd,hs,ms,ao,hsh];refine⟨hwq,hq,a2,a1,?_⟩;repeat first | refine q_Wk ?_ | intro _
     exact bad (by unfold vldM;rw [hsh];rfl)
    | true=>
     by_cases hx:chkB q=0
     .simp only [go_sem,c12,ZC,hd,hs,ms,ao,hsh,hx];refine⟨hwq,hq,a2,a1,⟨λh=>?_,λh=>?_⟩,λh=>absurd trivial h⟩
      .exact bad (by unfold vldM;rw [decide_eq_false (show ¬degM q<=5 by omega)];simp)
      .have hv:vldM q=true:=by unfold vldM;rw [hsh,decide_eq_true hx,decide_eq_true (show degM q<=5 by omega)];rfl
       exact⟨by decide,2,qa (by simp [bitvec_to_nat,ms]) trivial,⟨by omega,λ_=>hvp,λ_=>hv⟩,by omega⟩
     .simp only [go_sem,c12,ZC,hd,hs,ms,ao,hsh,hx];refine⟨hwq,hq,a2,a1,?_⟩;repeat first | refine q_Wk ?_ | intro _
      exact bad (by unfold vldM;rw [decide_eq_false hx];simp)
   .have hx:=h1 (by omega)
    have hy:=h2 (by omega)
    rw [hx,hy]at hK;simp only [go_sem,c22];exact hK
end Go.Abs
end
section
namespace Go.Num
open Go.Abs
def okT(n:Int):Prop:=n=1∨n=2∨n=4∨n=12
def tx(n:Int):ByteArray:=if n=12 then ⟨#[49,50]⟩ else if n=4 then ⟨#[52]⟩ else if n=2 then ⟨#[50]⟩ else ⟨#[49]⟩
def txR(q:Rat):ByteArray:=if q.den=1 then tx q.num else tx q.num++⟨#[47]⟩++tx (q.den:Nat)
theorem XbB{m:Nat}(h1:1<=m)(h2:m<=12):digs m=[m]:=by rw [kn (by omega),show m / 4294967296=0 by omega,Qb,show m % 4294967296=m by omega]
end Go.Num
namespace Go.Abs
open Go.Num
variable {P:Program} {Γ:Nat->Spec}
theorem xbj{h h' : Nat->HB}{z:Nat}{b:Bool}{w:W}:okB h h' (some ⟨[[zb w,zm w]],z,b⟩) (some ⟨[[zb w,zm w]],z,b⟩):=
 ⟨⟨rfl,rfl⟩,.inl ⟨rfl,λe he c hc=>by
  rw [List.mem_singleton.1 he]at hc;simp only [List.mem_cons,List.not_mem_nil,or_false]at hc;rcases hc with rfl | rfl
  .exact of_eq_true (WV _)
  .exact of_eq_true (jT _)⟩⟩
def eJ(s:ByteArray):AV:=.one (.slice [[.lit (.string s)]])
theorem qbA(x y:ByteArray)(h:eJ x=eJ y):x=y:=by
 simp only [eJ,AV.one.injEq,C.slice.injEq,List.cons.injEq,C.lit.injEq,Value.string.injEq,and_true]at h;exact h
def onJ(k:ByteArray->Prop)(a:AV):Prop:=onE eJ k a
@[congr] theorem Yb1{k:ByteArray->Prop}{a a'}(h:a=a'):onJ k a=onJ k a':=by subst h;rfl
theorem ubB(k:ByteArray->Prop)(x:ByteArray):onJ k (.one (.slice [[.lit (.string x)]]))=k x:=jg qbA k x
attribute [go_sem,go_sem ↓] ubB
def wn(l:List AV)(K:AV->Prop):Prop:=
 match l with
 | [a]=>asInt (λk n=>k=.i64/\okT n/\K (.one (.lit (.string (tx n))))) a
 | _=>False
theorem uZ a K:wn [a] K=(asInt (λk n=>k=.i64/\okT n/\K (.one (.lit (.string (tx n))))) a):=propext Iff.rfl
@[congr] theorem zbz{K}{l l'}(h:l=l'):wn l K=wn l' K:=by subst h;rfl
attribute [go_sem,go_sem ↓] uZ
theorem Vak:Good wn:=Ja λas=>by
 unfold wn;split
 .exact(jc (λ_ _=>(.and λ_=>(.and λ_=>(.ret _)))) _)
 .exact .of λK hk=>hk.elim
def Zw(l:List AV)(K:AV->Prop):Prop:=
 match l with
 | [a,b]=>asInt (λk n=>k=.i64/\okT n/\asInt (λk m=>k=.i64/\m=10/\K (.one (.lit (.string (tx n))))) b) a
 | _=>False
theorem qS a b K:Zw [a,b] K=(asInt (λk n=>k=.i64/\okT n/\asInt (λk m=>k=.i64/\m=10/\K (.one (.lit (.string (tx n))))) b) a):=propext Iff.rfl
@[congr] theorem YbO{K}{l l'}(h:l=l'):Zw l K=Zw l' K:=by subst h;rfl
attribute [go_sem,go_sem ↓] qS
theorem zaG:Good Zw:=Ja λas=>by
 unfold Zw;split
 .exact(jc (λ_ _=>(.and λ_=>(.and λ_=>(jc (λ_ _=>(.and λ_=>(.and λ_=>(.ret _)))) _)))) _)
 .exact .of λK hk=>hk.elim
def qk(l:List AV)(K:AV->Prop):Prop:=
 match l with
 | [a]=>asInt (λk n=>k=.i64/\okT n/\K (.one (.lit (.string (tx n))))) a
 | _=>False
theorem jaz a K:qk [a] K=(asInt (λk n=>k=.i64/\okT n/\K (.one (.lit (.string (tx n))))) a):=propext Iff.rfl
@[congr] theorem xbN{K}{l l'}(h:l=l'):qk l K=qk l' K:=by subst h;rfl
attribute [go_sem,go_sem ↓] jaz
theorem XO:Good qk:=Ja λas=>by
 unfold qk;split
 .exact(jc (λ_ _=>(.and λ_=>(.and λ_=>(.ret _)))) _)
 .exact .of λK hk=>hk.elim
def qaj(l:List AV)(K:AV->Prop):Prop:=
 match l with
 | [a,b]=>onJ (λs=>b=.one (.lit (.string ⟨#[]⟩))/\K (.one (.lit (.string s)))) a
 | _=>False
theorem kaB a b K:qaj [a,b] K=(onJ (λs=>b=.one (.lit (.string ⟨#[]⟩))/\K (.one (.lit (.string s)))) a):=propext Iff.rfl
@[congr] theorem UbP{K}{l l'}(h:l=l'):qaj l K=qaj l' K:=by subst h;rfl
attribute [go_sem,go_sem ↓] kaB
def kU(l:List AV)(K:AV->Prop):Prop:=
 match l with
 | [a]=>onW (λw=>okT (zv w)/\K (.one (.lit (.string (tx (zv w)))))) a
 | _=>False
theorem vY a K:kU [a] K=(onW (λw=>okT (zv w)/\K (.one (.lit (.string (tx (zv w)))))) a):=propext Iff.rfl
@[congr] theorem wbM{K}{l l'}(h:l=l'):kU l K=kU l' K:=by subst h;rfl
attribute [go_sem,go_sem ↓] vY
def xT(l:List AV)(K:AV->Prop):Prop:=
 match l with
 | [a]=>onR (λx=>okT (rv x).num/\okT ((rv x).den:Nat)/\rl x<=4294967296/\K (.one (.lit (.string (txR (rv x)))))) a
 | _=>False
theorem kZ a K:xT [a] K=(onR (λx=>okT (rv x).num/\okT ((rv x).den:Nat)/\rl x<=4294967296/\K (.one (.lit (.string (txR (rv x)))))) a):=propext Iff.rfl
@[congr] theorem Qby{K}{l l'}(h:l=l'):xT l K=xT l' K:=by subst h;rfl
attribute [go_sem,go_sem ↓] kZ
theorem W6(hΓ:Holds P Γ){f:Nat}(hc:check P f=some (15,(jb).strip,[.tmp 2])):Sound P f (.dat false wn):=by
 refine Qa hc Vak hΓ (λargs K hcl hfi hG=>?_);match args,hG with
 | [a],hG=>
  obtain⟨k,n,rfl,rfl,hn,hK⟩:=ua hG;refine⟨by simp,?_⟩
  rcases hn with rfl | rfl | rfl | rfl
  .simp only [go_sem,jb];exact⟨λ_=>⟨by decide,⟨by decide,by decide,by decide⟩,hK⟩,λh=>absurd (by decide) h⟩
  .simp only [go_sem,jb];exact⟨λ_=>⟨by decide,⟨by decide,by decide,by decide⟩,hK⟩,λh=>absurd (by decide) h⟩
  .simp only [go_sem,jb];exact⟨λ_=>⟨by decide,⟨by decide,by decide,by decide⟩,hK⟩,λh=>absurd (by decide) h⟩
  .simp only [go_sem,jb];exact⟨λh=>absurd h (by decide),λ_=>⟨by decide,by decide,by decide,⟨by decide,by decide,by decide⟩,hK⟩⟩
theorem Uak(hΓ:Holds P Γ){f fs fn fb fi:Nat}(hs:Γ fs=.dat false wn)(hc:check P f=some (54,(uc fs fn fb fi).strip,[.tmp 4])):Sound P f (.dat false Zw):=by
 refine Qa hc zaG hΓ (λargs K hcl hfi hG=>?_);match args,hG with
 | [a,b],hG=>
  rw [qS]at hG;obtain⟨k,n,rfl,rfl,hn,hG'⟩:=ua hG;obtain⟨k',n',rfl,rfl,rfl,hK⟩:=ua hG';clear hG hG';refine⟨by simp,?_⟩
  have a1:(0:Int)<=n:=by rcases hn with rfl | rfl | rfl | rfl <;> decide
  have a2:n<100:=by rcases hn with rfl | rfl | rfl | rfl <;> decide
  simp only [go_sem,uc,hs,a1,a2,hn];exact hK
theorem Wah(hΓ:Holds P Γ){f fs:Nat}(hs:Γ fs=.dat false Zw)(hc:check P f=some (5,(ke fs).strip,[.tmp 2])):Sound P f (.dat false qk):=by
 refine Qa hc XO hΓ (λargs K hcl hfi hG=>?_);match args,hG with
 | [a],hG=>
  obtain⟨k,n,rfl,rfl,hn,hK⟩:=ua hG;refine⟨by simp,?_⟩
  simp only [go_sem,ke,hs,hn];exact hK
theorem zad(hΓ:Holds P Γ){f fs:Nat}(hs:Γ fs=.dat false qk)(hc:check P f=some (5,(Qp fs).strip,[.tmp 2])):Sound P f (.dat false qk):=by
 refine Qa hc XO hΓ (λargs K hcl hfi hG=>?_);match args,hG with
 | [a],hG=>
  obtain⟨k,n,rfl,rfl,hn,hK⟩:=ua hG;refine⟨by simp,?_⟩
  simp only [go_sem,Qp,hs,hn];exact hK
end Go.Abs
end
section
namespace Go.Abs
open Go.Num
variable {P:Program} {Γ:Nat->Spec}
def eS(l:List ByteArray):AV:=.one (.slice (l.map λx=>[.lit (.string x)]))
theorem vaW(x y:List ByteArray)(h:eS x=eS y):x=y:=by
 simp only [eS,AV.one.injEq,C.slice.injEq]at h;exact YE (λa b h=>by simpa using h) h
def onS(k:List ByteArray->Prop)(a:AV):Prop:=onE eS k a
@[congr] theorem ub1{k:List ByteArray->Prop}{a a'}(h:a=a'):onS k a=onS k a':=by subst h;rfl
theorem XbM(k:List ByteArray->Prop)(x:ByteArray):onS k (.one (.slice [[.lit (.string x)]]))=k [x]:=jg vaW k [x]
theorem kbD(k:List ByteArray->Prop)(x y:ByteArray):onS k (.one (.slice [[.lit (.string x)],[.lit (.string y)]]))=k [x,y]:=jg vaW k [x,y]
theorem JbT{β:Type}{T:List ByteArray->(β->Prop)->Prop}(h:∀l,GoodT (T l)){a:AV}:GoodT λK=>onS (λl=>T l K) a:=
 yB (e:=eS) (T:=T) vaW h
def eT(s:ByteArray):AV:=.one (.lit (.string s))
theorem wbl(x y:ByteArray)(h:eT x=eT y):x=y:=by simpa [eT] using h
def onT1(k:ByteArray->Prop)(a:AV):Prop:=onE eT k a
@[congr] theorem kbX{k:ByteArray->Prop}{a a'}(h:a=a'):onT1 k a=onT1 k a':=by subst h;rfl
theorem Jbn(k:ByteArray->Prop)(x:ByteArray):onT1 k (.one (.lit (.string x)))=k x:=jg wbl k x
theorem ZbK{β:Type}{T:ByteArray->(β->Prop)->Prop}(h:∀l,GoodT (T l)){a:AV}:GoodT λK=>onT1 (λl=>T l K) a:=
 yB (e:=eT) (T:=T) wbl h
attribute [go_sem,go_sem ↓] XbM kbD Jbn
def jS(l:List ByteArray)(sep:ByteArray):ByteArray:=⟨(Lib.join (l.map (·.data.toList)) sep.data.toList).toArray⟩
theorem jS_1(x s:ByteArray):jS [x] s=x:=by simp [jS,Lib.join]
def Ys(l:List AV)(K:AV->Prop):Prop:=
 match l with
 | [a,b]=>onS (λl=>onT1 (λs=>l≠[]/\l.length<=100/\(jS l s).data.toList.length<=1000/\K (.one (.lit (.string (jS l s))))) b) a
 | _=>False
theorem vav a b K:Ys [a,b] K=(onS (λl=>onT1 (λs=>l≠[]/\l.length<=100/\(jS l s).data.toList.length<=1000/\K (.one (.lit (.string (jS l s))))) b) a):=propext Iff.rfl
@[congr] theorem kbQ{K}{l l'}(h:l=l'):Ys l K=Ys l' K:=by subst h;rfl
attribute [go_sem,go_sem ↓] vav
theorem JaG:Good Ys:=Ja λas=>by
 unfold Ys;split
 .exact(JbT λ_=>(ZbK λ_=>(.and λ_=>(.and λ_=>(.and λ_=>(.ret _))))))
 .exact .of λK hk=>hk.elim
def uV(l:List AV)(K:AV->Prop):Prop:=
 match l with
 | [a]=>onW (λw=>(zv w=2∨zv w = -2)/\K (.one (.lit (.string (if zv w=2 then ⟨#[50]⟩ else ⟨#[45,50]⟩))))) a
 | _=>False
theorem Zbn a K:uV [a] K=(onW (λw=>(zv w=2∨zv w = -2)/\K (.one (.lit (.string (if zv w=2 then ⟨#[50]⟩ else ⟨#[45,50]⟩))))) a):=propext Iff.rfl
@[congr] theorem Vb1{K}{l l'}(h:l=l'):uV l K=uV l' K:=by subst h;rfl
attribute [go_sem,go_sem ↓] Zbn
theorem jba:Good uV:=Ja λas=>by
 unfold uV;split
 .exact(km λ_=>(.and λ_=>(.ret _)))
 .exact .of λK hk=>hk.elim
def qR(l:List AV)(K:AV->Prop):Prop:=
 match l with
 | [a]=>onR (λx=>(rv x=2∨rv x = -2)/\rl x<=4294967296/\K (.one (.lit (.string (if rv x=2 then ⟨#[50]⟩ else ⟨#[45,50]⟩))))) a
 | _=>False
theorem Qbh a K:qR [a] K=(onR (λx=>(rv x=2∨rv x = -2)/\rl x<=4294967296/\K (.one (.lit (.string (if rv x=2 then ⟨#[50]⟩ else ⟨#[45,50]⟩))))) a):=propext Iff.rfl
@[congr] theorem wb1{K}{l l'}(h:l=l'):qR l K=qR l' K:=by subst h;rfl
attribute [go_sem,go_sem ↓] Qbh
theorem Xba:Good qR:=Ja λas=>by
 unfold qR;split
 .exact(Qo λ_=>(.and λ_=>(.and λ_=>(.ret _))))
 .exact .of λK hk=>hk.elim
def Yn(tE:Nat)(l:List AV)(K:AV->Prop):Prop:=
 match l with
 | [a]=>onLq (λL=>L=[-2,0,2]/\K (.tup [.one (.lit (.string ⟨#[50,32,120,94,50,32,43,32,45,50]⟩)),errV tE 0])) a
 | _=>False
theorem qad tE a K:Yn tE [a] K=(onLq (λL=>L=[-2,0,2]/\K (.tup [.one (.lit (.string ⟨#[50,32,120,94,50,32,43,32,45,50]⟩)),errV tE 0])) a):=propext Iff.rfl
@[congr] theorem XbA tE{K}{l l'}(h:l=l'):Yn tE l K=Yn tE l' K:=by subst h;rfl
attribute [go_sem,go_sem ↓] qad
theorem Waf(tE:Nat):Good (Yn tE):=Ja λas=>by
 unfold Yn;split
 .exact(Ww λ_=>(.and λ_=>(.ret _)))
 .exact .of λK hk=>hk.elim
def jx(f0 f1 f2 f3 f4:Nat):AC:=(.o [.m 2 (.c (.one (.lit (.string ⟨#[]⟩)))),.m 3 (.c (.one (.lit .nilIface)))] [0] (.f (.o [.M 8 0,.H 9 f0 8,.M 4 9] [0,4] (.o [.M 10 4,.R 11 10] [0,4,11] (.cond (.t 11) (.seq (.p [.M 12 4,.m 2 (.c (.one (.lit (.string ⟨#[]⟩)))),.M 3 12]) .ret) .skip))) [0] (.f (.o [.M 13 0,.Z 14 13,.I 15 .eql 14 0] [0,15] (.cond (.t 15) (.seq (.p [.m 2 (.c (.one (.lit (.string ⟨#[48]⟩)))),.m 3 (.c (.one (.lit .nilIface)))]) .ret) .skip)) [0] (.o [.m 5 (.c (.one .emp))] [0,5] (.f (.o [.M 16 0,.Z 17 16,.I 18 .sub 17 1,.M 6 18] [0,5,6] (.block 0 (.loop (.f (.o [.M 19 6,.I 20 .geq 19 0] [0,5,6,20] (.cond (.t 20) .skip (.exit 0))) [0,5,6] (.f (.block 1 (.f (.o [.M 23 0,.M 24 6,.J 25 3 23 24,.L 26 3 25,.H 27 f1 26,.I 28 .eql 27 0] [0,5,6,28] (.cond (.t 28) (.exit 1) .skip)) [0,5,6] (.o [.M 29 0,.M 30 6,.J 31 3 29 30,.L 32 3 31,.H 33 f2 32,.M 7 33] [0,5,6,7] (.f (.o [.M 34 6,.I 35 .gtr 34 0] [0,5,6,7,35] (.cond (.t 35) (.p [.M 36 7,.u 37 (.sop 2 [(.t 36),(.c (.one (.lit (.string ⟨#[32,120]⟩))))]),.M 7 37]) .skip)) [0,5,6,7] (.f (.o [.M 38 6,.I 39 .gtr 38 1] [0,5,6,7,39] (.cond (.t 39) (.p [.M 40 7,.M 41 6,.H 42 f3 41,.u 43 (.sop 2 [(.c (.one (.lit (.string ⟨#[94]⟩)))),(.t 42)]),.u 44 (.sop 2 [(.t 40),(.t 43)]),.M 7 44]) .skip)) [0,5,6,7] (.p [.M 45 5,.M 46 7,.u 47 (.row 1 [[.x 1 (.t 46)]]),.u 48 (.app 1 (.t 45) (.t 47)),.M 5 48])))))) [0,5,6] (.p [.M 21 6,.I 22 .sub 21 1,.M 6 22])))))) [5] (.seq (.p [.M 49 5,.u 50 (.call f4 [(.t 49),(.c (.one (.lit (.string ⟨#[32,43,32]⟩))))]),.M 2 50,.m 3 (.c (.one (.lit .nilIface)))]) .ret))))))
theorem Qaj{f:FuncId}(hE:Enters P f)
  (hJ:∀(bk o c:Nat) (xs:List ByteArray) (sep:ByteArray) (w:World),(∀(j:Nat) x,xs[j]?=some x->w.cell? ⟨bk,o+j,none⟩=some (.string x))->bk<w.heap.size->xs.length<=140737488355328->xs.length<=c->(Lib.join (xs.map (·.data.toList)) sep.data.toList).length<=140737488355328->
   Calls P f #[.slice (some ⟨bk,o,none⟩) xs.length c,.string sep] w λe w'=>e=.returned (.string ⟨(Lib.join (xs.map (·.data.toList)) sep.data.toList).toArray⟩)/\Go.RowKit.Below w.heap.size w w'):Sound P f (.dat false Ys):=by
 refine⟨hE,JaG,λargs vals w I K hI hr _ hG=>?_⟩;match args,hG with
 | [a,b],hG=>
  obtain⟨l,rfl,s,rfl,h0,h1,h2,hK⟩:=hG;match vals,hr.1 with
  | [v,u],_=>
   have hv:=hr.2 0 _ v rfl rfl;have hu:=hr.2 1 _ u rfl rfl;cases hu with
   | one c u hu=>
    cases hu with
    | lit u hu=>
     cases hv with
     | one c v hv=>
      obtain⟨es,hes⟩:∃es,es=l.map λx=>[C.lit (.string x)]:=⟨_,rfl⟩;have hv' : RC M0 I w.heap (.slice es) v:=by rw [hes];exact hv
      have hl:es.length=l.length:=by rw [hes,List.length_map]
      cases hv' with
      | snil a cap=>exact absurd (List.map_eq_nil_iff.1 hes.symm) h0
      | slice _ sz b off cap arr ty fz vs c0 c1 c2 c3 c4 c5 c6 c7=>
       have s1:sz=1:=by
        cases l with
        | nil=>exact absurd rfl h0
        | cons x l=>rw [<-c5 [C.lit (.string x)] (by rw [hes];simp)];rfl
       subst s1;rw [hl];rw [hl]at c2;refine(hJ b off cap l s w ?_ (hI b c3) (by omega) c2 (by simpa [jS] using Nat.le_trans h2 (by decide))).mono λe w' ⟨he,hb⟩=>?_
       .intro j x hj;have hlt:j<l.length:=(List.getElem?_eq_some_iff.1 hj).1;have q1:=c6 j 0 (by omega) (by decide)
        have q2:=c7 j 0 [C.lit (.string x)] (C.lit (.string x)) (by rw [hes,List.getElem?_map,hj];rfl) rfl
        generalize hvj:vs j 0=vj at q1 q2;cases q2
        have q3:=jR (w:=w) (b:=b) (off:=off) (j:=j) c4 (by simpa using q1)
        rwa [jr]at q3
       .exact⟨_,_,I,he,hK,.one _ _ (.lit _ rfl),.lit _,{ grow:=hb.size,keep:=λk hk=>hb.block k hk,sub:=λ_ h=>h,new:=λ_ h=>.inl h,imb:=λk hk=>Nat.lt_of_lt_of_le (hI k hk) hb.size,os:=hb.os,tape:=hb.tape,out:=hb.output }⟩
theorem xaT(hΓ:Holds P Γ){f fm fs fi fr fj fn:Nat}(hm:Γ fm=.dat false yh)(hs:Γ fs=.dat false js)(hi:Γ fi=.dat false qk)(hj:Γ fj=.dat false Ys)(hn:Γ fn=.dat true xe)(hc:check P f=some (44,(Uq fm fs fi fr fj fn).strip,[.tmp 2])):Sound P f (.dat false uV):=by
 refine Qa hc jba hΓ (λargs K hcl hfi hG=>?_);match args,hG with
 | [a],hG=>
  obtain⟨w,rfl,hw,h1,hK⟩:=hG;refine⟨by simp,?_⟩
  have d1:digs 2=[2]:=XbB (by decide) (by decide)
  have d0:=Qb;have v1:val [2] / 1000000000=0:=by decide
  have v2:val [2] % 1000000000=2:=by decide
  have na:(zv w).natAbs=2:=by rcases h1 with h | h <;> rw [h] <;> rfl
  have w1:WL [2]:=Xb.2 ⟨by decide,Ub⟩
  have hok:okT ((2:Nat):Int):=.inr (.inl rfl);have jj:jS [tx ((2:Nat):Int)] ⟨#[]⟩=⟨#[50]⟩:=jS_1 _ _;have j2:(jS [tx ((2:Nat):Int)] ⟨#[]⟩).data.toList.length<=1000:=by rw [jj];decide
  simp only [go_sem,Uq,hm,hs,hi,hj,hn,hw,na,d1];refine ja (λk:Nat=>if k=0 then ⟨mkV [(1,.one (.ptr 1 1 0 0)),(3,wsA [2]),(4,.one .emp)],mkH [(1,⟨1,some ⟨[[zb w,zm w]],2,true⟩⟩)]⟩ else ⟨mkV [(1,.one (.ptr 1 1 0 0)),(3,wsA []),(4,.one (.full [[.lit (.string (tx ((2:Nat):Int)))]]))],mkH [(1,⟨1,some ⟨[[zb w,zm w]],2,true⟩⟩)]⟩) (λ_=>True) (λk=>1-k) 0 ?_ trivial ?_
  .rw [if_pos rfl];exact qa (by simp [bitvec_to_nat,wc]) ⟨xbj,trivial⟩
  .intro k _;by_cases hk:k=0
   .subst hk;rw [if_pos rfl];simp only [go_sem,hs,hi,v1,v2,d0];refine⟨w1,by decide,by decide,by omega,hok,λe he=>by simp at he,1,?_,by decide⟩
    rw [if_neg (by decide)]
    exact qa (by simp [bitvec_to_nat,wc]) ⟨xbj,trivial⟩
   .rw [if_neg hk];rcases h1 with h1 | h1
    .rw [if_pos h1]at hK;simp only [go_sem,hj,hn,hw,h1,jj,j2];exact⟨by simp,λh=>absurd h (by decide),λ_=>hK⟩
    .rw [if_neg (by rw [h1];decide)]at hK
     simp only [go_sem,hj,hn,hw,h1,jj,j2];exact⟨by simp,λ_=>⟨by decide,hK⟩,λh=>absurd (by decide) h⟩
theorem XaK(hΓ:Holds P Γ){f fp fo fc ft:Nat}(hp:Γ fp=.dat false Wd)(ho:Γ fo=.dat false Vm)(hc' : Γ fc=.dat true Wx)(ht:Γ ft=.dat false uV)(hc:check P f=some (22,(zj fp fo fc ft).strip,[.tmp 2])):Sound P f (.dat false qR):=by
 refine Qa hc Xba hΓ (λargs K hcl hfi hG=>?_);match args,hG with
 | [a],hG=>
  obtain⟨x,rfl,hx,h1,hl,hK⟩:=hG;refine⟨by simp,?_⟩
  have t2:¬(-2:Int)=2:=by decide
  rcases h1 with h1 | h1
  .have e1:ordI ((Rat.den 2:Nat):Int) 1=0:=by decide
   have e2:(Rat.num 2:Int)=2:=by decide
   rw [if_pos h1]at hK;simp only [go_sem,zj,hp,ho,hc',ht,hx,h1,e1,e2];exact⟨hl,.inl trivial,hK⟩
  .have e1:ordI ((Rat.den (-2):Nat):Int) 1=0:=by decide
   have e2:(Rat.num (-2):Int) = -2:=by decide
   rw [if_neg (by rw [h1];decide)]at hK
   simp only [go_sem,zj,hp,ho,hc',ht,hx,h1,e1,e2,t2];exact⟨hl,.inr trivial,hK⟩
theorem ZX(hΓ:Holds P Γ){f fk fs ft fi fj tE:Nat}(hk:Γ fk=.dat false (Qm tE))(hs:Γ fs=.dat true Xf)(ht:Γ ft=.dat false qR)(hi:Γ fi=.dat false qk)(hj:Γ fj=.dat false Ys)(hc:check P f=some (51,(jx fk fs ft fi fj).strip,[.tmp 2,.tmp 3])):Sound P f (.dat false (Yn tE)):=by
 refine Qa hc (Waf tE) hΓ (λargs K hcl hfi hG=>?_);match args,hG with
 | [a],hG=>
  obtain⟨L,rfl,hL,hK⟩:=hG;refine⟨by simp,?_⟩
  have hc0:chkP L=0:=by rw [hL];decide +kernel
  have hr:∀x∈L,rz x<=4000000000:=by rw [hL];decide +kernel
  have hl:L.length=3:=by rw [hL];rfl
  have g0:L.getD 0 0 = -2:=by rw [hL];rfl
  have g1:L.getD 1 0=0:=by rw [hL];rfl
  have g2:L.getD 2 0=2:=by rw [hL];rfl
  have e0:=Xd tE;simp only [go_sem,jx,hk,hc0,e0,hl];refine⟨hr,by omega,?_⟩
  have o2:ordQ 2 0=1:=by decide +kernel
  have om:ordQ (-2) 0 = -1:=by decide +kernel
  have o0:ordQ 0 0=0:=by decide +kernel
  have n31:((3:Nat):Int)-1=2:=rfl;have okt:okT 2:=.inr (.inl rfl);have r2:rl (rcan 2)<=4294967296:=by decide +kernel
  have rm:rl (rcan (-2))<=4294967296:=by decide +kernel
  have r0:rl (rcan 0)<=4294967296:=by decide +kernel
  have q1:¬(1:Int)=0:=by decide
  have q2:¬(-1:Int)=0:=by decide
  have q3:¬(-2:Rat)=2:=by decide
  have tx2:tx 2=⟨#[50]⟩:=rfl;have t0:(2:Int).toNat=2:=rfl;have t1:(1:Int).toNat=1:=rfl;have t00:(0:Int).toNat=0:=rfl;refine Zav 3 ⟨mkV [(0,lqA L),(5,.one .emp),(6,.one (.lit (.int .i64 2)))],mkH []⟩ (qa (by simp [bitvec_to_nat,lqA]) trivial) ?_
  simp only [go_sem,hs,ht,hi,hj,g2,Jm,o2,q1,t0,tx2,Int.reduceLE,Int.reduceLT,Int.reduceSub];have z1:∀(s:ByteArray) (e:List C),e∈[[C.lit (.string s)]]->e.length=1:=λs e he=>by rw [List.mem_singleton.1 he];rfl
  refine⟨by omega,by decide +kernel,by omega,.inl trivial,by decide +kernel,by decide,okt,by decide,by decide,z1 _,?_⟩
  generalize hTA:(⟨#[50]⟩:ByteArray)++⟨#[32,120]⟩++(⟨#[94]⟩++⟨#[50]⟩)=TA;refine Wa0 [0,5,6] [48] (by simp [go_sem,-List.map_map]) ?_
  simp only [go_sem,hs,ht,hi,hj,g1,Jm,o0,t1,Int.reduceLE,Int.reduceLT,Int.reduceSub];refine⟨by omega,by decide +kernel,?_⟩
  refine Wa0 [0,5,6] [48] (by simp [go_sem,-List.map_map]) ?_
  simp only [go_sem,hs,ht,hi,hj,g0,Jm,om,q2,q3,t00,Int.reduceLE,Int.reduceLT,Int.reduceSub];refine⟨by omega,by decide +kernel,by omega,.inr trivial,by decide +kernel,z1 _,?_⟩
  refine Wa0 [0,5,6] [48] (by simp [go_sem,-List.map_map]) ?_
  have jj:jS [TA,⟨#[45,50]⟩] ⟨#[32,43,32]⟩=⟨#[50,32,120,94,50,32,43,32,45,50]⟩:=by rw [<-hTA];decide +kernel
  have j2:(jS [TA,⟨#[45,50]⟩] ⟨#[32,43,32]⟩).data.toList.length<=1000:=by rw [jj];decide
  rw [Xd]at hK;simp only [go_sem,hj,Int.reduceLE,jj,j2];exact⟨by simp,hK⟩
end Go.Abs
end
section
namespace Go.Num
open Go.Abs
def o3(l:List (Int×Int×Int)):BQ:=l.map λt=>(t.1,t.2.1,(t.2.2:Rat))
theorem ka2(l m:List (Int×Int×Int)):o3 (l++m)=o3 l++o3 m:=List.map_append
theorem qbj(l:List (Int×Int×Int)):(mcs (o3 l)).length=l.length:=by unfold mcs o3;rw [List.length_map,List.length_map]
theorem Qbp{l:List (Int×Int×Int)}{k:Nat}{x:Int×Int×Int}(h:l[k]?=some x):mcs (o3 (l.take (k+1)))=mcs (o3 (l.take k))++[(x.1,x.2.1,rcan (x.2.2:Rat))]:=by
 rw [List.take_add_one,h,ka2,Yt];rfl
def xmP:List (Int×Int×Int):=[(0,0,-2),(0,2,1),(2,0,1)]
def xmQ:List (Int×Int×Int):=[(0,1,1),(1,0,-1)]
def xmA:List (Int×Int×Int):=[(0,1,1),(1,0,1)]
def xmB:List (Int×Int×Int):=[(0,1,-1),(1,0,1)]
def xmC:List (Int×Int×Int):=[(0,2,-1),(2,0,1)]
theorem xbV:elL (o3 xmP) (o3 xmQ)=[-2,0,2]:=by decide +kernel
theorem xbE:mulB (o3 xmA) (o3 xmB)=o3 xmC:=by decide +kernel
theorem xbz:erC (mcs (o3 xmP)) (mcs (o3 xmQ))=0:=by decide +kernel
theorem kbo:mulC (mcs (o3 xmA)) (mcs (o3 xmB))=0:=by decide +kernel
theorem JbD:degM (mcs (o3 xmP))*degM (mcs (o3 xmQ))<=9:=by decide +kernel
end Go.Num
namespace Go.Abs
open Go.Num
variable {P:Program} {Γ:Nat->Spec}
def iC(t:Int×Int×Int):List C:=[.lit (.int .i64 t.1),.lit (.int .i64 t.2.1),.lit (.int .i64 t.2.2)]
def i3A(l:List (Int×Int×Int)):AV:=.one (.slice (l.map iC))
theorem Zag(x y:List (Int×Int×Int))(h:i3A x=i3A y):x=y:=by
 simp only [i3A,AV.one.injEq,C.slice.injEq]at h;refine YE (λa b h=>?_) h;obtain⟨a1,a2,a3⟩:=a;obtain⟨b1,b2,b3⟩:=b;simpa [iC] using h
def onI3(k:List (Int×Int×Int)->Prop)(a:AV):Prop:=onE i3A k a
@[congr] theorem xbS{k:List (Int×Int×Int)->Prop}{a a'}(h:a=a'):onI3 k a=onI3 k a':=by subst h;rfl
theorem wbk(k:List (Int×Int×Int)->Prop)(a b c d e f:Int):onI3 k (.one (.slice [[.lit (.int .i64 a),.lit (.int .i64 b),.lit (.int .i64 c)],[.lit (.int .i64 d),.lit (.int .i64 e),.lit (.int .i64 f)]]))=k [(a,b,c),(d,e,f)]:=jg Zag k [(a,b,c),(d,e,f)]
theorem kbh(k:List (Int×Int×Int)->Prop)(a b c d e f g h i:Int):onI3 k (.one (.slice [[.lit (.int .i64 a),.lit (.int .i64 b),.lit (.int .i64 c)],[.lit (.int .i64 d),.lit (.int .i64 e),.lit (.int .i64 f)],[.lit (.int .i64 g),.lit (.int .i64 h),.lit (.int .i64 i)]]))=k [(a,b,c),(d,e,f),(g,h,i)]:=jg Zag k [(a,b,c),(d,e,f),(g,h,i)]
theorem WbG{β:Type}{T:List (Int×Int×Int)->(β->Prop)->Prop}(h:∀l,GoodT (T l)){a:AV}:GoodT λK=>onI3 (λl=>T l K) a:=
 yB (e:=i3A) (T:=T) Zag h
theorem waV(K:List C->Prop)(L:List (Int×Int×Int))(i:Nat):getE K (L.map iC) i=(i<L.length/\K (iC (L.getD i (0,0,0)))):=by
 simp only [getE,List.length_map,List.getElem?_map];refine propext ⟨λh=>⟨h.1,h.2 _ (by simp [h.1,List.getD_eq_getElem?_getD])⟩,λh=>⟨h.1,λe he=>?_⟩⟩
 simp [h.1]at he;subst he;have:=h.2;simpa [List.getD_eq_getElem?_getD,h.1] using this
theorem waC(L:List (Int×Int×Int)):Clean (.slice (L.map iC))=True:=eq_true (.slice _ λe he c hc=>by
 obtain⟨l,_,rfl⟩:=List.mem_map.1 he;simp only [iC,List.mem_cons,List.not_mem_nil,or_false]at hc;rcases hc with rfl | rfl | rfl <;> exact .lit _)
attribute [go_sem,go_sem ↓] wbk kbh waV waC
def QQ(l:List AV)(K:AV->Prop):Prop:=
 match l with
 | [a]=>onI3 (λl=>(∀t∈l,-1000<=t.2.2/\t.2.2<=1000)/\l.length<=1000/\K (.one (.slice ((mcs (o3 l)).map mC)))) a
 | _=>False
theorem Ubh a K:QQ [a] K=(onI3 (λl=>(∀t∈l,-1000<=t.2.2/\t.2.2<=1000)/\l.length<=1000/\K (.one (.slice ((mcs (o3 l)).map mC)))) a):=propext Iff.rfl
@[congr] theorem kb1{K}{l l'}(h:l=l'):QQ l K=QQ l' K:=by subst h;rfl
attribute [go_sem,go_sem ↓] Ubh
theorem jbc:Good QQ:=Ja λas=>by
 unfold QQ;split
 .exact(WbG λ_=>(.and λ_=>(.and λ_=>(.ret _))))
 .exact .of λK hk=>hk.elim
def Wn(l:List AV)(K:AV->Prop):Prop:=
 match l with
 | []=>K (.one (.lit (.bool true)))
 | _=>False
theorem J7 K:Wn [] K=(K (.one (.lit (.bool true)))):=propext Iff.rfl
@[congr] theorem kbM{K}{l l'}(h:l=l'):Wn l K=Wn l' K:=by subst h;rfl
attribute [go_sem,go_sem ↓] J7
theorem Yai:Good Wn:=Ja λas=>by
 unfold Wn;split
 .exact(.ret _)
 .exact .of λK hk=>hk.elim
def kj(f0:Nat):AC:=(.o [.m 2 (.c (.one .emp))] [0] (.o [.m 3 (.c (.one .emp))] [0,3] (.f (.o [.M 6 0,.Z 7 6,.N 8 0] [3,6,7,8] (.block 0 (.loop (.o [.B 9 .lss 8 7] [3,6,7,8,9] (.f (.cond (.t 9) .skip (.exit 0)) [3,6,7,8] (.f (.block 1 (.o [.J 10 3 6 8,.L 11 3 10,.G 5 [(.lit (.int .i64 0)),(.lit (.int .i64 0)),(.lit (.int .i64 0))],.S 3 5 11] [3,5,6,7,8] (.y [.M 12 3,.u 13 (.ai 1 3 (.t 5) (.i 0)),.F 14 1 13,.u 15 (.ai 1 3 (.t 5) (.i 1)),.F 16 1 15,.u 17 (.ai 1 3 (.t 5) (.i 2)),.F 18 1 17,.H 19 f0 18,.u 20 (.build [.x 1 (.t 14),.x 1 (.t 16),.x 3 (.t 19)]),.u 21 (.row 5 [[.x 5 (.t 20)]]),.u 22 (.app 5 (.t 12) (.t 21)),.M 3 22]))) [3,6,7,8] (.p [.I 23 .add 8 1,.M 8 23]))))))) [3] (.seq (.p [.M 24 3,.M 2 24]) .ret))))
def Yf(f0 f1 f2 f3 f4:Nat):AC:=(.o [.m 0 .fa] [] (.o [.u 8 (.build [.x 1 (.i 0),.x 1 (.i 1),.x 1 (.i 1)]),.u 9 (.build [.x 1 (.i 1),.x 1 (.i 0),.x 1 (.i 1)]),.u 10 (.row 3 [[.x 3 (.t 8)],[.x 3 (.t 9)]]),.H 11 f0 10,.u 12 (.build [.x 1 (.i 0),.x 1 (.i 1),.x 1 (.i (-1))]),.u 13 (.build [.x 1 (.i 1),.x 1 (.i 0),.x 1 (.i 1)]),.u 14 (.row 3 [[.x 3 (.t 12)],[.x 3 (.t 13)]]),.H 15 f0 14,.D 16 f1 11 15,.M 7 16,.X 17 0 7,.X 18 1 7,.M 1 17,.M 2 18] [1,2] (.o [.u 20 (.build [.x 1 (.i 0),.x 1 (.i 0),.x 1 (.i (-2))]),.u 21 (.build [.x 1 (.i 0),.x 1 (.i 2),.x 1 (.i 1)]),.u 22 (.build [.x 1 (.i 2),.x 1 (.i 0),.x 1 (.i 1)]),.u 23 (.row 3 [[.x 3 (.t 20)],[.x 3 (.t 21)],[.x 3 (.t 22)]]),.H 24 f0 23,.u 25 (.build [.x 1 (.i 0),.x 1 (.i 1),.x 1 (.i 1)]),.u 26 (.build [.x 1 (.i 1),.x 1 (.i 0),.x 1 (.i (-1))]),.u 27 (.row 3 [[.x 3 (.t 25)],[.x 3 (.t 26)]]),.H 28 f0 27,.D 29 f2 24 28,.M 19 29,.X 30 0 19,.X 31 1 19,.M 3 30,.M 4 31] [1,2,3,4] (.f (.o [.M 32 2,.R 33 32,.M 34 33,.V 35 34 false 4,.w 36 34 false (.binn .neq (.t 35) (.c (.one (.lit .nilIface)))),.Q 37 34 36] [1,3,37] (.cond (.t 37) (.seq (.p [.m 0 .fa]) .ret) .skip)) [1,3] (.o [.M 39 3,.H 40 f3 39,.M 38 40,.X 41 0 38,.X 42 1 38,.M 5 41,.M 6 42] [1,5,6] (.seq (.p [.M 43 6,.u 44 (.binn .eql (.t 43) (.c (.one (.lit .nilIface)))),.M 45 44,.V 46 45 true 5,.w 47 45 true (.sop 1 [(.t 46),(.c (.one (.lit (.string ⟨#[50,32,120,94,50,32,43,32,45,50]⟩))))]),.P 48 45 47,.M 49 48,.V 50 49 true 1,.w 51 49 true (.build [.x 1 (.i 0),.x 1 (.i 2),.x 1 (.i (-1))]),.w 52 49 true (.build [.x 1 (.i 2),.x 1 (.i 0),.x 1 (.i 1)]),.w 53 49 true (.row 3 [[.x 3 (.t 51)],[.x 3 (.t 52)]]),.W 54 49 true f0 53,.Y 55 49 true f4 50 54,.P 56 49 55,.M 0 56]) .ret))))))
theorem yaL(hΓ:Holds P Γ){f fo:Nat}(ho:Γ fo=.dat false Qz)(hc:check P f=some (25,(kj fo).strip,[.tmp 2])):Sound P f (.dat false QQ):=by
 refine Qa hc jbc hΓ (λargs K hcl hfi hG=>?_);match args,hG with
 | [a],hG=>
  obtain⟨l,rfl,hr,hl,hK⟩:=hG;refine⟨by simp,?_⟩
  simp only [go_sem,kj,i3A];intro _;refine ja (λk:Nat=>if k=0 then ⟨mkV [(3,.one .emp),(6,i3A l),(7,.one (.lit (.int .i64 l.length))),(8,.one (.lit (.int .i64 k)))],mkH []⟩
    else ⟨mkV [(3,.one (.own 22 1 5 0 k)),(6,i3A l),(7,.one (.lit (.int .i64 l.length))),(8,.one (.lit (.int .i64 k)))],mkH [(22,⟨1,some ⟨(mcs (o3 (l.take k))).map mC,5,true⟩⟩)]⟩) (λk=>k<=l.length) (λk=>l.length-k) 0 ?_ ?_ ?_
  .exact qa (by simp [bitvec_to_nat,i3A]) trivial
  .exact Nat.zero_le _
  .intro k hk;by_cases hlt:k<l.length
   .obtain⟨y,hy⟩:∃y,l.getD k (0,0,0)=y:=⟨_,rfl⟩;have hy0:l[k]?=some y:=by
     rw [List.getD_eq_getElem?_getD,List.getElem?_eq_getElem hlt]at hy;rw [List.getElem?_eq_getElem hlt];simpa using hy
    have hry:=hr y (List.mem_of_getElem? hy0);have ht:=Qbp hy0;by_cases hk0:k=0
    .subst hk0;simp only [go_sem,hlt,hy,ho,iC,i3A];repeat first | refine q_Wk ?_ | intro _
     refine⟨λe he=>by rw [List.mem_singleton.1 he];rfl,by omega,1,?_,by omega,by omega⟩
     rw [if_neg (by decide)]
     exact qa (by simp [bitvec_to_nat,i3A]) ⟨Wi (by rw [ht];rfl),trivial⟩
    .have hlk:(mcs (o3 (l.take k))).length=k:=by rw [qbj,List.length_take];omega
     simp only [go_sem,hlt,hy,ho,iC,i3A,hk0,hlk];repeat first | refine q_Wk ?_ | intro _
     refine⟨λe he=>by rw [List.mem_singleton.1 he];rfl,by omega,by omega,k+1,?_,by omega,by omega⟩
     rw [if_neg (by omega)]
     exact qa (by simp [bitvec_to_nat,i3A]) ⟨Wi (by rw [ht];simp [mC]),trivial⟩
   .by_cases hk0:k=0
    .subst hk0;have hl0:l=[]:=List.length_eq_zero_iff.1 (by omega)
     subst hl0;simp only [go_sem,hlt,i3A];exact hK
    .have hlk:(mcs (o3 (l.take k))).length=k:=by rw [qbj,List.length_take];omega
     have et:l.take k=l:=List.take_of_length_le (by omega)
     simp only [go_sem,hlt,hk0,i3A];rw [if_pos (by omega),List.take_of_length_le (Nat.le_of_eq hlk),Zq _ (of_eq_true (qg _)),et]
     exact hK
theorem UbZ:SmE (o3 xmP) (o3 xmQ):=by
 have b1:∀(n:Int),n.natAbs<=2->Bd 1 2 (n:Rat):=λn h=>(Bd.int n).mono h;refine⟨1,2,by decide,by decide +kernel,by decide +kernel,λt ht=>?_,λt ht=>?_⟩
 .simp only [o3,xmP,List.map_cons,List.map_nil,List.mem_cons,List.not_mem_nil,or_false]at ht;rcases ht with rfl | rfl | rfl <;> exact b1 _ (by decide)
 .simp only [o3,xmQ,List.map_cons,List.map_nil,List.mem_cons,List.not_mem_nil,or_false]at ht;rcases ht with rfl | rfl <;> exact b1 _ (by decide)
theorem Z0(hΓ:Holds P Γ){f ff fm fe ft fq tE:Nat}(hf:Γ ff=.dat false QQ)(hm:Γ fm=.dat false (Xz tE))(he:Γ fe=.dat false (Zs tE))(ht:Γ ft=.dat false (Yn tE))(hq:Γ fq=.dat false Yo)(hc:check P f=some (57,(Yf ff fm fe ft fq).strip,[.tmp 0])):Sound P f (.dat false Wn):=by
 refine Qa hc Yai hΓ (λargs K hcl hfi hG=>?_);match args,hG with
 | [],hK=>
  have hK:K (.one (.lit (.bool true))):=hK;refine⟨by simp,?_⟩
  obtain⟨A,hA⟩:∃A,mcs (o3 xmA)=A:=⟨_,rfl⟩;obtain⟨B,hB⟩:∃B,mcs (o3 xmB)=B:=⟨_,rfl⟩;obtain⟨C,hC⟩:∃C,mcs (o3 xmC)=C:=⟨_,rfl⟩;obtain⟨X,hX⟩:∃X,mcs (o3 xmP)=X:=⟨_,rfl⟩;obtain⟨Y,hY⟩:∃Y,mcs (o3 xmQ)=Y:=⟨_,rfl⟩;have wl:∀l:List (Int×Int×Int),InQ (o3 l)->∀t∈mcs (o3 l),WLM t:=λl h=>WaS h;have s1:∀t∈xmA,-1000<=t.2.2/\t.2.2<=1000:=by decide
  have s2:∀t∈xmB,-1000<=t.2.2/\t.2.2<=1000:=by decide
  have s3:∀t∈xmC,-1000<=t.2.2/\t.2.2<=1000:=by decide
  have s4:∀t∈xmP,-1000<=t.2.2/\t.2.2<=1000:=by decide
  have s5:∀t∈xmQ,-1000<=t.2.2/\t.2.2<=1000:=by decide
  have m1:mulC A B=0:=by rw [<-hA,<-hB];exact kbo
  have m2:mulB (A.map mv) (B.map mv)=o3 xmC:=by rw [<-hA,<-hB,yj,yj];exact xbE
  have e1:erC X Y=0:=by rw [<-hX,<-hY];exact xbz
  obtain⟨L,hL⟩:∃L:List Rat,L=[-2,0,2]:=⟨_,rfl⟩;have e2:elL (X.map mv) (Y.map mv)=L:=by rw [hL,<-hX,<-hY,yj,yj];exact xbV
  have e3:degM X*degM Y<=9/\SmE (X.map mv) (Y.map mv):=by rw [<-hX,<-hY,yj,yj];exact⟨JbD,UbZ⟩
  have r1:∀t∈A,rl t.2.2<=1000000:=by rw [<-hA];decide +kernel
  have r2:∀t∈B,rl t.2.2<=1000000:=by rw [<-hB];decide +kernel
  have r3:∀t∈C,rl t.2.2<=1000000:=by rw [<-hC];decide +kernel
  have r4:∀t∈X,rl t.2.2<=1000000:=by rw [<-hX];decide +kernel
  have r5:∀t∈Y,rl t.2.2<=1000000:=by rw [<-hY];decide +kernel
  have w1:∀t∈A,WLM t:=by rw [<-hA];exact wl _ (by unfold InQ inQ;decide +kernel)
  have w2:∀t∈B,WLM t:=by rw [<-hB];exact wl _ (by unfold InQ inQ;decide +kernel)
  have w3:∀t∈C,WLM t:=by rw [<-hC];exact wl _ (by unfold InQ inQ;decide +kernel)
  have w4:∀t∈X,WLM t:=by rw [<-hX];exact wl _ (by unfold InQ inQ;decide +kernel)
  have w5:∀t∈Y,WLM t:=by rw [<-hY];exact wl _ (by unfold InQ inQ;decide +kernel)
  have z1:sz (A.map mv)+sz (B.map mv)<=3000000:=by rw [<-hA,<-hB,yj,yj];decide +kernel
  have g1:(∀t∈A,rl t.2.2<=1000000000)/\(∀t∈B,rl t.2.2<=1000000000):=⟨λt ht=>Nat.le_trans (r1 t ht) (by decide),λt ht=>Nat.le_trans (r2 t ht) (by decide)⟩
  have g3:∀t∈C,rl t.2.2<=4294967296:=λt ht=>Nat.le_trans (r3 t ht) (by decide)
  have lC:C.length<=1000000:=by rw [<-hC];decide +kernel
  have e0:=Xd tE;have b0:=yW (o3 xmC);unfold xmA at hA s1;unfold xmB at hB s2;unfold xmP at hX s4;unfold xmQ at hY s5;have hC2:=hC;have s3':=s3;unfold xmC at hC2 s3';simp only [go_sem,Yf,hf,hm,he,ht,hq,hA,hB,hX,hY,hC2,m1,m2,e1,e2,e0,b0,hC,s1,s2,s3',s4,s5];exact⟨s1,s2,w1,w2,g1.1,g1.2,z1,s4,s5,w4,w5,r4,r5,e3,hL,λ_=>⟨s3',w3,w3,g3,lC,hK⟩,λh=>absurd h (by simp)⟩
end Go.Abs
end
section
namespace Go.Num
open Go.Abs
theorem Ubz{b:Nat}:∀{l:BQ},(∀t∈l,rz t.2.2<=b)->sz l<=l.length*(b+2)
 | [],_=>by simp [sz]
 | t::l,h=>by
  have h1:=h t (by simp)
  have h2:=Ubz (l:=l) λu hu=>h u (by simp [hu])
  simp only [sz,List.length_cons,Nat.add_mul,Nat.one_mul];omega
theorem Jah{x:R}(h:lowR x=true):rl x<=1:=by
 unfold lowR lowB at h;simp only [Bool.and_eq_true,decide_eq_true_eq]at h;unfold rl;omega
theorem xa0{p:List Mo}(h:vldM p=true)(hw:∀t∈p,WLM t):∃P,p=mcs P/\PB 5 45 P/\P.length<=15:=by
 unfold vldM at h;simp only [Bool.and_eq_true,decide_eq_true_eq]at h;obtain⟨h1,h2,h3⟩:=h;unfold shortM at h1;simp only [Bool.and_eq_true,Bool.not_eq_true',List.all_eq_true]at h1;obtain⟨h1,h4⟩:=h1;unfold longM at h1;simp only [Bool.or_eq_false_iff,Bool.and_eq_false_iff,decide_eq_false_iff_not]at h1;obtain⟨c1,c2⟩:=Vl h2 hw;obtain⟨i1,i2,i3⟩:=Vs h2 hw;have hlen:(p.map mv).length<=15:=by rw [List.length_map];omega
 have hd:degB (p.map mv)<=5:=by rw [<-zd,c2];exact h3
 refine⟨p.map mv,c2.symm,⟨c1,λt ht=>?_,?_⟩,hlen⟩
 .have:=yH c1 t ht;omega
 .have:=Ubz (b:=1) (l:=p.map mv) λt ht=>by
   obtain⟨u,hu,rfl⟩:=List.mem_map.1 ht;exact Nat.le_trans (Uw (hw u hu).2.2) (Jah (h4 u hu))
  omega
theorem PB.wl{d s:Nat}{p:BQ}(h:PB d s p):∀t∈mcs p,WLM t:=WaS h.canon.ins
theorem PB.rl{d s:Nat}{p:BQ}(h:PB d s p):∀t∈mcs p,rl t.2.2<=s:=λt ht=>by
 obtain⟨u,hu,rfl⟩:=List.mem_map.1 ht;have h1:rz u.2.2<=sz p:=Ubb hu;have h2:=h.size;show rz u.2.2<=s;omega
theorem PB.rlb{d s b:Nat}{p:BQ}(h:PB d s p)(hb:s<=b):∀t∈mcs p,Num.rl t.2.2<=b:=λt ht=>Nat.le_trans (h.rl t ht) hb
theorem PB.chk{d s d' s' : Nat}{p q:BQ}(h:PB d s p)(k:PB d' s' q):chk2 (mcs p) (mcs q)=0:=Xau h.canon k.canon
theorem PB.mulC{d s d' s' : Nat}{p q:BQ}(h:PB d s p)(k:PB d' s' q)(hd:d+d'<=24):mulC (mcs p) (mcs q)=0:=zba h.canon k.canon (by
 have h1:=wam h.canon h.deg;have h2:=wam k.canon k.deg;omega)
theorem PB.ev{d s m n:Nat}{p:BQ}(h:PB d s p)(hl:p.length<=m){x y:Rat}(hx:rz x<=n)(hy:rz y<=n):rz (ev p x y)<=s+m*(48*(n+2)+8):=by
 have h1:=xbB h.canon.ins x y;have h2:=h.size;have h3:=Nat.mul_le_mul hl (show 24*(rz x+2)+24*(rz y+2)+8<=48*(n+2)+8 by omega)
 omega
end Go.Num
namespace Go.Abs
open Go.Num
variable {P:Program} {Γ:Nat->Spec}
def uaj(l:List AV)(K:AV->Prop):Prop:=
 match l with
 | [a,b,c]=>onMs (λp=>onMs (λq=>onA (λx=>(p.length<=1048576/\∀t∈p,rl t.2.2<=1048576)/\(q.length<=1048576/\∀t∈q,rl t.2.2<=1048576)/\al x<=1048576/\K (.one (.lit (.bool true)))) c) b) a
 | _=>False
theorem xas a b c K:uaj [a,b,c] K=(onMs (λp=>onMs (λq=>onA (λx=>(p.length<=1048576/\∀t∈p,rl t.2.2<=1048576)/\(q.length<=1048576/\∀t∈q,rl t.2.2<=1048576)/\al x<=1048576/\K (.one (.lit (.bool true)))) c) b) a):=propext Iff.rfl
@[congr] theorem vbO{K}{l l'}(h:l=l'):uaj l K=uaj l' K:=by subst h;rfl
attribute [go_sem,go_sem ↓] xas
end Go.Abs
end
section
namespace Go.Num
open Go.Abs
def evY(l:BQ)(x y:Rat):Rat:=hv (rowN (λj=>hv (rowN (λi=>cf l i j) 0 25) x) 0 25) y
theorem Zbc{t:MQ}(ht:inQ t)(l:BQ)(x y:Rat):evY (t::l) x y=mev t x y+evY l x y:=by
 obtain⟨h1,h2,h3⟩:=ht;obtain⟨i0,hi⟩:∃i0:Nat,t.1=i0:=⟨t.1.toNat,by omega⟩
 obtain⟨j0,hj⟩:∃j0:Nat,t.2.1=j0:=⟨t.2.1.toNat,by omega⟩
 have e:∀j:Nat,hv (rowN (λi=>cf (t::l) i j) 0 25) x=(if j0=j then t.2.2*pw x i0 else 0)+hv (rowN (λi=>cf l i j) 0 25) x:=by
  intro j;have e1:(λi:Nat=>cf (t::l) i j)=λi:Nat=>(if i0=i then (if j0=j then t.2.2 else 0) else 0)+cf l i j:=by
   funext i
   simp only [cf];congr 1;rw [hi,hj];by_cases a:i0=i
   .by_cases b:j0=j
    .rw [if_pos (by omega),if_pos a,if_pos b]
    .rw [if_neg (by omega),if_pos a,if_neg b]
   .rw [if_neg (by omega),if_neg a]
  rw [e1,Qad,JaW,if_pos (by omega),Nat.sub_zero]
  split
  .rfl
  .rw [Rat.zero_mul]
 unfold evY;rw [funext e,Qad,JaW,if_pos (by omega),Nat.sub_zero]
 congr 1;unfold mev;rw [hi,hj,Int.toNat_natCast,Int.toNat_natCast];grind
theorem ev_Y{l:BQ}(h:InQ l)(x y:Rat):ev l x y=evY l x y:=by
 induction l with
 | nil=>
  unfold evY;have e:∀j:Nat,hv (rowN (λi=>cf [] i j) 0 25) x=0:=λj=>JF x 0 25;rw [funext e,JF];rfl
 | cons t l ih=>
  obtain⟨h1,h2⟩:=xc.1 h;rw [Zbc h1,<-ih h2];rfl
theorem Zbj(p:BQ)(j:Nat):rowY p j=rowN (λi=>cf p i j) 0 25:=rfl
theorem vaU{p:BQ}(h:InQ p)(x y:Rat):hv ((rowsP p).map λl=>hv l x) y=ev p x y:=by
 rw [ev_Y h];unfold evY;have hl:((rowsP p).map λl=>hv l x).length<=25:=by rw [List.length_map,Zc];exact zR h
 rw [<-UH y _ 25 hl];congr 2
 funext j
 rw [<-Zbj];by_cases hj:j<topY p
 .rw [List.getD_eq_getElem?_getD,List.getElem?_map];have:=qaz hj;rw [List.getD_eq_getElem?_getD]at this;have hj2:j<(rowsP p).length:=by rw [Zc];exact hj
  rw [List.getElem?_eq_getElem hj2]at this ⊢;have this:(rowsP p)[j]=trimL (rowY p j):=this;show hv (rowsP p)[j] x=_;rw [this,vH]
 .rw [List.getD_eq_getElem?_getD,List.getElem?_eq_none (by rw [List.length_map,Zc];omega)]
  have e:(λi:Nat=>cf p i j)=λ_=>(0:Rat):=funext λi=>jaN h (by omega)
  rw [Zbj,e,JF];rfl
theorem jbq{p q:BQ}(hp:InQ p)(hq:InQ q){x y:Rat}(h1:ev p x y=0)(h2:ev q x y=0)(np:p≠[])(nq:q≠[])(hd:0<topY p-1+(topY q-1)):hv (elL p q) x=0:=by
 unfold elL;rw [Jbm];have l1:=qy np;have l2:=qy nq;refine qbb (y:=y) (by rw [vaU hp];exact h1) (by rw [vaU hq];exact h2) (by rw [List.length_map,List.length_map,Zc,Zc];exact hd) (λe=>?_) (λe=>?_)
 .have:=congrArg List.length e;rw [List.length_map,Zc]at this;simp at this;omega
 .have:=congrArg List.length e;rw [List.length_map,Zc]at this;simp at this;omega
def lcm60:Nat:=9690712164777231700912800
theorem Ya3:∀d,d<=60->0<d->lcm60 % d=0:=by decide +kernel
theorem VaZ{x:R}(h:lowR x=true):∃d,0<d/\d<=60/\Bd d 1000 (rv x):=by
 unfold lowR lowB at h;simp only [Bool.and_eq_true,Bool.or_eq_true,decide_eq_true_eq]at h;obtain⟨h1,h2,h3,h4⟩:=h;unfold rv;split
 .have hn:val x.2.1<=1000:=by
   rcases hx:x.2.1 with _ | ⟨a,_ | ⟨b,l⟩⟩
   .simp [val]
   .rw [hx]at h3;simp at h3;simp [val];omega
   .rw [hx]at h1;simp at h1;omega
  have hd:val x.2.2<=60:=by
   rcases hx:x.2.2 with _ | ⟨a,_ | ⟨b,l⟩⟩
   .simp [val]
   .rw [hx]at h4;simp at h4;simp [val];omega
   .rw [hx]at h2;simp at h2;omega
  by_cases h0:val x.2.2=0
  .rw [h0];refine⟨1,by decide,by decide,?_⟩
   have:mkRat (sg x.1 (val x.2.1)) 0=0:=by simp
   rw [this];exact .zero (by decide) _
  .refine⟨val x.2.2,by omega,hd,by omega,sg x.1 (val x.2.1),?_,?_⟩
   .have hd0:((val x.2.2:Nat):Rat)≠0:=by exact_mod_cast h0
    rw [Rat.mkRat_eq_div];exact Rat.div_mul_cancel hd0
   .unfold sg;split <;> simp <;> omega
 .exact⟨1,by decide,by decide,.zero (by decide) _⟩
theorem VbF{d:Nat}{x:Rat}(h0:0<d)(hd:d<=60)(h:Bd d 1000 x):∀{n:Nat},n<=5->Bd (d ^ 5) (60000 ^ 5) (pw x n):=λ{n} hn=>by
 have hp:∀n:Nat,Bd (d ^ n) (1000 ^ n) (pw x n):=λn=>by
  induction n with
  | zero=>exact(Bd.int 1).mono (by decide)
  | succ n ih=>simp only [pw,Nat.pow_succ];exact ih.mul h
 have h1:=(hp n).up (k:=d ^ (5-n)) (Nat.pow_pos h0);rw [<-Nat.pow_add,show n+(5-n)=5 by omega]at h1
 refine h1.mono ?_;have h2:1000 ^ n<=1000 ^ 5:=Nat.pow_le_pow_right (by decide) hn
 have h3:d ^ (5-n)<=60 ^ 5:=Nat.le_trans (Nat.pow_le_pow_left hd _) (Nat.pow_le_pow_right (by decide) (by omega))
 exact Nat.le_trans (Nat.mul_le_mul h2 h3) (by decide)
theorem ybD{c:R}(h:lowR c=true):Bd lcm60 (1000*lcm60) (rv c):=by
 obtain⟨d,h0,hd,hb⟩:=VaZ h;have hm:=Ya3 d hd h0;have e:d*(lcm60 / d)=lcm60:=Nat.mul_div_cancel' (Nat.dvd_of_mod_eq_zero hm);have hk:0<lcm60 / d:=Nat.div_pos (Nat.le_of_dvd (by decide) (Nat.dvd_of_mod_eq_zero hm)) h0
 have h1:=hb.up hk;rw [e]at h1;exact h1.mono (Nat.mul_le_mul_left _ (Nat.div_le_self _ _))
def eB:Nat:=1000*lcm60*(60000 ^ 5*60000 ^ 5)
theorem jbj{du dv:Nat}{x y:Rat}(u0:0<du)(u1:du<=60)(hu:Bd du 1000 x)(v0:0<dv)(v1:dv<=60)(hv:Bd dv 1000 y):∀{p:BQ},InQ p->Deg 5 p->(∀t∈p,Bd lcm60 (1000*lcm60) t.2.2)->Bd (lcm60*(du ^ 5*dv ^ 5)) (p.length*eB) (ev p x y)
 | [],_,_,_=>.zero (Nat.mul_pos (by decide) (Nat.mul_pos (Nat.pow_pos u0) (Nat.pow_pos v0))) _
 | t::p,hi,hd,hc=>by
  obtain⟨⟨a,b,_⟩,h2⟩:=xc.1 hi;have hd1:=hd t (by simp)
  have ih:=jbj u0 u1 hu v0 v1 hv h2 (λs hs=>hd s (by simp [hs])) λs hs=>hc s (by simp [hs])
  have h1:Bd (lcm60*(du ^ 5*dv ^ 5)) eB (mev t x y):=(hc t (by simp)).mul ((VbF u0 u1 hu (by omega)).mul (VbF v0 v1 hv (by omega)))
  have h3:=h1.add ih;rw [List.length_cons,Nat.add_mul,Nat.one_mul,Nat.add_comm (p.length*eB)];exact h3
theorem Xby{du dv:Nat}{c:Rat}(u0:0<du)(u1:du<=60)(v0:0<dv)(v1:dv<=60)(h:Bd lcm60 (1000*lcm60) c):Bd (lcm60*(du ^ 5*dv ^ 5)) eB c:=by
 refine(h.up (k:=du ^ 5*dv ^ 5) (Nat.mul_pos (Nat.pow_pos u0) (Nat.pow_pos v0))).mono ?_;exact Nat.mul_le_mul_left _ (Nat.mul_le_mul (Nat.le_trans (Nat.pow_le_pow_left u1 5) (by decide)) (Nat.le_trans (Nat.pow_le_pow_left v1 5) (by decide)))
theorem Xbh{p:BQ}(hs:StrM p)(hi:InQ p):∀{t:MQ},t∈p->cf p t.1 t.2.1=t.2.2:=by
 induction p with
 | nil=>intro t ht;simp at ht
 | cons s p ih=>
  intro t ht;obtain⟨a1,a2⟩:=List.pairwise_cons.1 hs;obtain⟨a3,a4⟩:=xc.1 hi;simp only [cf];rcases List.mem_cons.1 ht with rfl | ht
  .rw [if_pos ⟨rfl,rfl⟩,Yk a4 a3 a1,Rat.add_zero]
  .have h1:=a1 t ht;have h2:=(QbD a3 (a4 t ht)).1 h1;rw [if_neg (by omega),Rat.zero_add]
   exact ih a2 a4 ht
theorem JbK{D E E' d s:Nat}{p:BQ}{a:Rat}(h0:0<D)(hp:PB d s p)(hb:BdB D E p)(ha:Bd D E' a):BdB D (E+E') (addB p (conB (-a))):=λt ht=>by
 have hc:=(PB.con (-a)).canon;have hin:=qe.2 ⟨hp.canon.ins,hc.ins⟩;have hm:Canon (addB p (conB (-a))):=Yi hin;rw [<-Xbh hm.str hm.ins ht];unfold addB;rw [ubo hin,wm];refine(vba h0 _ _ hp.canon.str hp.canon.ins hb).add (vba h0 _ _ hc.str hc.ins λu hu=>?_);have h1:cf (conB (-a)) u.1 u.2.1=u.2.2:=Xbh hc.str hc.ins hu;rw [<-h1];unfold conB;rw [ubo (λw hw=>by simp only [List.mem_singleton]at hw;subst hw;simp [inQ])]
 simp only [cf,Rat.add_zero];split
 .exact ha.neg
 .exact .zero h0 _
theorem JbC:lcm60*(60 ^ 5*60 ^ 5)<=w22/\eB+15*eB<=w22:=by decide +kernel
theorem xbF{P Q:BQ}{u v:R}(pP:PB 5 45 P)(pQ:PB 5 45 Q)(lP:P.length<=15)(lQ:Q.length<=15)(hu:lowR u=true)(hv:lowR v=true)(cP:∀t∈mcs P,lowR t.2.2=true)(cQ:∀t∈mcs Q,lowR t.2.2=true) :
  SmE (addB P (conB (-ev P (rv u) (rv v)))) (addB Q (conB (-ev Q (rv u) (rv v)))):=by
 obtain⟨du,u0,u1,bu⟩:=VaZ hu;obtain⟨dv,v0,v1,bv⟩:=VaZ hv;obtain⟨n1,n2⟩:=JbC;have h0:0<lcm60*(du ^ 5*dv ^ 5):=Nat.mul_pos (by decide) (Nat.mul_pos (Nat.pow_pos u0) (Nat.pow_pos v0))
 have key:∀{R:BQ},PB 5 45 R->R.length<=15->(∀t∈mcs R,lowR t.2.2=true)->BdB (lcm60*(du ^ 5*dv ^ 5)) (eB+15*eB) (addB R (conB (-ev R (rv u) (rv v)))):=λ{R} pR lR cR=>by
  have c1:∀t∈R,Bd lcm60 (1000*lcm60) t.2.2:=λt ht=>by
   have:=ybD (cR (mcan t) (List.mem_map_of_mem ht))
   rwa [show rv (mcan t).2.2=t.2.2 from we _]at this
  have he:=jbj u0 u1 bu v0 v1 bv pR.canon.ins pR.deg c1;exact JbK h0 pR (λt ht=>Xby u0 u1 v0 v1 (c1 t ht)) (he.mono (Nat.mul_le_mul_right _ lR))
 exact⟨lcm60*(du ^ 5*dv ^ 5),eB+15*eB,h0,Nat.le_trans (Nat.mul_le_mul_left _ (Nat.mul_le_mul (Nat.pow_le_pow_left u1 5) (Nat.pow_le_pow_left v1 5))) n1,n2,key pP lP cP,key pQ lQ cQ⟩
end Go.Num
end
section
namespace Go.Num
open Go.Abs
theorem ZbL:∀n,n<=8->dpB 25 w22 n<w400/\w22 ^ n<w400:=by decide +kernel
theorem YaD{E E' : Nat}(h:E<=E'):∀n,dpB 25 E n<=dpB 25 E' n
 | 0=>Nat.le_refl _
 | n+1=>by simp only [dpB];exact Nat.mul_le_mul_left _ (Nat.mul_le_mul_left _ (Nat.mul_le_mul_left _ (Nat.mul_le_mul h (YaD h n))))
theorem wbS{f g:BQ}(hf:Canon f)(hg:Canon g)(hs:SmE f g)(h8:topY f-1+(topY g-1)<=8):∀x∈elL f g,rz x<=1000000:=by
 obtain⟨D,E,h0,hD,hE,hb,hc⟩:=hs;have h:=(JaR (D:=D) (L:=25) (E:=E) h0 (n:=(rowsP f).length-1+((rowsP g).length-1)) (M:=sylP (rowsP f) (rowsP g)) λi j hi hj=>by
  rw [Yah hi hj];have key:∀{p:BQ},Canon p->BdB D E p->∀k,BdL D E ((rowsP p).getD k [])/\((rowsP p).getD k []).length<=25:=λ{p} hp hbp k=>by
   by_cases hk:k<(rowsP p).length
   .have hm:(rowsP p).getD k []∈rowsP p:=by rw [List.getD_eq_getElem?_getD,List.getElem?_eq_getElem hk];exact List.getElem_mem _
    exact⟨Xak h0 hp hbp hm,(WE hm).2⟩
   .rw [List.getD_eq_getElem?_getD,List.getElem?_eq_none (by omega)]
    exact⟨BdL.nil h0,by simp⟩
  unfold sylE;split
  .split
   .exact key hf hb _
   .exact⟨BdL.nil h0,by simp⟩
  .split
   .exact key hg hc _
   .exact⟨BdL.nil h0,by simp⟩).1
 rw [Zc,Zc]at h;obtain⟨n1,n2⟩:=ZbL _ h8;intro x hx;have hx' : x∈detP (topY f-1+(topY g-1)) (sylP (rowsP f) (rowsP g)):=by
  unfold elL resP at hx
  rwa [Zc,Zc]at hx
 have h1:=rz_w (h.mem hx') (Nat.lt_of_le_of_lt (Nat.pow_le_pow_left hD _) n2) (Nat.lt_of_le_of_lt (YaD hE _) n1);omega
theorem zbD{f g:BQ}{d e:Nat}(hf:InQ f)(hg:InQ g)(df:Deg d f)(dg:Deg e g):(elL f g).length<=d*e+1:=
 xaY (yz df) (yz dg) (by rw [Zc];exact vE hf df) (by rw [Zc];exact vE hg dg)
theorem zbp(f g:BQ):trimL (elL f g)=elL f g:=X9 _ _
theorem xQ:∀{p:BQ},(∃t∈p,0<t.2.1)->1<topY p
 | [],h=>by obtain⟨t,ht,_⟩:=h;simp at ht
 | s::p,h=>by
  obtain⟨t,ht,h0⟩:=h;simp only [topY];rcases List.mem_cons.1 ht with rfl | ht
  .omega
  .have:=xQ (p:=p) ⟨t,ht,h0⟩;omega
theorem Zar{p:List Mo}(h:vldM p=true):∀t∈p,lowR t.2.2=true:=by
 unfold vldM shortM at h;simp only [Bool.and_eq_true,List.all_eq_true]at h;exact h.1.2
theorem Xa3(x:Rat):mkC [(0,0,rcan x)]=0:=by
 have h1:inM (0,0,rcan x):=by unfold inM;simp
 have h2:vldR (rcan x)=true:=VE x;unfold mkC mkG mkT;simp [h1,h2,mkG]
theorem XaW(x:Rat):nf ([(0,0,rcan x)].map mv)=conB x:=by
 unfold conB mv;simp only [List.map_cons,List.map_nil,we]
def subE(p:BQ)(x y:Rat):BQ:=addB p (conB (-ev p x y))
theorem PB.subE{d s n:Nat}{p:BQ}(h:PB d s p){x y:Rat}(hn:rz (Num.ev p x y)<=n):PB d (s+(n+2)) (subE p x y):=by
 have h1:=(PB.con (-Num.ev p x y)).mono (d':=d) (s':=n+2) (Nat.zero_le _) (by rw [Qu];omega)
 exact h.add h1
theorem xah{d s:Nat}{p:BQ}(h:PB d s p)(x y:Rat):ev (subE p x y) x y=0:=by
 have h1:=(PB.con (-ev p x y)).mono (d':=d) (Nat.zero_le _) (Nat.le_refl _);unfold subE;rw [YbB h h1,QbB];grind
theorem kV{d s:Nat}{p:BQ}(h:PB d s p)(x y:Rat):degB (subE p x y)<=((degB p).toNat:Int):=by
 have hc:=(PB.con (-ev p x y));have hin:=qe.2 ⟨h.canon.ins,hc.canon.ins⟩;exact wam (Yi hin) (zJ (ZD (Jx h.canon) (XaA hc.deg (Nat.zero_le _))))
theorem jaq{d s:Nat}{p:BQ}(h:PB d s p){x y:Rat}(h0:degB p<=0):subE p x y=[]:=by
 have hc:=(PB.con (-ev p x y));have hin:=qe.2 ⟨h.canon.ins,hc.canon.ins⟩;have hcan:Canon (subE p x y):=Yi hin;have hd:Deg 0 (subE p x y):=by
  have:=kV h x y;have h2:(degB p).toNat=0:=by omega
  rw [h2]at this;intro t ht;have:=yH hcan t ht;omega
 have hl:=xu hcan hd;have hz:=xah h x y;match hS:subE p x y,hl,hz with
 | [],_,_=>rfl
 | [t],_,hz=>
  rw [hS]at hcan hd;obtain⟨t1,t2,t3⟩:=hcan.ins t (by simp)
  have hd1:=hd t (by simp)
  have e1:t.1.toNat=0:=by omega
  have e2:t.2.1.toNat=0:=by omega
  simp only [ev,mev,e1,e2,pw,Rat.mul_one,Rat.add_zero]at hz;exact absurd hz (hcan.nz t (by simp))
 | _::_::_,hl,_=>simp [tri]at hl
def dnsM(p q:List Mo):Bool:=decide (chkB p=0) && (decide (chkB q=0) && (decide (0<degM p) && (decide (0<degM q) && decide (9<degM p*degM q))))
theorem Qbo{d s d' s' : Nat}{p q:BQ}(h:PB d s p)(k:PB d' s' q){x y:Rat}(hn:dnsM (mcs p) (mcs q)=false)(np:subE p x y≠[])(nq:subE q x y≠[]):degB (subE p x y)*degB (subE q x y)<=9:=by
 have hp:0<degB p:=Int.not_le.1 λh0=>np (jaq h h0);have hq:0<degB q:=Int.not_le.1 λh0=>nq (jaq k h0);unfold dnsM at hn;rw [decide_eq_true (xt h.canon),decide_eq_true (xt k.canon),zd,zd,decide_eq_true hp,decide_eq_true hq]at hn;simp only [Bool.true_and,decide_eq_false_iff_not]at hn;have a1:=kV h x y;have a2:=kV k x y;have c1:Canon (subE p x y):=Yi (qe.2 ⟨h.canon.ins,(PB.con _).canon.ins⟩);have c2:Canon (subE q x y):=Yi (qe.2 ⟨k.canon.ins,(PB.con _).canon.ins⟩);have b1:=Zz c1 np;have b2:=Zz c2 nq;have m:=Int.mul_le_mul (show degB (subE p x y)<=degB p by omega) (show degB (subE q x y)<=degB q by omega) b2 (by omega)
 omega
def depM(l:List Mo):Bool:=l.any λt=>decide (0<t.2.1)
end Go.Num
namespace Go.Abs
open Go.Num
variable {P:Program} {Γ:Nat->Spec}
theorem Vbi(k:List Mo->Prop)(i j:Int)(x:R):onMs k (.one (.slice [[.lit (.int .i64 i),.lit (.int .i64 j),cb x,cn x,cd x]]))=((∀t∈[(i,j,x)],WLM t)/\k [(i,j,x)]):=jZ k [(i,j,x)]
attribute [go_sem,go_sem ↓] Vbi
def xn(l:List AV)(K:AV->Prop):Prop:=
 match l with
 | [a,b]=>onMs (λp=>onMs (λq=>(∀t∈p,rl t.2.2<=4294967296)/\(∀t∈q,rl t.2.2<=4294967296)/\K (.one (.lit (.bool (dnsM p q))))) b) a
 | _=>False
theorem vae a b K:xn [a,b] K=(onMs (λp=>onMs (λq=>(∀t∈p,rl t.2.2<=4294967296)/\(∀t∈q,rl t.2.2<=4294967296)/\K (.one (.lit (.bool (dnsM p q))))) b) a):=propext Iff.rfl
@[congr] theorem qbz{K}{l l'}(h:l=l'):xn l K=xn l' K:=by subst h;rfl
attribute [go_sem,go_sem ↓] vae
theorem zam:Good xn:=Ja λas=>by
 unfold xn;split
 .exact(Jg λ_=>(Jg λ_=>(.and λ_=>(.and λ_=>(.ret _)))))
 .exact .of λK hk=>hk.elim
def Yu(l:List AV)(K:AV->Prop):Prop:=
 match l with
 | [a,b,c]=>onMs (λp=>onMs (λq=>onA (λx=>(p.length<=1048576/\∀t∈p,rl t.2.2<=1048576)/\(q.length<=1048576/\∀t∈q,rl t.2.2<=1048576)/\al x<=1048576/\K (.one (.lit (.bool true)))) c) b) a
 | _=>False
theorem uaD a b c K:Yu [a,b,c] K=(onMs (λp=>onMs (λq=>onA (λx=>(p.length<=1048576/\∀t∈p,rl t.2.2<=1048576)/\(q.length<=1048576/\∀t∈q,rl t.2.2<=1048576)/\al x<=1048576/\K (.one (.lit (.bool true)))) c) b) a):=propext Iff.rfl
@[congr] theorem jbO{K}{l l'}(h:l=l'):Yu l K=Yu l' K:=by subst h;rfl
attribute [go_sem,go_sem ↓] uaD
theorem VaF:Good Yu:=Ja λas=>by
 unfold Yu;split
 .exact(Jg λ_=>(Jg λ_=>(ybX λ_=>(.and λ_=>(.and λ_=>(.and λ_=>(.ret _)))))))
 .exact .of λK hk=>hk.elim
def Wc(f0:Nat):AC:=(.o [.m 4 .fa] [0,1] (.o [.M 10 0,.H 11 f0 10,.M 9 11,.X 12 0 9,.X 13 1 9,.M 5 12,.M 6 13] [1,5,6] (.o [.M 15 1,.H 16 f0 15,.M 14 16,.X 17 0 14,.X 18 1 14,.M 7 17,.M 8 18] [5,6,7,8] (.seq (.p [.M 19 6,.I 20 .eql 19 0,.M 21 20,.V 22 21 true 8,.w 23 21 true (.bin .eql (.t 22) (.i 0)),.P 24 21 23,.M 25 24,.V 26 25 true 5,.w 27 25 true (.bin .gtr (.t 26) (.i 0)),.P 28 25 27,.M 29 28,.V 30 29 true 7,.w 31 29 true (.bin .gtr (.t 30) (.i 0)),.P 32 29 31,.M 33 32,.V 34 33 true 5,.V 35 33 true 7,.w 36 33 true (.bin .mul (.t 34) (.t 35)),.w 37 33 true (.bin .gtr (.t 36) (.i 9)),.P 38 33 37,.M 4 38]) .ret))))
def Ya(f0 f1 f2 f3 f4 f5 f6 f7 f8 f9 f10 f11:Nat):AC:=(.o [.K 5 6 2,.m 6 .fa] [0,1,5] (.f (.o [.M 26 0,.M 27 1,.u 28 (.row 1 [[.x 1 (.t 26)],[.x 1 (.t 27)]]),.H 29 f0 28,.u 30 (.un .not (.t 29)),.M 31 30,.w 32 31 false (.ai 3 2 (.t 5) (.i 0)),.U 33 31 false 3 true 32,.w 34 31 false (.ai 3 2 (.t 5) (.i 1)),.U 35 31 false 3 true 34,.w 36 31 false (.row 3 [[.x 3 (.t 33)],[.x 3 (.t 35)]]),.W 37 31 false f1 36,.w 38 31 false (.un .not (.t 37)),.Q 39 31 38,.M 40 39,.w 41 40 false (.call f2 []),.w 42 40 false (.un .not (.t 41)),.Q 43 40 42] [0,1,5,43] (.cond (.t 43) (.seq (.p [.u 44 (.call f2 []),.M 6 44]) .ret) .skip)) [0,1,5] (.f (.o [.M 45 0,.M 46 1,.D 47 f3 45 46] [0,1,5,47] (.cond (.t 47) (.seq (.p [.m 6 .tr]) .ret) .skip)) [0,1,5] (.o [.M 49 0,.u 50 (.ai 3 2 (.t 5) (.i 0)),.L 51 3 50,.u 52 (.ai 3 2 (.t 5) (.i 1)),.L 53 3 52,.E 54 f4 49 51 53,.M 48 54,.X 55 0 48,.X 56 1 48,.G 7 [.z,.emp,.emp],.S 3 7 55,.M 8 56] [0,1,5,7,8] (.o [.M 58 1,.u 59 (.ai 3 2 (.t 5) (.i 0)),.L 60 3 59,.u 61 (.ai 3 2 (.t 5) (.i 1)),.L 62 3 61,.E 63 f4 58 60 62,.M 57 63,.X 64 0 57,.X 65 1 57,.G 9 [.z,.emp,.emp],.S 3 9 64,.M 10 65] [0,1,5,7,8,9,10] (.f (.o [.M 66 8,.R 67 66,.M 68 67,.V 69 68 false 10,.w 70 68 false (.binn .neq (.t 69) (.c (.one (.lit .nilIface)))),.Q 71 68 70] [0,1,5,7,9,71] (.cond (.t 71) (.seq (.p [.m 6 .fa]) .ret) .skip)) [0,1,5,7,9] (.o [.L 73 3 7,.H 74 f5 73,.u 75 (.build [.z [(.lit (.int .i64 0)),(.lit (.int .i64 0))],.x 3 (.t 74)]),.u 76 (.row 5 [[.x 5 (.t 75)]]),.H 77 f6 76,.M 72 77,.X 78 0 72,.X 79 1 72,.M 11 78,.M 12 79] [0,1,5,9,11,12] (.o [.L 81 3 9,.H 82 f5 81,.u 83 (.build [.z [(.lit (.int .i64 0)),(.lit (.int .i64 0))],.x 3 (.t 82)]),.u 84 (.row 5 [[.x 5 (.t 83)]]),.H 85 f6 84,.M 80 85,.X 86 0 80,.X 87 1 80,.M 13 86,.M 14 87] [0,1,5,11,12,13,14] (.o [.M 89 0,.M 90 11,.D 91 f7 89 90,.M 88 91,.X 92 0 88,.X 93 1 88,.M 15 92,.M 16 93] [1,5,12,13,14,15,16] (.o [.M 95 1,.M 96 13,.D 97 f7 95 96,.M 94 97,.X 98 0 94,.X 99 1 94,.M 17 98,.M 18 99] [5,12,14,15,16,17,18] (.f (.o [.M 100 12,.R 101 100,.M 102 101,.V 103 102 false 14,.w 104 102 false (.binn .neq (.t 103) (.c (.one (.lit .nilIface)))),.Q 105 102 104,.M 106 105,.V 107 106 false 16,.w 108 106 false (.binn .neq (.t 107) (.c (.one (.lit .nilIface)))),.Q 109 106 108,.M 110 109,.V 111 110 false 18,.w 112 110 false (.binn .neq (.t 111) (.c (.one (.lit .nilIface)))),.Q 113 110 112] [5,15,17,113] (.cond (.t 113) (.seq (.p [.m 6 .fa]) .ret) .skip)) [5,15,17] (.o [.M 115 15,.M 116 17,.D 117 f8 115 116,.M 114 117,.X 118 0 114,.X 119 1 114,.M 19 118,.M 20 119] [5,15,17,19,20] (.f (.o [.M 120 20,.R 121 120] [5,15,17,19,20,121] (.cond (.t 121) (.seq (.p [.M 122 20,.u 123 (.call f9 [(.t 122),(.i 4)]),.M 124 123,.V 125 124 false 20,.w 126 124 false (.call f9 [(.t 125),(.i 8)]),.V 127 124 false 126,.V 128 127 true 15,.w 129 127 true (.len (.t 128)),.w 130 127 true (.bin .eql (.t 129) (.i 0)),.V 131 127 true 130,.V 132 131 false 17,.w 133 131 false (.len (.t 132)),.w 134 131 false (.bin .eql (.t 133) (.i 0)),.w 135 127 true (.pick (.t 131) .tr (.t 134)),.w 136 124 false (.pick (.t 127) (.t 135) .fa),.Q 137 124 136,.M 6 137]) .ret) .skip)) [5,15,17,19] (.o [.M 139 19,.u 140 (.ai 3 2 (.t 5) (.i 0)),.L 141 3 140,.D 142 f10 139 141,.M 138 142,.X 143 0 138,.X 144 1 138,.G 21 [.z,.emp,.emp],.S 3 21 143,.M 22 144] [15,17,21,22] (.o [.m 23 .fa] [15,17,21,22,23] (.f (.o [.m 145 (.c (.one .emp)),.M 146 15,.u 147 (.app0 5 (.t 145) (.t 146)),.M 148 17,.u 149 (.app 5 (.t 147) (.t 148)),.Z 150 149,.N 151 0] [21,22,23,149,150,151] (.block 0 (.loop (.o [.B 152 .lss 151 150] [21,22,23,149,150,151,152] (.f (.cond (.t 152) .skip (.exit 0)) [21,22,23,149,150,151] (.f (.block 1 (.o [.J 153 5 149 151,.L 154 5 153,.G 25 [(.lit (.int .i64 0)),(.lit (.int .i64 0)),.z,.emp,.emp],.S 5 25 154] [21,22,23,25,149,150,151] (.p [.M 155 23,.M 156 155,.T 157 156 false 1 25,.U 158 156 false 1 false 157,.w 159 156 false (.bin .gtr (.t 158) (.i 0)),.Q 160 156 159,.M 23 160]))) [21,22,23,149,150,151] (.p [.I 161 .add 151 1,.M 151 161]))))))) [21,22,23] (.seq (.p [.M 162 22,.u 163 (.binn .eql (.t 162) (.c (.one (.lit .nilIface)))),.M 164 163,.U 165 164 true 3 true 21,.W 166 164 true f11 165,.w 167 164 true (.bin .eql (.t 166) (.i 0)),.V 168 164 true 167,.V 169 168 false 23,.w 170 168 false (.un .not (.t 169)),.w 171 164 true (.pick (.t 168) .tr (.t 170)),.P 172 164 171,.M 6 172]) .ret)))))))))))))))))
theorem VX(hΓ:Holds P Γ){f fd:Nat}(hd:Γ fd=.dat false Vi)(hc:check P f=some (39,(Wc fd).strip,[.tmp 4])):Sound P f (.dat false xn):=by
 refine Qa hc zam hΓ (λargs K hcl hfi hG=>?_);match args,hG with
 | [a,b],hG=>
  obtain⟨p,rfl,hwp,q,rfl,hwq,hrp,hrq,hK⟩:=hG;refine⟨by simp,?_⟩
  unfold dnsM at hK;by_cases h1:chkB p=0
  case neg=>
   rw [decide_eq_false h1,Bool.false_and]at hK;simp only [go_sem,Wc,hd,h1];repeat first | refine q_Wk ?_ | intro _
   exact hK
  by_cases h2:chkB q=0
  case neg=>
   rw [decide_eq_false h2,Bool.false_and,Bool.and_false]at hK;simp only [go_sem,Wc,hd,h1,h2];repeat first | refine q_Wk ?_ | intro _
   exact hK
  rw [decide_eq_true h1,decide_eq_true h2,Bool.true_and,Bool.true_and]at hK;obtain⟨c1,m1⟩:=Vl h1 hwp;obtain⟨c2,m2⟩:=Vl h2 hwq;have d1:=xw c1;have d2:=xw c2;rw [<-zd,m1]at d1;rw [<-zd,m2]at d2;simp only [go_sem,Wc,hd,h1,h2];repeat first | refine q_Wk ?_ | intro _
  refine⟨λg1=>⟨λg2=>?_,λg2=>?_⟩,λg1=>?_⟩
  .rw [decide_eq_true g1,decide_eq_true g2]at hK;obtain⟨x,hx⟩:=Int.eq_ofNat_of_zero_le (show 0<=degM p by omega)
   obtain⟨y,hy⟩:=Int.eq_ofNat_of_zero_le (show 0<=degM q by omega)
   have hm:degM p*degM q=((x*y:Nat):Int):=by rw [hx,hy,Int.natCast_mul]
   have hb:x*y<=24*24:=Nat.mul_le_mul (by omega) (by omega)
   exact⟨by rw [hm];omega,hK⟩
  .rw [decide_eq_false g2,Bool.false_and,Bool.and_false]at hK;exact hK
  .rw [decide_eq_false g1,Bool.false_and]at hK;exact hK
theorem Xah(hΓ:Holds P Γ){f fv fb fw fd fe fn fk fa fl fi fp fs tE:Nat}(hv:Γ fv=.dat false xk)(hb:Γ fb=.dat false xo)(hw:Γ fw=.dat false Wn)(hd:Γ fd=.dat false xn)(he:Γ fe=.dat false (vv tE))(hn:Γ fn=.dat false yw)(hk:Γ fk=.dat false (Qv tE))(ha:Γ fa=.dat false (jA tE))(hl:Γ fl=.dat false (Zs tE))(hi:Γ fi=.dat true (QU tE))(hp:Γ fp=.dat false (Zr tE))(hs:Γ fs=.dat true Xf)
  (hc:check P f=some (173,(Ya fv fb fw fd fe fn fk fa fl fi fp fs).strip,[.tmp 6])):Sound P f (.dat true Yu):=by
 refine Qa hc VaF hΓ (λargs K hcl hfi hG=>?_);match args,hG with
 | [a,b,c],hG=>
  obtain⟨p,rfl,hwp,q,rfl,hwq,x,rfl,hwx,⟨hlp,hrp⟩,⟨hlq,hrq⟩,hax,hK⟩:=hG;refine⟨by simp,?_⟩
  obtain⟨u,v⟩:=x;have hwu:WLR u:=hwx.1;have hwv:WLR v:=hwx.2;have hru:rl u<=1048576:=Nat.le_trans (Nat.le_max_left _ _) hax;have hrv:rl v<=1048576:=Nat.le_trans (Nat.le_max_right _ _) hax;have g1:p.length<=10000000/\∀t∈p,rl t.2.2<=4294967296:=⟨by omega,λt ht=>Nat.le_trans (hrp t ht) (by decide)⟩
  have g2:q.length<=10000000/\∀t∈q,rl t.2.2<=4294967296:=⟨by omega,λt ht=>Nat.le_trans (hrq t ht) (by decide)⟩
  have g3:∀y∈[u,v],WLR y:=λy hy=>by
   simp only [List.mem_cons,List.not_mem_nil,or_false]at hy;rcases hy with rfl | rfl <;> assumption
  have g4:okRs 4294967296 [u,v]:=λy hy=>⟨g3 y hy,by
   simp only [List.mem_cons,List.not_mem_nil,or_false]at hy;rcases hy with rfl | rfl <;> omega⟩
  have g5:=g1.2;have g6:=g2.2;cases h1:vldM p && vldM q with
  | false=>
   simp only [go_sem,Ya,hv,hw,ms,aA,aC,h1];exact⟨⟨hwp,hwq⟩,g1,g2,hK⟩
  | true=>
  cases h2:[u,v].all lowR with
  | false=>
   simp only [go_sem,Ya,hv,hb,hw,ms,aA,aC,h1,h2];refine⟨⟨hwp,hwq⟩,g1,g2,?_⟩;repeat refine q_Wr ?_
   exact hK
  | true=>
  have h1':=h1;simp only [Bool.and_eq_true]at h1;obtain⟨hp1,hq1⟩:=h1;cases h3:dnsM p q with
  | true=>
   simp only [go_sem,Ya,hv,hb,hw,hd,ms,aA,aC,h1',h2,h3];refine⟨⟨hwp,hwq⟩,g1,g2,?_⟩;repeat refine q_Wr ?_
   exact hK
  | false=>
  obtain⟨A,rfl,pA,lA⟩:=xa0 hp1 hwp;obtain⟨B,rfl,pB,lB⟩:=xa0 hq1 hwq;have low1:=Zar hp1;have low2:=Zar hq1;have lu:=List.all_eq_true.1 h2 u (by simp)
  have lv:=List.all_eq_true.1 h2 v (by simp)
  have ru:rl u<=1:=Jah lu;have rv1:rl v<=1:=Jah lv;have zu:=Uw hwu;have zv:=Uw hwv;have e1:=pA.ev lA (x:=rv u) (y:=rv v) (n:=1) (by omega) (by omega)
  have e2:=pB.ev lB (x:=rv u) (y:=rv v) (n:=1) (by omega) (by omega)
  have pF:=pA.subE e1;have pG:=pB.subE e2;have sm:=xbF pA pB lA lB lu lv low1 low2;have zF:=xah pA (rv u) (rv v);have zG:=xah pB (rv u) (rv v);have dg:=λh h'=>Qbo pA pB (x:=rv u) (y:=rv v) h3 h h';have pc1:=PB.con (-ev A (rv u) (rv v));have pc2:=PB.con (-ev B (rv u) (rv v));have c1:=pA.chk pc1;have c2:=pB.chk pc2;have k1:chkB (mcs A)=0:=xt pA.canon;have k2:chkB (mcs B)=0:=xt pB.canon;have hF0:addB A (conB (-ev A (rv u) (rv v)))=subE A (rv u) (rv v):=rfl;have hG0:addB B (conB (-ev B (rv u) (rv v)))=subE B (rv u) (rv v):=rfl;rw [hF0,hG0]at sm;obtain⟨E1,hE1⟩:∃E,ev A (rv u) (rv v)=E:=⟨_,rfl⟩;obtain⟨E2,hE2⟩:∃E,ev B (rv u) (rv v)=E:=⟨_,rfl⟩;rw [hE1]at e1 c1 pc1 hF0;rw [hE2]at e2 c2 pc2 hG0;obtain⟨F,hF⟩:∃F,subE A (rv u) (rv v)=F:=⟨_,rfl⟩;obtain⟨G,hG⟩:∃G,subE B (rv u) (rv v)=G:=⟨_,rfl⟩;rw [hF]at pF sm zF hF0;rw [hG]at pG sm zG hG0;rw [hF,hG]at dg;obtain⟨C1,hC1⟩:∃C,conB (-E1)=C:=⟨_,rfl⟩;obtain⟨C2,hC2⟩:∃C,conB (-E2)=C:=⟨_,rfl⟩;rw [hC1]at c1 pc1 hF0;rw [hC2]at c2 pc2 hG0;have m1:=Xa3 (-E1);have m2:=Xa3 (-E2);have w1:nf [mv ((0:Int),(0:Int),rcan (-E1))]=conB (-E1):=XaW (-E1);have w2:nf [mv ((0:Int),(0:Int),rcan (-E2))]=conB (-E2):=XaW (-E2);rw [hC1]at w1;rw [hC2]at w2;have wc1:∀t∈[((0:Int),(0:Int),rcan (-E1))],WLM t:=λt ht=>by rw [List.mem_singleton.1 ht];exact ZI (t:=(0,0,-E1)) ⟨by simp,by simp,by simp⟩
  have wc2:∀t∈[((0:Int),(0:Int),rcan (-E2))],WLM t:=λt ht=>by rw [List.mem_singleton.1 ht];exact ZI (t:=(0,0,-E2)) ⟨by simp,by simp,by simp⟩
  have n1:rz (-E1)<=100000:=by rw [Qu];omega
  have n2:rz (-E2)<=100000:=by rw [Qu];omega
  have y1:∀t∈[((0:Int),(0:Int),rcan (-E1))],rl t.2.2<=4294967296:=λt ht=>by rw [List.mem_singleton.1 ht];show rz (-E1)<=_;omega
  have y2:∀t∈[((0:Int),(0:Int),rcan (-E2))],rl t.2.2<=4294967296:=λt ht=>by rw [List.mem_singleton.1 ht];show rz (-E2)<=_;omega
  have y3:sz [mv ((0:Int),(0:Int),rcan (-E1))]<=1000000000:=by simp only [sz,mv,we];omega
  have y4:sz [mv ((0:Int),(0:Int),rcan (-E2))]<=1000000000:=by simp only [sz,mv,we];omega
  have wA:=pA.wl;have wB:=pB.wl;have wC1:=pc1.wl;have wC2:=pc2.wl;have wF:=pF.wl;have wG:=pG.wl;have a9:=pA.rlb (b:=1000000000) (by decide)
  have b9:=pB.rlb (b:=1000000000) (by decide)
  have x4:=pc1.rlb (b:=4294967296) (by rw [Qu];omega)
  have x5:=pc2.rlb (b:=4294967296) (by rw [Qu];omega)
  have f6:=pF.rlb (b:=1000000) (by decide)
  have g7:=pG.rlb (b:=1000000) (by decide)
  have iA:=pA.size;have iB:=pB.size;have iC1:=pc1.size;have iC2:=pc2.size;rw [Qu]at iC1 iC2;have zA:sz A<=100000000:=by omega
  have zB:sz B<=100000000:=by omega
  have zAC:sz A+sz C1<=1000000000:=by omega
  have zBC:sz B+sz C2<=1000000000:=by omega
  have ru4:rl u<=10000:=by omega
  have rv4:rl v<=10000:=by omega
  have q1:rz E1<=4294967296:=by omega
  have q2:rz E2<=4294967296:=by omega
  have r11:(0:Int)<=1/\(1:Int)<((2:Nat):Int):=by decide
  have e0:=Xd tE;have b0:=λl=>yW l;have cFG:=pF.chk pG;have hFe:((mcs F=[])=(F=[])):=propext ⟨λh=>by simpa [mcs] using h,λh=>by rw [h];rfl⟩
  have hGe:((mcs G=[])=(G=[])):=propext ⟨λh=>by simpa [mcs] using h,λh=>by rw [h];rfl⟩
  have hcase:(erC (mcs F) (mcs G)=8/\(F=[]∨G=[]))∨erC (mcs F) (mcs G)=4∨(erC (mcs F) (mcs G)=0/\F≠[]/\G≠[]/\topY F-1+(topY G-1)<=8):=by
   unfold erC;rw [if_neg (by simp [cFG]),yj,yj]
   by_cases hz:mcs F=[]∨mcs G=[]
   .rw [if_pos hz];exact .inl ⟨rfl,hz.imp (λh=>by rwa [hFe]at h) (λh=>by rwa [hGe]at h)⟩
   .rw [if_neg hz];by_cases h8:8<topY F+topY G-2∨64<degM (mcs F)*degM (mcs G)
    .rw [if_pos h8];exact .inr (.inl rfl)
    .rw [if_neg h8];have nF:F≠[]:=λh=>hz (.inl (by rw [h];rfl))
     have nG:G≠[]:=λh=>hz (.inr (by rw [h];rfl))
     have:=qy nF;have:=qy nG;exact .inr (.inr ⟨rfl,nF,nG,by omega⟩)
  have hpre:erC (mcs F) (mcs G)=0->degM (mcs F)*degM (mcs G)<=9/\SmE F G:=λh=>by
   rcases hcase with⟨h',_⟩ | h' | ⟨_,nF,nG,_⟩
   .rw [h']at h;simp at h
   .rw [h']at h;simp at h
   .rw [zd,zd];exact⟨dg nF nG,sm⟩
  rcases hcase with⟨her,hz8⟩ | her | ⟨her,nF,nG,h8⟩
  .have e8:errV tE 8=.one (.lit (.iface tE (.int .i64 8))):=ud tE (by decide)
   have o8:∀k:Nat->Prop,onErr tE k (.one (.lit (.iface tE (.int .i64 8))))=k 8:=λk=>by rw [<-e8];exact ZG tE k 8
   have d1:((8:Nat):Int)=8:=rfl;have d2:¬(8:Int)=4:=by decide
   rw [her]at hpre;simp only [go_sem,Ya,hv,hb,hw,hd,he,hn,hk,ha,hl,hi,ms,aA,aC,hp1,hq1,h2,h3,yj,c1,c2,k1,k2,e0,b0,hE1,hE2,m1,m2,w1,w2,hC1,hC2,hF0,hG0,her,e8,o8,d1,d2,Bool.and_true,Bool.and_self];refine⟨⟨hwp,hwq⟩,g1,g2,?_⟩;repeat refine q_Wr ?_
   refine⟨λ_=>⟨λ_=>hK,λhnF _=>?_⟩,λh=>absurd trivial h⟩;have hg0:G=[]:=hz8.resolve_left λh=>hnF (by rw [h];rfl)
   rw [decide_eq_true (show(mcs G).length=0 by rw [hg0];rfl)]
   exact hK
  .have e4:errV tE 4=.one (.lit (.iface tE (.int .i64 4))):=ud tE (by decide)
   have o4:∀k:Nat->Prop,onErr tE k (.one (.lit (.iface tE (.int .i64 4))))=k 4:=λk=>by rw [<-e4];exact ZG tE k 4
   have d1:((4:Nat):Int)=4:=rfl;rw [her]at hpre;simp only [go_sem,Ya,hv,hb,hw,hd,he,hn,hk,ha,hl,hi,ms,aA,aC,hp1,hq1,h2,h3,yj,c1,c2,k1,k2,e0,b0,hE1,hE2,m1,m2,w1,w2,hC1,hC2,hF0,hG0,her,e4,o4,d1,Bool.and_true,Bool.and_self];refine⟨⟨hwp,hwq⟩,g1,g2,?_⟩;repeat refine q_Wr ?_
   exact λh=>absurd trivial h
  .rw [her]at hpre;obtain⟨L,hL⟩:∃L,elL F G=L:=⟨_,rfl⟩;have L1:=wbS pF.canon pG.canon sm h8;have L2:=zbD pF.canon.ins pG.canon.ins pF.deg pG.deg;have L3:=zbp F G;have L0:0<topY F-1+(topY G-1)->Num.hv (elL F G) (rv u)=0:=λh=>jbq pF.canon.ins pG.canon.ins zF zG nF nG h;rw [hL]at L1 L2 L3 L0;have L4:L.length<=65:=by omega
   have ru5:rl u<=1000000:=by omega
   obtain⟨V,hV⟩:∃V,Num.hv L (rv u)=V:=⟨_,rfl⟩;rw [hV]at L0;simp only [go_sem,Ya,hv,hb,hw,hd,he,hn,hk,ha,hl,hi,ms,aA,aC,hp1,hq1,h2,h3,yj,c1,c2,k1,k2,e0,b0,hE1,hE2,m1,m2,w1,w2,hC1,hC2,hF0,hG0,her,hp,hL,hV,Bool.and_true,Bool.and_self];refine⟨⟨hwp,hwq⟩,g1,g2,?_⟩;repeat refine q_Wr ?_
   have hpre':=hpre rfl;have F325:=XH pF.canon;have G325:=XH pG.canon;have lF:(mcs F).length=F.length:=List.length_map _;have lG:(mcs G).length=G.length:=List.length_map _;obtain⟨T,hT⟩:∃T,mcs F++mcs G=T:=⟨_,rfl⟩;have hTl:(mcs F).length+(mcs G).length=T.length:=by rw [<-hT,List.length_append]
   rw [hT,hTl];have T650:T.length<=650:=by omega
   refine⟨hpre',by decide,hwu,L1,L4,L3,ru5,by omega,by omega,λ_=>?_⟩
   have dep0:depM T=true->V=0:=λh=>by
    unfold depM at h;obtain⟨t,ht,h0⟩:=List.any_eq_true.1 h;simp only [decide_eq_true_eq]at h0;refine L0 ?_;rw [<-hT]at ht;rcases List.mem_append.1 ht with ht | ht
    .obtain⟨s,hs',rfl⟩:=List.mem_map.1 ht;have:=xQ ⟨s,hs',h0⟩;omega
    .obtain⟨s,hs',rfl⟩:=List.mem_map.1 ht;have:=xQ ⟨s,hs',h0⟩;omega
   refine ja (λk:Nat=>⟨mkV [(21,.one (.ptr 21 1 0 0)),(22,.one (.lit .nilIface)),(23,.one (.lit (.bool (depM (T.take k))))),(149,.one (.own 147 1 5 0 T.length)),(150,.one (.lit (.int .i64 T.length))),(151,.one (.lit (.int .i64 k)))],
    mkH [(147,⟨1,some ⟨T.map mC,5,true⟩⟩),(21,⟨1,some ⟨[[cb (rcan V),cn (rcan V),cd (rcan V)]],3,true⟩⟩)]⟩) (λk=>k<=T.length) (λk=>T.length-k) 0 ?_ ?_ ?_
   .exact qa (by simp [bitvec_to_nat,depM]) ⟨Wi rfl,ye,trivial⟩
   .exact Nat.zero_le _
   .intro k hk';by_cases hlt:k<T.length
    .obtain⟨y,hy⟩:∃y,T.getD k mo0=y:=⟨_,rfl⟩;have hy0:=getDm hlt hy;have hdt:depM (T.take (k+1))=(depM (T.take k) || decide (0<y.2.1)):=by
      unfold depM;rw [List.take_add_one,hy0,List.any_append];simp
     cases hdk:depM (T.take k) with
     | true=>
      rw [hdk,Bool.true_or]at hdt;simp only [go_sem,hlt,hy,mC];repeat first | refine q_Wk ?_ | intro _
      exact⟨k+1,qa (by simp [bitvec_to_nat,hdt]) ⟨Wi rfl,ye,trivial⟩,by omega,by omega⟩
     | false=>
      rw [hdk,Bool.false_or]at hdt;simp only [go_sem,hlt,hy,mC];repeat first | refine q_Wk ?_ | intro _
      exact⟨k+1,qa (by simp [bitvec_to_nat,hdt]) ⟨Wi rfl,ye,trivial⟩,by omega,by omega⟩
    .have et:T.take k=T:=List.take_of_length_le (by omega)
     rw [et];have rV:rz V<=4294967296:=by
      have h1:=qaT (x:=rv u) (b:=1000000) L1;rw [hV]at h1;have h2:=Nat.mul_le_mul L4 (show rz (rv u)+1000000+8<=1000009 by omega)
      omega
     by_cases hV0:V=0
     .have oV:ordQ V 0=0:=Zj.2 hV0;simp only [go_sem,hlt,hs,oV];exact⟨rV,hK⟩
     .have oV:¬ordQ V 0=0:=λh=>hV0 (Zj.1 h);have dV:depM T=false:=by
       cases h:depM T with
       | true=>exact absurd (dep0 h) hV0
       | false=>rfl
      simp only [go_sem,hlt,hs,oV,dV];exact⟨rV,hK⟩
end Go.Abs
end
section
namespace Go.Abs
open Go.Num
variable {P:Program} {Γ:Nat->Spec}
def zr:AC:=(.o [.m 2 (.c (.one .emp))] [0] (.o [.M 4 0,.Z 5 4,.M 3 5] [0,3] (.f (.block 0 (.loop (.f (.o [.M 6 3,.I 7 .gtr 6 0,.M 8 7,.V 9 8 true 0,.V 10 8 true 3,.w 11 8 true (.bin .sub (.t 10) (.i 1)),.w 12 8 true (.idx 1 (.t 9) (.t 11)),.U 13 8 true 1 false 12,.w 14 8 true (.bin .eql (.t 13) (.c (.one (.lit (.int .u32 0))))),.P 15 8 14] [0,3,15] (.cond (.t 15) .skip (.exit 0))) [0,3] (.block 1 (.p [.M 16 3,.I 17 .sub 16 1,.M 3 17]))))) [0,3] (.f (.o [.M 18 3,.I 19 .eql 18 0] [0,3,19] (.cond (.t 19) (.seq (.p [.m 2 (.c (.one .emp))]) .ret) .skip)) [0,3] (.seq (.p [.m 20 (.c (.one .emp)),.M 21 0,.M 22 3,.u 23 (.sl 1 (.t 21) none (some (.t 22))),.u 24 (.app0 1 (.t 20) (.t 23)),.M 2 24]) .ret)))))
def Vk:AC:=(.o [.m 4 (.c (.one (.lit (.int .u64 0))))] [0,1] (.f (.o [.M 5 1,.M 6 0,.Z 7 6,.B 8 .lss 5 7] [0,1,8] (.cond (.t 8) (.seq (.p [.M 9 0,.M 10 1,.J 11 1 9 10,.F 12 1 11,.u 13 (.conv .u64 (.t 12)),.M 4 13]) .ret) .skip)) [] (.seq (.p [.m 4 (.c (.one (.lit (.int .u64 0))))]) .ret)))
def xq(f0 f1:Nat):AC:=(.o [.m 4 (.c (.one .emp))] [0,1] (.o [.M 8 0,.Z 9 8,.M 10 1,.Z 11 10,.u 12 (.max [(.t 9),(.t 11)]),.I 13 .add 12 1,.u 14 (.mk 1 [(.lit (.int .u32 0))] (.t 13) (.t 13)),.M 5 14] [0,1,5] (.o [.m 6 (.c (.one (.lit (.int .u64 0))))] [0,1,5,6] (.f (.o [.M 15 5,.Z 16 15,.N 17 0] [0,1,5,6,16,17] (.block 0 (.loop (.o [.B 18 .lss 17 16] [0,1,5,6,16,17,18] (.f (.cond (.t 18) .skip (.exit 0)) [0,1,5,6,16,17] (.f (.block 1 (.o [.M 19 17,.M 7 19] [0,1,5,6,7,16,17] (.o [.M 20 6,.M 21 0,.M 22 7,.D 23 f0 21 22,.M 24 1,.M 25 7,.D 26 f0 24 25,.B 27 .add 23 26,.B 28 .add 20 27,.M 6 28] [0,1,5,6,7,16,17] (.o [.M 29 5,.M 30 7,.M 31 6,.u 32 (.conv .u32 (.t 31)),.J 33 1 29 30,.S 1 33 32] [0,1,5,6,16,17] (.p [.M 34 6,.u 35 (.bin .shr (.t 34) (.c (.one (.lit (.int .u64 32))))),.M 6 35]))))) [0,1,5,6,16,17] (.p [.I 36 .add 17 1,.M 17 36]))))))) [5] (.seq (.p [.M 37 5,.H 38 f1 37,.M 4 38]) .ret)))))
theorem uaF(hΓ:Holds P Γ){f:Nat}(hc:check P f=some (25,zr.strip,[.tmp 2])):Sound P f (.dat false Zp):=by
 refine Qa hc waK hΓ (λargs K hcl hfi hG=>?_);match args,hG with
 | [a],hG=>
  obtain⟨l,rfl,hl,hlen,hK⟩:=hG;refine⟨by simp,?_⟩
  simp only [go_sem,zr];intro hmax;refine ja (λn:Nat=>⟨mkV [(0,wsA l),(3,.one (.lit (.int .i64 n)))],mkH []⟩) (λn=>n<=l.length/\val (l.take n)=val l) id l.length ?_ ?_ ?_
  .exact qa (by simp [bitvec_to_nat]) trivial
  .simp
  .rintro n ⟨hn,ht⟩;simp only [go_sem];refine⟨λh=>⟨by omega,by omega,by omega,λh0=>⟨by omega,n-1,qa (by simp [bitvec_to_nat];omega) trivial,⟨by omega,?_⟩,?_⟩,λh0=>⟨λh1=>by omega,λ_=>⟨by omega,by simp;omega,?_⟩⟩⟩,λh=>⟨λh1=>?_,λh1=>by omega⟩⟩
   .rw [show((n:Int)-1).toNat=n-1 by omega]at h0
    have:=Vb l (n-1);rw [show n-1+1=n by omega,h0,Nat.mul_zero,Nat.add_zero]at this
    rw [<-this];exact ht
   .simp only [id];omega
   .rw [show((n:Int)-1).toNat=n-1 by omega]at h0
    have:=kd (Xu hl n) (JJ h hn h0);rw [<-this,ht];exact hK
   .subst h1;have:val l=0:=by rw [<-ht];simp [val]
    rw [this,Qb]at hK;exact hK
theorem UM(hΓ:Holds P Γ){f:Nat}(hc:check P f=some (14,Vk.strip,[.tmp 4])):Sound P f (.dat true Yj):=by
 refine Qa hc yaX hΓ (λargs K hcl hfi hG=>?_);match args,hG with
 | [a,b],hG=>
  obtain⟨l,rfl,hl,hG⟩:=hG;obtain⟨k,i,rfl,rfl,hi,hK⟩:=ua hG;refine⟨by simp,?_⟩
  simp only [go_sem,Vk];intro hmax;refine⟨λh=>⟨hi,by omega,?_⟩,λh=>?_⟩
  .have:=Jb hl i.toNat;rw [Nat.mod_eq_of_lt (by omega)];exact hK
  .rw [List.getD_eq_getElem?_getD,List.getElem?_eq_none (by omega)]at hK;exact hK
theorem vaF(hΓ:Holds P Γ){f fw ft:Nat}(hw:Γ fw=.dat true Yj)(ht:Γ ft=.dat false Zp)(hc:check P f=some (39,(xq fw ft).strip,[.tmp 4])):Sound P f (.dat false Qn):=by
 refine Qa hc QX hΓ (λargs K hcl hfi hG=>?_);match args,hG with
 | [a,b],hG=>
  obtain⟨x,rfl,hx,y,rfl,hy,hxl,hyl,hK⟩:=hG;refine⟨by simp,?_⟩
  simp only [go_sem,xq,hw,ht];intro h1 h2;refine⟨by omega,by omega,λhN=>?_⟩
  generalize hNN:max x.length y.length+1=N at hN;refine ja (λp:List Nat×Nat=>⟨mkV [(0,wsA x),(1,wsA y),(5,.one (.own 14 1 1 0 N)),(6,.one (.lit (.int .u64 p.2))),(16,.one (.lit (.int .i64 N))),(17,.one (.lit (.int .i64 p.1.length)))],mkH [(14,⟨1,some ⟨(p.1++List.replicate (N-p.1.length) 0).map wc,1,true⟩⟩)]⟩)
   (λp=>p.1.length<=N/\WL p.1/\p.2<=1/\val p.1+4294967296 ^ p.1.length*p.2=val (x.take p.1.length)+val (y.take p.1.length)) (λp=>N-p.1.length) ([],0) ?_ ?_ ?_
  .exact qa (by simp [bitvec_to_nat]) (vh (by simp))
  .simp [Ub,val]
  .rintro⟨o,c⟩ ⟨hoN,ho,hc1,hval⟩;simp only at hoN ho hc1 hval;have hlen:(o++List.replicate (N-o.length) 0).length=N:=by simp;omega
   simp only [go_sem,hw,ht,hlen];refine⟨λhlt=>⟨hx,hy,hlt,hlt,by omega,by omega,?_⟩,λhge=>?_⟩
   .have g1:=Jb hx o.length;have g2:=Jb hy o.length;rw [Nat.mod_eq_of_lt (show x.getD o.length 0+y.getD o.length 0<18446744073709551616 by omega),Nat.mod_eq_of_lt (show c+(x.getD o.length 0+y.getD o.length 0)<18446744073709551616 by omega)]
    generalize hs:c+(x.getD o.length 0+y.getD o.length 0)=s;refine⟨(o++[s % 4294967296],s / 4294967296),qa (by simp [bitvec_to_nat]) (vh ?_),⟨by simp;omega,Qe.2 ⟨ho,Xb.2 ⟨Nat.mod_lt _ (by omega),Ub⟩⟩,by simp only;omega,?_⟩,by simp;omega⟩
    .rw [show N-o.length=N-(o.length+1)+1 by omega,xak];simp
    .simp only [List.length_append,List.length_cons,List.length_nil,Nat.zero_add,Vb,Yb,Vh,Ql,Nat.mul_zero,Nat.add_zero,Nat.pow_succ];rw [Nat.mul_assoc,Nat.add_assoc,<-Nat.mul_add,Nat.mod_add_div,<-hs,Nat.mul_add,<-Nat.add_assoc,hval,Nat.mul_add];omega
   .have e:o.length=N:=by omega
    simp only [e,Nat.sub_self,List.replicate_zero,List.append_nil,Nat.le_refl,if_true,VD];have hv:val o=val x+val y:=by
     rw [e,xi (by omega),xi (by omega)]at hval
     exact yan hx hy (by omega) (by omega) (by omega) hval
    refine⟨ho,by omega,?_⟩
    rw [hv];exact hK
end Go.Abs
end
