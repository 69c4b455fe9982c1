/-
  Parts of the proof, merged: BipH, BipU, CogT, BipT, BipV, BipW, BipX, BipY, BipZ, IntC.
-/
import Derived.Test.YthoibmokhnoccaaGreatDoorM11
import Derived.Lib.Join
set_option linter.unusedVariables false
set_option linter.unusedSimpArgs false
set_option maxRecDepth 100000
section
namespace Go.Num
open Go.Abs
def erC(p q:List Mo):Nat:=if chk2 p q≠0 then chk2 p q else if p=[]∨q=[] then 8 else if 8<topY (p.map mv)+topY (q.map mv)-2∨64<degM p*degM q then 4 else 0
end Go.Num
namespace Go.Abs
open Go.Num
variable {P:Program} {Γ:Nat->Spec}
theorem Jaa(l:List Rat):plC l=[.slice ((l.map rcan).map rC)]:=eq_of_heq (HEq.refl _)
theorem qa4(l:List Rat):(plC l).length=1:=eq_of_heq (HEq.refl _)
theorem Yan(K:List C->Prop)(L:PL)(i:Nat):getE K (L.map plC) i=(i<L.length/\K (plC (L.getD i []))):=by
 simp only [getE,List.length_map,List.getElem?_map];refine propext ⟨λh=>⟨h.1,h.2 _ (by simp [h.1,List.getD_eq_getElem?_getD])⟩,λh=>⟨h.1,λe he=>?_⟩⟩
 simp [h.1]at he;subst he;have:=h.2;simpa [List.getD_eq_getElem?_getD,h.1] using this
theorem YH(L:PL):CleanR (L.map plC)=True:=eq_true λe he c hc=>by
 obtain⟨l,_,rfl⟩:=List.mem_map.1 he;rw [Jaa,List.mem_singleton]at hc;subst hc;exact of_eq_true (XD _)
theorem UaP(L:PL):(∀e∈L.map plC,e.length=1)=True:=eq_true λe he=>by
 obtain⟨l,_,rfl⟩:=List.mem_map.1 he;rfl
theorem Jab(L:PL):Clean (.slice (L.map plC))=True:=eq_true (.slice _ (of_eq_true (YH L)))
attribute [go_sem,go_sem ↓] qa4 Yan YH UaP Jab
theorem zbN{a b ver:Nat}(L:List Rat):swB a b ⟨ver,some ⟨(L.map rcan).map rC,3,true⟩⟩=⟨ver,some ⟨(L.map rcan).map rC,3,true⟩⟩:=by
 unfold swB;simp only [Option.map_some,HB.mk.injEq,Option.some.injEq,Blk.mk.injEq,and_true,true_and];rw [List.map_map];exact List.map_congr_left λj _=>rfl
def valC(t:Nat):C:=if t=0 then .emp else .own 99 1 3 0 t
def valB(t:Nat)(L:List Rat):HB:=if t=0 then ⟨0,none⟩ else ⟨1,some ⟨((L.take t).map rcan).map rC,3,true⟩⟩
theorem WQ{h h' : Nat->HB}{t:Nat}{L:List Rat}{b:HB}(e:t≠0->b.blk=some ⟨((L.take t).map rcan).map rC,3,true⟩):okB h h' b.blk (valB t L).blk:=by
 unfold valB;by_cases h:t=0
 .rw [if_pos h];cases b.blk <;> trivial
 .rw [if_neg h,e h];exact Jn rfl
theorem Xag(L:List Rat)(x:Rat):(L.map rcan).map rC++[[cb (rcan x),cn (rcan x),cd (rcan x)]]=((L++[x]).map rcan).map rC:=by simp [rC]
def Vu(tE:Nat)(l:List AV)(K:AV->Prop):Prop:=
 match l with
 | [a,b]=>onMs (λp=>onMs (λq=>(∀t∈p,rl t.2.2<=1000000)/\(∀t∈q,rl t.2.2<=1000000)/\(erC p q=0->degM p*degM q<=9/\SmE (p.map mv) (q.map mv))/\K (.tup [.one (.slice (((if erC p q=0 then elL (p.map mv) (q.map mv) else []).map rcan).map rC)),errV tE (erC p q)])) b) a
 | _=>False
theorem Yar tE a b K:Vu tE [a,b] K=(onMs (λp=>onMs (λq=>(∀t∈p,rl t.2.2<=1000000)/\(∀t∈q,rl t.2.2<=1000000)/\(erC p q=0->degM p*degM q<=9/\SmE (p.map mv) (q.map mv))/\K (.tup [.one (.slice (((if erC p q=0 then elL (p.map mv) (q.map mv) else []).map rcan).map rC)),errV tE (erC p q)])) b) a):=propext Iff.rfl
@[congr] theorem JbO tE{K}{l l'}(h:l=l'):Vu tE l K=Vu tE l' K:=by subst h;rfl
attribute [go_sem,go_sem ↓] Yar
theorem kaI(tE:Nat):Good (Vu tE):=Ja λas=>by
 unfold Vu;split
 .exact(kh λ_=>(kh λ_=>(.and λ_=>(.and λ_=>(.and λ_=>(.ret _))))))
 .exact .of λK hk=>hk.elim
def Wb(f0 f1 f2 f3 f4 f5 f6 tE:Nat):AC:=(.o [.m 4 (.c (.one .emp)),.m 5 (.c (.one (.lit .nilIface)))] [0,1] (.f (.o [.M 22 0,.M 23 1,.u 24 (.row 1 [[.x 1 (.t 22)],[.x 1 (.t 23)]]),.H 25 f0 24,.M 6 25] [0,1,6] (.o [.M 26 6,.R 27 26] [0,1,6,27] (.cond (.t 27) (.seq (.p [.M 28 6,.m 4 (.c (.one .emp)),.M 5 28]) .ret) .skip))) [0,1] (.f (.o [.M 29 0,.Z 30 29,.I 31 .eql 30 0,.M 32 31,.V 33 32 false 1,.w 34 32 false (.len (.t 33)),.w 35 32 false (.bin .eql (.t 34) (.i 0)),.Q 36 32 35] [0,1,36] (.cond (.t 36) (.seq (.p [.u 37 (.iface tE (.i 8)),.m 4 (.c (.one .emp)),.M 5 37]) .ret) .skip)) [0,1] (.o [.M 38 0,.H 39 f1 38,.M 40 1,.H 41 f1 40,.M 7 39,.M 8 41] [0,1,7,8] (.f (.o [.M 42 7,.Z 43 42,.M 44 8,.Z 45 44,.B 46 .add 43 45,.I 47 .sub 46 2,.I 48 .gtr 47 8,.M 49 48,.V 50 49 false 0,.W 51 49 false f2 50,.V 52 49 false 1,.W 53 49 false f2 52,.w 54 49 false (.bin .mul (.t 51) (.t 53)),.w 55 49 false (.bin .gtr (.t 54) (.i 64)),.Q 56 49 55] [0,1,7,8,56] (.cond (.t 56) (.seq (.p [.u 57 (.iface tE (.i 4)),.m 4 (.c (.one .emp)),.M 5 57]) .ret) .skip)) [0,1,7,8] (.o [.m 9 (.c (.one .emp)),.m 10 (.c (.one .emp))] [0,1,7,8,9,10] (.f (.o [.M 58 0,.H 59 f2 58,.M 60 1,.H 61 f2 60,.B 62 .mul 59 61,.I 63 .add 62 1,.N 64 0] [7,8,9,10,63,64] (.block 0 (.loop (.o [.B 65 .lss 64 63] [7,8,9,10,63,64,65] (.f (.cond (.t 65) .skip (.exit 0)) [7,8,9,10,63,64] (.f (.block 1 (.o [.M 66 64,.M 11 66] [7,8,9,10,11,63,64] (.o [.M 67 11,.H 68 f3 67,.G 12 [.z,.emp,.emp],.S 3 12 68] [7,8,9,10,12,63,64] (.o [.G 13 [.emp,.emp]] [7,8,9,10,12,13,63,64] (.f (.o [.M 69 7,.M 70 8,.u 71 (.row 1 [[.x 1 (.t 69)],[.x 1 (.t 70)]]),.Z 72 71,.N 73 0] [7,8,9,10,12,13,63,64,71,72,73] (.block 2 (.loop (.o [.B 74 .lss 73 72] [7,8,9,10,12,13,63,64,71,72,73,74] (.f (.cond (.t 74) .skip (.exit 2)) [7,8,9,10,12,13,63,64,71,72,73] (.f (.block 3 (.o [.M 75 73,.J 76 1 71 73,.F 77 1 76,.M 14 75,.M 15 77] [7,8,9,10,12,13,14,15,63,64,71,72,73] (.o [.M 78 15,.Z 79 78,.N 80 0] [7,8,9,10,12,13,14,63,64,71,72,73,78,79,80] (.block 4 (.loop (.o [.B 81 .lss 80 79] [7,8,9,10,12,13,14,63,64,71,72,73,78,79,80,81] (.f (.cond (.t 81) .skip (.exit 4)) [7,8,9,10,12,13,14,63,64,71,72,73,78,79,80] (.f (.block 5 (.o [.J 82 1 78 80,.F 83 1 82,.M 17 83] [7,8,9,10,12,13,14,17,63,64,71,72,73,78,79,80] (.o [.M 85 17,.L 86 3 12,.D 87 f4 85 86,.M 84 87,.X 88 0 84,.X 89 1 84,.G 18 [.z,.emp,.emp],.S 3 18 88,.M 19 89] [7,8,9,10,12,13,14,18,19,63,64,71,72,73,78,79,80] (.f (.o [.M 90 19,.R 91 90] [7,8,9,10,12,13,14,18,19,63,64,71,72,73,78,79,80,91] (.cond (.t 91) (.seq (.p [.M 92 19,.m 4 (.c (.one .emp)),.M 5 92]) .ret) .skip)) [7,8,9,10,12,13,14,18,63,64,71,72,73,78,79,80] (.y [.M 93 14,.M 94 14,.u 95 (.ai 1 2 (.t 13) (.t 94)),.F 96 1 95,.L 97 3 18,.u 98 (.row 3 [[.x 3 (.t 97)]]),.u 99 (.app 3 (.t 96) (.t 98)),.u 100 (.ai 1 2 (.t 13) (.t 93)),.S 1 100 99]))))) [7,8,9,10,12,13,14,63,64,71,72,73,78,79,80] (.p [.I 101 .add 80 1,.M 80 101]))))))))) [7,8,9,10,12,13,63,64,71,72,73] (.p [.I 102 .add 73 1,.M 73 102]))))))) [7,8,9,10,12,13,63,64] (.o [.u 104 (.ai 1 2 (.t 13) (.i 0)),.F 105 1 104,.u 106 (.ai 1 2 (.t 13) (.i 1)),.F 107 1 106,.D 108 f5 105 107,.M 103 108,.X 109 0 103,.X 110 1 103,.G 20 [.z,.emp,.emp],.S 3 20 109,.M 21 110] [7,8,9,10,12,20,21,63,64] (.f (.o [.M 111 21,.R 112 111] [7,8,9,10,12,20,21,63,64,112] (.cond (.t 112) (.seq (.p [.M 113 21,.m 4 (.c (.one .emp)),.M 5 113]) .ret) .skip)) [7,8,9,10,12,20,63,64] (.y [.M 114 9,.u 115 (.ld (some 12) 3 true (.t 12)),.u 116 (.row 3 [[.x 3 (.t 115)]]),.u 117 (.appb 117 3 (.t 114) (.t 116)),.M 118 10,.u 119 (.ld (some 20) 3 true (.t 20)),.u 120 (.row 3 [[.x 3 (.t 119)]]),.u 121 (.appb 121 3 (.t 118) (.t 120)),.M 9 117,.M 10 121])))))))) [7,8,9,10,63,64] (.p [.I 122 .add 64 1,.M 64 122]))))))) [9,10] (.seq (.p [.M 123 9,.M 124 10,.D 125 f6 123 124,.X 126 0 125,.X 127 1 125,.M 4 126,.M 5 127]) .ret))))))))
theorem jan(hΓ:Holds P Γ){f fk fr fd fo fe fv ft tE:Nat}(hk:Γ fk=.dat false (Zg tE))(hr:Γ fr=.dat false Qv)(hd:Γ fd=.dat true kr)(ho:Γ fo=.dat false Qy)(he:Γ fe=.dat false (xq tE))(hvl:Γ fv=.dat false (Xo tE))(ht:Γ ft=.dat false (Jw tE))(hc:check P f=some (128,(Wb fk fr fd fo fe fv ft tE).strip,[.tmp 4,.tmp 5])):Sound P f (.dat false (Vu tE)):=by
 refine Qa hc (kaI tE) hΓ (λargs K hcl hfi hG=>?_);match args,hG with
 | [a0,a1],hG=>
  obtain⟨p,rfl,hwp,q,rfl,hwq,hrp,hrq,hside,hK⟩:=hG;refine⟨by simp,?_⟩
  have hrp4:∀t∈p,rl t.2.2<=4294967296:=λt ht=>Nat.le_trans (hrp t ht) (by decide)
  have hrq4:∀t∈q,rl t.2.2<=4294967296:=λt ht=>Nat.le_trans (hrq t ht) (by decide)
  by_cases h0:chk2 p q=0
  case neg=>
   have ec:erC p q=chk2 p q:=if_pos h0;rw [ec,if_neg h0,Qe tE h0]at hK;have e1:=Qe tE h0;simp only [go_sem,Wb,hk,e1,ms];exact⟨⟨hwp,hwq⟩,hrp4,hrq4,hK⟩
  have e0:=Zd tE;obtain⟨c1,c2⟩:=QaC h0;have ec:erC p q=if p=[]∨q=[] then 8 else if 8<topY (p.map mv)+topY (q.map mv)-2∨64<degM p*degM q then 4 else 0:=if_neg (by simp [h0])
  by_cases hp0:p=[]
  .rw [if_pos (.inl hp0)]at ec;rw [ec,if_neg (by decide),Qe tE (by decide)]at hK
   have l0:p.length=0:=List.length_eq_zero_iff.2 hp0;simp only [go_sem,Wb,hk,h0,e0,ms,l0];exact⟨⟨hwp,hwq⟩,hrp4,hrq4,hK⟩
  have lp0:p.length≠0:=λe=>hp0 (List.length_eq_zero_iff.1 e);have lp0' : ¬(p.length:Int)=0:=by omega
  by_cases hq0:q=[]
  .rw [if_pos (.inr hq0)]at ec;rw [ec,if_neg (by decide),Qe tE (by decide)]at hK
   have l0:q.length=0:=List.length_eq_zero_iff.2 hq0;simp only [go_sem,Wb,hk,h0,e0,ms,l0,lp0'];refine⟨⟨hwp,hwq⟩,?_⟩;repeat first | refine q_Wk ?_ | intro _
   exact hK
  have lq0:q.length≠0:=λe=>hq0 (List.length_eq_zero_iff.1 e);have lq0' : ¬(q.length:Int)=0:=by omega
  rw [if_neg (λh=>h.elim hp0 hq0)]at ec;obtain⟨canp,mcp⟩:=Xq c1 hwp;obtain⟨canq,mcq⟩:=Xq c2 hwq;obtain⟨i1,_,l1⟩:=um c1 hwp;obtain⟨i2,_,l2⟩:=um c2 hwq;have hrp9:∀t∈p,rl t.2.2<=4000000000:=λt ht=>Nat.le_trans (hrp t ht) (by decide)
  have hrq9:∀t∈q,rl t.2.2<=4000000000:=λt ht=>Nat.le_trans (hrq t ht) (by decide)
  have t1:=qak canp.ins;have t2:=qak canq.ins;have t3:=yas (p:=p.map mv) (by simpa using hp0)
  have t4:=yas (p:=q.map mv) (by simpa using hq0)
  have la:=Qt (p.map mv);have lb:=Qt (q.map mv);have d1:=yC canp;have d2:=yC canq;have d3:=YF canp (by simpa using hp0)
  have d4:=YF canq (by simpa using hq0)
  rw [<-Jh,mcp]at d1 d3;rw [<-Jh,mcq]at d2 d4;obtain⟨dp,hdp⟩:=Int.eq_ofNat_of_zero_le d3;obtain⟨dq,hdq⟩:=Int.eq_ofNat_of_zero_le d4;have hdpq:degM p*degM q=((dp*dq:Nat):Int):=by rw [hdp,hdq,Int.natCast_mul]
  have hdpq' : (dp:Int)*(dq:Int)=((dp*dq:Nat):Int):=(Int.natCast_mul ..).symm;have hdpq24:dp*dq<=24*24:=Nat.mul_le_mul (by omega) (by omega)
  obtain⟨a,ha⟩:∃a,topY (p.map mv)=a:=⟨_,rfl⟩;obtain⟨b,hb⟩:∃b,topY (q.map mv)=b:=⟨_,rfl⟩;rw [ha]at t1 t3 la;rw [hb]at t2 t4 lb;rw [ha,hb,hdpq]at ec;have lenpq:((rowsP (p.map mv)).length:Int)+((rowsP (q.map mv)).length:Int)-2=((a+b-2:Nat):Int):=by omega
  by_cases h8:8<a+b-2
  .have h8' : (8:Int)<((a+b:Nat):Int)-2:=by omega
   rw [if_pos (.inl h8)]at ec;rw [ec,if_neg (by decide),Qe tE (by decide)]at hK
   simp only [go_sem,Wb,hk,hr,hd,h0,c1,c2,e0,ms,lp0',lq0',lenpq,hdp,hdq,hdpq',la,lb,h8'];refine⟨⟨hwp,hwq⟩,?_⟩;repeat first | refine q_Wk ?_ | intro _
   exact hK
  have h8' : ¬(8:Int)<((a+b:Nat):Int)-2:=by omega
  by_cases h64:64<dp*dq
  .have h64' : (64:Int)<((dp*dq:Nat):Int):=by omega
   rw [if_pos (.inr h64')]at ec;rw [ec,if_neg (by decide),Qe tE (by decide)]at hK
   simp only [go_sem,Wb,hk,hr,hd,h0,c1,c2,e0,ms,lp0',lq0',lenpq,hdp,hdq,hdpq',la,lb,h8',h64'];refine⟨⟨hwp,hwq⟩,?_⟩;repeat first | refine q_Wk ?_ | intro _
   exact hK
  have h64' : ¬(64:Int)<((dp*dq:Nat):Int):=by omega
  rw [if_neg (λh=>h.elim h8 h64')]at ec;obtain⟨hd9,hsm⟩:=hside ec;rw [hdpq]at hd9;rw [ec,if_pos rfl,e0]at hK;simp only [go_sem,Wb,hk,hr,hd,h0,c1,c2,e0,ms,lp0',lq0',lenpq,hdp,hdq,hdpq',la,lb,h8',h64'];refine⟨⟨hwp,hwq⟩,?_⟩;repeat first | refine q_Wk ?_ | intro _
  obtain⟨n,hn⟩:∃n,dp*dq+1=n:=⟨_,rfl⟩;rw [hn];have hn10:n<=10:=by omega
  obtain⟨pq,hpq⟩:∃u,p.map mv=u:=⟨_,rfl⟩;obtain⟨qq,hqq⟩:∃u,q.map mv=u:=⟨_,rfl⟩;rw [hpq,hqq]at hK ⊢;rw [hpq]at la canp ha;rw [hqq]at lb canq hb;rw [hpq,hqq]at hsm;obtain⟨D,E,hD0,hDw,hEw,bp,bq⟩:=hsm;refine ja (λk:Nat=>⟨mkV [(7,.one (.slice ((rowsP pq).map plC))),(8,.one (.slice ((rowsP qq).map plC))),(9,if k=0 then .one .emp else .one (.own 117 1 3 0 k)),(10,if k=0 then .one .emp else .one (.own 121 1 3 0 k)),(63,.one (.lit (.int .i64 n))),(64,.one (.lit (.int .i64 k)))],mkH (if k=0 then [] else [(117,⟨1,some ⟨((xsn k).map rcan).map rC,3,true⟩⟩),(121,⟨1,some ⟨((ysE pq qq k).map rcan).map rC,3,true⟩⟩)])⟩) (λk=>k<=n) (λk=>n-k) 0 ?_ ?_ ?_
  .exact qa (by simp [bitvec_to_nat]) trivial
  .exact Nat.zero_le _
  .intro k hkn;obtain⟨s9,hs9⟩:∃s:AV,(if k=0 then .one .emp else .one (.own 117 1 3 0 k))=s:=⟨_,rfl⟩
   obtain⟨s10,hs10⟩:∃s:AV,(if k=0 then .one .emp else .one (.own 121 1 3 0 k))=s:=⟨_,rfl⟩
   obtain⟨Z,hZ⟩:∃Z:List (Nat×HB),(if k=0 then [] else [(117,⟨1,some ⟨((xsn k).map rcan).map rC,3,true⟩⟩),(121,⟨1,some ⟨((ysE pq qq k).map rcan).map rC,3,true⟩⟩)])=Z:=⟨_,rfl⟩
   rw [hs9,hs10,hZ];have zno:∀r,r≠117->r≠121->mkH Z r=⟨0,none⟩:=λr h1 h2=>by
    rw [<-hZ];split
    .rfl
    .rw [za,if_neg h1,za,if_neg h2];rfl
   have zv:∀h h',h 117=mkH Z 117->h' 117=mkH Z 117->h 121=mkH Z 121->h' 121=mkH Z 121->okV h h' s9 s9/\okV h h' s10 s10:=λh h' h1 h2 h3 h4=>by
    rw [<-hZ]at h1 h2 h3 h4;rw [<-hs9,<-hs10];by_cases k0:k=0
    .rw [if_pos k0,if_pos k0];exact⟨trivial,trivial⟩
    .rw [if_neg k0]at h1 h2 h3 h4;rw [if_neg k0,if_neg k0];simp [za,-List.map_map]at h1 h2 h3 h4;simp [okV,okC,h1,h2,h3,h4]
   have z3:∀(h h' : Nat->HB) (R:Prop),h 117=mkH Z 117->h' 117=mkH Z 117->h 121=mkH Z 121->h' 121=mkH Z 121->R->okV h h' s9 s9/\okV h h' s10 s10/\R:=λh h' R h1 h2 h3 h4 r=>⟨(zv h h' h1 h2 h3 h4).1,(zv h h' h1 h2 h3 h4).2,r⟩;have zh:∀h h',h 117=mkH Z 117->h 121=mkH Z 121->okH h h' Z:=λh h' h1 h2=>by
    rw [<-hZ]at h1 h2 ⊢;by_cases k0:k=0
    .rw [if_pos k0];trivial
    .rw [if_neg k0]at h1 h2 ⊢;simp [za,-List.map_map]at h1 h2;refine⟨?_,?_,trivial⟩
     .rw [h1];exact Jn rfl
     .rw [h2];exact Jn rfl
   by_cases hlt:k<n
   .have hlt' : (k:Int)<(n:Int):=by omega
    have z12:=zno 12 (by decide) (by decide)
    have z13:=zno 13 (by decide) (by decide)
    have z18:=zno 18 (by decide) (by decide)
    have z20:=zno 20 (by decide) (by decide)
    have z99:=zno 99 (by decide) (by decide)
    simp only [go_sem,hlt',z12,z13,ho,Rat.intCast_natCast];repeat first | refine q_Wk ?_ | intro _
    obtain⟨va,hva⟩:∃l,(rowsP pq).map (λl=>hv l (k:Rat))=l:=⟨_,rfl⟩;obtain⟨vb,hvb⟩:∃l,(rowsP qq).map (λl=>hv l (k:Rat))=l:=⟨_,rfl⟩;have lva:va.length=a:=by rw [<-hva,List.length_map,la]
    have lvb:vb.length=b:=by rw [<-hvb,List.length_map,lb]
    have sw9:swA 99 500 s9=s9/\swA 99 500 s10=s10/\swK 99 500 Z=Z:=by
     rw [<-hs9,<-hs10,<-hZ];by_cases k0:k=0
     .simp only [if_pos k0];exact⟨rfl,rfl,rfl⟩
     .simp only [if_neg k0];refine⟨rfl,rfl,?_⟩;simp only [xaV,jbB,zbN];rfl
    refine Vax 2 ⟨mkV [(9,s9),(10,s10),(7,.one (.slice ((rowsP pq).map plC))),(8,.one (.slice ((rowsP qq).map plC))),(12,.one (.ptr 12 1 0 0)),(13,.one (.ptr 13 1 0 0)),(63,.one (.lit (.int .i64 n))),(64,.one (.lit (.int .i64 k))),(71,.one (.full [[.slice ((rowsP pq).map plC)],[.slice ((rowsP qq).map plC)]])),(72,.one (.lit (.int .i64 2))),(73,.one (.lit (.int .i64 0)))],mkH ((13,⟨1,some ⟨[[.emp,.emp]],2,true⟩⟩)::(12,⟨1,some ⟨[[cb (rcan (k:Rat)),cn (rcan (k:Rat)),cd (rcan (k:Rat))]],3,true⟩⟩)::Z)⟩ ?_ ?_
    .have z:=zv (mkH ((13,⟨1,some ⟨[[.emp,.emp]],2,true⟩⟩)::(12,⟨1,some ⟨[[cb (rcan (k:Rat)),cn (rcan (k:Rat)),cd (rcan (k:Rat))]],3,true⟩⟩)::(12,⟨1,some ⟨[[.lit (.bool false),.emp,.emp]],3,true⟩⟩)::Z)) (mkH ((13,⟨1,some ⟨[[.emp,.emp]],2,true⟩⟩)::(12,⟨1,some ⟨[[cb (rcan (k:Rat)),cn (rcan (k:Rat)),cd (rcan (k:Rat))]],3,true⟩⟩)::Z)) (by simp [za]) (by simp [za]) (by simp [za]) (by simp [za])
     refine qa ?_ ⟨⟨⟨rfl,rfl⟩,.inr (by simp [bitvec_to_nat])⟩,Yd,zh _ _ (by simp [za]) (by simp [za])⟩
     simp only [okS,Un,Nat.reduceEqDiff,if_false,if_true];exact⟨z.1,z.2,by simp [bitvec_to_nat]⟩
    .simp only [go_sem,Int.reduceLT,decide_true];repeat first | refine q_Wk ?_ | intro _
     refine ja (λt:Nat=>⟨mkV [(9,s9),(10,s10),(7,.one (.slice ((rowsP pq).map plC))),(8,.one (.slice ((rowsP qq).map plC))),(12,.one (.ptr 12 1 0 0)),(13,.one (.ptr 13 1 0 0)),(14,.one (.lit (.int .i64 0))),(63,.one (.lit (.int .i64 n))),(64,.one (.lit (.int .i64 k))),(71,.one (.full [[.slice ((rowsP pq).map plC)],[.slice ((rowsP qq).map plC)]])),(72,.one (.lit (.int .i64 2))),(73,.one (.lit (.int .i64 0))),(78,.one (.slice ((rowsP pq).map plC))),(79,.one (.lit (.int .i64 a))),(80,.one (.lit (.int .i64 t)))],mkH ((13,⟨1,some ⟨[[valC t,.emp]],2,true⟩⟩)::(12,⟨1,some ⟨[[cb (rcan (k:Rat)),cn (rcan (k:Rat)),cd (rcan (k:Rat))]],3,true⟩⟩)::(99,valB t va)::Z)⟩) (λt=>t<=a) (λt=>a-t) 0 ?_ ?_ ?_
     .have z:=zv (mkH ((13,⟨1,some ⟨[[.emp,.emp]],2,true⟩⟩)::(12,⟨1,some ⟨[[cb (rcan (k:Rat)),cn (rcan (k:Rat)),cd (rcan (k:Rat))]],3,true⟩⟩)::Z)) (mkH ((13,⟨1,some ⟨[[valC 0,.emp]],2,true⟩⟩)::(12,⟨1,some ⟨[[cb (rcan (k:Rat)),cn (rcan (k:Rat)),cd (rcan (k:Rat))]],3,true⟩⟩)::(99,valB 0 va)::Z)) (by simp [za]) (by simp [za]) (by simp [za]) (by simp [za])
      refine qa ?_ ⟨⟨⟨rfl,rfl⟩,.inr (by simp [bitvec_to_nat,valC])⟩,Yd,WQ (λh=>(h rfl).elim),zh _ _ (by simp [za]) (by simp [za])⟩
      simp only [okS,Un,Nat.reduceEqDiff,if_false,if_true];exact⟨z.1,z.2,by simp [bitvec_to_nat,la]⟩
     .exact Nat.zero_le _
     .intro t hta;by_cases htl:t<a
      .have htl' : (t:Int)<(a:Int):=by omega
       obtain⟨c,hcc⟩:∃c,(rowsP pq).getD t []=c:=⟨_,rfl⟩;have hcm:c∈rowsP pq:=by
        rw [<-hcc,List.getD_eq_getElem?_getD,List.getElem?_eq_getElem (by omega)]
        exact List.getElem_mem _
       obtain⟨tc1,tc2⟩:=QQ hcm;have rc:=ka2 hD0 hDw hEw canp bp hcm;have rc6:∀x∈c,rz x<=1000000:=λx hx=>Nat.le_trans (rc x hx) (by decide)
       have rk:=Yv (k:=k) (by omega)
       obtain⟨y,hy⟩:∃y,hv c (k:Rat)=y:=⟨_,rfl⟩;have hvt:va.take (t+1)=va.take t++[y]:=by
        rw [List.take_add_one,<-hva,List.getElem?_map,<-hy,<-hcc,List.getD_eq_getElem?_getD,List.getElem?_eq_getElem (by omega)]
        rfl
       have c65:c.length<=65:=by omega
       rcases Nat.eq_zero_or_pos t with t0 | t0
       case' inl=>
        subst t0;have eC:valC 0=.emp:=rfl;have eB:valB 0 va=⟨0,none⟩:=rfl;rw [eC,eB];simp only [go_sem,htl,htl',Jaa,hcc,he,e0,rQ,hy,la,z18,Int.toNat_zero,Int.toNat_natCast];repeat first | refine q_Wk ?_ | intro _
       case' inr=>
        have eC:valC t=.own 99 1 3 0 t:=if_neg (by omega)
        have eB:valB t va=⟨1,some ⟨((va.take t).map rcan).map rC,3,true⟩⟩:=if_neg (by omega)
        have htk:(((va.take t).map rcan).map rC).take t=((va.take t).map rcan).map rC:=List.take_of_length_le (by rw [List.length_map,List.length_map,List.length_take];omega)
        have hlv:((va.take t).map rcan).length=t:=by rw [List.length_map,List.length_take];omega
        rw [eC,eB];simp only [go_sem,htl,htl',Jaa,hcc,he,e0,rQ,hy,la,z18,htk,hlv,List.length_map,Xag,Int.toNat_zero,Int.toNat_natCast];repeat first | refine q_Wk ?_ | intro _
       all_goals
        refine⟨λe he=>by rw [List.mem_singleton.1 he];rfl,?_⟩
        repeat first | refine q_Wk ?_ | intro _
       case' inl=>refine⟨0+1,?_,by omega,by omega⟩
       case' inr=>refine⟨t+1,?_,by omega,by omega⟩
       all_goals
        refine qa ?_ ⟨⟨⟨rfl,rfl⟩,.inr (by simp [bitvec_to_nat,valC,valB])⟩,Yd,WQ (λ_=>?_),zh _ _ (by simp [za]) (by simp [za])⟩
        .simp only [okS,Un,Nat.reduceEqDiff,if_false,if_true];refine z3 _ _ _ (by simp [za]) (by simp [za]) (by simp [za]) (by simp [za]) ?_
         simp [bitvec_to_nat]
        .rw [hvt];simp [za,rC]
      .have eta:t=a:=by omega
       have htl' : ¬(t:Int)<(a:Int):=by omega
       have eC:valC t=.own 99 1 3 0 a:=by rw [eta];exact if_neg (by omega)
       have eB:valB t va=⟨1,some ⟨(va.map rcan).map rC,3,true⟩⟩:=by
        rw [eta];unfold valB;rw [if_neg (by omega),List.take_of_length_le (by omega)]
       rw [eC,eB];simp only [go_sem,htl'];repeat first | refine q_Wk ?_ | intro _
       refine vai ⟨mkV [(9,s9),(10,s10),(7,.one (.slice ((rowsP pq).map plC))),(8,.one (.slice ((rowsP qq).map plC))),(12,.one (.ptr 12 1 0 0)),(13,.one (.ptr 13 1 0 0)),(63,.one (.lit (.int .i64 n))),(64,.one (.lit (.int .i64 k))),(71,.one (.full [[.slice ((rowsP pq).map plC)],[.slice ((rowsP qq).map plC)]])),(72,.one (.lit (.int .i64 2))),(73,.one (.lit (.int .i64 1)))],mkH ((13,⟨1,some ⟨[[.own 500 1 3 0 a,.emp]],2,true⟩⟩)::(12,⟨1,some ⟨[[cb (rcan (k:Rat)),cn (rcan (k:Rat)),cd (rcan (k:Rat))]],3,true⟩⟩)::(500,⟨1,some ⟨(va.map rcan).map rC,3,true⟩⟩)::Z)⟩ ?_ ?_
       .have w:=Xa7 (a:=99) (b:=500) ⟨by decide,by decide⟩ (v:=mkV ?_) (h:=mkH ?_) (l:=[(9,s9),(10,s10),(7,.one (.slice ((rowsP pq).map plC))),(8,.one (.slice ((rowsP qq).map plC))),(12,.one (.ptr 12 1 0 0)),(13,.one (.ptr 13 1 0 0)),(63,.one (.lit (.int .i64 n))),(64,.one (.lit (.int .i64 k))),(71,.one (.full [[.slice ((rowsP pq).map plC)],[.slice ((rowsP qq).map plC)]])),(72,.one (.lit (.int .i64 2))),(73,.one (.lit (.int .i64 1)))]) (k:=(13,⟨1,some ⟨[[.own 99 1 3 0 a,.emp]],2,true⟩⟩)::(12,⟨1,some ⟨[[cb (rcan (k:Rat)),cn (rcan (k:Rat)),cd (rcan (k:Rat))]],3,true⟩⟩)::(99,⟨1,some ⟨(va.map rcan).map rC,3,true⟩⟩)::Z) ⟨?_,?_⟩
        .have e1:swL 99 500 [(9,s9),(10,s10),(7,.one (.slice ((rowsP pq).map plC))),(8,.one (.slice ((rowsP qq).map plC))),(12,.one (.ptr 12 1 0 0)),(13,.one (.ptr 13 1 0 0)),(63,.one (.lit (.int .i64 n))),(64,.one (.lit (.int .i64 k))),(71,.one (.full [[.slice ((rowsP pq).map plC)],[.slice ((rowsP qq).map plC)]])),(72,.one (.lit (.int .i64 2))),(73,.one (.lit (.int .i64 1)))]=[(9,s9),(10,s10),(7,.one (.slice ((rowsP pq).map plC))),(8,.one (.slice ((rowsP qq).map plC))),(12,.one (.ptr 12 1 0 0)),(13,.one (.ptr 13 1 0 0)),(63,.one (.lit (.int .i64 n))),(64,.one (.lit (.int .i64 k))),(71,.one (.full [[.slice ((rowsP pq).map plC)],[.slice ((rowsP qq).map plC)]])),(72,.one (.lit (.int .i64 2))),(73,.one (.lit (.int .i64 1)))]:=by
          simp [YaU,uaT,sw9.1,sw9.2.1,UaN,ka8,uaJ,Ya0,qbA,Va2]
         have e2:swK 99 500 ((13,⟨1,some ⟨[[.own 99 1 3 0 a,.emp]],2,true⟩⟩)::(12,⟨1,some ⟨[[cb (rcan (k:Rat)),cn (rcan (k:Rat)),cd (rcan (k:Rat))]],3,true⟩⟩)::(99,⟨1,some ⟨(va.map rcan).map rC,3,true⟩⟩)::Z)=(13,⟨1,some ⟨[[.own 500 1 3 0 a,.emp]],2,true⟩⟩)::(12,⟨1,some ⟨[[cb (rcan (k:Rat)),cn (rcan (k:Rat)),cd (rcan (k:Rat))]],3,true⟩⟩)::(500,⟨1,some ⟨(va.map rcan).map rC,3,true⟩⟩)::Z:=by
          rw [xaV,xaV,xaV,sw9.2.2,zbN];rfl
         rw [e1,e2]at w;exact w
        .simp only [okS,Un,Nat.reduceEqDiff,if_false,if_true];refine z3 _ _ _ (by simp [za]) (by simp [za]) (by simp [za]) (by simp [za]) ?_
         simp [bitvec_to_nat]
        .exact⟨⟨⟨rfl,rfl⟩,.inr (by simp [bitvec_to_nat])⟩,Yd,Jn rfl,zh _ _ (by simp [za]) (by simp [za])⟩
       .simp only [go_sem,Int.reduceLT,Int.reduceAdd,decide_true];repeat first | refine q_Wk ?_ | intro _
        refine ja (λt:Nat=>⟨mkV [(9,s9),(10,s10),(7,.one (.slice ((rowsP pq).map plC))),(8,.one (.slice ((rowsP qq).map plC))),(12,.one (.ptr 12 1 0 0)),(13,.one (.ptr 13 1 0 0)),(14,.one (.lit (.int .i64 1))),(63,.one (.lit (.int .i64 n))),(64,.one (.lit (.int .i64 k))),(71,.one (.full [[.slice ((rowsP pq).map plC)],[.slice ((rowsP qq).map plC)]])),(72,.one (.lit (.int .i64 2))),(73,.one (.lit (.int .i64 1))),(78,.one (.slice ((rowsP qq).map plC))),(79,.one (.lit (.int .i64 b))),(80,.one (.lit (.int .i64 t)))],mkH ((13,⟨1,some ⟨[[.own 500 1 3 0 a,valC t]],2,true⟩⟩)::(12,⟨1,some ⟨[[cb (rcan (k:Rat)),cn (rcan (k:Rat)),cd (rcan (k:Rat))]],3,true⟩⟩)::(500,⟨1,some ⟨(va.map rcan).map rC,3,true⟩⟩)::(99,valB t vb)::Z)⟩) (λt=>t<=b) (λt=>b-t) 0 ?_ ?_ ?_
        .refine qa ?_ ⟨⟨⟨rfl,rfl⟩,.inr (by simp [bitvec_to_nat,valC])⟩,Yd,Jn rfl,WQ (λh=>(h rfl).elim),zh _ _ (by simp [za]) (by simp [za])⟩
         simp only [okS,Un,Nat.reduceEqDiff,if_false,if_true];refine z3 _ _ _ (by simp [za]) (by simp [za]) (by simp [za]) (by simp [za]) ?_
         simp [bitvec_to_nat,lb]
        .exact Nat.zero_le _
        .clear eC eB htl' htl eta hta t;intro t htb;by_cases htl:t<b
         .have htl' : (t:Int)<(b:Int):=by omega
          obtain⟨c,hcc⟩:∃c,(rowsP qq).getD t []=c:=⟨_,rfl⟩;have hcm:c∈rowsP qq:=by
           rw [<-hcc,List.getD_eq_getElem?_getD,List.getElem?_eq_getElem (by omega)]
           exact List.getElem_mem _
          obtain⟨tc1,tc2⟩:=QQ hcm;have rc:=ka2 hD0 hDw hEw canq bq hcm;have rc6:∀x∈c,rz x<=1000000:=λx hx=>Nat.le_trans (rc x hx) (by decide)
          have rk:=Yv (k:=k) (by omega)
          obtain⟨y,hy⟩:∃y,hv c (k:Rat)=y:=⟨_,rfl⟩;have hvt:vb.take (t+1)=vb.take t++[y]:=by
           rw [List.take_add_one,<-hvb,List.getElem?_map,<-hy,<-hcc,List.getD_eq_getElem?_getD,List.getElem?_eq_getElem (by omega)]
           rfl
          have c65:c.length<=65:=by omega
          rcases Nat.eq_zero_or_pos t with t0 | t0
          case' inl=>
           subst t0;have eC:valC 0=.emp:=rfl;have eB:valB 0 vb=⟨0,none⟩:=rfl;rw [eC,eB];simp only [go_sem,htl,htl',Jaa,hcc,he,e0,rQ,hy,lb,z18,Int.reduceMul,Int.toNat_zero,Int.toNat_natCast];repeat first | refine q_Wk ?_ | intro _
          case' inr=>
           have eC:valC t=.own 99 1 3 0 t:=if_neg (by omega)
           have eB:valB t vb=⟨1,some ⟨((vb.take t).map rcan).map rC,3,true⟩⟩:=if_neg (by omega)
           have htk:(((vb.take t).map rcan).map rC).take t=((vb.take t).map rcan).map rC:=List.take_of_length_le (by rw [List.length_map,List.length_map,List.length_take];omega)
           have hlv:((vb.take t).map rcan).length=t:=by rw [List.length_map,List.length_take];omega
           rw [eC,eB];simp only [go_sem,htl,htl',Jaa,hcc,he,e0,rQ,hy,lb,z18,htk,hlv,List.length_map,Xag,Int.toNat_zero,Int.toNat_natCast];repeat first | refine q_Wk ?_ | intro _
          all_goals
           refine⟨λe he=>by rw [List.mem_singleton.1 he];rfl,?_⟩
           repeat first | refine q_Wk ?_ | intro _
          case' inl=>refine⟨0+1,?_,by omega,by omega⟩
          case' inr=>refine⟨t+1,?_,by omega,by omega⟩
          all_goals
           refine qa ?_ ⟨⟨⟨rfl,rfl⟩,.inr (by simp [bitvec_to_nat,valC,valB])⟩,Yd,Jn rfl,WQ (λ_=>?_),zh _ _ (by simp [za]) (by simp [za])⟩
           .simp only [okS,Un,Nat.reduceEqDiff,if_false,if_true];refine z3 _ _ _ (by simp [za]) (by simp [za]) (by simp [za]) (by simp [za]) ?_
            simp [bitvec_to_nat]
           .rw [hvt];simp [za,rC]
         .have eta:t=b:=by omega
          have htl' : ¬(t:Int)<(b:Int):=by omega
          have eC:valC t=.own 99 1 3 0 b:=by rw [eta];exact if_neg (by omega)
          have eB:valB t vb=⟨1,some ⟨(vb.map rcan).map rC,3,true⟩⟩:=by
           rw [eta];unfold valB;rw [if_neg (by omega),List.take_of_length_le (by omega)]
          rw [eC,eB];simp only [go_sem,htl'];repeat first | refine q_Wk ?_ | intro _
          refine vai ⟨mkV [(9,s9),(10,s10),(7,.one (.slice ((rowsP pq).map plC))),(8,.one (.slice ((rowsP qq).map plC))),(12,.one (.ptr 12 1 0 0)),(13,.one (.ptr 13 1 0 0)),(63,.one (.lit (.int .i64 n))),(64,.one (.lit (.int .i64 k))),(71,.one (.full [[.slice ((rowsP pq).map plC)],[.slice ((rowsP qq).map plC)]])),(72,.one (.lit (.int .i64 2))),(73,.one (.lit (.int .i64 2)))],mkH ((13,⟨1,some ⟨[[.own 500 1 3 0 a,.own 99 1 3 0 b]],2,true⟩⟩)::(12,⟨1,some ⟨[[cb (rcan (k:Rat)),cn (rcan (k:Rat)),cd (rcan (k:Rat))]],3,true⟩⟩)::(500,⟨1,some ⟨(va.map rcan).map rC,3,true⟩⟩)::(99,⟨1,some ⟨(vb.map rcan).map rC,3,true⟩⟩)::Z)⟩ ?_ ?_
          .refine qa ?_ ⟨⟨⟨rfl,rfl⟩,.inr (by simp [bitvec_to_nat])⟩,Yd,Jn rfl,Jn rfl,zh _ _ (by simp [za]) (by simp [za])⟩
           simp only [okS,Un,Nat.reduceEqDiff,if_false,if_true];refine z3 _ _ _ (by simp [za]) (by simp [za]) (by simp [za]) (by simp [za]) ?_
           simp [bitvec_to_nat]
          .have va0:va≠[]:=λe=>by rw [e]at lva;simp at lva;omega
           have vb0:vb≠[]:=λe=>by rw [e]at lvb;simp at lvb;omega
           have rva:=vbG (k:=k) hD0 hDw hEw (by omega) canp bp
           have rvb:=vbG (k:=k) hD0 hDw hEw (by omega) canq bq
           rw [hva]at rva;rw [hvb]at rvb;have hab:va.length+vb.length<=10:=by omega
           have rva' : ∀x∈va,rz x<=1000:=λx hx=>Nat.le_trans (rva x hx) (by decide)
           have rvb' : ∀x∈vb,rz x<=1000:=λx hx=>Nat.le_trans (rvb x hx) (by decide)
           have hval:resQ va vb=valE pq qq k:=by rw [<-hva,<-hvb];rfl
           have tka:((va.map rcan).map rC).take a=(va.map rcan).map rC:=List.take_of_length_le (by rw [List.length_map,List.length_map];omega)
           have tkb:((vb.map rcan).map rC).take b=(vb.map rcan).map rC:=List.take_of_length_le (by rw [List.length_map,List.length_map];omega)
           have a3:a<=va.length:=by omega
           have b3:b<=vb.length:=by omega
           simp only [go_sem,Int.reduceLT,Int.reduceAdd,decide_false,hvl,e0,rQ,hval,tka,tkb,List.length_map,lva,lvb,z20,Int.toNat_zero,Int.toNat_natCast];repeat first | refine q_Wk ?_ | intro _
           clear z3 zh zv zno sw9;subst hs9 hs10 hZ;have xl:=xaf k;have yl:=UaV pq qq k;by_cases hk0:k=0
           .simp only [if_pos hk0];simp only [go_sem];have ex:((xsn 0++[((0:Nat):Rat)]).map rcan).map rC=[[cb (rcan ((0:Nat):Rat)),cn (rcan ((0:Nat):Rat)),cd (rcan ((0:Nat):Rat))]]:=rfl;have ey:((ysE pq qq 0++[valE pq qq 0]).map rcan).map rC=[[cb (rcan (valE pq qq 0)),cn (rcan (valE pq qq 0)),cd (rcan (valE pq qq 0))]]:=rfl;subst hk0;refine⟨λe he=>by rw [List.mem_singleton.1 he];rfl,λe he=>by rw [List.mem_singleton.1 he];rfl,by omega,?_⟩
            refine⟨0+1,?_,by omega,by omega⟩
            rw [if_neg (by omega),if_neg (by omega),if_neg (by omega),<-uaL,<-waN,ex,ey]
            refine qa (by simp [bitvec_to_nat]) ⟨?_,?_,trivial⟩
            .rw [<-ex];exact Jn (by rw [ex])
            .rw [<-ey];exact Jn (by rw [ey])
           .simp only [if_neg hk0];have tkx:(((xsn k).map rcan).map rC).take k=((xsn k).map rcan).map rC:=List.take_of_length_le (by rw [List.length_map,List.length_map];omega)
            have tky:(((ysE pq qq k).map rcan).map rC).take k=((ysE pq qq k).map rcan).map rC:=List.take_of_length_le (by rw [List.length_map,List.length_map];omega)
            simp only [go_sem,List.length_map,xl,yl,tkx,tky,Xag];refine⟨λe he=>by rw [List.mem_singleton.1 he];rfl,by omega,λe he=>by rw [List.mem_singleton.1 he];rfl,by omega,by omega,?_⟩
            refine⟨k+1,?_,by omega,by omega⟩
            rw [if_neg (by omega),if_neg (by omega),if_neg (by omega),<-uaL,<-waN]
            exact qa (by simp [bitvec_to_nat]) ⟨Jn (by simp [za]),Jn (by simp [za]),trivial⟩
   .have ekn:k=n:=by omega
    have hlt' : ¬(k:Int)<(n:Int):=by omega
    have hk0:¬k=0:=by omega
    clear z3 zh zv zno;subst hs9 hs10 hZ;have hh8:topY pq-1+(topY qq-1)<=8:=by rw [ha,hb];omega
    have hy10:=UaV pq qq k;have hsml:=Wbw (n:=k) canp canq ⟨D,E,hD0,hDw,hEw,bp,bq⟩ hh8 (by omega)
    have hry:∀x∈ysE pq qq k,rz x<=10000:=λx hx=>by
     unfold ysE at hx;obtain⟨j,hj,rfl⟩:=List.mem_map.1 hx;have:=jbq (k:=j) canp canq ⟨D,E,hD0,hDw,hEw,bp,bq⟩ hh8 (by have:=List.mem_range.1 hj;omega)
     omega
    have hthr:thr (ysE pq qq k)=elL pq qq:=by
     rw [ekn,<-hn];have g1:=uz canp;have g2:=uz canq;have e1:(degB pq).toNat=dp:=by rw [<-hpq,<-Jh,mcp,hdp];exact Int.toNat_natCast dp
     have e2:(degB qq).toNat=dq:=by rw [<-hqq,<-Jh,mcq,hdq];exact Int.toNat_natCast dq
     rw [e1]at g1;rw [e2]at g2;exact Ybo canp.ins canq.ins g1 g2
    have xl:=xaf k;have k10:k<=10:=by omega
    have tkx:(((xsn k).map rcan).map rC).take k=((xsn k).map rcan).map rC:=List.take_of_length_le (by rw [List.length_map,List.length_map];omega)
    have tky:(((ysE pq qq k).map rcan).map rC).take k=((ysE pq qq k).map rcan).map rC:=List.take_of_length_le (by rw [List.length_map,List.length_map];omega)
    simp only [if_neg hk0];simp only [go_sem,hlt',List.length_map,xl,hy10,tkx,tky,ht,e0,hthr];repeat first | refine q_Wk ?_ | intro _
    exact hK
end Go.Abs
end
section
namespace Go.Num
open Go.Abs
def lowB(n d:Int)(x:R):Bool:=decide (x.2.1.length<2) && (decide (x.2.2.length<2) && ((decide (x.2.1.length=0) || decide ((x.2.1.getD 0 0:Int)<=n)) && (decide (x.2.2.length=0) || decide ((x.2.2.getD 0 0:Int)<=d))))
def lowR(x:R):Bool:=lowB 1000 60 x
def longM(p:List Mo):Bool:=decide (15<p.length) && decide (p.length<=325) || decide (400<p.length)
def shortM(p:List Mo):Bool:=!longM p && p.all λt=>lowR t.2.2
def vldM(p:List Mo):Bool:=shortM p && (decide (chkB p=0) && decide (degM p<=5))
end Go.Num
namespace Go.Abs
open Go.Num
variable {P:Program} {Γ:Nat->Spec}
theorem jE{α β:Type}{f:α->β}(hf:∀a b,f a=f b->a=b):∀{l m:List α},l.map f=m.map f->l=m
 | [],[],_=>rfl
 | [],_::_,h=>by simp at h
 | _::_,[],h=>by simp at h
 | x::l,y::m,h=>by
  simp only [List.map_cons,List.cons.injEq]at h;rw [hf x y h.1,jE hf h.2]
def mlA(L:List (List Mo)):AV:=.one (.slice (L.map λl=>[.slice (l.map mC)]))
theorem JbG{a b:List Mo}(h:ms a=ms b):a=b:=jaf a b (by unfold msA;rw [h])
theorem Qal(x y:List (List Mo))(h:mlA x=mlA y):x=y:=by
 simp only [mlA,AV.one.injEq,C.slice.injEq]at h;exact jE (λa b h=>JbG (by simpa [ms] using h)) h
def onMl(k:List (List Mo)->Prop)(a:AV):Prop:=onE mlA (λL=>(∀l∈L,∀t∈l,WLM t)/\k L) a
@[congr] theorem ub0{k:List (List Mo)->Prop}{a a'}(h:a=a'):onMl k a=onMl k a':=by subst h;rfl
theorem Vbi(k:List (List Mo)->Prop)(p:List Mo):onMl k (.one (.slice [[.slice (p.map mC)]]))=((∀l∈[p],∀t∈l,WLM t)/\k [p]):=uf Qal _ [p]
theorem Jbi(k:List (List Mo)->Prop)(p q:List Mo):onMl k (.one (.slice [[.slice (p.map mC)],[.slice (q.map mC)]]))=((∀l∈[p,q],∀t∈l,WLM t)/\k [p,q]):=uf Qal _ [p,q]
theorem Ua5{β:Type}{T:List (List Mo)->(β->Prop)->Prop}(h:∀l,GoodT (T l)){a:AV}:GoodT λK=>onMl (λl=>T l K) a:=
 VC (e:=mlA) (T:=λL K=>(∀l∈L,∀t∈l,WLM t)/\T L K) Qal λL=>GoodT.and (c:=∀l∈L,∀t∈l,WLM t) (T:=T L) λ_=>h L
theorem ua8(K:List C->Prop)(L:List (List Mo))(i:Nat):getE K (L.map λl=>[.slice (l.map mC)]) i=(i<L.length/\K [.slice ((L.getD i []).map mC)]):=by
 simp only [getE,List.length_map,List.getElem?_map];refine propext ⟨λh=>⟨h.1,h.2 _ (by simp [h.1,List.getD_eq_getElem?_getD])⟩,λh=>⟨h.1,λe he=>?_⟩⟩
 simp [h.1]at he;subst he;have:=h.2;simpa [List.getD_eq_getElem?_getD,h.1] using this
theorem way(L:List (List Mo)):Clean (.slice (L.map λl=>[.slice (l.map mC)]))=True:=eq_true (.slice _ λe he c hc=>by
 obtain⟨l,_,rfl⟩:=List.mem_map.1 he;rw [List.mem_singleton]at hc;subst hc;exact of_eq_true (Jx _))
theorem kbi(k:List R->Prop)(x:R):onRs k (.one (.slice [[cb x,cn x,cd x]]))=((∀y∈[x],WLR y)/\k [x]):=vaq k [x]
theorem xbm(k:List R->Prop)(x y:R):onRs k (.one (.slice [[cb x,cn x,cd x],[cb y,cn y,cd y]]))=((∀z∈[x,y],WLR z)/\k [x,y]):=vaq k [x,y]
attribute [go_sem,go_sem ↓] Vbi Jbi ua8 way kbi xbm
def qC(l:List AV)(K:AV->Prop):Prop:=
 match l with
 | [a,b]=>onM (λx=>onM (λy=>inM x/\inM y/\K (.one (.lit (.bool (decide (kM x<kM y)))))) b) a
 | _=>False
theorem kaY a b K:qC [a,b] K=(onM (λx=>onM (λy=>inM x/\inM y/\K (.one (.lit (.bool (decide (kM x<kM y)))))) b) a):=propext Iff.rfl
@[congr] theorem vbT{K}{l l'}(h:l=l'):qC l K=qC l' K:=by subst h;rfl
attribute [go_sem,go_sem ↓] kaY
theorem ka7:Good qC:=Ja λas=>by
 unfold qC;split
 .exact(vS λ_=>(vS λ_=>(.and λ_=>(.and λ_=>(.ret _)))))
 .exact .of λK hk=>hk.elim
def qA(l:List AV)(K:AV->Prop):Prop:=
 match l with
 | [a]=>onM (λt=>K (.one (.lit (.int .i64 (if inM t then 0 else 3))))) a
 | _=>False
theorem yaK a K:qA [a] K=(onM (λt=>K (.one (.lit (.int .i64 (if inM t then 0 else 3))))) a):=propext Iff.rfl
@[congr] theorem zbV{K}{l l'}(h:l=l'):qA l K=qA l' K:=by subst h;rfl
attribute [go_sem,go_sem ↓] yaK
theorem xaX:Good qA:=Ja λas=>by
 unfold qA;split
 .exact(vS λ_=>(.ret _))
 .exact .of λK hk=>hk.elim
def kn(l:List AV)(K:AV->Prop):Prop:=
 match l with
 | [a]=>onMs (λl=>(∀t∈l,rl t.2.2<=4294967296)/\K (.one (.lit (.int .i64 (chkB l:Nat))))) a
 | _=>False
theorem vX a K:kn [a] K=(onMs (λl=>(∀t∈l,rl t.2.2<=4294967296)/\K (.one (.lit (.int .i64 (chkB l:Nat))))) a):=propext Iff.rfl
@[congr] theorem JbL{K}{l l'}(h:l=l'):kn l K=kn l' K:=by subst h;rfl
attribute [go_sem,go_sem ↓] vX
theorem yam:Good kn:=Ja λas=>by
 unfold kn;split
 .exact(kh λ_=>(.and λ_=>(.ret _)))
 .exact .of λK hk=>hk.elim
def Uj(l:List AV)(K:AV->Prop):Prop:=
 match l with
 | [a]=>onMs (λl=>(∀t∈l,rl t.2.2<=4294967296)/\K (.tup [.one (.lit (.int .i64 (if chkB l=0 then degM l else 0))),.one (.lit (.int .i64 (chkB l:Nat)))])) a
 | _=>False
theorem wK a K:Uj [a] K=(onMs (λl=>(∀t∈l,rl t.2.2<=4294967296)/\K (.tup [.one (.lit (.int .i64 (if chkB l=0 then degM l else 0))),.one (.lit (.int .i64 (chkB l:Nat)))])) a):=propext Iff.rfl
@[congr] theorem wby{K}{l l'}(h:l=l'):Uj l K=Uj l' K:=by subst h;rfl
attribute [go_sem,go_sem ↓] wK
theorem U9:Good Uj:=Ja λas=>by
 unfold Uj;split
 .exact(kh λ_=>(.and λ_=>(.ret _)))
 .exact .of λK hk=>hk.elim
def zal(l:List AV)(K:AV->Prop):Prop:=
 match l with
 | [a]=>onM2 (λp q=>(∀t∈p,rl t.2.2<=4294967296)/\(∀t∈q,rl t.2.2<=4294967296)/\K (.one (.lit (.int .i64 (chk2 p q:Nat))))) a
 | _=>False
theorem Waq a K:zal [a] K=(onM2 (λp q=>(∀t∈p,rl t.2.2<=4294967296)/\(∀t∈q,rl t.2.2<=4294967296)/\K (.one (.lit (.int .i64 (chk2 p q:Nat))))) a):=propext Iff.rfl
@[congr] theorem YbN{K}{l l'}(h:l=l'):zal l K=zal l' K:=by subst h;rfl
attribute [go_sem,go_sem ↓] Waq
def ul(l:List AV)(K:AV->Prop):Prop:=
 match l with
 | [a,b]=>onMs (λp=>onMs (λq=>(∀t∈p,rl t.2.2<=4294967296)/\p.length<=1000000/\K (.one (.lit (.bool (decide (p=q)))))) b) a
 | _=>False
theorem Zab a b K:ul [a,b] K=(onMs (λp=>onMs (λq=>(∀t∈p,rl t.2.2<=4294967296)/\p.length<=1000000/\K (.one (.lit (.bool (decide (p=q)))))) b) a):=propext Iff.rfl
@[congr] theorem VbM{K}{l l'}(h:l=l'):ul l K=ul l' K:=by subst h;rfl
attribute [go_sem,go_sem ↓] Zab
theorem Jam:Good ul:=Ja λas=>by
 unfold ul;split
 .exact(kh λ_=>(kh λ_=>(.and λ_=>(.and λ_=>(.ret _)))))
 .exact .of λK hk=>hk.elim
def Wy(l:List AV)(K:AV->Prop):Prop:=
 match l with
 | [a,b,c]=>onR (λx=>asInt (λk n=>asInt (λk' d=>k=.u32/\k' = .u32/\rl x<=4294967296/\K (.one (.lit (.bool (lowB n d x))))) c) b) a
 | _=>False
theorem Wah a b c K:Wy [a,b,c] K=(onR (λx=>asInt (λk n=>asInt (λk' d=>k=.u32/\k' = .u32/\rl x<=4294967296/\K (.one (.lit (.bool (lowB n d x))))) c) b) a):=propext Iff.rfl
@[congr] theorem QbZ{K}{l l'}(h:l=l'):Wy l K=Wy l' K:=by subst h;rfl
attribute [go_sem,go_sem ↓] Wah
theorem waS:Good Wy:=Ja λas=>by
 unfold Wy;split
 .repeat (first | exact .ret _ | exact .of (λK hk=>hk.elim) | (refine .and λ_=>?_) | (refine ve λ_=>?_) | (refine Ua5 λ_=>?_) | (refine vS λ_=>?_) | (refine Zn λ_=>?_) | (refine kh λ_=>?_) | (refine Xav λ_=>?_) | (refine Ua5 λ_=>?_) | (refine ja0 λ_=>?_) | (refine Jc (λ_ _=>?_) _) | (refine Xx (λ_=>?_) _) | (refine VC ?_ ?_) | (intro _) | assumption)
 .exact .of λK hk=>hk.elim
def Vo(l:List AV)(K:AV->Prop):Prop:=
 match l with
 | [a]=>onRs (λl=>okRs 4294967296 l/\l.length<=1000000/\K (.one (.lit (.bool (l.all lowR))))) a
 | _=>False
theorem Y3 a K:Vo [a] K=(onRs (λl=>okRs 4294967296 l/\l.length<=1000000/\K (.one (.lit (.bool (l.all lowR))))) a):=propext Iff.rfl
@[congr] theorem YbL{K}{l l'}(h:l=l'):Vo l K=Vo l' K:=by subst h;rfl
attribute [go_sem,go_sem ↓] Y3
theorem Qai:Good Vo:=Ja λas=>by
 unfold Vo;split
 .exact(ja0 λ_=>(.and λ_=>(.and λ_=>(.ret _))))
 .exact .of λK hk=>hk.elim
def xj(l:List AV)(K:AV->Prop):Prop:=
 match l with
 | [a]=>onMl (λL=>(∀l∈L,l.length<=10000000/\∀t∈l,rl t.2.2<=4294967296)/\L.length<=1000000/\K (.one (.lit (.bool (L.all shortM))))) a
 | _=>False
theorem yL a K:xj [a] K=(onMl (λL=>(∀l∈L,l.length<=10000000/\∀t∈l,rl t.2.2<=4294967296)/\L.length<=1000000/\K (.one (.lit (.bool (L.all shortM))))) a):=propext Iff.rfl
@[congr] theorem zbz{K}{l l'}(h:l=l'):xj l K=xj l' K:=by subst h;rfl
attribute [go_sem,go_sem ↓] yL
theorem V4:Good xj:=Ja λas=>by
 unfold xj;split
 .exact(Ua5 λ_=>(.and λ_=>(.and λ_=>(.ret _))))
 .exact .of λK hk=>hk.elim
def qk(l:List AV)(K:AV->Prop):Prop:=
 match l with
 | [a]=>onM2 (λp q=>(p.length<=10000000/\∀t∈p,rl t.2.2<=4294967296)/\(q.length<=10000000/\∀t∈q,rl t.2.2<=4294967296)/\K (.one (.lit (.bool (vldM p && vldM q))))) a
 | _=>False
theorem xN a K:qk [a] K=(onM2 (λp q=>(p.length<=10000000/\∀t∈p,rl t.2.2<=4294967296)/\(q.length<=10000000/\∀t∈q,rl t.2.2<=4294967296)/\K (.one (.lit (.bool (vldM p && vldM q))))) a):=propext Iff.rfl
@[congr] theorem uby{K}{l l'}(h:l=l'):qk l K=qk l' K:=by subst h;rfl
attribute [go_sem,go_sem ↓] xN
theorem qX:Good qk:=Ja λas=>by
 unfold qk;split
 .exact(Xav λ_ _=>(.and λ_=>(.and λ_=>(.ret _))))
 .exact .of λK hk=>hk.elim
def zd:AC:=(.o [.K 2 5 0,.K 3 5 1,.m 4 .fa] [2,3] (.f (.o [.A 5 0 2,.F 6 1 5,.A 7 1 2,.F 8 1 7,.B 9 .add 6 8,.A 10 0 3,.F 11 1 10,.A 12 1 3,.F 13 1 12,.B 14 .add 11 13,.B 15 .neq 9 14] [2,3,15] (.cond (.t 15) (.seq (.p [.A 16 0 2,.F 17 1 16,.A 18 1 2,.F 19 1 18,.B 20 .add 17 19,.A 21 0 3,.F 22 1 21,.A 23 1 3,.F 24 1 23,.B 25 .add 22 24,.B 26 .lss 20 25,.M 4 26]) .ret) .skip)) [2,3] (.seq (.p [.A 27 0 2,.F 28 1 27,.A 29 0 3,.F 30 1 29,.B 31 .lss 28 30,.M 4 31]) .ret)))
def qb:AC:=(.o [.K 1 5 0,.N 2 0] [1] (.f (.o [.A 3 0 1,.F 4 1 3,.I 5 .lss 4 0,.M 6 5,.T 7 6 false 1 1,.U 8 6 false 1 false 7,.w 9 6 false (.bin .lss (.t 8) (.i 0)),.Q 10 6 9,.M 11 10,.T 12 11 false 0 1,.U 13 11 false 1 false 12,.w 14 11 false (.bin .gtr (.t 13) (.i 24)),.Q 15 11 14,.M 16 15,.T 17 16 false 1 1,.U 18 16 false 1 false 17,.w 19 16 false (.bin .gtr (.t 18) (.i 24)),.Q 20 16 19,.M 21 20,.T 22 21 false 0 1,.U 23 21 false 1 false 22,.T 24 21 false 1 1,.U 25 21 false 1 false 24,.w 26 21 false (.bin .add (.t 23) (.t 25)),.w 27 21 false (.bin .gtr (.t 26) (.i 24)),.Q 28 21 27] [28] (.cond (.t 28) (.seq (.p [.N 2 3]) .ret) .skip)) [] (.seq (.p [.N 2 0]) .ret)))
def vd(f0 f1 f2 f3:Nat):AC:=(.o [.N 2 0] [0] (.f (.o [.M 6 0,.Z 7 6,.I 8 .gtr 7 325] [0,8] (.cond (.t 8) (.seq (.p [.N 2 4]) .ret) .skip)) [0] (.f (.o [.M 9 0,.Z 10 9,.N 11 0] [0,9,10,11] (.block 0 (.loop (.o [.B 12 .lss 11 10] [0,9,10,11,12] (.f (.cond (.t 12) .skip (.exit 0)) [0,9,10,11] (.f (.block 1 (.o [.M 13 11,.J 14 5 9 11,.L 15 5 14,.G 4 [(.lit (.int .i64 0)),(.lit (.int .i64 0)),.z,.emp,.emp],.M 3 13,.S 5 4 15] [0,3,4,9,10,11] (.f (.o [.L 16 5 4,.H 17 f0 16,.M 5 17] [0,3,4,5,9,10,11] (.o [.M 18 5,.I 19 .neq 18 0] [0,3,4,5,9,10,11,19] (.cond (.t 19) (.seq (.p [.M 20 5,.M 2 20]) .ret) .skip))) [0,3,4,9,10,11] (.f (.o [.A 21 2 4,.L 22 3 21,.H 23 f1 22,.u 24 (.un .not (.t 23))] [0,3,4,9,10,11,24] (.cond (.t 24) (.seq (.p [.N 2 2]) .ret) .skip)) [0,3,4,9,10,11] (.f (.o [.A 25 2 4,.L 26 3 25,.H 27 f2 26,.I 28 .eql 27 0] [0,3,4,9,10,11,28] (.cond (.t 28) (.seq (.p [.N 2 8]) .ret) .skip)) [0,3,4,9,10,11] (.f (.y [.M 29 3,.I 30 .gtr 29 0,.M 31 30,.V 32 31 true 0,.V 33 31 true 3,.w 34 31 true (.bin .sub (.t 33) (.i 1)),.w 35 31 true (.idx 5 (.t 32) (.t 34)),.U 36 31 true 5 true 35,.U 37 31 true 5 true 4,.Y 38 31 true f3 36 37,.w 39 31 true (.un .not (.t 38)),.P 40 31 39]) [0,9,10,11,40] (.cond (.t 40) (.seq (.p [.N 2 12]) .ret) .skip))))))) [0,9,10,11] (.p [.I 41 .add 11 1,.M 11 41]))))))) [] (.seq (.p [.N 2 0]) .ret))))
def Uc:AC:=(.o [.N 2 0] [0] (.f (.o [.M 4 0,.Z 5 4,.I 6 .eql 5 0] [0,6] (.cond (.t 6) (.seq (.p [.N 2 (-1)]) .ret) .skip)) [0] (.o [.M 7 0,.M 8 0,.Z 9 8,.I 10 .sub 9 1,.J 11 5 7 10,.L 12 5 11,.G 3 [(.lit (.int .i64 0)),(.lit (.int .i64 0)),.z,.emp,.emp],.S 5 3 12] [3] (.seq (.p [.A 13 0 3,.F 14 1 13,.A 15 1 3,.F 16 1 15,.B 17 .add 14 16,.M 2 17]) .ret))))
def uc(f0 f1:Nat):AC:=(.o [.N 2 0,.N 3 0] [0] (.f (.o [.M 5 0,.H 6 f0 5,.M 4 6] [0,4] (.o [.M 7 4,.I 8 .neq 7 0] [0,4,8] (.cond (.t 8) (.seq (.p [.M 9 4,.N 2 0,.M 3 9]) .ret) .skip))) [0] (.seq (.p [.M 10 0,.H 11 f1 10,.M 2 11,.N 3 0]) .ret)))
def Qg(f0:Nat):AC:=(.o [.K 2 3 0,.K 3 3 1,.m 4 .fa] [2,3] (.seq (.p [.L 5 3 2,.L 6 3 3,.D 7 f0 5 6,.M 4 7]) .ret))
def Vd(f0:Nat):AC:=(.o [.m 4 .fa] [0,1] (.f (.o [.M 6 0,.Z 7 6,.M 8 1,.Z 9 8,.B 10 .neq 7 9] [0,1,10] (.cond (.t 10) (.seq (.p [.m 4 .fa]) .ret) .skip)) [0,1] (.f (.o [.M 11 0,.Z 12 11,.N 13 0] [0,1,12,13] (.block 0 (.loop (.o [.B 14 .lss 13 12] [0,1,12,13,14] (.f (.cond (.t 14) .skip (.exit 0)) [0,1,12,13] (.f (.block 1 (.o [.M 15 13,.M 5 15] [0,1,5,12,13] (.f (.y [.M 16 0,.M 17 5,.J 18 5 16 17,.A 19 0 18,.F 20 1 19,.M 21 1,.M 22 5,.J 23 5 21 22,.A 24 0 23,.F 25 1 24,.B 26 .neq 20 25,.M 27 26,.V 28 27 false 0,.V 29 27 false 5,.w 30 27 false (.idx 5 (.t 28) (.t 29)),.T 31 27 false 1 30,.U 32 27 false 1 false 31,.V 33 27 false 1,.V 34 27 false 5,.w 35 27 false (.idx 5 (.t 33) (.t 34)),.T 36 27 false 1 35,.U 37 27 false 1 false 36,.w 38 27 false (.bin .neq (.t 32) (.t 37)),.Q 39 27 38,.M 40 39,.V 41 40 false 0,.V 42 40 false 5,.w 43 40 false (.idx 5 (.t 41) (.t 42)),.T 44 40 false 2 43,.U 45 40 false 3 true 44,.V 46 40 false 1,.V 47 40 false 5,.w 48 40 false (.idx 5 (.t 46) (.t 47)),.T 49 40 false 2 48,.U 50 40 false 3 true 49,.Y 51 40 false f0 45 50,.w 52 40 false (.un .not (.t 51)),.Q 53 40 52]) [0,1,12,13,53] (.cond (.t 53) (.seq (.p [.m 4 .fa]) .ret) .skip)))) [0,1,12,13] (.p [.I 54 .add 13 1,.M 13 54]))))))) [] (.seq (.p [.m 4 .tr]) .ret))))
def Xc:AC:=(.o [.K 3 3 0,.m 6 .fa] [1,2,3] (.seq (.p [.A 7 1 3,.F 8 1 7,.Z 9 8,.I 10 .lss 9 2,.M 11 10,.T 12 11 true 2 3,.U 13 11 true 1 false 12,.w 14 11 true (.len (.t 13)),.w 15 11 true (.bin .lss (.t 14) (.i 2)),.P 16 11 15,.M 17 16,.T 18 17 true 1 3,.U 19 17 true 1 false 18,.w 20 17 true (.len (.t 19)),.w 21 17 true (.bin .eql (.t 20) (.i 0)),.V 22 17 true 21,.T 23 22 false 1 3,.U 24 22 false 1 false 23,.w 25 22 false (.idx 1 (.t 24) (.i 0)),.U 26 22 false 1 false 25,.V 27 22 false 1,.w 28 22 false (.bin .leq (.t 26) (.t 27)),.w 29 17 true (.pick (.t 22) .tr (.t 28)),.P 30 17 29,.M 31 30,.T 32 31 true 2 3,.U 33 31 true 1 false 32,.w 34 31 true (.len (.t 33)),.w 35 31 true (.bin .eql (.t 34) (.i 0)),.V 36 31 true 35,.T 37 36 false 2 3,.U 38 36 false 1 false 37,.w 39 36 false (.idx 1 (.t 38) (.i 0)),.U 40 36 false 1 false 39,.V 41 36 false 2,.w 42 36 false (.bin .leq (.t 40) (.t 41)),.w 43 31 true (.pick (.t 36) .tr (.t 42)),.P 44 31 43,.M 6 44]) .ret))
def Ue(f0:Nat):AC:=(.o [.m 2 .fa] [0] (.f (.o [.M 5 0,.Z 6 5,.N 7 0] [5,6,7] (.block 0 (.loop (.o [.B 8 .lss 7 6] [5,6,7,8] (.f (.cond (.t 8) .skip (.exit 0)) [5,6,7] (.f (.block 1 (.o [.J 9 3 5 7,.L 10 3 9,.G 4 [.z,.emp,.emp],.S 3 4 10] [4,5,6,7] (.o [.L 11 3 4,.u 12 (.call f0 [(.t 11),(.c (.one (.lit (.int .u32 1000)))),(.c (.one (.lit (.int .u32 60))))]),.u 13 (.un .not (.t 12))] [5,6,7,13] (.cond (.t 13) (.seq (.p [.m 2 .fa]) .ret) .skip)))) [5,6,7] (.p [.I 14 .add 7 1,.M 7 14]))))))) [] (.seq (.p [.m 2 .tr]) .ret)))
def qf(f0:Nat):AC:=(.o [.m 2 .fa] [0] (.f (.o [.M 7 0,.Z 8 7,.N 9 0] [7,8,9] (.block 0 (.loop (.o [.B 10 .lss 9 8] [7,8,9,10] (.f (.cond (.t 10) .skip (.exit 0)) [7,8,9] (.f (.block 1 (.o [.J 11 1 7 9,.F 12 1 11,.M 4 12] [4,7,8,9] (.f (.o [.M 13 4,.Z 14 13,.I 15 .gtr 14 15,.M 16 15,.V 17 16 true 4,.w 18 16 true (.len (.t 17)),.w 19 16 true (.bin .leq (.t 18) (.i 325)),.P 20 16 19,.M 21 20,.V 22 21 false 4,.w 23 21 false (.len (.t 22)),.w 24 21 false (.bin .gtr (.t 23) (.i 400)),.Q 25 21 24] [4,7,8,9,25] (.cond (.t 25) (.seq (.p [.m 2 .fa]) .ret) .skip)) [4,7,8,9] (.o [.M 26 4,.Z 27 26,.N 28 0] [7,8,9,26,27,28] (.block 2 (.loop (.o [.B 29 .lss 28 27] [7,8,9,26,27,28,29] (.f (.cond (.t 29) .skip (.exit 2)) [7,8,9,26,27,28] (.f (.block 3 (.o [.J 30 5 26 28,.L 31 5 30,.G 6 [(.lit (.int .i64 0)),(.lit (.int .i64 0)),.z,.emp,.emp],.S 5 6 31] [6,7,8,9,26,27,28] (.o [.A 32 2 6,.L 33 3 32,.u 34 (.call f0 [(.t 33),(.c (.one (.lit (.int .u32 1000)))),(.c (.one (.lit (.int .u32 60))))]),.u 35 (.un .not (.t 34))] [7,8,9,26,27,28,35] (.cond (.t 35) (.seq (.p [.m 2 .fa]) .ret) .skip)))) [7,8,9,26,27,28] (.p [.I 36 .add 28 1,.M 28 36])))))))))) [7,8,9] (.p [.I 37 .add 9 1,.M 9 37]))))))) [] (.seq (.p [.m 2 .tr]) .ret)))
def kf(f0 f1:Nat):AC:=(.o [.m 2 .fa] [0] (.f (.o [.M 7 0,.Z 8 7,.N 9 0] [7,8,9] (.block 0 (.loop (.o [.B 10 .lss 9 8] [7,8,9,10] (.f (.cond (.t 10) .skip (.exit 0)) [7,8,9] (.f (.block 1 (.o [.J 11 1 7 9,.F 12 1 11,.M 4 12] [4,7,8,9] (.o [.M 14 4,.H 15 f0 14,.M 13 15,.X 16 0 13,.X 17 1 13,.M 5 16,.M 6 17] [4,5,6,7,8,9] (.o [.M 18 4,.u 19 (.row 1 [[.x 1 (.t 18)]]),.H 20 f1 19,.u 21 (.un .not (.t 20)),.M 22 21,.V 23 22 false 6,.w 24 22 false (.bin .neq (.t 23) (.i 0)),.Q 25 22 24,.M 26 25,.V 27 26 false 5,.w 28 26 false (.bin .gtr (.t 27) (.i 5)),.Q 29 26 28] [7,8,9,29] (.cond (.t 29) (.seq (.p [.m 2 .fa]) .ret) .skip))))) [7,8,9] (.p [.I 30 .add 9 1,.M 9 30]))))))) [] (.seq (.p [.m 2 .tr]) .ret)))
theorem ZaI(hΓ:Holds P Γ){f:Nat}(hc:check P f=some (32,zd.strip,[.tmp 4])):Sound P f (.dat false qC):=by
 refine Qa hc ka7 hΓ (λargs K hcl hfi hG=>?_);match args,hG with
 | [a,b],hG=>
  obtain⟨s,rfl,hws,t,rfl,hwt,hs,ht,hK⟩:=hG;refine⟨by simp,?_⟩
  have h1:=yaE hs ht;obtain⟨s1,s2,s3⟩:=hs;obtain⟨t1,t2,t3⟩:=ht;by_cases e:s.1+s.2.1=t.1+t.2.1
  .simp only [go_sem,zd,mC,e];have h2:decide (kM s<kM t)=decide (s.1<t.1):=by rw [decide_eq_decide,h1];omega
   rw [h2]at hK;exact⟨⟨by omega,by omega⟩,⟨by omega,by omega⟩,hK⟩
  .simp only [go_sem,zd,mC,e];have h2:decide (kM s<kM t)=decide (s.1+s.2.1<t.1+t.2.1):=by rw [decide_eq_decide,h1];omega
   rw [h2]at hK;exact⟨⟨by omega,by omega⟩,⟨by omega,by omega⟩,⟨by omega,by omega⟩,⟨by omega,by omega⟩,hK⟩
theorem uaF(hΓ:Holds P Γ){f:Nat}(hc:check P f=some (29,qb.strip,[.tmp 2])):Sound P f (.dat true qA):=by
 refine Qa hc xaX hΓ (λargs K hcl hfi hG=>?_);match args,hG with
 | [a],hG=>
  obtain⟨t,rfl,⟨hw1,hw2,hw3⟩,hK⟩:=hG;refine⟨by simp,?_⟩
  unfold i64r at hw1 hw2;have no:¬inM t->K (.one (.lit (.int .i64 3))):=λh=>by rw [if_neg h]at hK;exact hK
  have yes:inM t->K (.one (.lit (.int .i64 0))):=λh=>by rw [if_pos h]at hK;exact hK
  by_cases a1:t.1<0
  .simp only [go_sem,qb,mC,a1];exact no λh=>by unfold inM at h;omega
  by_cases a2:t.2.1<0
  .simp only [go_sem,qb,mC,a1,a2];exact no λh=>by unfold inM at h;omega
  by_cases a3:24<t.1
  .simp only [go_sem,qb,mC,a1,a2,a3];exact no λh=>by unfold inM at h;omega
  by_cases a4:24<t.2.1
  .simp only [go_sem,qb,mC,a1,a2,a3,a4];exact no λh=>by unfold inM at h;omega
  simp only [go_sem,qb,mC,a1,a2,a3,a4];refine⟨⟨by omega,by omega⟩,λh=>no λh'=>?_,λh=>yes ?_⟩
  .unfold inM at h';omega
  .unfold inM;omega
theorem UaF(hΓ:Holds P Γ){f:Nat}(hc:check P f=some (18,Uc.strip,[.tmp 2])):Sound P f (.dat true kr):=by
 refine Qa hc Xae hΓ (λargs K hcl hfi hG=>?_);match args,hG with
 | [a],hG=>
  obtain⟨l,rfl,hw,hin,hl,hK⟩:=hG;refine⟨by simp,?_⟩
  rcases hl0:l with _ | ⟨t,l0⟩
  .subst hl0;simp only [go_sem,Uc];simpa [degM] using hK
  .have hlen:l.length=l0.length+1:=by rw [hl0];rfl
   rw [<-hl0];obtain⟨y,hy⟩:∃y,l.getD l0.length mo0=y:=⟨_,rfl⟩;have hy0:=getDm (by omega) hy
   have hym:=List.mem_of_getElem? hy0;have hd:degM l=y.1+y.2.1:=by
    unfold degM;rw [List.getLast?_eq_getElem?,hlen,Nat.add_sub_cancel,hy0]
   rw [hd]at hK;obtain⟨i1,i2,i3⟩:=hin y hym;have hn1:((l0.length+1:Nat):Int)-1=(l0.length:Int):=by omega
   have hn0:¬((l0.length+1:Nat):Int)=0:=by omega
   simp only [go_sem,Uc,hlen,hn1,hn0,hy,mC];exact λ_ _=>⟨by omega,by omega,⟨by omega,by omega⟩,hK⟩
theorem JR(hΓ:Holds P Γ){f fk fd:Nat}(hk:Γ fk=.dat false kn)(hd:Γ fd=.dat true kr)(hc:check P f=some (12,(uc fk fd).strip,[.tmp 2,.tmp 3])):Sound P f (.dat false Uj):=by
 refine Qa hc U9 hΓ (λargs K hcl hfi hG=>?_);match args,hG with
 | [a],hG=>
  obtain⟨l,rfl,hw,hrl,hK⟩:=hG;refine⟨by simp,?_⟩
  by_cases h0:chkB l=0
  .obtain⟨i1,i2,i3⟩:=um h0 hw;rw [if_pos h0,h0]at hK;simp only [go_sem,uc,hk,hd,h0];exact⟨hw,hrl,hw,i1,by omega,hK⟩
  .rw [if_neg h0]at hK;have h0' : ¬(chkB l:Int)=0:=by omega
   simp only [go_sem,uc,hk,hd,h0'];exact⟨hw,hrl,hK⟩
theorem uag(hΓ:Holds P Γ){f fr:Nat}(hr:Γ fr=.dat true qt)(hc:check P f=some (8,(Qg fr).strip,[.tmp 4])):Sound P f (.dat true qt):=by
 refine Qa hc uac hΓ (λargs K hcl hfi hG=>?_);match args,hG with
 | [a,b],hG=>
  obtain⟨x,rfl,hx,y,rfl,hy,hxl,hK⟩:=hG;refine⟨by simp,?_⟩
  simp only [go_sem,Qg,hr];exact⟨hx,hy,hxl,hK⟩
theorem Zaa(hΓ:Holds P Γ){f fi fv fs fo:Nat}(hi:Γ fi=.dat true qA)(hv:Γ fv=.dat true ze)(hs:Γ fs=.dat true vg)(ho:Γ fo=.dat false qC)(hc:check P f=some (42,(vd fi fv fs fo).strip,[.tmp 2])):Sound P f (.dat false kn):=by
 refine Qa hc yam hΓ (λargs K hcl hfi hG=>?_);match args,hG with
 | [a],hG=>
  obtain⟨l,rfl,hw,hrl,hK⟩:=hG;refine⟨by simp,?_⟩
  by_cases h325:325<l.length
  .have e:chkB l=4:=if_pos h325;rw [e]at hK;have h325' : (325:Int)<(l.length:Int):=by omega
   simp only [go_sem,vd,h325'];exact λ_=>hK
  .have h325' : ¬(325:Int)<(l.length:Int):=by omega
   have e:chkB l=chkG none l:=if_neg h325;rw [e]at hK;simp only [go_sem,vd,h325'];intro _ _;refine ja (λk:Nat=>⟨mkV [(0,msA l),(9,msA l),(10,.one (.lit (.int .i64 l.length))),(11,.one (.lit (.int .i64 k)))],mkH []⟩) (λk=>k<=l.length/\chkG none l=chkG (lastO l k) (l.drop k)/\∀t∈l.take k,inM t) (λk=>l.length-k) 0 ?_ ?_ ?_
   .exact qa (by simp [bitvec_to_nat,msA,ms]) trivial
   .exact⟨Nat.zero_le _,rfl,by simp⟩
   .rintro k ⟨hk,hch,hin⟩;by_cases hlt:k<l.length
    .obtain⟨x,hx⟩:∃x,l.getD k mo0=x:=⟨_,rfl⟩;have hx0:=getDm hlt hx;have hxm:=List.mem_of_getElem? hx0;have hwx:=hw x hxm;have hrx:=hrl x hxm;rw [Yad _ hx0]at hch;by_cases a1:inM x
     .cases a2:vldR x.2.2 with
      | false=>
       have ec:chkT (lastO l k) x=2:=by unfold chkT;rw [if_neg (by simp [a1]),if_pos a2]
       rw [ec,if_pos (by decide)]at hch
       rw [hch]at hK;simp only [go_sem,hlt,hx,hi,hv,mC,a1,a2];exact⟨hwx,hwx.2.2,hrx,hK⟩
      | true=>
       by_cases a3:rv x.2.2=0
       .have ec:chkT (lastO l k) x=8:=by unfold chkT;rw [if_neg (by simp [a1]),if_neg (by simp [a2]),if_pos a3]
        rw [ec,if_pos (by decide)]at hch
        rw [hch]at hK;have a3' : ordQ (rv x.2.2) 0=0:=yj.2 a3;simp only [go_sem,hlt,hx,hi,hv,hs,mC,a1,a2,a3'];exact⟨hwx,hwx.2.2,hrx,hwx.2.2,hrx,hK⟩
       .have hin' : ∀t∈l.take (k+1),inM t:=λt ht=>by
         rw [List.take_add_one,hx0]at ht;rcases List.mem_append.1 ht with ht | ht
         .exact hin t ht
         .simp at ht;rw [ht];exact a1
        have a3' : ¬ordQ (rv x.2.2) 0=0:=λh=>a3 (yj.1 h);cases k with
        | zero=>
         simp only [go_sem,hlt,hx,hi,hv,hs,mC,a1,a2,a3',Int.lt_irrefl];have ec:chkT (lastO l 0) x=0:=by unfold chkT;rw [if_neg (by simp [a1]),if_neg (by simp [a2]),if_neg a3,if_neg (by simp [lastO,badO])]
         rw [ec,if_neg (by decide)]at hch
         have hl1:lastO l 1=some x:=congrArg some hx;exact⟨hwx,hwx.2.2,hrx,hwx.2.2,hrx,by omega,1,qa (by simp [bitvec_to_nat,msA,ms]) trivial,⟨by omega,by rw [hl1];exact hch,hin'⟩,by omega⟩
        | succ j=>
         have hn1:((j+1:Nat):Int)-1=(j:Int):=by omega
         have hn2:(0:Int)<((j+1:Nat):Int):=by omega
         have hym:l.getD j mo0∈l:=by
          rw [List.getD_eq_getElem?_getD,List.getElem?_eq_getElem (by omega)];exact List.getElem_mem _
         have hyt:l.getD j mo0∈l.take (j+1):=by
          rw [List.getD_eq_getElem?_getD,List.getElem?_eq_getElem (by omega),Option.getD_some]
          exact List.mem_iff_getElem.2 ⟨j,by rw [List.length_take];omega,by simp⟩
         have hiy:=hin _ hyt;have hwy:=hw _ hym;have hlj:lastO l (j+1)=some (l.getD j mo0):=rfl;have hl1:lastO l (j+1+1)=some x:=congrArg some hx;by_cases h:kM (l.getD j mo0)<kM x
         .have ec:chkT (lastO l (j+1)) x=0:=by unfold chkT;rw [if_neg (by simp [a1]),if_neg (by simp [a2]),if_neg a3,if_neg (by rw [hlj];simpa [badO] using h)]
          rw [ec,if_neg (by decide)]at hch
          simp only [go_sem,hlt,hx,hi,hv,hs,ho,mC,a1,a2,a3',hn1,hn2,h];exact⟨hwx,hwx.2.2,hrx,hwx.2.2,hrx,by omega,by omega,hwy,hwx,hiy,by omega,j+1+1,qa (by simp [bitvec_to_nat,msA,ms]) trivial,⟨by omega,by rw [hl1];exact hch,hin'⟩,by omega⟩
         .have ec:chkT (lastO l (j+1)) x=12:=by unfold chkT;rw [if_neg (by simp [a1]),if_neg (by simp [a2]),if_neg a3,if_pos (by rw [hlj];simpa [badO] using h)]
          rw [ec,if_pos (by decide)]at hch
          rw [hch]at hK;simp only [go_sem,hlt,hx,hi,hv,hs,ho,mC,a1,a2,a3',hn1,hn2,h];exact⟨hwx,hwx.2.2,hrx,hwx.2.2,hrx,by omega,by omega,hwy,hwx,hiy,hK⟩
     .have ec:chkT (lastO l k) x=3:=by unfold chkT;rw [if_pos a1]
      rw [ec,if_pos (by decide)]at hch
      rw [hch]at hK;have t30:¬(3:Int)=0:=by decide
      simp only [go_sem,hlt,hx,hi,mC,a1,t30];exact⟨hwx,hK⟩
    .rw [List.drop_of_length_le (by omega)]at hch
     have e0:chkG (lastO l k) []=0:=rfl;rw [hch,e0]at hK;simp only [go_sem,hlt];exact hK
theorem V7(hΓ:Holds P Γ){f fs:Nat}(hs:Γ fs=.dat true qt)(hc:check P f=some (55,(Vd fs).strip,[.tmp 4])):Sound P f (.dat false ul):=by
 refine Qa hc Jam hΓ (λargs K hcl hfi hG=>?_);match args,hG with
 | [a,b],hG=>
  obtain⟨p,rfl,hwp,q,rfl,hwq,hrp,hl,hK⟩:=hG;refine⟨by simp,?_⟩
  by_cases hle:p.length=q.length
  case neg=>
   rw [decide_eq_false (λe=>hle (by rw [e]))]at hK
   have hle' : ¬(p.length:Int)=(q.length:Int):=by omega
   simp only [go_sem,Vd,ms,hle'];repeat first | refine q_Wk ?_ | intro _
   exact hK
  have hle' : (p.length:Int)=(q.length:Int):=by omega
  simp only [go_sem,Vd,ms,hle];repeat first | refine q_Wk ?_ | intro _
  refine ja (λk:Nat=>⟨mkV [(0,msA p),(1,msA q),(12,.one (.lit (.int .i64 q.length))),(13,.one (.lit (.int .i64 k)))],mkH []⟩) (λk=>k<=q.length/\p.take k=q.take k) (λk=>q.length-k) 0 ?_ ?_ ?_
  .exact qa (by simp [bitvec_to_nat,msA,ms]) trivial
  .exact⟨Nat.zero_le _,rfl⟩
  .rintro k ⟨hk,htk⟩;by_cases hlt:k<q.length
   .obtain⟨x,hx⟩:∃x,p.getD k mo0=x:=⟨_,rfl⟩;obtain⟨y,hy⟩:∃y,q.getD k mo0=y:=⟨_,rfl⟩;have hltp:k<p.length:=by omega
    have hx0:=getDm hltp hx;have hy0:=getDm hlt hy;have hxm:=List.mem_of_getElem? hx0;have hym:=List.mem_of_getElem? hy0;have hwx:=hwp x hxm;have hwy:=hwq y hym;have hrx:=hrp x hxm;have ne:x≠y->K (.one (.lit (.bool false))):=λhne=>by
     rw [decide_eq_false (λe=>hne (by rw [e,hy0]at hx0;simpa using hx0.symm))]at hK
     exact hK
    by_cases e1:x.1=y.1
    case neg=>
     simp only [go_sem,hlt,hltp,hx,hy,mC,e1,hs];repeat first | refine q_Wk ?_ | intro _
     exact ne λe=>e1 (by rw [e])
    by_cases e2:x.2.1=y.2.1
    case neg=>
     simp only [go_sem,hlt,hltp,hx,hy,mC,e1,e2,hs];repeat first | refine q_Wk ?_ | intro _
     exact ne λe=>e2 (by rw [e])
    by_cases e3:x.2.2=y.2.2
    case neg=>
     simp only [go_sem,hlt,hltp,hx,hy,mC,e1,e2,e3,hs];repeat first | refine q_Wk ?_ | intro _
     refine⟨hwx.2.2,hwy.2.2,hrx,?_⟩;exact ne λe=>e3 (by rw [e])
    have exy:x=y:=by
     obtain⟨a1,a2,a3⟩:=x;obtain⟨b1,b2,b3⟩:=y;simp only at e1 e2 e3;rw [e1,e2,e3]
    simp only [go_sem,hlt,hltp,hx,hy,mC,e1,e2,e3,hs];repeat first | refine q_Wk ?_ | intro _
    refine⟨hwy.2.2,hwy.2.2,by rw [<-e3];exact hrx,by omega,k+1,qa (by simp [bitvec_to_nat,msA,ms]) trivial,⟨by omega,by rw [List.take_add_one,List.take_add_one,htk,hx0,hy0,exy]⟩,by omega⟩
   .have e:p=q:=by
     rw [List.take_of_length_le (by omega),List.take_of_length_le (by omega)]at htk
     exact htk
    rw [decide_eq_true e]at hK;simp only [go_sem,hlt];exact hK
theorem UaG(hΓ:Holds P Γ){f:Nat}(hc:check P f=some (45,Xc.strip,[.tmp 6])):Sound P f (.dat true Wy):=by
 refine Qa hc waS hΓ (λargs K hcl hfi hG=>?_);match args,hG with
 | [a,b,c],hG=>
  rw [Wah]at hG;obtain⟨x,rfl,hx,hG1⟩:=hG;obtain⟨k1,n,rfl,hG2⟩:=Xa hG1;obtain⟨k2,d,rfl,rfl,rfl,hl,hK⟩:=Xa hG2;clear hG1 hG2;refine⟨by simp,?_⟩
  have hl1:x.2.1.length<=4294967296:=Nat.le_trans (Nat.le_max_left _ _) hl;have hl2:x.2.2.length<=4294967296:=Nat.le_trans (Nat.le_max_right _ _) hl;unfold lowB at hK;by_cases a1:x.2.1.length<2
  case neg=>
   have a1' : ¬(x.2.1.length:Int)<2:=by omega
   rw [decide_eq_false a1]at hK;simp only [go_sem,Xc,XR,yV,QT,a1'];repeat first | refine q_Wk ?_ | intro _
   exact hK
  by_cases a2:x.2.2.length<2
  case neg=>
   have a1' : (x.2.1.length:Int)<2:=by omega
   have a2' : ¬(x.2.2.length:Int)<2:=by omega
   rw [decide_eq_true a1,decide_eq_false a2]at hK;simp only [go_sem,Xc,XR,yV,QT,a1',a2'];repeat first | refine q_Wk ?_ | intro _
   exact hK
  have a1' : (x.2.1.length:Int)<2:=by omega
  have a2' : (x.2.2.length:Int)<2:=by omega
  simp only [go_sem,Xc,XR,yV,QT,a1',a2'];rw [decide_eq_true a1,decide_eq_true a2,Bool.true_and,Bool.true_and]at hK;refine λ_ _ _=>⟨λb1 _=>⟨λb2=>?_,λb2=>⟨by decide,by omega,?_⟩⟩,λb1=>⟨by decide,by omega,λc1 _=>⟨λb2=>?_,λb2=>⟨by decide,by omega,?_⟩⟩,λc1=>?_⟩⟩
  .rw [decide_eq_true b1,decide_eq_true b2]at hK;exact hK
  .rw [decide_eq_true b1,decide_eq_false b2]at hK;exact hK
  .rw [decide_eq_false b1,decide_eq_true c1,decide_eq_true b2]at hK;exact hK
  .rw [decide_eq_false b1,decide_eq_true c1,decide_eq_false b2]at hK;exact hK
  .rw [decide_eq_false b1,decide_eq_false c1]at hK;exact hK
theorem Y6(hΓ:Holds P Γ){f fl:Nat}(hl:Γ fl=.dat true Wy)(hc:check P f=some (15,(Ue fl).strip,[.tmp 2])):Sound P f (.dat false Vo):=by
 refine Qa hc Qai hΓ (λargs K hcl hfi hG=>?_);match args,hG with
 | [a],hG=>
  obtain⟨l,rfl,hw,hok,hlen,hK⟩:=hG;refine⟨by simp,?_⟩
  simp only [go_sem,Ue,xaZ];intro _;refine ja (λk:Nat=>⟨mkV [(5,rsA l),(6,.one (.lit (.int .i64 l.length))),(7,.one (.lit (.int .i64 k)))],mkH []⟩) (λk=>k<=l.length/\(l.take k).all lowR=true) (λk=>l.length-k) 0 ?_ ?_ ?_
  .exact qa (by simp [bitvec_to_nat,rsA]) trivial
  .exact⟨Nat.zero_le _,rfl⟩
  .rintro k ⟨hk,htk⟩;by_cases hlt:k<l.length
   .obtain⟨x,hx⟩:∃x,l.getD k (rcan 0)=x:=⟨_,rfl⟩;have hx0:l[k]?=some x:=by
     rw [List.getD_eq_getElem?_getD,List.getElem?_eq_getElem hlt]at hx;rw [List.getElem?_eq_getElem hlt];simpa using hx
    have hxm:=List.mem_of_getElem? hx0;have hwx:=hw x hxm;have hrx:=(hok x hxm).2;cases hb:lowB 1000 60 x with
    | false=>
     have e:l.all lowR=false:=by
      rw [Bool.eq_false_iff];intro h;have:=List.all_eq_true.1 h x hxm;unfold lowR at this;rw [hb]at this;simp at this
     rw [e]at hK;simp only [go_sem,hlt,hx,hl,hb,rC];repeat first | refine q_Wk ?_ | intro _
     exact hK
    | true=>
     simp only [go_sem,hlt,hx,hl,hb,rC];repeat first | refine q_Wk ?_ | intro _
     refine⟨k+1,qa (by simp [bitvec_to_nat,rsA]) trivial,⟨by omega,?_⟩,by omega⟩
     rw [List.take_add_one,hx0,List.all_append,htk];simpa [lowR] using hb
   .rw [List.take_of_length_le (by omega)]at htk
    rw [htk]at hK;simp only [go_sem,hlt];exact hK
theorem getDl{L:List (List Mo)}{i:Nat}{x:List Mo}(hi:i<L.length)(h:L.getD i []=x):L[i]?=some x:=by
 rw [List.getD_eq_getElem?_getD,List.getElem?_eq_getElem hi]at h;rw [List.getElem?_eq_getElem hi];simpa using h
theorem jT(hΓ:Holds P Γ){f fl:Nat}(hl:Γ fl=.dat true Wy)(hc:check P f=some (38,(qf fl).strip,[.tmp 2])):Sound P f (.dat false xj):=by
 refine Qa hc V4 hΓ (λargs K hcl hfi hG=>?_);match args,hG with
 | [a],hG=>
  obtain⟨L,rfl,hw,hok,hlen,hK⟩:=hG;refine⟨by simp,?_⟩
  simp only [go_sem,qf,mlA];intro _;refine ja (λk:Nat=>⟨mkV [(7,mlA L),(8,.one (.lit (.int .i64 L.length))),(9,.one (.lit (.int .i64 k)))],mkH []⟩) (λk=>k<=L.length/\(L.take k).all shortM=true) (λk=>L.length-k) 0 ?_ ?_ ?_
  .exact qa (by simp [bitvec_to_nat,mlA]) trivial
  .exact⟨Nat.zero_le _,rfl⟩
  .rintro k ⟨hk,htk⟩;by_cases hlt:k<L.length
   .obtain⟨p,hp⟩:∃p,L.getD k []=p:=⟨_,rfl⟩;have hp0:=getDl hlt hp;have hpm:=List.mem_of_getElem? hp0;have hwp:=hw p hpm;obtain⟨hlp,hrp⟩:=hok p hpm;have bad:shortM p=false->K (.one (.lit (.bool false))):=λh=>by
     have e:L.all shortM=false:=by
      rw [Bool.eq_false_iff];intro h';have:=List.all_eq_true.1 h' p hpm;rw [h]at this;simp at this
     rw [e]at hK;exact hK
    have good:(∀t∈p,lowR t.2.2=true)->longM p=false->((L.take (k+1)).all shortM=true):=λh1 h2=>by
     rw [List.take_add_one,hp0,List.all_append,htk];have:shortM p=true:=by
      unfold shortM;rw [h2,List.all_eq_true.2 h1];rfl
     simpa using this
    have nol:longM p=true->shortM p=false:=λh=>by unfold shortM;rw [h];rfl
    by_cases h15:(15:Int)<(p.length:Int)
    .by_cases h325:(p.length:Int)<=325
     .simp only [go_sem,hlt,hp,mlA,h15,h325];repeat first | refine q_Wk ?_ | intro _
      exact bad (nol (by unfold longM;rw [decide_eq_true (by omega),decide_eq_true (by omega)];rfl))
     .by_cases h400:(400:Int)<(p.length:Int)
      .simp only [go_sem,hlt,hp,mlA,h15,h325,h400];repeat first | refine q_Wk ?_ | intro _
       exact bad (nol (by unfold longM;rw [decide_eq_true (show 400<p.length by omega)];simp))
      have hnl:longM p=false:=by unfold longM;rw [decide_eq_false (show ¬400<p.length by omega),decide_eq_false (show ¬p.length<=325 by omega)];simp
      simp only [go_sem,hlt,hp,mlA,h15,h325,h400];repeat first | refine q_Wk ?_ | intro _
      refine ja (λj:Nat=>⟨mkV [(26,msA p),(27,.one (.lit (.int .i64 p.length))),(28,.one (.lit (.int .i64 j))),(7,.one (.slice (L.map λl=>[.slice (l.map mC)]))),(8,.one (.lit (.int .i64 L.length))),(9,.one (.lit (.int .i64 k)))],mkH []⟩) (λj=>j<=p.length/\∀t∈p.take j,lowR t.2.2=true) (λj=>p.length-j) 0 ?_ ?_ ?_
      .exact qa (by simp [bitvec_to_nat,msA,ms]) trivial
      .exact⟨Nat.zero_le _,by simp⟩
      .rintro j ⟨hj,hall⟩;by_cases hlj:j<p.length
       .obtain⟨x,hx⟩:∃x,p.getD j mo0=x:=⟨_,rfl⟩;have hx0:=getDm hlj hx;have hxm:=List.mem_of_getElem? hx0;have hwx:=hwp x hxm;have hrx:=hrp x hxm;cases hb:lowB 1000 60 x.2.2 with
        | false=>
         have e:shortM p=false:=by
          unfold shortM;have:(p.all λt=>lowR t.2.2)=false:=by
           rw [Bool.eq_false_iff];intro h;have:=List.all_eq_true.1 h x hxm;unfold lowR at this;rw [hb]at this;simp at this
          rw [this,Bool.and_false]
         simp only [go_sem,hlj,hx,hl,hb,mC];repeat first | refine q_Wk ?_ | intro _
         exact⟨hwx.2.2,hrx,bad e⟩
        | true=>
         simp only [go_sem,hlj,hx,hl,hb,mC];repeat first | refine q_Wk ?_ | intro _
         refine⟨hwx.2.2,hrx,by omega,j+1,qa (by simp [bitvec_to_nat,msA,ms]) trivial,⟨by omega,λt ht=>?_⟩,by omega⟩
         rw [List.take_add_one,hx0]at ht;rcases List.mem_append.1 ht with ht | ht
         .exact hall t ht
         .simp at ht;rw [ht];exact hb
       .rw [List.take_of_length_le (by omega)]at hall
        simp only [go_sem,hlj];exact⟨by omega,k+1,qa (by simp [bitvec_to_nat,mlA]) trivial,⟨by omega,good hall hnl⟩,by omega⟩
    .have h400:¬(400:Int)<(p.length:Int):=by omega
     have hnl:longM p=false:=by unfold longM;rw [decide_eq_false (show ¬400<p.length by omega),decide_eq_false (show ¬15<p.length by omega)];simp
     simp only [go_sem,hlt,hp,mlA,h15,h400];repeat first | refine q_Wk ?_ | intro _
     refine ja (λj:Nat=>⟨mkV [(26,msA p),(27,.one (.lit (.int .i64 p.length))),(28,.one (.lit (.int .i64 j))),(7,.one (.slice (L.map λl=>[.slice (l.map mC)]))),(8,.one (.lit (.int .i64 L.length))),(9,.one (.lit (.int .i64 k)))],mkH []⟩) (λj=>j<=p.length/\∀t∈p.take j,lowR t.2.2=true) (λj=>p.length-j) 0 ?_ ?_ ?_
     .exact qa (by simp [bitvec_to_nat,msA,ms]) trivial
     .exact⟨Nat.zero_le _,by simp⟩
     .rintro j ⟨hj,hall⟩;by_cases hlj:j<p.length
      .obtain⟨x,hx⟩:∃x,p.getD j mo0=x:=⟨_,rfl⟩;have hx0:=getDm hlj hx;have hxm:=List.mem_of_getElem? hx0;have hwx:=hwp x hxm;have hrx:=hrp x hxm;cases hb:lowB 1000 60 x.2.2 with
       | false=>
        have e:shortM p=false:=by
         unfold shortM;have:(p.all λt=>lowR t.2.2)=false:=by
          rw [Bool.eq_false_iff];intro h;have:=List.all_eq_true.1 h x hxm;unfold lowR at this;rw [hb]at this;simp at this
         rw [this,Bool.and_false]
        simp only [go_sem,hlj,hx,hl,hb,mC];repeat first | refine q_Wk ?_ | intro _
        exact⟨hwx.2.2,hrx,bad e⟩
       | true=>
        simp only [go_sem,hlj,hx,hl,hb,mC];repeat first | refine q_Wk ?_ | intro _
        refine⟨hwx.2.2,hrx,by omega,j+1,qa (by simp [bitvec_to_nat,msA,ms]) trivial,⟨by omega,λt ht=>?_⟩,by omega⟩
        rw [List.take_add_one,hx0]at ht;rcases List.mem_append.1 ht with ht | ht
        .exact hall t ht
        .simp at ht;rw [ht];exact hb
      .rw [List.take_of_length_le (by omega)]at hall
       simp only [go_sem,hlj];exact⟨by omega,k+1,qa (by simp [bitvec_to_nat,mlA]) trivial,⟨by omega,good hall hnl⟩,by omega⟩
   .rw [List.take_of_length_le (by omega)]at htk
    rw [htk]at hK;simp only [go_sem,hlt];exact hK
theorem WU(hΓ:Holds P Γ){f fd fs:Nat}(hd:Γ fd=.dat false Uj)(hs:Γ fs=.dat false xj)(hc:check P f=some (31,(kf fd fs).strip,[.tmp 2])):Sound P f (.dat false qk):=by
 refine Qa hc qX hΓ (λargs K hcl hfi hG=>?_);match args,hG with
 | [a],hG=>
  obtain⟨p,q,rfl,⟨hwp,hwq⟩,⟨hlp,hp⟩,⟨hlq,hq⟩,hK⟩:=hG;refine⟨by simp,?_⟩
  simp only [go_sem,kf,ms];refine ja (λk:Nat=>⟨mkV [(7,.one (.slice [[ms p],[ms q]])),(8,.one (.lit (.int .i64 2))),(9,.one (.lit (.int .i64 k)))],mkH []⟩) (λk=>k<=2/\(0<k->vldM p=true)/\(1<k->vldM q=true)) (λk=>2-k) 0 ?_ ?_ ?_
  .exact qa (by simp [bitvec_to_nat,ms]) trivial
  .exact⟨by decide,by omega,by omega⟩
  .rintro k ⟨hk2,h1,h2⟩;have hk3:k=0∨k=1∨k=2:=by omega
   rcases hk3 with rfl | rfl | rfl
   .have ao:([p]:List (List Mo)).all shortM=shortM p:=by simp
    have a1:∀l∈[p],l.length<=10000000/\∀t∈l,rl t.2.2<=4294967296:=λl hl=>by rw [List.mem_singleton.1 hl];exact⟨hlp,hp⟩
    have a2:∀l∈[p],∀t∈l,WLM t:=λl hl=>by rw [List.mem_singleton.1 hl];exact hwp
    have bad:vldM p=false->K (.one (.lit (.bool false))):=λh=>by rw [h]at hK;exact hK
    cases hsh:shortM p with
    | false=>
     simp only [go_sem,c02,hd,hs,ms,ao,hsh];refine⟨hwp,hp,a2,a1,?_⟩;repeat first | refine q_Wk ?_ | intro _
     exact bad (by unfold vldM;rw [hsh];rfl)
    | true=>
     by_cases hx:chkB p=0
     .simp only [go_sem,c02,hd,hs,ms,ao,hsh,hx];refine⟨hwp,hp,a2,a1,⟨λh=>?_,λh=>?_⟩,λh=>absurd trivial h⟩
      .exact bad (by unfold vldM;rw [decide_eq_false (show ¬degM p<=5 by omega)];simp)
      .have hv:vldM p=true:=by unfold vldM;rw [hsh,decide_eq_true hx,decide_eq_true (show degM p<=5 by omega)];rfl
       exact⟨by decide,1,qa (by simp [bitvec_to_nat,ms]) trivial,⟨by omega,λ_=>hv,by omega⟩,by omega⟩
     .simp only [go_sem,c02,hd,hs,ms,ao,hsh,hx];refine⟨hwp,hp,a2,a1,?_⟩;repeat first | refine q_Wk ?_ | intro _
      exact bad (by unfold vldM;rw [decide_eq_false hx];simp)
   .have ao:([q]:List (List Mo)).all shortM=shortM q:=by simp
    have a1:∀l∈[q],l.length<=10000000/\∀t∈l,rl t.2.2<=4294967296:=λl hl=>by rw [List.mem_singleton.1 hl];exact⟨hlq,hq⟩
    have a2:∀l∈[q],∀t∈l,WLM t:=λl hl=>by rw [List.mem_singleton.1 hl];exact hwq
    have hvp:=h1 (by omega)
    have bad:vldM q=false->K (.one (.lit (.bool false))):=λh=>by rw [h,Bool.and_false]at hK;exact hK
    cases hsh:shortM q with
    | false=>
     simp only [go_sem,c12,xA,hd,hs,ms,ao,hsh];refine⟨hwq,hq,a2,a1,?_⟩;repeat first | refine q_Wk ?_ | intro _
     exact bad (by unfold vldM;rw [hsh];rfl)
    | true=>
     by_cases hx:chkB q=0
     .simp only [go_sem,c12,xA,hd,hs,ms,ao,hsh,hx];refine⟨hwq,hq,a2,a1,⟨λh=>?_,λh=>?_⟩,λh=>absurd trivial h⟩
      .exact bad (by unfold vldM;rw [decide_eq_false (show ¬degM q<=5 by omega)];simp)
      .have hv:vldM q=true:=by unfold vldM;rw [hsh,decide_eq_true hx,decide_eq_true (show degM q<=5 by omega)];rfl
       exact⟨by decide,2,qa (by simp [bitvec_to_nat,ms]) trivial,⟨by omega,λ_=>hvp,λ_=>hv⟩,by omega⟩
     .simp only [go_sem,c12,xA,hd,hs,ms,ao,hsh,hx];refine⟨hwq,hq,a2,a1,?_⟩;repeat first | refine q_Wk ?_ | intro _
      exact bad (by unfold vldM;rw [decide_eq_false hx];simp)
   .have hx:=h1 (by omega)
    have hy:=h2 (by omega)
    rw [hx,hy]at hK;simp only [go_sem,c22];exact hK
end Go.Abs
end
section
namespace Go.Num
open Go.Abs
def okT(n:Int):Prop:=n=1∨n=2∨n=4∨n=12
def tx(n:Int):ByteArray:=if n=12 then ⟨#[49,50]⟩ else if n=4 then ⟨#[52]⟩ else if n=2 then ⟨#[50]⟩ else ⟨#[49]⟩
def txR(q:Rat):ByteArray:=if q.den=1 then tx q.num else tx q.num++⟨#[47]⟩++tx (q.den:Nat)
theorem xbL{m:Nat}(h1:1<=m)(h2:m<=12):digs m=[m]:=by rw [Jo (by omega),show m / 4294967296=0 by omega,Zb,show m % 4294967296=m by omega]
end Go.Num
namespace Go.Abs
open Go.Num
variable {P:Program} {Γ:Nat->Spec}
theorem Vbn{h h' : Nat->HB}{z:Nat}{b:Bool}{w:W}:okB h h' (some ⟨[[zb w,zm w]],z,b⟩) (some ⟨[[zb w,zm w]],z,b⟩):=
 ⟨⟨rfl,rfl⟩,.inl ⟨rfl,λe he c hc=>by
  rw [List.mem_singleton.1 he]at hc;simp only [List.mem_cons,List.not_mem_nil,or_false]at hc;rcases hc with rfl | rfl
  .exact of_eq_true (YQ _)
  .exact of_eq_true (XT _)⟩⟩
def eJ(s:ByteArray):AV:=.one (.slice [[.lit (.string s)]])
theorem xbG(x y:ByteArray)(h:eJ x=eJ y):x=y:=by
 simp only [eJ,AV.one.injEq,C.slice.injEq,List.cons.injEq,C.lit.injEq,Value.string.injEq,and_true]at h;exact h
def onJ(k:ByteArray->Prop)(a:AV):Prop:=onE eJ k a
@[congr] theorem yb2{k:ByteArray->Prop}{a a'}(h:a=a'):onJ k a=onJ k a':=by subst h;rfl
theorem qbJ(k:ByteArray->Prop)(x:ByteArray):onJ k (.one (.slice [[.lit (.string x)]]))=k x:=uf xbG k x
attribute [go_sem,go_sem ↓] qbJ
def ko(l:List AV)(K:AV->Prop):Prop:=
 match l with
 | [a]=>asInt (λk n=>k=.i64/\okT n/\K (.one (.lit (.string (tx n))))) a
 | _=>False
theorem JY a K:ko [a] K=(asInt (λk n=>k=.i64/\okT n/\K (.one (.lit (.string (tx n))))) a):=propext Iff.rfl
@[congr] theorem Jbz{K}{l l'}(h:l=l'):ko l K=ko l' K:=by subst h;rfl
attribute [go_sem,go_sem ↓] JY
theorem xai:Good ko:=Ja λas=>by
 unfold ko;split
 .exact(Jc (λ_ _=>(.and λ_=>(.and λ_=>(.ret _)))) _)
 .exact .of λK hk=>hk.elim
def wv(l:List AV)(K:AV->Prop):Prop:=
 match l with
 | [a,b]=>asInt (λk n=>k=.i64/\okT n/\asInt (λk m=>k=.i64/\m=10/\K (.one (.lit (.string (tx n))))) b) a
 | _=>False
theorem qU a b K:wv [a,b] K=(asInt (λk n=>k=.i64/\okT n/\asInt (λk m=>k=.i64/\m=10/\K (.one (.lit (.string (tx n))))) b) a):=propext Iff.rfl
@[congr] theorem YbO{K}{l l'}(h:l=l'):wv l K=wv l' K:=by subst h;rfl
attribute [go_sem,go_sem ↓] qU
theorem waH:Good wv:=Ja λas=>by
 unfold wv;split
 .exact(Jc (λ_ _=>(.and λ_=>(.and λ_=>(Jc (λ_ _=>(.and λ_=>(.and λ_=>(.ret _)))) _)))) _)
 .exact .of λK hk=>hk.elim
def Yj(l:List AV)(K:AV->Prop):Prop:=
 match l with
 | [a]=>asInt (λk n=>k=.i64/\okT n/\K (.one (.lit (.string (tx n))))) a
 | _=>False
theorem jay a K:Yj [a] K=(asInt (λk n=>k=.i64/\okT n/\K (.one (.lit (.string (tx n))))) a):=propext Iff.rfl
@[congr] theorem jbR{K}{l l'}(h:l=l'):Yj l K=Yj l' K:=by subst h;rfl
attribute [go_sem,go_sem ↓] jay
theorem XL:Good Yj:=Ja λas=>by
 unfold Yj;split
 .exact(Jc (λ_ _=>(.and λ_=>(.and λ_=>(.ret _)))) _)
 .exact .of λK hk=>hk.elim
def yag(l:List AV)(K:AV->Prop):Prop:=
 match l with
 | [a,b]=>onJ (λs=>b=.one (.lit (.string ⟨#[]⟩))/\K (.one (.lit (.string s)))) a
 | _=>False
theorem zaC a b K:yag [a,b] K=(onJ (λs=>b=.one (.lit (.string ⟨#[]⟩))/\K (.one (.lit (.string s)))) a):=propext Iff.rfl
@[congr] theorem ZbR{K}{l l'}(h:l=l'):yag l K=yag l' K:=by subst h;rfl
attribute [go_sem,go_sem ↓] zaC
def jW(l:List AV)(K:AV->Prop):Prop:=
 match l with
 | [a]=>onW (λw=>okT (zv w)/\K (.one (.lit (.string (tx (zv w)))))) a
 | _=>False
theorem W7 a K:jW [a] K=(onW (λw=>okT (zv w)/\K (.one (.lit (.string (tx (zv w)))))) a):=propext Iff.rfl
@[congr] theorem YbK{K}{l l'}(h:l=l'):jW l K=jW l' K:=by subst h;rfl
attribute [go_sem,go_sem ↓] W7
def ZW(l:List AV)(K:AV->Prop):Prop:=
 match l with
 | [a]=>onR (λx=>okT (rv x).num/\okT ((rv x).den:Nat)/\rl x<=4294967296/\K (.one (.lit (.string (txR (rv x)))))) a
 | _=>False
theorem kY a K:ZW [a] K=(onR (λx=>okT (rv x).num/\okT ((rv x).den:Nat)/\rl x<=4294967296/\K (.one (.lit (.string (txR (rv x)))))) a):=propext Iff.rfl
@[congr] theorem wbz{K}{l l'}(h:l=l'):ZW l K=ZW l' K:=by subst h;rfl
attribute [go_sem,go_sem ↓] kY
theorem WW(hΓ:Holds P Γ){f:Nat}(hc:check P f=some (15,(Qb).strip,[.tmp 2])):Sound P f (.dat false ko):=by
 refine Qa hc xai hΓ (λargs K hcl hfi hG=>?_);match args,hG with
 | [a],hG=>
  obtain⟨k,n,rfl,rfl,hn,hK⟩:=Xa hG;refine⟨by simp,?_⟩
  rcases hn with rfl | rfl | rfl | rfl
  .simp only [go_sem,Qb];exact⟨λ_=>⟨by decide,⟨by decide,by decide,by decide⟩,hK⟩,λh=>absurd (by decide) h⟩
  .simp only [go_sem,Qb];exact⟨λ_=>⟨by decide,⟨by decide,by decide,by decide⟩,hK⟩,λh=>absurd (by decide) h⟩
  .simp only [go_sem,Qb];exact⟨λ_=>⟨by decide,⟨by decide,by decide,by decide⟩,hK⟩,λh=>absurd (by decide) h⟩
  .simp only [go_sem,Qb];exact⟨λh=>absurd h (by decide),λ_=>⟨by decide,by decide,by decide,⟨by decide,by decide,by decide⟩,hK⟩⟩
theorem zag(hΓ:Holds P Γ){f fs fn fb fi:Nat}(hs:Γ fs=.dat false ko)(hc:check P f=some (54,(Yc fs fn fb fi).strip,[.tmp 4])):Sound P f (.dat false wv):=by
 refine Qa hc waH hΓ (λargs K hcl hfi hG=>?_);match args,hG with
 | [a,b],hG=>
  rw [qU]at hG;obtain⟨k,n,rfl,rfl,hn,hG'⟩:=Xa hG;obtain⟨k',n',rfl,rfl,rfl,hK⟩:=Xa hG';clear hG hG';refine⟨by simp,?_⟩
  have a1:(0:Int)<=n:=by rcases hn with rfl | rfl | rfl | rfl <;> decide
  have a2:n<100:=by rcases hn with rfl | rfl | rfl | rfl <;> decide
  simp only [go_sem,Yc,hs,a1,a2,hn];exact hK
theorem Uah(hΓ:Holds P Γ){f fs:Nat}(hs:Γ fs=.dat false wv)(hc:check P f=some (5,(Je fs).strip,[.tmp 2])):Sound P f (.dat false Yj):=by
 refine Qa hc XL hΓ (λargs K hcl hfi hG=>?_);match args,hG with
 | [a],hG=>
  obtain⟨k,n,rfl,rfl,hn,hK⟩:=Xa hG;refine⟨by simp,?_⟩
  simp only [go_sem,Je,hs,hn];exact hK
theorem kX(hΓ:Holds P Γ){f fs:Nat}(hs:Γ fs=.dat false Yj)(hc:check P f=some (5,(Jp fs).strip,[.tmp 2])):Sound P f (.dat false Yj):=by
 refine Qa hc XL hΓ (λargs K hcl hfi hG=>?_);match args,hG with
 | [a],hG=>
  obtain⟨k,n,rfl,rfl,hn,hK⟩:=Xa hG;refine⟨by simp,?_⟩
  simp only [go_sem,Jp,hs,hn];exact hK
end Go.Abs
end
section
namespace Go.Abs
open Go.Num
variable {P:Program} {Γ:Nat->Spec}
def eS(l:List ByteArray):AV:=.one (.slice (l.map λx=>[.lit (.string x)]))
theorem YaT(x y:List ByteArray)(h:eS x=eS y):x=y:=by
 simp only [eS,AV.one.injEq,C.slice.injEq]at h;exact jE (λa b h=>by simpa using h) h
def onS(k:List ByteArray->Prop)(a:AV):Prop:=onE eS k a
@[congr] theorem ub2{k:List ByteArray->Prop}{a a'}(h:a=a'):onS k a=onS k a':=by subst h;rfl
theorem wbC(k:List ByteArray->Prop)(x:ByteArray):onS k (.one (.slice [[.lit (.string x)]]))=k [x]:=uf YaT k [x]
theorem qbD(k:List ByteArray->Prop)(x y:ByteArray):onS k (.one (.slice [[.lit (.string x)],[.lit (.string y)]]))=k [x,y]:=uf YaT k [x,y]
theorem vbX{β:Type}{T:List ByteArray->(β->Prop)->Prop}(h:∀l,GoodT (T l)){a:AV}:GoodT λK=>onS (λl=>T l K) a:=
 VC (e:=eS) (T:=T) YaT h
def eT(s:ByteArray):AV:=.one (.lit (.string s))
theorem Vbk(x y:ByteArray)(h:eT x=eT y):x=y:=by simpa [eT] using h
def onT1(k:ByteArray->Prop)(a:AV):Prop:=onE eT k a
@[congr] theorem WbY{k:ByteArray->Prop}{a a'}(h:a=a'):onT1 k a=onT1 k a':=by subst h;rfl
theorem wbj(k:ByteArray->Prop)(x:ByteArray):onT1 k (.one (.lit (.string x)))=k x:=uf Vbk k x
theorem JbN{β:Type}{T:ByteArray->(β->Prop)->Prop}(h:∀l,GoodT (T l)){a:AV}:GoodT λK=>onT1 (λl=>T l K) a:=
 VC (e:=eT) (T:=T) Vbk h
attribute [go_sem,go_sem ↓] wbC qbD wbj
def jS(l:List ByteArray)(sep:ByteArray):ByteArray:=⟨(Lib.join (l.map (·.data.toList)) sep.data.toList).toArray⟩
theorem jS_1(x s:ByteArray):jS [x] s=x:=by simp [jS,Lib.join]
def Us(l:List AV)(K:AV->Prop):Prop:=
 match l with
 | [a,b]=>onS (λl=>onT1 (λs=>l≠[]/\l.length<=100/\(jS l s).data.toList.length<=1000/\K (.one (.lit (.string (jS l s))))) b) a
 | _=>False
theorem kas a b K:Us [a,b] K=(onS (λl=>onT1 (λs=>l≠[]/\l.length<=100/\(jS l s).data.toList.length<=1000/\K (.one (.lit (.string (jS l s))))) b) a):=propext Iff.rfl
@[congr] theorem WbO{K}{l l'}(h:l=l'):Us l K=Us l' K:=by subst h;rfl
attribute [go_sem,go_sem ↓] kas
theorem XaI:Good Us:=Ja λas=>by
 unfold Us;split
 .exact(vbX λ_=>(JbN λ_=>(.and λ_=>(.and λ_=>(.and λ_=>(.ret _))))))
 .exact .of λK hk=>hk.elim
def yS(l:List AV)(K:AV->Prop):Prop:=
 match l with
 | [a]=>onW (λw=>(zv w=2∨zv w = -2)/\K (.one (.lit (.string (if zv w=2 then ⟨#[50]⟩ else ⟨#[45,50]⟩))))) a
 | _=>False
theorem wbk a K:yS [a] K=(onW (λw=>(zv w=2∨zv w = -2)/\K (.one (.lit (.string (if zv w=2 then ⟨#[50]⟩ else ⟨#[45,50]⟩))))) a):=propext Iff.rfl
@[congr] theorem jb2{K}{l l'}(h:l=l'):yS l K=yS l' K:=by subst h;rfl
attribute [go_sem,go_sem ↓] wbk
theorem Wba:Good yS:=Ja λas=>by
 unfold yS;split
 .exact(Qm λ_=>(.and λ_=>(.ret _)))
 .exact .of λK hk=>hk.elim
def uR(l:List AV)(K:AV->Prop):Prop:=
 match l with
 | [a]=>onR (λx=>(rv x=2∨rv x = -2)/\rl x<=4294967296/\K (.one (.lit (.string (if rv x=2 then ⟨#[50]⟩ else ⟨#[45,50]⟩))))) a
 | _=>False
theorem Wbn a K:uR [a] K=(onR (λx=>(rv x=2∨rv x = -2)/\rl x<=4294967296/\K (.one (.lit (.string (if rv x=2 then ⟨#[50]⟩ else ⟨#[45,50]⟩))))) a):=propext Iff.rfl
@[congr] theorem Zb2{K}{l l'}(h:l=l'):uR l K=uR l' K:=by subst h;rfl
attribute [go_sem,go_sem ↓] Wbn
theorem ka9:Good uR:=Ja λas=>by
 unfold uR;split
 .exact(Zn λ_=>(.and λ_=>(.and λ_=>(.ret _))))
 .exact .of λK hk=>hk.elim
def xn(tE:Nat)(l:List AV)(K:AV->Prop):Prop:=
 match l with
 | [a]=>onLq (λL=>L=[-2,0,2]/\K (.tup [.one (.lit (.string ⟨#[50,32,120,94,50,32,43,32,45,50]⟩)),errV tE 0])) a
 | _=>False
theorem uad tE a K:xn tE [a] K=(onLq (λL=>L=[-2,0,2]/\K (.tup [.one (.lit (.string ⟨#[50,32,120,94,50,32,43,32,45,50]⟩)),errV tE 0])) a):=propext Iff.rfl
@[congr] theorem wbH tE{K}{l l'}(h:l=l'):xn tE l K=xn tE l' K:=by subst h;rfl
attribute [go_sem,go_sem ↓] uad
theorem wag(tE:Nat):Good (xn tE):=Ja λas=>by
 unfold xn;split
 .exact(kw λ_=>(.and λ_=>(.ret _)))
 .exact .of λK hk=>hk.elim
def uw(f0 f1 f2 f3 f4:Nat):AC:=(.o [.m 2 (.c (.one (.lit (.string ⟨#[]⟩)))),.m 3 (.c (.one (.lit .nilIface)))] [0] (.f (.o [.M 8 0,.H 9 f0 8,.M 4 9] [0,4] (.o [.M 10 4,.R 11 10] [0,4,11] (.cond (.t 11) (.seq (.p [.M 12 4,.m 2 (.c (.one (.lit (.string ⟨#[]⟩)))),.M 3 12]) .ret) .skip))) [0] (.f (.o [.M 13 0,.Z 14 13,.I 15 .eql 14 0] [0,15] (.cond (.t 15) (.seq (.p [.m 2 (.c (.one (.lit (.string ⟨#[48]⟩)))),.m 3 (.c (.one (.lit .nilIface)))]) .ret) .skip)) [0] (.o [.m 5 (.c (.one .emp))] [0,5] (.f (.o [.M 16 0,.Z 17 16,.I 18 .sub 17 1,.M 6 18] [0,5,6] (.block 0 (.loop (.f (.o [.M 19 6,.I 20 .geq 19 0] [0,5,6,20] (.cond (.t 20) .skip (.exit 0))) [0,5,6] (.f (.block 1 (.f (.o [.M 23 0,.M 24 6,.J 25 3 23 24,.L 26 3 25,.H 27 f1 26,.I 28 .eql 27 0] [0,5,6,28] (.cond (.t 28) (.exit 1) .skip)) [0,5,6] (.o [.M 29 0,.M 30 6,.J 31 3 29 30,.L 32 3 31,.H 33 f2 32,.M 7 33] [0,5,6,7] (.f (.o [.M 34 6,.I 35 .gtr 34 0] [0,5,6,7,35] (.cond (.t 35) (.p [.M 36 7,.u 37 (.sop 2 [(.t 36),(.c (.one (.lit (.string ⟨#[32,120]⟩))))]),.M 7 37]) .skip)) [0,5,6,7] (.f (.o [.M 38 6,.I 39 .gtr 38 1] [0,5,6,7,39] (.cond (.t 39) (.p [.M 40 7,.M 41 6,.H 42 f3 41,.u 43 (.sop 2 [(.c (.one (.lit (.string ⟨#[94]⟩)))),(.t 42)]),.u 44 (.sop 2 [(.t 40),(.t 43)]),.M 7 44]) .skip)) [0,5,6,7] (.p [.M 45 5,.M 46 7,.u 47 (.row 1 [[.x 1 (.t 46)]]),.u 48 (.app 1 (.t 45) (.t 47)),.M 5 48])))))) [0,5,6] (.p [.M 21 6,.I 22 .sub 21 1,.M 6 22])))))) [5] (.seq (.p [.M 49 5,.u 50 (.call f4 [(.t 49),(.c (.one (.lit (.string ⟨#[32,43,32]⟩))))]),.M 2 50,.m 3 (.c (.one (.lit .nilIface)))]) .ret))))))
theorem Ual{f:FuncId}(hE:Enters P f)
  (hJ:∀(bk o c:Nat) (xs:List ByteArray) (sep:ByteArray) (w:World),(∀(j:Nat) x,xs[j]?=some x->w.cell? ⟨bk,o+j,none⟩=some (.string x))->bk<w.heap.size->xs.length<=140737488355328->xs.length<=c->(Lib.join (xs.map (·.data.toList)) sep.data.toList).length<=140737488355328->
   Calls P f #[.slice (some ⟨bk,o,none⟩) xs.length c,.string sep] w λe w'=>e=.returned (.string ⟨(Lib.join (xs.map (·.data.toList)) sep.data.toList).toArray⟩)/\Go.RowKit.Below w.heap.size w w'):Sound P f (.dat false Us):=by
 refine⟨hE,XaI,λargs vals w I K hI hr _ hG=>?_⟩;match args,hG with
 | [a,b],hG=>
  obtain⟨l,rfl,s,rfl,h0,h1,h2,hK⟩:=hG;match vals,hr.1 with
  | [v,u],_=>
   have hv:=hr.2 0 _ v rfl rfl;have hu:=hr.2 1 _ u rfl rfl;cases hu with
   | one c u hu=>
    cases hu with
    | lit u hu=>
     cases hv with
     | one c v hv=>
      obtain⟨es,hes⟩:∃es,es=l.map λx=>[C.lit (.string x)]:=⟨_,rfl⟩;have hv' : RC M0 I w.heap (.slice es) v:=by rw [hes];exact hv
      have hl:es.length=l.length:=by rw [hes,List.length_map]
      cases hv' with
      | snil a cap=>exact absurd (List.map_eq_nil_iff.1 hes.symm) h0
      | slice _ sz b off cap arr ty fz vs c0 c1 c2 c3 c4 c5 c6 c7=>
       have s1:sz=1:=by
        cases l with
        | nil=>exact absurd rfl h0
        | cons x l=>rw [<-c5 [C.lit (.string x)] (by rw [hes];simp)];rfl
       subst s1;rw [hl];rw [hl]at c2;refine(hJ b off cap l s w ?_ (hI b c3) (by omega) c2 (by simpa [jS] using Nat.le_trans h2 (by decide))).mono λe w' ⟨he,hb⟩=>?_
       .intro j x hj;have hlt:j<l.length:=(List.getElem?_eq_some_iff.1 hj).1;have q1:=c6 j 0 (by omega) (by decide)
        have q2:=c7 j 0 [C.lit (.string x)] (C.lit (.string x)) (by rw [hes,List.getElem?_map,hj];rfl) rfl
        generalize hvj:vs j 0=vj at q1 q2;cases q2
        have q3:=zW (w:=w) (b:=b) (off:=off) (j:=j) c4 (by simpa using q1)
        rwa [Vr]at q3
       .exact⟨_,_,I,he,hK,.one _ _ (.lit _ rfl),.lit _,{ grow:=hb.size,keep:=λk hk=>hb.block k hk,sub:=λ_ h=>h,new:=λ_ h=>.inl h,imb:=λk hk=>Nat.lt_of_lt_of_le (hI k hk) hb.size,os:=hb.os,tape:=hb.tape,out:=hb.output }⟩
theorem Za5(hΓ:Holds P Γ){f fm fs fi fr fj fn:Nat}(hm:Γ fm=.dat false wh)(hs:Γ fs=.dat false Qs)(hi:Γ fi=.dat false Yj)(hj:Γ fj=.dat false Us)(hn:Γ fn=.dat true we)(hc:check P f=some (44,(xp fm fs fi fr fj fn).strip,[.tmp 2])):Sound P f (.dat false yS):=by
 refine Qa hc Wba hΓ (λargs K hcl hfi hG=>?_);match args,hG with
 | [a],hG=>
  obtain⟨w,rfl,hw,h1,hK⟩:=hG;refine⟨by simp,?_⟩
  have d1:digs 2=[2]:=xbL (by decide) (by decide)
  have d0:=Zb;have v1:val [2] / 1000000000=0:=by decide
  have v2:val [2] % 1000000000=2:=by decide
  have na:(zv w).natAbs=2:=by rcases h1 with h | h <;> rw [h] <;> rfl
  have w1:WL [2]:=Xb.2 ⟨by decide,qc⟩
  have hok:okT ((2:Nat):Int):=.inr (.inl rfl);have jj:jS [tx ((2:Nat):Int)] ⟨#[]⟩=⟨#[50]⟩:=jS_1 _ _;have j2:(jS [tx ((2:Nat):Int)] ⟨#[]⟩).data.toList.length<=1000:=by rw [jj];decide
  simp only [go_sem,xp,hm,hs,hi,hj,hn,hw,na,d1];refine ja (λk:Nat=>if k=0 then ⟨mkV [(1,.one (.ptr 1 1 0 0)),(3,wsA [2]),(4,.one .emp)],mkH [(1,⟨1,some ⟨[[zb w,zm w]],2,true⟩⟩)]⟩ else ⟨mkV [(1,.one (.ptr 1 1 0 0)),(3,wsA []),(4,.one (.full [[.lit (.string (tx ((2:Nat):Int)))]]))],mkH [(1,⟨1,some ⟨[[zb w,zm w]],2,true⟩⟩)]⟩) (λ_=>True) (λk=>1-k) 0 ?_ trivial ?_
  .rw [if_pos rfl];exact qa (by simp [bitvec_to_nat,wc]) ⟨Vbn,trivial⟩
  .intro k _;by_cases hk:k=0
   .subst hk;rw [if_pos rfl];simp only [go_sem,hs,hi,v1,v2,d0];refine⟨w1,by decide,by decide,by omega,hok,λe he=>by simp at he,1,?_,by decide⟩
    rw [if_neg (by decide)]
    exact qa (by simp [bitvec_to_nat,wc]) ⟨Vbn,trivial⟩
   .rw [if_neg hk];rcases h1 with h1 | h1
    .rw [if_pos h1]at hK;simp only [go_sem,hj,hn,hw,h1,jj,j2];exact⟨by simp,λh=>absurd h (by decide),λ_=>hK⟩
    .rw [if_neg (by rw [h1];decide)]at hK
     simp only [go_sem,hj,hn,hw,h1,jj,j2];exact⟨by simp,λ_=>⟨by decide,hK⟩,λh=>absurd (by decide) h⟩
theorem za3(hΓ:Holds P Γ){f fp fo fc ft:Nat}(hp:Γ fp=.dat false wd)(ho:Γ fo=.dat false vm)(hc' : Γ fc=.dat true Xw)(ht:Γ ft=.dat false yS)(hc:check P f=some (22,(Xi fp fo fc ft).strip,[.tmp 2])):Sound P f (.dat false uR):=by
 refine Qa hc ka9 hΓ (λargs K hcl hfi hG=>?_);match args,hG with
 | [a],hG=>
  obtain⟨x,rfl,hx,h1,hl,hK⟩:=hG;refine⟨by simp,?_⟩
  have t2:¬(-2:Int)=2:=by decide
  rcases h1 with h1 | h1
  .have e1:ordI ((Rat.den 2:Nat):Int) 1=0:=by decide
   have e2:(Rat.num 2:Int)=2:=by decide
   rw [if_pos h1]at hK;simp only [go_sem,Xi,hp,ho,hc',ht,hx,h1,e1,e2];exact⟨hl,.inl trivial,hK⟩
  .have e1:ordI ((Rat.den (-2):Nat):Int) 1=0:=by decide
   have e2:(Rat.num (-2):Int) = -2:=by decide
   rw [if_neg (by rw [h1];decide)]at hK
   simp only [go_sem,Xi,hp,ho,hc',ht,hx,h1,e1,e2,t2];exact⟨hl,.inr trivial,hK⟩
theorem WX(hΓ:Holds P Γ){f fk fs ft fi fj tE:Nat}(hk:Γ fk=.dat false (vl tE))(hs:Γ fs=.dat true vg)(ht:Γ ft=.dat false uR)(hi:Γ fi=.dat false Yj)(hj:Γ fj=.dat false Us)(hc:check P f=some (51,(uw fk fs ft fi fj).strip,[.tmp 2,.tmp 3])):Sound P f (.dat false (xn tE)):=by
 refine Qa hc (wag tE) hΓ (λargs K hcl hfi hG=>?_);match args,hG with
 | [a],hG=>
  obtain⟨L,rfl,hL,hK⟩:=hG;refine⟨by simp,?_⟩
  have hc0:chkP L=0:=by rw [hL];decide +kernel
  have hr:∀x∈L,rz x<=4000000000:=by rw [hL];decide +kernel
  have hl:L.length=3:=by rw [hL];rfl
  have g0:L.getD 0 0 = -2:=by rw [hL];rfl
  have g1:L.getD 1 0=0:=by rw [hL];rfl
  have g2:L.getD 2 0=2:=by rw [hL];rfl
  have e0:=Zd tE;simp only [go_sem,uw,hk,hc0,e0,hl];refine⟨hr,by omega,?_⟩
  have o2:ordQ 2 0=1:=by decide +kernel
  have om:ordQ (-2) 0 = -1:=by decide +kernel
  have o0:ordQ 0 0=0:=by decide +kernel
  have n31:((3:Nat):Int)-1=2:=rfl;have okt:okT 2:=.inr (.inl rfl);have r2:rl (rcan 2)<=4294967296:=by decide +kernel
  have rm:rl (rcan (-2))<=4294967296:=by decide +kernel
  have r0:rl (rcan 0)<=4294967296:=by decide +kernel
  have q1:¬(1:Int)=0:=by decide
  have q2:¬(-1:Int)=0:=by decide
  have q3:¬(-2:Rat)=2:=by decide
  have tx2:tx 2=⟨#[50]⟩:=rfl;have t0:(2:Int).toNat=2:=rfl;have t1:(1:Int).toNat=1:=rfl;have t00:(0:Int).toNat=0:=rfl;refine Vax 3 ⟨mkV [(0,lqA L),(5,.one .emp),(6,.one (.lit (.int .i64 2)))],mkH []⟩ (qa (by simp [bitvec_to_nat,lqA]) trivial) ?_
  simp only [go_sem,hs,ht,hi,hj,g2,yk,o2,q1,t0,tx2,Int.reduceLE,Int.reduceLT,Int.reduceSub];have z1:∀(s:ByteArray) (e:List C),e∈[[C.lit (.string s)]]->e.length=1:=λs e he=>by rw [List.mem_singleton.1 he];rfl
  refine⟨by omega,by decide +kernel,by omega,.inl trivial,by decide +kernel,by decide,okt,by decide,by decide,z1 _,?_⟩
  generalize hTA:(⟨#[50]⟩:ByteArray)++⟨#[32,120]⟩++(⟨#[94]⟩++⟨#[50]⟩)=TA;refine UaX [0,5,6] [48] (by simp [go_sem,-List.map_map]) ?_
  simp only [go_sem,hs,ht,hi,hj,g1,yk,o0,t1,Int.reduceLE,Int.reduceLT,Int.reduceSub];refine⟨by omega,by decide +kernel,?_⟩
  refine UaX [0,5,6] [48] (by simp [go_sem,-List.map_map]) ?_
  simp only [go_sem,hs,ht,hi,hj,g0,yk,om,q2,q3,t00,Int.reduceLE,Int.reduceLT,Int.reduceSub];refine⟨by omega,by decide +kernel,by omega,.inr trivial,by decide +kernel,z1 _,?_⟩
  refine UaX [0,5,6] [48] (by simp [go_sem,-List.map_map]) ?_
  have jj:jS [TA,⟨#[45,50]⟩] ⟨#[32,43,32]⟩=⟨#[50,32,120,94,50,32,43,32,45,50]⟩:=by rw [<-hTA];decide +kernel
  have j2:(jS [TA,⟨#[45,50]⟩] ⟨#[32,43,32]⟩).data.toList.length<=1000:=by rw [jj];decide
  rw [Zd]at hK;simp only [go_sem,hj,Int.reduceLE,jj,j2];exact⟨by simp,hK⟩
end Go.Abs
end
section
namespace Go.Num
open Go.Abs
def o3(l:List (Int×Int×Int)):BQ:=l.map λt=>(t.1,t.2.1,(t.2.2:Rat))
theorem jaQ(l m:List (Int×Int×Int)):o3 (l++m)=o3 l++o3 m:=List.map_append
theorem Jbh(l:List (Int×Int×Int)):(mcs (o3 l)).length=l.length:=by unfold mcs o3;rw [List.length_map,List.length_map]
theorem Vbs{l:List (Int×Int×Int)}{k:Nat}{x:Int×Int×Int}(h:l[k]?=some x):mcs (o3 (l.take (k+1)))=mcs (o3 (l.take k))++[(x.1,x.2.1,rcan (x.2.2:Rat))]:=by
 rw [List.take_add_one,h,jaQ,yt];rfl
def xmP:List (Int×Int×Int):=[(0,0,-2),(0,2,1),(2,0,1)]
def xmQ:List (Int×Int×Int):=[(0,1,1),(1,0,-1)]
def xmA:List (Int×Int×Int):=[(0,1,1),(1,0,1)]
def xmB:List (Int×Int×Int):=[(0,1,-1),(1,0,1)]
def xmC:List (Int×Int×Int):=[(0,2,-1),(2,0,1)]
theorem XbS:elL (o3 xmP) (o3 xmQ)=[-2,0,2]:=by decide +kernel
theorem vbH:mulB (o3 xmA) (o3 xmB)=o3 xmC:=by decide +kernel
theorem xbI:erC (mcs (o3 xmP)) (mcs (o3 xmQ))=0:=by decide +kernel
theorem Vbo:mulC (mcs (o3 xmA)) (mcs (o3 xmB))=0:=by decide +kernel
theorem kbD:degM (mcs (o3 xmP))*degM (mcs (o3 xmQ))<=9:=by decide +kernel
end Go.Num
namespace Go.Abs
open Go.Num
variable {P:Program} {Γ:Nat->Spec}
def iC(t:Int×Int×Int):List C:=[.lit (.int .i64 t.1),.lit (.int .i64 t.2.1),.lit (.int .i64 t.2.2)]
def i3A(l:List (Int×Int×Int)):AV:=.one (.slice (l.map iC))
theorem Qaf(x y:List (Int×Int×Int))(h:i3A x=i3A y):x=y:=by
 simp only [i3A,AV.one.injEq,C.slice.injEq]at h;refine jE (λa b h=>?_) h;obtain⟨a1,a2,a3⟩:=a;obtain⟨b1,b2,b3⟩:=b;simpa [iC] using h
def onI3(k:List (Int×Int×Int)->Prop)(a:AV):Prop:=onE i3A k a
@[congr] theorem xbW{k:List (Int×Int×Int)->Prop}{a a'}(h:a=a'):onI3 k a=onI3 k a':=by subst h;rfl
theorem Vbl(k:List (Int×Int×Int)->Prop)(a b c d e f:Int):onI3 k (.one (.slice [[.lit (.int .i64 a),.lit (.int .i64 b),.lit (.int .i64 c)],[.lit (.int .i64 d),.lit (.int .i64 e),.lit (.int .i64 f)]]))=k [(a,b,c),(d,e,f)]:=uf Qaf k [(a,b,c),(d,e,f)]
theorem zbg(k:List (Int×Int×Int)->Prop)(a b c d e f g h i:Int):onI3 k (.one (.slice [[.lit (.int .i64 a),.lit (.int .i64 b),.lit (.int .i64 c)],[.lit (.int .i64 d),.lit (.int .i64 e),.lit (.int .i64 f)],[.lit (.int .i64 g),.lit (.int .i64 h),.lit (.int .i64 i)]]))=k [(a,b,c),(d,e,f),(g,h,i)]:=uf Qaf k [(a,b,c),(d,e,f),(g,h,i)]
theorem XbI{β:Type}{T:List (Int×Int×Int)->(β->Prop)->Prop}(h:∀l,GoodT (T l)){a:AV}:GoodT λK=>onI3 (λl=>T l K) a:=
 VC (e:=i3A) (T:=T) Qaf h
theorem QaN(K:List C->Prop)(L:List (Int×Int×Int))(i:Nat):getE K (L.map iC) i=(i<L.length/\K (iC (L.getD i (0,0,0)))):=by
 simp only [getE,List.length_map,List.getElem?_map];refine propext ⟨λh=>⟨h.1,h.2 _ (by simp [h.1,List.getD_eq_getElem?_getD])⟩,λh=>⟨h.1,λe he=>?_⟩⟩
 simp [h.1]at he;subst he;have:=h.2;simpa [List.getD_eq_getElem?_getD,h.1] using this
theorem zaB(L:List (Int×Int×Int)):Clean (.slice (L.map iC))=True:=eq_true (.slice _ λe he c hc=>by
 obtain⟨l,_,rfl⟩:=List.mem_map.1 he;simp only [iC,List.mem_cons,List.not_mem_nil,or_false]at hc;rcases hc with rfl | rfl | rfl <;> exact .lit _)
attribute [go_sem,go_sem ↓] Vbl zbg QaN zaB
def vT(l:List AV)(K:AV->Prop):Prop:=
 match l with
 | [a]=>onI3 (λl=>(∀t∈l,-1000<=t.2.2/\t.2.2<=1000)/\l.length<=1000/\K (.one (.slice ((mcs (o3 l)).map mC)))) a
 | _=>False
theorem Wbm a K:vT [a] K=(onI3 (λl=>(∀t∈l,-1000<=t.2.2/\t.2.2<=1000)/\l.length<=1000/\K (.one (.slice ((mcs (o3 l)).map mC)))) a):=propext Iff.rfl
@[congr] theorem Ub2{K}{l l'}(h:l=l'):vT l K=vT l' K:=by subst h;rfl
attribute [go_sem,go_sem ↓] Wbm
theorem jbd:Good vT:=Ja λas=>by
 unfold vT;split
 .exact(XbI λ_=>(.and λ_=>(.and λ_=>(.ret _))))
 .exact .of λK hk=>hk.elim
def Uo(l:List AV)(K:AV->Prop):Prop:=
 match l with
 | []=>K (.one (.lit (.bool true)))
 | _=>False
theorem Wab K:Uo [] K=(K (.one (.lit (.bool true)))):=propext Iff.rfl
@[congr] theorem WbG{K}{l l'}(h:l=l'):Uo l K=Uo l' K:=by subst h;rfl
attribute [go_sem,go_sem ↓] Wab
theorem qal:Good Uo:=Ja λas=>by
 unfold Uo;split
 .exact(.ret _)
 .exact .of λK hk=>hk.elim
def zj(f0:Nat):AC:=(.o [.m 2 (.c (.one .emp))] [0] (.o [.m 3 (.c (.one .emp))] [0,3] (.f (.o [.M 6 0,.Z 7 6,.N 8 0] [3,6,7,8] (.block 0 (.loop (.o [.B 9 .lss 8 7] [3,6,7,8,9] (.f (.cond (.t 9) .skip (.exit 0)) [3,6,7,8] (.f (.block 1 (.o [.J 10 3 6 8,.L 11 3 10,.G 5 [(.lit (.int .i64 0)),(.lit (.int .i64 0)),(.lit (.int .i64 0))],.S 3 5 11] [3,5,6,7,8] (.y [.M 12 3,.u 13 (.ai 1 3 (.t 5) (.i 0)),.F 14 1 13,.u 15 (.ai 1 3 (.t 5) (.i 1)),.F 16 1 15,.u 17 (.ai 1 3 (.t 5) (.i 2)),.F 18 1 17,.H 19 f0 18,.u 20 (.build [.x 1 (.t 14),.x 1 (.t 16),.x 3 (.t 19)]),.u 21 (.row 5 [[.x 5 (.t 20)]]),.u 22 (.app 5 (.t 12) (.t 21)),.M 3 22]))) [3,6,7,8] (.p [.I 23 .add 8 1,.M 8 23]))))))) [3] (.seq (.p [.M 24 3,.M 2 24]) .ret))))
def ue(f0 f1 f2 f3 f4:Nat):AC:=(.o [.m 0 .fa] [] (.o [.u 8 (.build [.x 1 (.i 0),.x 1 (.i 1),.x 1 (.i 1)]),.u 9 (.build [.x 1 (.i 1),.x 1 (.i 0),.x 1 (.i 1)]),.u 10 (.row 3 [[.x 3 (.t 8)],[.x 3 (.t 9)]]),.H 11 f0 10,.u 12 (.build [.x 1 (.i 0),.x 1 (.i 1),.x 1 (.i (-1))]),.u 13 (.build [.x 1 (.i 1),.x 1 (.i 0),.x 1 (.i 1)]),.u 14 (.row 3 [[.x 3 (.t 12)],[.x 3 (.t 13)]]),.H 15 f0 14,.D 16 f1 11 15,.M 7 16,.X 17 0 7,.X 18 1 7,.M 1 17,.M 2 18] [1,2] (.o [.u 20 (.build [.x 1 (.i 0),.x 1 (.i 0),.x 1 (.i (-2))]),.u 21 (.build [.x 1 (.i 0),.x 1 (.i 2),.x 1 (.i 1)]),.u 22 (.build [.x 1 (.i 2),.x 1 (.i 0),.x 1 (.i 1)]),.u 23 (.row 3 [[.x 3 (.t 20)],[.x 3 (.t 21)],[.x 3 (.t 22)]]),.H 24 f0 23,.u 25 (.build [.x 1 (.i 0),.x 1 (.i 1),.x 1 (.i 1)]),.u 26 (.build [.x 1 (.i 1),.x 1 (.i 0),.x 1 (.i (-1))]),.u 27 (.row 3 [[.x 3 (.t 25)],[.x 3 (.t 26)]]),.H 28 f0 27,.D 29 f2 24 28,.M 19 29,.X 30 0 19,.X 31 1 19,.M 3 30,.M 4 31] [1,2,3,4] (.f (.o [.M 32 2,.R 33 32,.M 34 33,.V 35 34 false 4,.w 36 34 false (.binn .neq (.t 35) (.c (.one (.lit .nilIface)))),.Q 37 34 36] [1,3,37] (.cond (.t 37) (.seq (.p [.m 0 .fa]) .ret) .skip)) [1,3] (.o [.M 39 3,.H 40 f3 39,.M 38 40,.X 41 0 38,.X 42 1 38,.M 5 41,.M 6 42] [1,5,6] (.seq (.p [.M 43 6,.u 44 (.binn .eql (.t 43) (.c (.one (.lit .nilIface)))),.M 45 44,.V 46 45 true 5,.w 47 45 true (.sop 1 [(.t 46),(.c (.one (.lit (.string ⟨#[50,32,120,94,50,32,43,32,45,50]⟩))))]),.P 48 45 47,.M 49 48,.V 50 49 true 1,.w 51 49 true (.build [.x 1 (.i 0),.x 1 (.i 2),.x 1 (.i (-1))]),.w 52 49 true (.build [.x 1 (.i 2),.x 1 (.i 0),.x 1 (.i 1)]),.w 53 49 true (.row 3 [[.x 3 (.t 51)],[.x 3 (.t 52)]]),.W 54 49 true f0 53,.Y 55 49 true f4 50 54,.P 56 49 55,.M 0 56]) .ret))))))
theorem ZaV(hΓ:Holds P Γ){f fo:Nat}(ho:Γ fo=.dat false Qy)(hc:check P f=some (25,(zj fo).strip,[.tmp 2])):Sound P f (.dat false vT):=by
 refine Qa hc jbd hΓ (λargs K hcl hfi hG=>?_);match args,hG with
 | [a],hG=>
  obtain⟨l,rfl,hr,hl,hK⟩:=hG;refine⟨by simp,?_⟩
  simp only [go_sem,zj,i3A];intro _;refine ja (λk:Nat=>if k=0 then ⟨mkV [(3,.one .emp),(6,i3A l),(7,.one (.lit (.int .i64 l.length))),(8,.one (.lit (.int .i64 k)))],mkH []⟩
    else ⟨mkV [(3,.one (.own 22 1 5 0 k)),(6,i3A l),(7,.one (.lit (.int .i64 l.length))),(8,.one (.lit (.int .i64 k)))],mkH [(22,⟨1,some ⟨(mcs (o3 (l.take k))).map mC,5,true⟩⟩)]⟩) (λk=>k<=l.length) (λk=>l.length-k) 0 ?_ ?_ ?_
  .exact qa (by simp [bitvec_to_nat,i3A]) trivial
  .exact Nat.zero_le _
  .intro k hk;by_cases hlt:k<l.length
   .obtain⟨y,hy⟩:∃y,l.getD k (0,0,0)=y:=⟨_,rfl⟩;have hy0:l[k]?=some y:=by
     rw [List.getD_eq_getElem?_getD,List.getElem?_eq_getElem hlt]at hy;rw [List.getElem?_eq_getElem hlt];simpa using hy
    have hry:=hr y (List.mem_of_getElem? hy0);have ht:=Vbs hy0;by_cases hk0:k=0
    .subst hk0;simp only [go_sem,hlt,hy,ho,iC,i3A];repeat first | refine q_Wk ?_ | intro _
     refine⟨λe he=>by rw [List.mem_singleton.1 he];rfl,by omega,1,?_,by omega,by omega⟩
     rw [if_neg (by decide)]
     exact qa (by simp [bitvec_to_nat,i3A]) ⟨Jg (by rw [ht];rfl),trivial⟩
    .have hlk:(mcs (o3 (l.take k))).length=k:=by rw [Jbh,List.length_take];omega
     simp only [go_sem,hlt,hy,ho,iC,i3A,hk0,hlk];repeat first | refine q_Wk ?_ | intro _
     refine⟨λe he=>by rw [List.mem_singleton.1 he];rfl,by omega,by omega,k+1,?_,by omega,by omega⟩
     rw [if_neg (by omega)]
     exact qa (by simp [bitvec_to_nat,i3A]) ⟨Jg (by rw [ht];simp [mC]),trivial⟩
   .by_cases hk0:k=0
    .subst hk0;have hl0:l=[]:=List.length_eq_zero_iff.1 (by omega)
     subst hl0;simp only [go_sem,hlt,i3A];exact hK
    .have hlk:(mcs (o3 (l.take k))).length=k:=by rw [Jbh,List.length_take];omega
     have et:l.take k=l:=List.take_of_length_le (by omega)
     simp only [go_sem,hlt,hk0,i3A];rw [if_pos (by omega),List.take_of_length_le (Nat.le_of_eq hlk),Jq _ (of_eq_true (xf _)),et]
     exact hK
theorem ubR:SmE (o3 xmP) (o3 xmQ):=by
 have b1:∀(n:Int),n.natAbs<=2->Bd 1 2 (n:Rat):=λn h=>(Bd.int n).mono h;refine⟨1,2,by decide,by decide +kernel,by decide +kernel,λt ht=>?_,λt ht=>?_⟩
 .simp only [o3,xmP,List.map_cons,List.map_nil,List.mem_cons,List.not_mem_nil,or_false]at ht;rcases ht with rfl | rfl | rfl <;> exact b1 _ (by decide)
 .simp only [o3,xmQ,List.map_cons,List.map_nil,List.mem_cons,List.not_mem_nil,or_false]at ht;rcases ht with rfl | rfl <;> exact b1 _ (by decide)
theorem XY(hΓ:Holds P Γ){f ff fm fe ft fq tE:Nat}(hf:Γ ff=.dat false vT)(hm:Γ fm=.dat false (wy tE))(he:Γ fe=.dat false (Vu tE))(ht:Γ ft=.dat false (xn tE))(hq:Γ fq=.dat false ul)(hc:check P f=some (57,(ue ff fm fe ft fq).strip,[.tmp 0])):Sound P f (.dat false Uo):=by
 refine Qa hc qal hΓ (λargs K hcl hfi hG=>?_);match args,hG with
 | [],hK=>
  have hK:K (.one (.lit (.bool true))):=hK;refine⟨by simp,?_⟩
  obtain⟨A,hA⟩:∃A,mcs (o3 xmA)=A:=⟨_,rfl⟩;obtain⟨B,hB⟩:∃B,mcs (o3 xmB)=B:=⟨_,rfl⟩;obtain⟨C,hC⟩:∃C,mcs (o3 xmC)=C:=⟨_,rfl⟩;obtain⟨X,hX⟩:∃X,mcs (o3 xmP)=X:=⟨_,rfl⟩;obtain⟨Y,hY⟩:∃Y,mcs (o3 xmQ)=Y:=⟨_,rfl⟩;have wl:∀l:List (Int×Int×Int),InQ (o3 l)->∀t∈mcs (o3 l),WLM t:=λl h=>Ja8 h;have s1:∀t∈xmA,-1000<=t.2.2/\t.2.2<=1000:=by decide
  have s2:∀t∈xmB,-1000<=t.2.2/\t.2.2<=1000:=by decide
  have s3:∀t∈xmC,-1000<=t.2.2/\t.2.2<=1000:=by decide
  have s4:∀t∈xmP,-1000<=t.2.2/\t.2.2<=1000:=by decide
  have s5:∀t∈xmQ,-1000<=t.2.2/\t.2.2<=1000:=by decide
  have m1:mulC A B=0:=by rw [<-hA,<-hB];exact Vbo
  have m2:mulB (A.map mv) (B.map mv)=o3 xmC:=by rw [<-hA,<-hB,Qq,Qq];exact vbH
  have e1:erC X Y=0:=by rw [<-hX,<-hY];exact xbI
  obtain⟨L,hL⟩:∃L:List Rat,L=[-2,0,2]:=⟨_,rfl⟩;have e2:elL (X.map mv) (Y.map mv)=L:=by rw [hL,<-hX,<-hY,Qq,Qq];exact XbS
  have e3:degM X*degM Y<=9/\SmE (X.map mv) (Y.map mv):=by rw [<-hX,<-hY,Qq,Qq];exact⟨kbD,ubR⟩
  have r1:∀t∈A,rl t.2.2<=1000000:=by rw [<-hA];decide +kernel
  have r2:∀t∈B,rl t.2.2<=1000000:=by rw [<-hB];decide +kernel
  have r3:∀t∈C,rl t.2.2<=1000000:=by rw [<-hC];decide +kernel
  have r4:∀t∈X,rl t.2.2<=1000000:=by rw [<-hX];decide +kernel
  have r5:∀t∈Y,rl t.2.2<=1000000:=by rw [<-hY];decide +kernel
  have w1:∀t∈A,WLM t:=by rw [<-hA];exact wl _ (by unfold InQ inQ;decide +kernel)
  have w2:∀t∈B,WLM t:=by rw [<-hB];exact wl _ (by unfold InQ inQ;decide +kernel)
  have w3:∀t∈C,WLM t:=by rw [<-hC];exact wl _ (by unfold InQ inQ;decide +kernel)
  have w4:∀t∈X,WLM t:=by rw [<-hX];exact wl _ (by unfold InQ inQ;decide +kernel)
  have w5:∀t∈Y,WLM t:=by rw [<-hY];exact wl _ (by unfold InQ inQ;decide +kernel)
  have z1:sz (A.map mv)+sz (B.map mv)<=3000000:=by rw [<-hA,<-hB,Qq,Qq];decide +kernel
  have g1:(∀t∈A,rl t.2.2<=1000000000)/\(∀t∈B,rl t.2.2<=1000000000):=⟨λt ht=>Nat.le_trans (r1 t ht) (by decide),λt ht=>Nat.le_trans (r2 t ht) (by decide)⟩
  have g3:∀t∈C,rl t.2.2<=4294967296:=λt ht=>Nat.le_trans (r3 t ht) (by decide)
  have lC:C.length<=1000000:=by rw [<-hC];decide +kernel
  have e0:=Zd tE;have b0:=jac (o3 xmC);unfold xmA at hA s1;unfold xmB at hB s2;unfold xmP at hX s4;unfold xmQ at hY s5;have hC2:=hC;have s3':=s3;unfold xmC at hC2 s3';simp only [go_sem,ue,hf,hm,he,ht,hq,hA,hB,hX,hY,hC2,m1,m2,e1,e2,e0,b0,hC,s1,s2,s3',s4,s5];exact⟨s1,s2,w1,w2,g1.1,g1.2,z1,s4,s5,w4,w5,r4,r5,e3,hL,λ_=>⟨s3',w3,w3,g3,lC,hK⟩,λh=>absurd h (by simp)⟩
end Go.Abs
end
section
namespace Go.Num
open Go.Abs
theorem wbL{b:Nat}:∀{l:BQ},(∀t∈l,rz t.2.2<=b)->sz l<=l.length*(b+2)
 | [],_=>by simp [sz]
 | t::l,h=>by
  have h1:=h t (by simp)
  have h2:=wbL (l:=l) λu hu=>h u (by simp [hu])
  simp only [sz,List.length_cons,Nat.add_mul,Nat.one_mul];omega
theorem zaj{x:R}(h:lowR x=true):rl x<=1:=by
 unfold lowR lowB at h;simp only [Bool.and_eq_true,decide_eq_true_eq]at h;unfold rl;omega
theorem jaY{p:List Mo}(h:vldM p=true)(hw:∀t∈p,WLM t):∃P,p=mcs P/\PB 5 45 P/\P.length<=15:=by
 unfold vldM at h;simp only [Bool.and_eq_true,decide_eq_true_eq]at h;obtain⟨h1,h2,h3⟩:=h;unfold shortM at h1;simp only [Bool.and_eq_true,Bool.not_eq_true',List.all_eq_true]at h1;obtain⟨h1,h4⟩:=h1;unfold longM at h1;simp only [Bool.or_eq_false_iff,Bool.and_eq_false_iff,decide_eq_false_iff_not]at h1;obtain⟨c1,c2⟩:=Xq h2 hw;obtain⟨i1,i2,i3⟩:=um h2 hw;have hlen:(p.map mv).length<=15:=by rw [List.length_map];omega
 have hd:degB (p.map mv)<=5:=by rw [<-Jh,c2];exact h3
 refine⟨p.map mv,c2.symm,⟨c1,λt ht=>?_,?_⟩,hlen⟩
 .have:=Y5 c1 t ht;omega
 .have:=wbL (b:=1) (l:=p.map mv) λt ht=>by
   obtain⟨u,hu,rfl⟩:=List.mem_map.1 ht;exact Nat.le_trans (Jv (hw u hu).2.2) (zaj (h4 u hu))
  omega
theorem PB.wl{d s:Nat}{p:BQ}(h:PB d s p):∀t∈mcs p,WLM t:=Ja8 h.canon.ins
theorem PB.rl{d s:Nat}{p:BQ}(h:PB d s p):∀t∈mcs p,rl t.2.2<=s:=λt ht=>by
 obtain⟨u,hu,rfl⟩:=List.mem_map.1 ht;have h1:rz u.2.2<=sz p:=vaW hu;have h2:=h.size;show rz u.2.2<=s;omega
theorem PB.rlb{d s b:Nat}{p:BQ}(h:PB d s p)(hb:s<=b):∀t∈mcs p,Num.rl t.2.2<=b:=λt ht=>Nat.le_trans (h.rl t ht) hb
theorem PB.chk{d s d' s' : Nat}{p q:BQ}(h:PB d s p)(k:PB d' s' q):chk2 (mcs p) (mcs q)=0:=jax h.canon k.canon
theorem PB.mulC{d s d' s' : Nat}{p q:BQ}(h:PB d s p)(k:PB d' s' q)(hd:d+d'<=24):mulC (mcs p) (mcs q)=0:=Vbb h.canon k.canon (by
 have h1:=yaT h.canon h.deg;have h2:=yaT k.canon k.deg;omega)
theorem PB.ev{d s m n:Nat}{p:BQ}(h:PB d s p)(hl:p.length<=m){x y:Rat}(hx:rz x<=n)(hy:rz y<=n):rz (ev p x y)<=s+m*(48*(n+2)+8):=by
 have h1:=JbH h.canon.ins x y;have h2:=h.size;have h3:=Nat.mul_le_mul hl (show 24*(rz x+2)+24*(rz y+2)+8<=48*(n+2)+8 by omega)
 omega
end Go.Num
namespace Go.Abs
open Go.Num
variable {P:Program} {Γ:Nat->Spec}
theorem zbf(K:List C->Prop)(n i:Nat)(e:List C):getE K (List.replicate n e) i=(i<n/\K e):=by
 simp only [getE,List.length_replicate,List.getElem?_replicate];refine propext ⟨λh=>⟨h.1,h.2 _ (by simp [h.1])⟩,λh=>⟨h.1,λe' he=>?_⟩⟩
 simp [h.1]at he;subst he;exact h.2
def Xai(l:List AV)(K:AV->Prop):Prop:=
 match l with
 | [a,b,c]=>onMs (λp=>onMs (λq=>onA (λx=>(p.length<=1048576/\∀t∈p,rl t.2.2<=1048576)/\(q.length<=1048576/\∀t∈q,rl t.2.2<=1048576)/\al x<=1048576/\K (.one (.lit (.bool true)))) c) b) a
 | _=>False
theorem Yaq a b c K:Xai [a,b,c] K=(onMs (λp=>onMs (λq=>onA (λx=>(p.length<=1048576/\∀t∈p,rl t.2.2<=1048576)/\(q.length<=1048576/\∀t∈q,rl t.2.2<=1048576)/\al x<=1048576/\K (.one (.lit (.bool true)))) c) b) a):=propext Iff.rfl
@[congr] theorem zbO{K}{l l'}(h:l=l'):Xai l K=Xai l' K:=by subst h;rfl
attribute [go_sem,go_sem ↓] Yaq
end Go.Abs
end
section
namespace Go.Num
open Go.Abs
def xE(b:Bool)(t:MQ):Int:=if b then t.2.1 else t.1
def dT(b:Bool)(t:MQ):MQ:=if b then (t.1,t.2.1-1,t.2.2*(t.2.1:Rat)) else (t.1-1,t.2.1,t.2.2*(t.1:Rat))
def dvL(b:Bool)(l:BQ):BQ:=(l.filter λt=>decide (xE b t≠0)).map (dT b)
def dvB(b:Bool)(l:BQ):BQ:=nf (dvL b l)
def xM(b:Bool)(t:Mo):Int:=if b then t.2.1 else t.1
def dTM(b:Bool)(t:Mo):Mo:=if b then (t.1,t.2.1-1,rcan (rv t.2.2*(t.2.1:Rat))) else (t.1-1,t.2.1,rcan (rv t.2.2*(t.1:Rat)))
def dvM(b:Bool)(l:List Mo):List Mo:=(l.filter λt=>decide (xM b t≠0)).map (dTM b)
theorem Zbn(b:Bool)(t:Mo):mv (dTM b t)=dT b (mv t):=by
 unfold dTM dT mv;cases b <;> simp [qe]
theorem ua1(b:Bool)(l:List Mo):(dvM b l).map mv=dvL b (l.map mv):=by
 unfold dvM dvL;rw [List.filter_map,List.map_map,List.map_map];have e:(λt=>decide (xE b t≠0)) ∘ mv=λt=>decide (xM b t≠0):=funext λt=>rfl;rw [e];exact List.map_congr_left λt _=>Zbn b t
theorem Ubd{b:Bool}{l:List Mo}{k:Nat}{x:Mo}(hx:l[k]?=some x):dvM b (l.take (k+1))=dvM b (l.take k)++(if xM b x=0 then [] else [dTM b x]):=by
 unfold dvM;rw [List.take_add_one,hx,List.filter_append,List.map_append];by_cases h:xM b x=0 <;> simp [h]
theorem xa0(b:Bool)(l:List Mo):(dvM b l).length<=l.length:=by unfold dvM;rw [List.length_map];exact List.length_filter_le _ _
theorem xB{n:Int}(h:0<=n/\n<=24):rz (n:Rat)<=2:=by
 obtain⟨k,rfl⟩:=Int.eq_ofNat_of_zero_le h.1;have:=Yv (k:=k) (by omega)
 exact this
theorem dT_f(t:MQ):dT false t=(t.1-1,t.2.1,t.2.2*(t.1:Rat)):=rfl
theorem dT_t(t:MQ):dT true t=(t.1,t.2.1-1,t.2.2*(t.2.1:Rat)):=rfl
theorem xE_f(t:MQ):xE false t=t.1:=rfl
theorem xE_t(t:MQ):xE true t=t.2.1:=rfl
theorem xaO{b:Bool}:∀{l:BQ},InQ l->sz (dvL b l)<=3*sz l
 | [],_=>by simp [dvL,sz]
 | t::l,h=>by
  obtain⟨⟨a1,a2,a3⟩,h2⟩:=ub.1 h;have ih:=xaO (b:=b) h2;unfold dvL at *
  by_cases he:xE b t=0
  .rw [List.filter_cons_of_neg (by simpa using he)];simp only [sz];omega
  .rw [List.filter_cons_of_pos (by simpa using he),List.map_cons]
   have h3:rz (dT b t).2.2<=rz t.2.2+2+2:=by
    cases b
    .rw [dT_f];have:=Wh t.2.2 (t.1:Rat);have:=xB (n:=t.1) (by omega);show rz (t.2.2*(t.1:Rat))<=_;omega
    .rw [dT_t];have:=Wh t.2.2 (t.2.1:Rat);have:=xB (n:=t.2.1) (by omega);show rz (t.2.2*(t.2.1:Rat))<=_;omega
   simp only [sz];omega
theorem vbU{b:Bool}{t:MQ}(h:inQ t)(he:xE b t≠0):inQ (dT b t):=by
 obtain⟨a1,a2,a3⟩:=h;cases b
 .rw [dT_f];rw [xE_f]at he;exact⟨show 0<=t.1-1 by omega,a2,show t.1-1+t.2.1<=24 by omega⟩
 .rw [dT_t];rw [xE_t]at he;exact⟨a1,show 0<=t.2.1-1 by omega,show t.1+(t.2.1-1)<=24 by omega⟩
theorem Ut{b:Bool}{l:BQ}(h:InQ l):InQ (dvL b l):=λt ht=>by
 unfold dvL at ht;obtain⟨u,hu,rfl⟩:=List.mem_map.1 ht;obtain⟨hu1,hu2⟩:=List.mem_filter.1 hu;exact vbU (h u hu1) (by simpa using hu2)
end Go.Num
namespace Go.Abs
open Go.Num
variable {P:Program} {Γ:Nat->Spec}
def Yu(tE:Nat)(l:List AV)(K:AV->Prop):Prop:=
 match l with
 | [p,b]=>onMs (λp=>asBool (λb=>(∀t∈p,rl t.2.2<=1000000000)/\sz (p.map mv)<=100000000/\K (.tup [.one (.slice ((bres (chkB p) (dvB b (p.map mv))).map mC)),errV tE (chkB p)])) b) p
 | _=>False
theorem zap tE p b K:Yu tE [p,b] K=(onMs (λp=>asBool (λb=>(∀t∈p,rl t.2.2<=1000000000)/\sz (p.map mv)<=100000000/\K (.tup [.one (.slice ((bres (chkB p) (dvB b (p.map mv))).map mC)),errV tE (chkB p)])) b) p):=propext Iff.rfl
@[congr] theorem UbN tE{K}{l l'}(h:l=l'):Yu tE l K=Yu tE l' K:=by subst h;rfl
attribute [go_sem,go_sem ↓] zap
theorem ZaG(tE:Nat):Good (Yu tE):=Ja λas=>by
 unfold Yu;split
 .exact(kh λ_=>(Xx (λ_=>(.and λ_=>(.and λ_=>(.ret _)))) _))
 .exact .of λK hk=>hk.elim
def ug(f0 f1 f2 f3:Nat):AC:=(.o [.m 4 (.c (.one .emp)),.m 5 (.c (.one (.lit .nilIface)))] [0,1] (.f (.o [.M 12 0,.H 13 f0 12,.M 6 13] [0,1,6] (.o [.M 14 6,.R 15 14] [0,1,6,15] (.cond (.t 15) (.seq (.p [.M 16 6,.m 4 (.c (.one .emp)),.M 5 16]) .ret) .skip))) [0,1] (.o [.m 7 (.c (.one .emp))] [0,1,7] (.f (.o [.M 17 0,.Z 18 17,.N 19 0] [1,7,17,18,19] (.block 0 (.loop (.o [.B 20 .lss 19 18] [1,7,17,18,19,20] (.f (.cond (.t 20) .skip (.exit 0)) [1,7,17,18,19] (.f (.block 1 (.o [.J 21 5 17 19,.L 22 5 21,.G 9 [(.lit (.int .i64 0)),(.lit (.int .i64 0)),.z,.emp,.emp],.S 5 9 22] [1,7,9,17,18,19] (.o [.A 23 0 9,.F 24 1 23,.M 10 24] [1,7,9,10,17,18,19] (.f (.o [.M 25 1] [1,7,9,10,17,18,19,25] (.cond (.t 25) (.p [.A 26 1 9,.F 27 1 26,.M 10 27]) .skip)) [1,7,9,10,17,18,19] (.f (.o [.M 28 10,.I 29 .eql 28 0] [1,7,9,10,17,18,19,29] (.cond (.t 29) (.exit 1) .skip)) [1,7,9,10,17,18,19] (.f (.y [.A 30 0 9,.F 31 1 30,.I 32 .sub 31 1,.A 33 1 9,.F 34 1 33,.A 35 2 9,.L 36 3 35,.M 37 10,.H 38 f1 37,.D 39 f2 36 38,.u 40 (.build [.x 1 (.t 32),.x 1 (.t 34),.x 3 (.t 39)]),.G 11 [(.lit (.int .i64 0)),(.lit (.int .i64 0)),.z,.emp,.emp],.S 5 11 40]) [1,7,9,11,17,18,19] (.f (.o [.M 41 1] [1,7,9,11,17,18,19,41] (.cond (.t 41) (.y [.A 42 0 9,.u 43 (.ld (some 9) 1 false (.t 42)),.A 44 1 9,.u 45 (.ld (some 9) 1 false (.t 44)),.I 46 .sub 45 1,.A 47 0 11,.n (.st (some 11) 1 (.t 47) (.t 43)),.A 48 1 11,.n (.st (some 11) 1 (.t 48) (.t 46))]) .skip)) [1,7,11,17,18,19] (.p [.M 49 7,.L 50 5 11,.u 51 (.row 5 [[.x 5 (.t 50)]]),.u 52 (.app 5 (.t 49) (.t 51)),.M 7 52])))))))) [1,7,17,18,19] (.p [.I 53 .add 19 1,.M 19 53]))))))) [7] (.seq (.p [.M 54 7,.H 55 f3 54,.M 4 55,.m 5 (.c (.one (.lit .nilIface)))]) .ret)))))
theorem uai(hΓ:Holds P Γ){f fk fo fm fs tE m:Nat}(hm' : 325<=m)(hk:Γ fk=.dat false (Wi tE))(ho:Γ fo=.dat false Qy)(hm:Γ fm=.dat false jm)(hs:Γ fs=.dat false (Qx m))(hc:check P f=some (56,(ug fk fo fm fs).strip,[.tmp 4,.tmp 5])):Sound P f (.dat false (Yu tE)):=by
 refine Qa hc (ZaG tE) hΓ (λargs K hcl hfi hG=>?_);match args,hG with
 | [a,c],hG=>
  obtain⟨p,rfl,hwp,hG2⟩:=hG;obtain⟨b,rfl,hrp,hsz,hK⟩:=zp hG2;clear hG2;refine⟨by simp,?_⟩
  have hrp4:∀t∈p,rl t.2.2<=4294967296:=λt ht=>Nat.le_trans (hrp t ht) (by decide)
  by_cases h0:chkB p=0
  case neg=>
   rw [yar h0,Qe tE h0]at hK;have e0:=Qe tE h0;simp only [go_sem,ug,hk,ms,e0];exact⟨hwp,hrp4,hK⟩
  rw [h0,jac,Zd]at hK;have e0:=Zd tE;obtain⟨i1,i2,i3⟩:=um h0 hwp;simp only [go_sem,ug,hk,ms,h0,e0];refine⟨hwp,hrp4,?_⟩;repeat first | refine q_Wk ?_ | intro _
  refine ja (λk:Nat=>if (dvM b (p.take k)).length=0 then ⟨mkV [(1,.one (.lit (.bool b))),(7,.one .emp),(17,msA p),(18,.one (.lit (.int .i64 p.length))),(19,.one (.lit (.int .i64 k)))],mkH []⟩
    else ⟨mkV [(1,.one (.lit (.bool b))),(7,.one (.own 52 1 5 0 (dvM b (p.take k)).length)),(17,msA p),(18,.one (.lit (.int .i64 p.length))),(19,.one (.lit (.int .i64 k)))],mkH [(52,⟨1,some ⟨(dvM b (p.take k)).map mC,5,true⟩⟩)]⟩) (λk=>k<=p.length) (λk=>p.length-k) 0 ?_ ?_ ?_
  .exact qa (by simp [bitvec_to_nat,msA,ms]) trivial
  .exact Nat.zero_le _
  .intro k hk';have hlk:=xa0 b (p.take k);rw [List.length_take]at hlk;by_cases hlt:k<p.length
   .obtain⟨x,hx⟩:∃x,p.getD k mo0=x:=⟨_,rfl⟩;have hx0:=getDm hlt hx;have hxm:=List.mem_of_getElem? hx0;have hwx:=hwp x hxm;have hrx:=hrp4 x hxm;obtain⟨j1,j2,j3⟩:=i1 x hxm;have ht:=Ubd (b:=b) hx0;obtain⟨n,hn⟩:∃n,(dvM b (p.take k)).length=n:=⟨_,rfl⟩;rw [hn]at hlk ⊢;have hall:∀e∈[[C.lit (.int .i64 (dTM b x).1),C.lit (.int .i64 (dTM b x).2.1),cb (dTM b x).2.2,cn (dTM b x).2.2,cd (dTM b x).2.2]],e.length=5:=λe he=>by rw [List.mem_singleton.1 he];rfl
    have z1:=xB (n:=x.1) (by omega)
    have z2:=xB (n:=x.2.1) (by omega)
    have z3:rz (x.1:Rat)<=4294967296:=by omega
    have z4:rz (x.2.1:Rat)<=4294967296:=by omega
    have q1:-9223372036854775808<=x.1-1/\x.1-1<=9223372036854775807:=by omega
    have q2:-9223372036854775808<=x.2.1-1/\x.2.1-1<=9223372036854775807:=by omega
    have q3:=hwx.2.2;by_cases hn0:n=0
    .rw [if_pos hn0];have hnil:=List.length_eq_zero_iff.1 (hn.trans hn0);cases b
     .by_cases hz:x.1=0
      .have hxM:xM false x=x.1:=rfl;rw [hxM,if_pos hz]at ht;simp only [go_sem,hlt,hx,hm,ho,mC,hz,hn];repeat first | refine q_Wk ?_ | intro _
       refine⟨k+1,?_,by omega,by omega⟩
       rw [ht,List.append_nil,hn,if_pos hn0];exact qa (by simp [bitvec_to_nat,msA,ms]) trivial
      .have hxM:xM false x=x.1:=rfl;rw [hxM,if_neg hz]at ht;simp only [go_sem,hlt,hx,hm,ho,mC,hz,hn];repeat first | refine q_Wk ?_ | intro _
       refine⟨k+1,?_,by omega,by omega⟩
       rw [ht,List.length_append,hn,if_neg (by simp)]
       rw [hnil,hn0];exact qa (by simp [bitvec_to_nat,msA,ms]) ⟨Jg (by simp [mC,dTM]),trivial⟩
     .by_cases hz:x.2.1=0
      .have hxM:xM true x=x.2.1:=rfl;rw [hxM,if_pos hz]at ht;simp only [go_sem,hlt,hx,hm,ho,mC,hz,hn];repeat first | refine q_Wk ?_ | intro _
       refine⟨k+1,?_,by omega,by omega⟩
       rw [ht,List.append_nil,hn,if_pos hn0];exact qa (by simp [bitvec_to_nat,msA,ms]) trivial
      .have hxM:xM true x=x.2.1:=rfl;rw [hxM,if_neg hz]at ht;simp only [go_sem,hlt,hx,hm,ho,mC,hz,hn];repeat first | refine q_Wk ?_ | intro _
       refine⟨k+1,?_,by omega,by omega⟩
       rw [ht,List.length_append,hn,if_neg (by simp)]
       rw [hnil,hn0];exact qa (by simp [bitvec_to_nat,msA,ms]) ⟨Jg (by simp [mC,dTM]),trivial⟩
    .rw [if_neg hn0];cases b
     .by_cases hz:x.1=0
      .have hxM:xM false x=x.1:=rfl;rw [hxM,if_pos hz]at ht;simp only [go_sem,hlt,hx,hm,ho,mC,hz,hn0,hn];repeat first | refine q_Wk ?_ | intro _
       refine⟨k+1,?_,by omega,by omega⟩
       rw [ht,List.append_nil,hn,if_neg hn0];exact qa (by simp [bitvec_to_nat,msA,ms]) ⟨Jg rfl,trivial⟩
      .have hxM:xM false x=x.1:=rfl;rw [hxM,if_neg hz]at ht;simp only [go_sem,hlt,hx,hm,ho,mC,hz,hn0,hn];repeat first | refine q_Wk ?_ | intro _
       refine⟨k+1,?_,by omega,by omega⟩
       rw [ht,List.length_append,hn,if_neg (by simp)]
       exact qa (by simp [bitvec_to_nat,msA,ms]) ⟨Jg (by simp [mC,dTM]),trivial⟩
     .by_cases hz:x.2.1=0
      .have hxM:xM true x=x.2.1:=rfl;rw [hxM,if_pos hz]at ht;simp only [go_sem,hlt,hx,hm,ho,mC,hz,hn0,hn];repeat first | refine q_Wk ?_ | intro _
       refine⟨k+1,?_,by omega,by omega⟩
       rw [ht,List.append_nil,hn,if_neg hn0];exact qa (by simp [bitvec_to_nat,msA,ms]) ⟨Jg rfl,trivial⟩
      .have hxM:xM true x=x.2.1:=rfl;rw [hxM,if_neg hz]at ht;simp only [go_sem,hlt,hx,hm,ho,mC,hz,hn0,hn];repeat first | refine q_Wk ?_ | intro _
       refine⟨k+1,?_,by omega,by omega⟩
       rw [ht,List.length_append,hn,if_neg (by simp)]
       exact qa (by simp [bitvec_to_nat,msA,ms]) ⟨Jg (by simp [mC,dTM]),trivial⟩
   .have et:p.take k=p:=List.take_of_length_le (by omega)
    rw [et];have hsz2:=xaO (b:=b) i2;rw [<-ua1]at hsz2;have hl2:=xa0 b p;have hin:InQ ((dvM b p).map mv):=by rw [ua1];exact Ut i2
    have hin2:∀t∈dvM b p,inM t:=λt ht=>hin (mv t) (List.mem_map_of_mem ht);have hw2:∀t∈dvM b p,WLM t:=λt ht=>by
     unfold dvM at ht;obtain⟨u,hu,rfl⟩:=List.mem_map.1 ht;obtain⟨j1,j2,j3⟩:=hin2 _ (by unfold dvM;exact List.mem_map_of_mem hu)
     refine⟨⟨by omega,by omega⟩,⟨by omega,by omega⟩,?_⟩
     cases b <;> exact yo _
    have hr2:∀t∈dvM b p,rl t.2.2<=4294967296:=λt ht=>by
     have h1:rz (mv t).2.2<=sz ((dvM b p).map mv):=vaW (List.mem_map_of_mem ht);have h2:rl t.2.2=rz (mv t).2.2:=by
      unfold dvM at ht;obtain⟨u,hu,rfl⟩:=List.mem_map.1 ht;rw [Zbn];cases b <;> rfl
     omega
    have hsz3:sz ((dvM b p).map mv)<=1000000000:=by omega
    have hl3:(dvM b p).length<=m:=by omega
    have hK2:K (.tup [.one (.slice ((mcs (nf ((dvM b p).map mv))).map mC)),.one (.lit .nilIface)]):=by rw [ua1];exact hK
    obtain⟨n,hn⟩:∃n,(dvM b p).length=n:=⟨_,rfl⟩;rw [hn];by_cases hn0:n=0
    .rw [if_pos hn0];have hnil:dvM b p=[]:=List.length_eq_zero_iff.1 (hn.trans hn0);rw [hnil]at hK2 hsz3;simp only [go_sem,hlt,hs];exact⟨by simp,by omega,by simp [sz],hK2⟩
    .rw [if_neg hn0];simp only [go_sem,hlt,hs,hn];exact⟨hw2,λt ht=>⟨hin2 t ht,hr2 t ht⟩,by omega,hsz3,hK2⟩
end Go.Abs
end
section
namespace Go.Num
open Go.Abs
theorem yU(b:Bool):dvL b []=[]:=rfl
theorem Wbr{b:Bool}{t:MQ}{l:BQ}(h:xE b t=0):dvL b (t::l)=dvL b l:=by
 unfold dvL;rw [List.filter_cons_of_neg (by simpa using h)]
theorem Qbw{b:Bool}{t:MQ}{l:BQ}(h:xE b t≠0):dvL b (t::l)=dT b t::dvL b l:=by
 unfold dvL;rw [List.filter_cons_of_pos (by simpa using h),List.map_cons]
theorem UY(i j:Int):∀l:BQ,cf (dvL false l) i j=((i+1:Int):Rat)*cf l (i+1) j
 | []=>by simp only [yU,cf,Rat.mul_zero]
 | t::l=>by
  have ih:=UY i j l;by_cases h:xE false t=0
  .rw [Wbr h,ih];rw [xE_f]at h;simp only [cf];split
   .rename_i h2;have:i+1=0:=by omega
    rw [this];simp [Rat.zero_mul]
   .grind
  .rw [Qbw h,dT_f];simp only [cf,ih];by_cases h2:t.1=i+1/\t.2.1=j
   .rw [if_pos (by omega),if_pos h2,h2.1];grind
   .rw [if_neg (by omega),if_neg h2];grind
theorem waP(i j:Int):∀l:BQ,cf (dvL true l) i j=((j+1:Int):Rat)*cf l i (j+1)
 | []=>by simp only [yU,cf,Rat.mul_zero]
 | t::l=>by
  have ih:=waP i j l;by_cases h:xE true t=0
  .rw [Wbr h,ih];rw [xE_t]at h;simp only [cf];split
   .rename_i h2;have:j+1=0:=by omega
    rw [this];simp [Rat.zero_mul]
   .grind
  .rw [Qbw h,dT_t];simp only [cf,ih];by_cases h2:t.1=i/\t.2.1=j+1
   .rw [if_pos (by omega),if_pos h2,h2.2];grind
   .rw [if_neg (by omega),if_neg h2];grind
theorem jbu{b:Bool}{d:Nat}{l:BQ}(h:Deg d l):Deg d (dvL b l):=λt ht=>by
 unfold dvL at ht;obtain⟨u,hu,rfl⟩:=List.mem_map.1 ht;have:=h u (List.mem_filter.1 hu).1;cases b
 .rw [dT_f];show u.1-1+u.2.1<=d;omega
 .rw [dT_t];show u.1+(u.2.1-1)<=d;omega
theorem PB.dv{d s:Nat}{p:BQ}(b:Bool)(h:PB d s p):PB d (3*s) (dvB b p):=
 ⟨Yi (Ut h.canon.ins),WN (jbu h.deg),by
  have h1:=VaH (dvL b p);have h2:=xaO (b:=b) h.canon.ins;have h3:=h.size;unfold dvB;omega⟩
theorem Zbr{d s:Nat}{p:BQ}(h:PB d s p):dvB true (dvB false p)=dvB false (dvB true p):=
 qx ((h.dv false).dv true).canon ((h.dv true).dv false).canon λi j=>by
  unfold dvB;rw [uae (Ut (Yi (Ut h.canon.ins)).ins),uae (Ut (Yi (Ut h.canon.ins)).ins),waP,UY,uae (Ut h.canon.ins),uae (Ut h.canon.ins),UY,waP];grind
def dmev(t:MQ)(x y:Rat):Rat:=t.2.2*(t.1:Rat)*(pw x (t.1.toNat-1)*pw y t.2.1.toNat)
theorem JaY(t:MQ)(l:BQ)(h:inQ t)(x y:Rat):ev (dvL false (t::l)) x y=dmev t x y+ev (dvL false l) x y:=by
 by_cases hz:xE false t=0
 .rw [Wbr hz];rw [xE_f]at hz;unfold dmev;rw [hz];simp [Rat.zero_mul,Rat.mul_zero,Rat.zero_add]
 .rw [Qbw hz,dT_f];rw [xE_f]at hz;have e:(t.1-1).toNat=t.1.toNat-1:=by omega
  simp only [ev,mev,dmev,e]
theorem xbd{a b:MQ}(ha:inQ a)(hb:inQ b)(x y:Rat):dmev (mulT a b) x y=dmev a x y*mev b x y+mev a x y*dmev b x y:=by
 obtain⟨a1,a2,a3⟩:=ha;obtain⟨b1,b2,b3⟩:=hb;obtain⟨i,hi⟩:=Int.eq_ofNat_of_zero_le a1;obtain⟨j,hj⟩:=Int.eq_ofNat_of_zero_le b1;have e2:(a.2.1+b.2.1).toNat=a.2.1.toNat+b.2.1.toNat:=by omega
 have e1:((i:Int)+(j:Int)).toNat=i+j:=by omega
 have e3:(((i:Int)+(j:Int):Int):Rat)=(i:Rat)+(j:Rat):=by rw [Rat.intCast_add,Rat.intCast_natCast,Rat.intCast_natCast]
 unfold dmev mev mulT;simp only [hi,hj,e1,e2,e3,Wa5,Int.toNat_natCast,Rat.intCast_natCast];cases i with
 | zero=>
  cases j with
  | zero=>simp [pw,Rat.mul_zero,Rat.zero_mul,Rat.add_zero]
  | succ j=>
   have q:0+(j+1)-1=j:=by omega
   rw [q,show j+1-1=j from rfl];simp only [pw,Nat.zero_add];have z:((0:Nat):Rat)=0:=rfl;rw [z];grind
 | succ i=>
  have q:i+1+j-1=i+j:=by omega
  rw [q,show i+1-1=i from rfl,Wa5];cases j with
  | zero=>
   have z:((0:Nat):Rat)=0:=rfl;rw [z];simp only [pw];grind
  | succ j=>
   rw [show j+1-1=j from rfl];simp only [pw];grind
theorem Q9{a:MQ}(ha:inQ a)(x y:Rat):∀{q:BQ},InQ q->(∀b∈q,inQ (mulT a b))->ev (dvL false (q.map λb=>mulT a b)) x y=dmev a x y*ev q x y+mev a x y*ev (dvL false q) x y
 | [],_,_=>by simp only [List.map_nil,yU,ev,Rat.mul_zero,Rat.add_zero]
 | b::q,h,h'=>by
  obtain⟨hb,hq⟩:=ub.1 h;have ih:=Q9 ha x y hq λc hc=>h' c (by simp [hc])
  rw [List.map_cons,JaY _ _ (h' b (by simp)),ih,xbd ha hb,JaY _ _ hb]
  simp only [ev];grind
theorem WaG(b:Bool)(l m:BQ):dvL b (l++m)=dvL b l++dvL b m:=by unfold dvL;rw [List.filter_append,List.map_append]
theorem jaa{q:BQ}(hq:InQ q)(x y:Rat):∀{p:BQ},InQ p->InQ (mulL p q)->ev (dvL false (mulL p q)) x y=ev (dvL false p) x y*ev q x y+ev p x y*ev (dvL false q) x y
 | [],_,_=>by simp only [qE,yU,ev,Rat.zero_mul,Rat.add_zero]
 | a::p,h,h'=>by
  obtain⟨ha,hp⟩:=ub.1 h;rw [Ww]at h' ⊢;obtain⟨h1,h2⟩:=Xe.1 h';rw [WaG,Yt,Q9 ha x y hq (λb hb=>h1 _ (List.mem_map_of_mem hb)),jaa hq x y hp h2,JaY _ _ ha];simp only [ev];grind
theorem ybf{l:BQ}(h:InQ l)(x y:Rat):ev (dvB false (nf l)) x y=ev (dvL false l) x y:=by
 unfold dvB;have h1:=(Yi h).ins;rw [qaj (Ut h1)];exact Zba (Ut h1) (Ut h) (λi j=>by rw [UY,UY,uae h]) x y
theorem xbu{d s d' s' : Nat}{p q:BQ}(h:PB d s p)(k:PB d' s' q)(hd:d+d'<=24):dvB false (mulB p q)=addB (mulB (dvB false p) q) (mulB p (dvB false q)):=by
 have hm:=XV h.canon.ins k.canon.ins h.deg k.deg hd;have p1:=h.dv false;have q1:=k.dv false;have m1:=p1.mul k hd;have m2:=h.mul q1 hd;refine Wa9 ((h.mul k hd).dv false).canon (m1.add m2).canon λx y=>?_;rw [WbJ m1 m2,Ubf p1 k hd,Ubf h q1 hd];unfold mulB;rw [ybf hm,jaa k.canon.ins x y h.canon.ins hm];unfold dvB;rw [qaj (Ut h.canon.ins),qaj (Ut k.canon.ins)]
theorem yaS(b:Bool)(c x:Rat):∀(n:Nat) {p:BQ},p.length=n->InQ p->hv (fixL b c p) x=ev p (if b then x else c) (if b then c else x)
  | 0,p,hl,_=>by
    have:p=[]:=List.length_eq_zero_iff.1 hl;subst this;have e:fixL b c []=List.replicate 25 0:=by
      unfold fixL fxB;rfl
    rw [e,yav];rfl
  | n+1,p,hl,h=>by
    have hne:p≠[]:=λe=>by rw [e]at hl;simp at hl
    obtain⟨q,t,rfl⟩:∃q t,p=q++[t]:=⟨p.dropLast,p.getLast hne,(List.dropLast_concat_getLast hne).symm⟩;obtain⟨hq,ht⟩:=Xe.1 h;obtain⟨⟨t1,t2,t3⟩,_⟩:=ub.1 ht;have ih:=yaS b c x n (p:=q) (by simpa using hl) hq
    obtain⟨j,hj⟩:∃j:Nat,kxM b t=j:=by
      cases b
      . exact Int.eq_ofNat_of_zero_le t2
      . exact Int.eq_ofNat_of_zero_le t1
    have hj25:j<25:=by
      cases b
      . have:t.2.1=j:=hj
        omega
      . have:t.1=j:=hj
        omega
    have hg:(fixL b c q).getD j 0=fxB b c j q:=by
      unfold fixL;rw [List.getD_eq_getElem?_getD,List.getElem?_map,List.getElem?_range hj25];rfl
    have e:fixL b c (q++[t])=addAt (fixL b c q) j (t.2.2*pw c (nxM b t).toNat):=by
      unfold addAt;rw [<-QU b c q t hj,hg]
    rw [e,jQ x _ (by rw [vah];exact hj25),ih,Yt]
    congr 1;simp only [ev,Rat.add_zero,mev];cases b
    . have e1 : t.2.1.toNat = j := by have : t.2.1 = j := hj
                                      omega
      show t.2.2*pw c t.1.toNat*pw x j=t.2.2*(pw c t.1.toNat*pw x t.2.1.toNat);rw [e1,Rat.mul_assoc]
    . have e1 : t.1.toNat = j := by have : t.1 = j := hj
                                    omega
      show t.2.2*pw c t.2.1.toNat*pw x j=t.2.2*(pw x t.1.toNat*pw c t.2.1.toNat);rw [e1];grind
theorem Ja7(b:Bool)(c x:Rat){p:BQ}(h:InQ p):hv (trimL (fixL b c p)) x=ev p (if b then x else c) (if b then c else x):=by
 rw [wG];exact yaS b c x _ rfl h
theorem XaC{b:Bool}{c:Rat}{p:BQ}{d s m:Nat}(h:PB d s p)(hl:p.length<=m)(hc:rz c<=1):∀x∈trimL (fixL b c p),rz x<=s+m*80+2:=λx hx=>by
 obtain⟨i,hi⟩:=List.getElem?_of_mem hx;have hi2:(trimL (fixL b c p)).getD i 0=x:=by rw [List.getD_eq_getElem?_getD,hi];rfl
 rw [Yae]at hi2;unfold fixL at hi2;rw [List.getD_eq_getElem?_getD,List.getElem?_map]at hi2;by_cases hi25:i<25
 .rw [List.getElem?_range hi25]at hi2;have hi3:fxB b c i p=x:=hi2;rw [<-hi3];have h1:=kbs b c i h.canon.ins;have h2:=h.size;have h3:=Nat.mul_le_mul hl (show 24*(rz c+2)+8<=80 by omega)
  omega
 .rw [List.getElem?_eq_none (by simp;omega)]at hi2
  have hi3:(0:Rat)=x:=hi2;rw [<-hi3];have:=rz_0;omega
theorem Jat(b:Bool)(c:Rat)(p:BQ):(trimL (fixL b c p)).length<=25:=by
 have:=yA (fixL b c p);rw [vah]at this;exact this
end Go.Num
end
section
namespace Go.Abs
open Go.Num
variable {P:Program} {Γ:Nat->Spec}
def vn(l:List AV)(K:AV->Prop):Prop:=
 match l with
 | [a,b,c]=>onMs (λp=>onMs (λq=>onA (λx=>(p.length<=1048576/\∀t∈p,rl t.2.2<=1048576)/\(q.length<=1048576/\∀t∈q,rl t.2.2<=1048576)/\al x<=1048576/\K (.one (.lit (.bool true)))) c) b) a
 | _=>False
theorem W4 a b c K:vn [a,b,c] K=(onMs (λp=>onMs (λq=>onA (λx=>(p.length<=1048576/\∀t∈p,rl t.2.2<=1048576)/\(q.length<=1048576/\∀t∈q,rl t.2.2<=1048576)/\al x<=1048576/\K (.one (.lit (.bool true)))) c) b) a):=propext Iff.rfl
@[congr] theorem xbB{K}{l l'}(h:l=l'):vn l K=vn l' K:=by subst h;rfl
attribute [go_sem,go_sem ↓] W4
theorem Qag:Good vn:=Ja λas=>by
 unfold vn;split
 .exact(kh λ_=>(kh λ_=>(JbZ λ_=>(.and λ_=>(.and λ_=>(.and λ_=>(.ret _)))))))
 .exact .of λK hk=>hk.elim
def Jb(f0 f1 f2 f3 f4 f5 f6 f7 f8 f9 f10:Nat):AC:=(.o [.K 5 6 2,.m 6 .fa] [0,1,5] (.f (.o [.M 39 0,.M 40 1,.u 41 (.row 1 [[.x 1 (.t 39)],[.x 1 (.t 40)]]),.H 42 f0 41,.u 43 (.un .not (.t 42)),.M 44 43,.w 45 44 false (.ai 3 2 (.t 5) (.i 0)),.U 46 44 false 3 true 45,.w 47 44 false (.ai 3 2 (.t 5) (.i 1)),.U 48 44 false 3 true 47,.w 49 44 false (.row 3 [[.x 3 (.t 46)],[.x 3 (.t 48)]]),.W 50 44 false f1 49,.w 51 44 false (.un .not (.t 50)),.Q 52 44 51,.M 53 52,.w 54 53 false (.call f2 []),.w 55 53 false (.un .not (.t 54)),.Q 56 53 55] [0,1,5,56] (.cond (.t 56) (.seq (.p [.u 57 (.call f2 []),.M 6 57]) .ret) .skip)) [0,1,5] (.o [.M 59 0,.u 60 (.ai 3 2 (.t 5) (.i 0)),.L 61 3 60,.u 62 (.ai 3 2 (.t 5) (.i 1)),.L 63 3 62,.E 64 f3 59 61 63,.M 58 64,.X 65 0 58,.X 66 1 58,.G 7 [.z,.emp,.emp],.S 3 7 65,.M 8 66] [0,1,5,7,8] (.o [.M 68 0,.u 69 (.ai 3 2 (.t 5) (.i 0)),.L 70 3 69,.u 71 (.call f4 [(.t 68),.fa,(.t 70)]),.M 67 71,.X 72 0 67,.X 73 1 67,.M 9 72,.M 10 73] [0,1,5,7,8,9,10] (.o [.M 75 0,.u 76 (.ai 3 2 (.t 5) (.i 1)),.L 77 3 76,.u 78 (.call f4 [(.t 75),.tr,(.t 77)]),.M 74 78,.X 79 0 74,.X 80 1 74,.M 11 79,.M 12 80] [0,1,5,7,8,9,10,11,12] (.o [.M 82 9,.u 83 (.ai 3 2 (.t 5) (.i 1)),.L 84 3 83,.D 85 f5 82 84,.M 81 85,.X 86 0 81,.X 87 1 81,.G 13 [.z,.emp,.emp],.S 3 13 86,.M 14 87] [0,1,5,7,8,10,11,12,13,14] (.o [.M 89 11,.u 90 (.ai 3 2 (.t 5) (.i 0)),.L 91 3 90,.D 92 f5 89 91,.M 88 92,.X 93 0 88,.X 94 1 88,.G 15 [.z,.emp,.emp],.S 3 15 93,.M 16 94] [0,1,7,8,10,12,13,14,15,16] (.o [.M 96 0,.u 97 (.call f6 [(.t 96),.fa]),.M 95 97,.X 98 0 95,.X 99 1 95,.M 17 98,.M 18 99] [0,1,7,8,10,12,13,14,15,16,17,18] (.o [.M 101 0,.u 102 (.call f6 [(.t 101),.tr]),.M 100 102,.X 103 0 100,.X 104 1 100,.M 19 103,.M 20 104] [0,1,7,8,10,12,13,14,15,16,17,18,19,20] (.o [.M 106 17,.u 107 (.call f6 [(.t 106),.tr]),.M 105 107,.X 108 0 105,.X 109 1 105,.M 21 108,.M 22 109] [0,1,7,8,10,12,13,14,15,16,17,18,19,20,21,22] (.o [.M 111 19,.u 112 (.call f6 [(.t 111),.fa]),.M 110 112,.X 113 0 110,.X 114 1 110,.M 23 113,.M 24 114] [0,1,7,8,10,12,13,14,15,16,17,18,20,21,22,23,24] (.o [.M 116 0,.M 117 1,.D 118 f7 116 117,.M 115 118,.X 119 0 115,.X 120 1 115,.M 25 119,.M 26 120] [0,1,7,8,10,12,13,14,15,16,17,18,20,21,22,23,24,25,26] (.o [.M 122 25,.u 123 (.call f6 [(.t 122),.fa]),.M 121 123,.X 124 0 121,.X 125 1 121,.M 27 124,.M 28 125] [0,1,7,8,10,12,13,14,15,16,17,18,20,21,22,23,24,26,27,28] (.o [.M 127 1,.u 128 (.call f6 [(.t 127),.fa]),.M 126 128,.X 129 0 126,.X 130 1 126,.M 29 129,.M 30 130] [0,1,7,8,10,12,13,14,15,16,17,18,20,21,22,23,24,26,27,28,29,30] (.o [.M 132 17,.M 133 1,.D 134 f7 132 133,.M 131 134,.X 135 0 131,.X 136 1 131,.M 31 135,.M 32 136] [0,7,8,10,12,13,14,15,16,18,20,21,22,23,24,26,27,28,29,30,31,32] (.o [.M 138 0,.M 139 29,.D 140 f7 138 139,.M 137 140,.X 141 0 137,.X 142 1 137,.M 33 141,.M 34 142] [7,8,10,12,13,14,15,16,18,20,21,22,23,24,26,27,28,30,31,32,33,34] (.o [.M 144 31,.M 145 33,.D 146 f8 144 145,.M 143 146,.X 147 0 143,.X 148 1 143,.M 35 147,.M 36 148] [7,8,10,12,13,14,15,16,18,20,21,22,23,24,26,27,28,30,32,34,35,36] (.f (.o [.M 149 8,.M 150 10,.M 151 12,.M 152 14,.M 153 16,.M 154 18,.M 155 20,.M 156 22,.M 157 24,.M 158 26,.M 159 28,.M 160 30,.M 161 32,.M 162 34,.M 163 36,.u 164 (.row 1 [[.x 1 (.t 149)],[.x 1 (.t 150)],[.x 1 (.t 151)],[.x 1 (.t 152)],[.x 1 (.t 153)],[.x 1 (.t 154)],[.x 1 (.t 155)],[.x 1 (.t 156)],[.x 1 (.t 157)],[.x 1 (.t 158)],[.x 1 (.t 159)],[.x 1 (.t 160)],[.x 1 (.t 161)],[.x 1 (.t 162)],[.x 1 (.t 163)]]),.Z 165 164,.N 166 0] [7,13,15,21,23,27,35,164,165,166] (.block 0 (.loop (.o [.B 167 .lss 166 165] [7,13,15,21,23,27,35,164,165,166,167] (.f (.cond (.t 167) .skip (.exit 0)) [7,13,15,21,23,27,35,164,165,166] (.f (.block 1 (.o [.J 168 1 164 166,.F 169 1 168,.M 38 169] [7,13,15,21,23,27,35,38,164,165,166] (.o [.M 170 38,.R 171 170] [7,13,15,21,23,27,35,164,165,166,171] (.cond (.t 171) (.seq (.p [.m 6 .fa]) .ret) .skip)))) [7,13,15,21,23,27,35,164,165,166] (.p [.I 172 .add 166 1,.M 166 172]))))))) [7,13,15,21,23,27,35] (.seq (.p [.L 173 3 7,.L 174 3 13,.D 175 f9 173 174,.I 176 .eql 175 0,.M 177 176,.U 178 177 true 3 true 7,.U 179 177 true 3 true 15,.Y 180 177 true f9 178 179,.w 181 177 true (.bin .eql (.t 180) (.i 0)),.P 182 177 181,.M 183 182,.V 184 183 true 21,.V 185 183 true 23,.Y 186 183 true f10 184 185,.P 187 183 186,.M 188 187,.V 189 188 true 27,.V 190 188 true 35,.Y 191 188 true f10 189 190,.P 192 188 191,.M 6 192]) .ret)))))))))))))))))))
theorem Zae(hΓ:Holds P Γ){f fv fb fw fe fx fu fd fm fa fc fq tE:Nat}(hv:Γ fv=.dat false qk)(hb:Γ fb=.dat false Vo)(hw:Γ fw=.dat false Uo)(he:Γ fe=.dat false (vw tE))(hx:Γ fx=.dat false (jA tE))(hu:Γ fu=.dat false (xq tE))(hd:Γ fd=.dat false (Yu tE))(hm:Γ fm=.dat false (wy tE))(ha:Γ fa=.dat false (vA tE))(hcm:Γ fc=.dat true ky)(hq:Γ fq=.dat false ul)
  (hc:check P f=some (193,(Jb fv fb fw fe fx fu fd fm fa fc fq).strip,[.tmp 6])):Sound P f (.dat true vn):=by
 refine Qa hc Qag hΓ (λargs K hcl hfi hG=>?_);match args,hG with
 | [a,b,c],hG=>
  obtain⟨p,rfl,hwp,q,rfl,hwq,x,rfl,hwx,⟨hlp,hrp⟩,⟨hlq,hrq⟩,hax,hK⟩:=hG;refine⟨by simp,?_⟩
  obtain⟨u,v⟩:=x;have hwu:WLR u:=hwx.1;have hwv:WLR v:=hwx.2;have hru:rl u<=1048576:=Nat.le_trans (Nat.le_max_left _ _) hax;have hrv:rl v<=1048576:=Nat.le_trans (Nat.le_max_right _ _) hax;have g1:p.length<=10000000/\∀t∈p,rl t.2.2<=4294967296:=⟨by omega,λt ht=>Nat.le_trans (hrp t ht) (by decide)⟩
  have g2:q.length<=10000000/\∀t∈q,rl t.2.2<=4294967296:=⟨by omega,λt ht=>Nat.le_trans (hrq t ht) (by decide)⟩
  have g3:∀y∈[u,v],WLR y:=λy hy=>by
   simp only [List.mem_cons,List.not_mem_nil,or_false]at hy;rcases hy with rfl | rfl <;> assumption
  have g4:okRs 4294967296 [u,v]:=λy hy=>⟨g3 y hy,by
   simp only [List.mem_cons,List.not_mem_nil,or_false]at hy;rcases hy with rfl | rfl <;> omega⟩
  cases h1:vldM p && vldM q with
  | false=>
   simp only [go_sem,Jb,hv,hw,ms,aA,aC,h1];exact⟨⟨hwp,hwq⟩,g1,g2,hK⟩
  | true=>
  cases h2:[u,v].all lowR with
  | false=>
   simp only [go_sem,Jb,hv,hb,hw,ms,aA,aC,h1,h2];refine⟨⟨hwp,hwq⟩,g1,g2,?_⟩;repeat refine q_Wr ?_
   exact hK
  | true=>
  simp only [Bool.and_eq_true]at h1;obtain⟨hp1,hq1⟩:=h1;obtain⟨A,rfl,pA,lA⟩:=jaY hp1 hwp;obtain⟨B,rfl,pB,lB⟩:=jaY hq1 hwq;have ru:rl u<=1:=zaj (List.all_eq_true.1 h2 u (by simp))
  have rv1:rl v<=1:=zaj (List.all_eq_true.1 h2 v (by simp))
  have zu:=Jv hwu;have zv:=Jv hwv;have ru4:rl u<=10000:=by omega
  have rv4:rl v<=10000:=by omega
  have t6:tri (5+1)=21:=rfl;have pX:=pA.dv false;have pY:=pA.dv true;have pXY:=pX.dv true;have pM:=pA.mul pB (by decide)
  have pQX:=pB.dv false;have pL:=pX.mul pB (by decide)
  have pR:=pA.mul pQX (by decide)
  have hXY:=Zbr pA;have hS:=xbu pA pB (by decide)
  have pMX:=pM.dv false;have f1:=Ja7 false (rv u) (rv v) pA.canon.ins;have f2:=Ja7 true (rv v) (rv u) pA.canon.ins;have m1:=XaC (b:=false) (c:=rv u) pA lA (by omega)
  have m2:=XaC (b:=true) (c:=rv v) pA lA (by omega)
  have n1:=Jat false (rv u) A;have n2:=Jat true (rv v) A;have o1:=Jm (fixL false (rv u) A);have o2:=Jm (fixL true (rv v) A);simp only [if_true,Bool.false_eq_true,if_false]at f1 f2;obtain⟨F,hF⟩:∃F,trimL (fixL false (rv u) A)=F:=⟨_,rfl⟩;obtain⟨G,hG⟩:∃G,trimL (fixL true (rv v) A)=G:=⟨_,rfl⟩;rw [hF]at f1 m1 n1 o1;rw [hG]at f2 m2 n2 o2;have e1:=pA.ev lA (x:=rv u) (y:=rv v) (n:=1) (by omega) (by omega)
  obtain⟨E1,hE1⟩:∃E,ev A (rv u) (rv v)=E:=⟨_,rfl⟩;rw [hE1]at e1 f1 f2;have k1:chkB (mcs A)=0:=kp pA.canon;have k2:chkB (mcs B)=0:=kp pB.canon;have k3:chkB (mcs (dvB false A))=0:=kp pX.canon;have k4:chkB (mcs (dvB true A))=0:=kp pY.canon;have k5:chkB (mcs (mulB A B))=0:=kp pM.canon;have c1:=pA.mulC pB (by decide)
  have c2:=pX.mulC pB (by decide)
  have c3:=pA.mulC pQX (by decide)
  have c4:=pL.chk pR;rw [t6]at pM pL pR pMX;obtain⟨X,hX⟩:∃X,dvB false A=X:=⟨_,rfl⟩;obtain⟨Y,hY⟩:∃X,dvB true A=X:=⟨_,rfl⟩;obtain⟨M,hM⟩:∃X,mulB A B=X:=⟨_,rfl⟩;obtain⟨Q,hQ⟩:∃X,dvB false B=X:=⟨_,rfl⟩;rw [hX]at pX pXY hXY pL c2 k3 c4 hS;rw [hY]at pY hXY k4;rw [hM]at pM k5 pMX hS;rw [hQ]at pQX pR c3 c4 hS;obtain⟨L,hL⟩:∃Z,mulB X B=Z:=⟨_,rfl⟩;obtain⟨R,hR⟩:∃Z,mulB A Q=Z:=⟨_,rfl⟩;rw [hL]at pL c4 hS;rw [hR]at pR c4 hS;obtain⟨W,hW⟩:∃Z,dvB false M=Z:=⟨_,rfl⟩;obtain⟨V,hV⟩:∃Z,dvB true X=Z:=⟨_,rfl⟩;rw [hW]at hS pMX;rw [hV]at hXY pXY;have hS':=hS.symm;have hXY':=hXY.symm;have wA:=pA.wl;have wB:=pB.wl;have wX:=pX.wl;have wY:=pY.wl;have wM:=pM.wl;have wQ:=pQX.wl;have wL:=pL.wl;have wR:=pR.wl;have wW:=pMX.wl;have wV:=pXY.wl;have a9:=pA.rlb (b:=1000000000) (by decide)
  have b9:=pB.rlb (b:=1000000000) (by decide)
  have x9:=pX.rlb (b:=1000000000) (by decide)
  have y9:=pY.rlb (b:=1000000000) (by decide)
  have m9:=pM.rlb (b:=1000000000) (by decide)
  have q9:=pQX.rlb (b:=1000000000) (by decide)
  have l4:=pL.rlb (b:=4294967296) (by decide)
  have r4:=pR.rlb (b:=4294967296) (by decide)
  have w4:=pMX.rlb (b:=4294967296) (by decide)
  have v4:=pXY.rlb (b:=4294967296) (by decide)
  have iA:=pA.size;have iB:=pB.size;have iX:=pX.size;have iY:=pY.size;have iM:=pM.size;have iQ:=pQX.size;have iL:=pL.size;have iR:=pR.size;have zA:sz A<=3000000:=by omega
  have zB:sz B<=3000000:=by omega
  have zX:sz X<=3000000:=by omega
  have zY:sz Y<=3000000:=by omega
  have zM:sz M<=3000000:=by omega
  have zAB:sz A+sz B<=3000000:=by omega
  have zXB:sz X+sz B<=3000000:=by omega
  have zAQ:sz A+sz Q<=3000000:=by omega
  have zLR:sz L+sz R<=3000000:=by omega
  have lW:(mcs W).length<=1000000:=by have:=wbm W;have:=pMX.size;unfold mcs;rw [List.length_map];omega
  have lV:(mcs V).length<=1000000:=by have:=wbm V;have:=pXY.size;unfold mcs;rw [List.length_map];omega
  have m1' : ∀x∈F,rz x<=1000000:=λx hx=>Nat.le_trans (m1 x hx) (by decide)
  have m2' : ∀x∈G,rz x<=1000000:=λx hx=>Nat.le_trans (m2 x hx) (by decide)
  have n1' : F.length<=65:=by omega
  have n2' : G.length<=65:=by omega
  have ru5:rl u<=1000000:=by omega
  have rv5:rl v<=1000000:=by omega
  have g5:rz E1<=4294967296:=by omega
  have r11:(0:Int)<=1/\(1:Int)<((2:Nat):Int):=by decide
  have e0:=Zd tE;have b0:=λl=>jac l;have oz:∀x:Rat,ordQ x x=0:=λx=>yj.2 rfl;simp only [go_sem,Jb,hv,hb,hw,he,hx,hu,hd,hm,ha,ms,aA,aC,hp1,hq1,h2,Qq,c1,c2,c3,c4,k1,k2,k3,k4,k5,e0,b0,hE1,hF,hG,f1,f2,hX,hY,hM,hQ,hL,hR,hW,hV,hS',hXY',oz,Bool.and_true,Bool.and_self];refine⟨⟨hwp,hwq⟩,g1,g2,?_⟩;repeat refine q_Wr ?_
  refine ja (λk:Nat=>⟨mkV [(7,.one (.ptr 7 1 0 0)),(13,.one (.ptr 13 1 0 0)),(15,.one (.ptr 15 1 0 0)),(21,msA (mcs V)),(23,msA (mcs V)),(27,msA (mcs W)),(35,msA (mcs W)),(164,.one (.full (List.replicate 15 [.lit .nilIface]))),(165,.one (.lit (.int .i64 (15:Nat)))),(166,.one (.lit (.int .i64 k)))],
   mkH [(7,⟨1,some ⟨[[cb (rcan E1),cn (rcan E1),cd (rcan E1)]],3,true⟩⟩),(13,⟨1,some ⟨[[cb (rcan E1),cn (rcan E1),cd (rcan E1)]],3,true⟩⟩),(15,⟨1,some ⟨[[cb (rcan E1),cn (rcan E1),cd (rcan E1)]],3,true⟩⟩)]⟩) (λk=>k<=15) (λk=>15-k) 0 ?_ ?_ ?_
  .exact qa (by simp [bitvec_to_nat,msA,ms,List.replicate]) ⟨Yd,Yd,Yd,trivial⟩
  .exact Nat.zero_le _
  .intro k hk;by_cases hlt:k<15
   .simp only [go_sem,hlt,zbf];repeat first | refine q_Wk ?_ | intro _
    exact⟨k+1,qa (by simp [bitvec_to_nat,msA,ms]) ⟨Yd,Yd,Yd,trivial⟩,by omega,by omega⟩
   .simp only [go_sem,hlt,hq,hcm,ms,oz];repeat refine q_Wr ?_
    exact hK
end Go.Abs
end
section
namespace Go.Abs
open Go.Num
variable {P:Program} {Γ:Nat->Spec}
def zr:AC:=(.o [.m 2 (.c (.one .emp))] [0] (.o [.M 4 0,.Z 5 4,.M 3 5] [0,3] (.f (.block 0 (.loop (.f (.o [.M 6 3,.I 7 .gtr 6 0,.M 8 7,.V 9 8 true 0,.V 10 8 true 3,.w 11 8 true (.bin .sub (.t 10) (.i 1)),.w 12 8 true (.idx 1 (.t 9) (.t 11)),.U 13 8 true 1 false 12,.w 14 8 true (.bin .eql (.t 13) (.c (.one (.lit (.int .u32 0))))),.P 15 8 14] [0,3,15] (.cond (.t 15) .skip (.exit 0))) [0,3] (.block 1 (.p [.M 16 3,.I 17 .sub 16 1,.M 3 17]))))) [0,3] (.f (.o [.M 18 3,.I 19 .eql 18 0] [0,3,19] (.cond (.t 19) (.seq (.p [.m 2 (.c (.one .emp))]) .ret) .skip)) [0,3] (.seq (.p [.m 20 (.c (.one .emp)),.M 21 0,.M 22 3,.u 23 (.sl 1 (.t 21) none (some (.t 22))),.u 24 (.app0 1 (.t 20) (.t 23)),.M 2 24]) .ret)))))
def vk:AC:=(.o [.m 4 (.c (.one (.lit (.int .u64 0))))] [0,1] (.f (.o [.M 5 1,.M 6 0,.Z 7 6,.B 8 .lss 5 7] [0,1,8] (.cond (.t 8) (.seq (.p [.M 9 0,.M 10 1,.J 11 1 9 10,.F 12 1 11,.u 13 (.conv .u64 (.t 12)),.M 4 13]) .ret) .skip)) [] (.seq (.p [.m 4 (.c (.one (.lit (.int .u64 0))))]) .ret)))
def Wq(f0 f1:Nat):AC:=(.o [.m 4 (.c (.one .emp))] [0,1] (.o [.M 8 0,.Z 9 8,.M 10 1,.Z 11 10,.u 12 (.max [(.t 9),(.t 11)]),.I 13 .add 12 1,.u 14 (.mk 1 [(.lit (.int .u32 0))] (.t 13) (.t 13)),.M 5 14] [0,1,5] (.o [.m 6 (.c (.one (.lit (.int .u64 0))))] [0,1,5,6] (.f (.o [.M 15 5,.Z 16 15,.N 17 0] [0,1,5,6,16,17] (.block 0 (.loop (.o [.B 18 .lss 17 16] [0,1,5,6,16,17,18] (.f (.cond (.t 18) .skip (.exit 0)) [0,1,5,6,16,17] (.f (.block 1 (.o [.M 19 17,.M 7 19] [0,1,5,6,7,16,17] (.o [.M 20 6,.M 21 0,.M 22 7,.D 23 f0 21 22,.M 24 1,.M 25 7,.D 26 f0 24 25,.B 27 .add 23 26,.B 28 .add 20 27,.M 6 28] [0,1,5,6,7,16,17] (.o [.M 29 5,.M 30 7,.M 31 6,.u 32 (.conv .u32 (.t 31)),.J 33 1 29 30,.S 1 33 32] [0,1,5,6,16,17] (.p [.M 34 6,.u 35 (.bin .shr (.t 34) (.c (.one (.lit (.int .u64 32))))),.M 6 35]))))) [0,1,5,6,16,17] (.p [.I 36 .add 17 1,.M 17 36]))))))) [5] (.seq (.p [.M 37 5,.H 38 f1 37,.M 4 38]) .ret)))))
theorem yaF(hΓ:Holds P Γ){f:Nat}(hc:check P f=some (25,zr.strip,[.tmp 2])):Sound P f (.dat false Wp):=by
 refine Qa hc WaU hΓ (λargs K hcl hfi hG=>?_);match args,hG with
 | [a],hG=>
  obtain⟨l,rfl,hl,hlen,hK⟩:=hG;refine⟨by simp,?_⟩
  simp only [go_sem,zr];intro hmax;refine ja (λn:Nat=>⟨mkV [(0,wsA l),(3,.one (.lit (.int .i64 n)))],mkH []⟩) (λn=>n<=l.length/\val (l.take n)=val l) id l.length ?_ ?_ ?_
  .exact qa (by simp [bitvec_to_nat]) trivial
  .simp
  .rintro n ⟨hn,ht⟩;simp only [go_sem];refine⟨λh=>⟨by omega,by omega,by omega,λh0=>⟨by omega,n-1,qa (by simp [bitvec_to_nat];omega) trivial,⟨by omega,?_⟩,?_⟩,λh0=>⟨λh1=>by omega,λ_=>⟨by omega,by simp;omega,?_⟩⟩⟩,λh=>⟨λh1=>?_,λh1=>by omega⟩⟩
   .rw [show((n:Int)-1).toNat=n-1 by omega]at h0
    have:=Vb l (n-1);rw [show n-1+1=n by omega,h0,Nat.mul_zero,Nat.add_zero]at this
    rw [<-this];exact ht
   .simp only [id];omega
   .rw [show((n:Int)-1).toNat=n-1 by omega]at h0
    have:=Jd (Zv hl n) (JF h hn h0);rw [<-this,ht];exact hK
   .subst h1;have:val l=0:=by rw [<-ht];simp [val]
    rw [this,Zb]at hK;exact hK
theorem vM(hΓ:Holds P Γ){f:Nat}(hc:check P f=some (14,vk.strip,[.tmp 4])):Sound P f (.dat true kj):=by
 refine Qa hc kaK hΓ (λargs K hcl hfi hG=>?_);match args,hG with
 | [a,b],hG=>
  obtain⟨l,rfl,hl,hG⟩:=hG;obtain⟨k,i,rfl,rfl,hi,hK⟩:=Xa hG;refine⟨by simp,?_⟩
  simp only [go_sem,vk];intro hmax;refine⟨λh=>⟨hi,by omega,?_⟩,λh=>?_⟩
  .have:=jb hl i.toNat;rw [Nat.mod_eq_of_lt (by omega)];exact hK
  .rw [List.getD_eq_getElem?_getD,List.getElem?_eq_none (by omega)]at hK;exact hK
theorem QaG(hΓ:Holds P Γ){f fw ft:Nat}(hw:Γ fw=.dat true kj)(ht:Γ ft=.dat false Wp)(hc:check P f=some (39,(Wq fw ft).strip,[.tmp 4])):Sound P f (.dat false jn):=by
 refine Qa hc U8 hΓ (λargs K hcl hfi hG=>?_);match args,hG with
 | [a,b],hG=>
  obtain⟨x,rfl,hx,y,rfl,hy,hxl,hyl,hK⟩:=hG;refine⟨by simp,?_⟩
  simp only [go_sem,Wq,hw,ht];intro h1 h2;refine⟨by omega,by omega,λhN=>?_⟩
  generalize hNN:max x.length y.length+1=N at hN;refine ja (λp:List Nat×Nat=>⟨mkV [(0,wsA x),(1,wsA y),(5,.one (.own 14 1 1 0 N)),(6,.one (.lit (.int .u64 p.2))),(16,.one (.lit (.int .i64 N))),(17,.one (.lit (.int .i64 p.1.length)))],mkH [(14,⟨1,some ⟨(p.1++List.replicate (N-p.1.length) 0).map wc,1,true⟩⟩)]⟩)
   (λp=>p.1.length<=N/\WL p.1/\p.2<=1/\val p.1+4294967296 ^ p.1.length*p.2=val (x.take p.1.length)+val (y.take p.1.length)) (λp=>N-p.1.length) ([],0) ?_ ?_ ?_
  .exact qa (by simp [bitvec_to_nat]) (vh (by simp))
  .simp [qc,val]
  .rintro⟨o,c⟩ ⟨hoN,ho,hc1,hval⟩;simp only at hoN ho hc1 hval;have hlen:(o++List.replicate (N-o.length) 0).length=N:=by simp;omega
   simp only [go_sem,hw,ht,hlen];refine⟨λhlt=>⟨hx,hy,hlt,hlt,by omega,by omega,?_⟩,λhge=>?_⟩
   .have g1:=jb hx o.length;have g2:=jb hy o.length;rw [Nat.mod_eq_of_lt (show x.getD o.length 0+y.getD o.length 0<18446744073709551616 by omega),Nat.mod_eq_of_lt (show c+(x.getD o.length 0+y.getD o.length 0)<18446744073709551616 by omega)]
    generalize hs:c+(x.getD o.length 0+y.getD o.length 0)=s;refine⟨(o++[s % 4294967296],s / 4294967296),qa (by simp [bitvec_to_nat]) (vh ?_),⟨by simp;omega,ud.2 ⟨ho,Xb.2 ⟨Nat.mod_lt _ (by omega),qc⟩⟩,by simp only;omega,?_⟩,by simp;omega⟩
    .rw [show N-o.length=N-(o.length+1)+1 by omega,kak];simp
    .simp only [List.length_append,List.length_cons,List.length_nil,Nat.zero_add,Vb,Yb,xg,uk,Nat.mul_zero,Nat.add_zero,Nat.pow_succ];rw [Nat.mul_assoc,Nat.add_assoc,<-Nat.mul_add,Nat.mod_add_div,<-hs,Nat.mul_add,<-Nat.add_assoc,hval,Nat.mul_add];omega
   .have e:o.length=N:=by omega
    simp only [e,Nat.sub_self,List.replicate_zero,List.append_nil,Nat.le_refl,if_true,qD];have hv:val o=val x+val y:=by
     rw [e,xi (by omega),xi (by omega)]at hval
     exact jap hx hy (by omega) (by omega) (by omega) hval
    refine⟨ho,by omega,?_⟩
    rw [hv];exact hK
end Go.Abs
end
