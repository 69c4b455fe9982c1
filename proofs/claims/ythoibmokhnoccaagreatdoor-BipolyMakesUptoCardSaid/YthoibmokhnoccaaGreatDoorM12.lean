/-
  Parts of the proof, merged: BipH, BipU, CogT, BipT, BipV, BipW, BipQ, BipI, BipJ, BiqA.
-/
import Derived.Test.YthoibmokhnoccaaGreatDoorM11
import Derived.Lib.Join
set_option linter.unusedVariables false
set_option linter.unusedSimpArgs false
set_option maxRecDepth 100000
section
namespace Go.Num
open Go.Abs
def erC(p q:List Mo):Nat:=if chk2 p q≠0 then chk2 p q else if p=[]∨q=[] then 8 else if 8<topY (p.map mv)+topY (q.map mv)-2∨64<degM p*degM q then 4 else 0
end Go.Num
namespace Go.Abs
open Go.Num
variable {P:Program} {Γ:Nat->Spec}
theorem Qag(l:List Rat):plC l=[.slice ((l.map rcan).map rC)]:=eq_of_heq (HEq.refl _)
theorem JaO(l:List Rat):(plC l).length=1:=eq_of_heq (HEq.refl _)
theorem uav(K:List C->Prop)(L:PL)(i:Nat):getE K (L.map plC) i=(i<L.length/\K (plC (L.getD i []))):=by
 simp only [getE,List.length_map,List.getElem?_map];refine propext ⟨λh=>⟨h.1,h.2 _ (by simp [h.1,List.getD_eq_getElem?_getD])⟩,λh=>⟨h.1,λe he=>?_⟩⟩
 simp [h.1]at he;subst he;have:=h.2;simpa [List.getD_eq_getElem?_getD,h.1] using this
theorem UJ(L:PL):CleanR (L.map plC)=True:=eq_true λe he c hc=>by
 obtain⟨l,_,rfl⟩:=List.mem_map.1 he;rw [Qag,List.mem_singleton]at hc;subst hc;exact of_eq_true (UE _)
theorem WaR(L:PL):(∀e∈L.map plC,e.length=1)=True:=eq_true λe he=>by
 obtain⟨l,_,rfl⟩:=List.mem_map.1 he;rfl
theorem uaa(L:PL):Clean (.slice (L.map plC))=True:=eq_true (.slice _ (of_eq_true (UJ L)))
attribute [go_sem,go_sem ↓] JaO uav UJ WaR uaa
theorem QbK{a b ver:Nat}(L:List Rat):swB a b ⟨ver,some ⟨(L.map rcan).map rC,3,true⟩⟩=⟨ver,some ⟨(L.map rcan).map rC,3,true⟩⟩:=by
 unfold swB;simp only [Option.map_some,HB.mk.injEq,Option.some.injEq,Blk.mk.injEq,and_true,true_and];rw [List.map_map];exact List.map_congr_left λj _=>rfl
def valC(t:Nat):C:=if t=0 then .emp else .own 99 1 3 0 t
def valB(t:Nat)(L:List Rat):HB:=if t=0 then ⟨0,none⟩ else ⟨1,some ⟨((L.take t).map rcan).map rC,3,true⟩⟩
theorem yT{h h' : Nat->HB}{t:Nat}{L:List Rat}{b:HB}(e:t≠0->b.blk=some ⟨((L.take t).map rcan).map rC,3,true⟩):okB h h' b.blk (valB t L).blk:=by
 unfold valB;by_cases h:t=0
 .rw [if_pos h];cases b.blk <;> trivial
 .rw [if_neg h,e h];exact xo rfl
theorem Yak(L:List Rat)(x:Rat):(L.map rcan).map rC++[[cb (rcan x),cn (rcan x),cd (rcan x)]]=((L++[x]).map rcan).map rC:=by simp [rC]
def Vt(tE:Nat)(l:List AV)(K:AV->Prop):Prop:=
 match l with
 | [a,b]=>onMs (λp=>onMs (λq=>(∀t∈p,rl t.2.2<=1000000)/\(∀t∈q,rl t.2.2<=1000000)/\(erC p q=0->degM p*degM q<=9/\SmE (p.map mv) (q.map mv))/\K (.tup [.one (.slice (((if erC p q=0 then elL (p.map mv) (q.map mv) else []).map rcan).map rC)),errV tE (erC p q)])) b) a
 | _=>False
theorem zaz:type_of% @Vt.eq_1:=q_E @Vt.eq_1
@[congr] theorem XbT tE{K}{l l'}(h:l=l'):Vt tE l K=Vt tE l' K:=by subst h;rfl
attribute [go_sem,go_sem ↓] zaz
theorem UaL(tE:Nat):Good (Vt tE):=Ja λas=>by
 unfold Vt;split
 .exact(we λ_=>(we λ_=>(.and λ_=>(.and λ_=>(.and λ_=>(.ret _))))))
 .exact .of λK hk=>hk.elim
def yb(f0 f1 f2 f3 f4 f5 f6 tE:Nat):AC:=(.o [.m 4 (.c (.one .emp)),.m 5 (.c (.one (.lit .nilIface)))] [0,1] (.f (.o [.M 22 0,.M 23 1,.u 24 (.row 1 [[.x 1 (.t 22)],[.x 1 (.t 23)]]),.H 25 f0 24,.M 6 25] [0,1,6] (.o [.M 26 6,.R 27 26] [0,1,6,27] (.cond (.t 27) (.seq (.p [.M 28 6,.m 4 (.c (.one .emp)),.M 5 28]) .ret) .skip))) [0,1] (.f (.o [.M 29 0,.Z 30 29,.I 31 .eql 30 0,.M 32 31,.V 33 32 false 1,.w 34 32 false (.len (.t 33)),.w 35 32 false (.bin .eql (.t 34) (.i 0)),.Q 36 32 35] [0,1,36] (.cond (.t 36) (.seq (.p [.u 37 (.iface tE (.i 8)),.m 4 (.c (.one .emp)),.M 5 37]) .ret) .skip)) [0,1] (.o [.M 38 0,.H 39 f1 38,.M 40 1,.H 41 f1 40,.M 7 39,.M 8 41] [0,1,7,8] (.f (.o [.M 42 7,.Z 43 42,.M 44 8,.Z 45 44,.B 46 .add 43 45,.I 47 .sub 46 2,.I 48 .gtr 47 8,.M 49 48,.V 50 49 false 0,.W 51 49 false f2 50,.V 52 49 false 1,.W 53 49 false f2 52,.w 54 49 false (.bin .mul (.t 51) (.t 53)),.w 55 49 false (.bin .gtr (.t 54) (.i 64)),.Q 56 49 55] [0,1,7,8,56] (.cond (.t 56) (.seq (.p [.u 57 (.iface tE (.i 4)),.m 4 (.c (.one .emp)),.M 5 57]) .ret) .skip)) [0,1,7,8] (.o [.m 9 (.c (.one .emp)),.m 10 (.c (.one .emp))] [0,1,7,8,9,10] (.f (.o [.M 58 0,.H 59 f2 58,.M 60 1,.H 61 f2 60,.B 62 .mul 59 61,.I 63 .add 62 1,.N 64 0] [7,8,9,10,63,64] (.block 0 (.loop (.o [.B 65 .lss 64 63] [7,8,9,10,63,64,65] (.f (.cond (.t 65) .skip (.exit 0)) [7,8,9,10,63,64] (.f (.block 1 (.o [.M 66 64,.M 11 66] [7,8,9,10,11,63,64] (.o [.M 67 11,.H 68 f3 67,.G 12 [.z,.emp,.emp],.S 3 12 68] [7,8,9,10,12,63,64] (.o [.G 13 [.emp,.emp]] [7,8,9,10,12,13,63,64] (.f (.o [.M 69 7,.M 70 8,.u 71 (.row 1 [[.x 1 (.t 69)],[.x 1 (.t 70)]]),.Z 72 71,.N 73 0] [7,8,9,10,12,13,63,64,71,72,73] (.block 2 (.loop (.o [.B 74 .lss 73 72] [7,8,9,10,12,13,63,64,71,72,73,74] (.f (.cond (.t 74) .skip (.exit 2)) [7,8,9,10,12,13,63,64,71,72,73] (.f (.block 3 (.o [.M 75 73,.J 76 1 71 73,.F 77 1 76,.M 14 75,.M 15 77] [7,8,9,10,12,13,14,15,63,64,71,72,73] (.o [.M 78 15,.Z 79 78,.N 80 0] [7,8,9,10,12,13,14,63,64,71,72,73,78,79,80] (.block 4 (.loop (.o [.B 81 .lss 80 79] [7,8,9,10,12,13,14,63,64,71,72,73,78,79,80,81] (.f (.cond (.t 81) .skip (.exit 4)) [7,8,9,10,12,13,14,63,64,71,72,73,78,79,80] (.f (.block 5 (.o [.J 82 1 78 80,.F 83 1 82,.M 17 83] [7,8,9,10,12,13,14,17,63,64,71,72,73,78,79,80] (.o [.M 85 17,.L 86 3 12,.D 87 f4 85 86,.M 84 87,.X 88 0 84,.X 89 1 84,.G 18 [.z,.emp,.emp],.S 3 18 88,.M 19 89] [7,8,9,10,12,13,14,18,19,63,64,71,72,73,78,79,80] (.f (.o [.M 90 19,.R 91 90] [7,8,9,10,12,13,14,18,19,63,64,71,72,73,78,79,80,91] (.cond (.t 91) (.seq (.p [.M 92 19,.m 4 (.c (.one .emp)),.M 5 92]) .ret) .skip)) [7,8,9,10,12,13,14,18,63,64,71,72,73,78,79,80] (.y [.M 93 14,.M 94 14,.u 95 (.ai 1 2 (.t 13) (.t 94)),.F 96 1 95,.L 97 3 18,.u 98 (.row 3 [[.x 3 (.t 97)]]),.u 99 (.app 3 (.t 96) (.t 98)),.u 100 (.ai 1 2 (.t 13) (.t 93)),.S 1 100 99]))))) [7,8,9,10,12,13,14,63,64,71,72,73,78,79,80] (.p [.I 101 .add 80 1,.M 80 101]))))))))) [7,8,9,10,12,13,63,64,71,72,73] (.p [.I 102 .add 73 1,.M 73 102]))))))) [7,8,9,10,12,13,63,64] (.o [.u 104 (.ai 1 2 (.t 13) (.i 0)),.F 105 1 104,.u 106 (.ai 1 2 (.t 13) (.i 1)),.F 107 1 106,.D 108 f5 105 107,.M 103 108,.X 109 0 103,.X 110 1 103,.G 20 [.z,.emp,.emp],.S 3 20 109,.M 21 110] [7,8,9,10,12,20,21,63,64] (.f (.o [.M 111 21,.R 112 111] [7,8,9,10,12,20,21,63,64,112] (.cond (.t 112) (.seq (.p [.M 113 21,.m 4 (.c (.one .emp)),.M 5 113]) .ret) .skip)) [7,8,9,10,12,20,63,64] (.y [.M 114 9,.u 115 (.ld (some 12) 3 true (.t 12)),.u 116 (.row 3 [[.x 3 (.t 115)]]),.u 117 (.appb 117 3 (.t 114) (.t 116)),.M 118 10,.u 119 (.ld (some 20) 3 true (.t 20)),.u 120 (.row 3 [[.x 3 (.t 119)]]),.u 121 (.appb 121 3 (.t 118) (.t 120)),.M 9 117,.M 10 121])))))))) [7,8,9,10,63,64] (.p [.I 122 .add 64 1,.M 64 122]))))))) [9,10] (.seq (.p [.M 123 9,.M 124 10,.D 125 f6 123 124,.X 126 0 125,.X 127 1 125,.M 4 126,.M 5 127]) .ret))))))))
theorem vam(hΓ:Holds P Γ){f fk fr fd fo fe fv ft tE:Nat}(hk:Γ fk=.dat false (Yf tE))(hr:Γ fr=.dat false kt)(hd:Γ fd=.dat true Vl)(ho:Γ fo=.dat false Uz)(he:Γ fe=.dat false (Yq tE))(hvl:Γ fv=.dat false (Um tE))(ht:Γ ft=.dat false (Vu tE))(hc:check P f=some (128,(yb fk fr fd fo fe fv ft tE).strip,[.tmp 4,.tmp 5])):Sound P f (.dat false (Vt tE)):=by
 refine Qa hc (UaL tE) hΓ (λargs K hcl hfi hG=>?_);match args,hG with
 | [a0,a1],hG=>
  obtain⟨p,rfl,hwp,q,rfl,hwq,hrp,hrq,hside,hK⟩:=hG;refine⟨by simp,?_⟩
  have hrp4:∀t∈p,rl t.2.2<=4294967296:=λt ht=>Nat.le_trans (hrp t ht) (by decide)
  have hrq4:∀t∈q,rl t.2.2<=4294967296:=λt ht=>Nat.le_trans (hrq t ht) (by decide)
  by_cases h0:chk2 p q=0
  case neg=>
   have ec:erC p q=chk2 p q:=if_pos h0;rw [ec,if_neg h0,Vd tE h0]at hK;have e1:=Vd tE h0;simp only [go_sem,yb,hk,e1,ms];exact⟨⟨hwp,hwq⟩,hrp4,hrq4,hK⟩
  have e0:=Ud tE;obtain⟨c1,c2⟩:=Z4 h0;have ec:erC p q=if p=[]∨q=[] then 8 else if 8<topY (p.map mv)+topY (q.map mv)-2∨64<degM p*degM q then 4 else 0:=if_neg (by simp [h0])
  by_cases hp0:p=[]
  .rw [if_pos (.inl hp0)]at ec;rw [ec,if_neg (by decide),Vd tE (by decide)]at hK
   have l0:p.length=0:=List.length_eq_zero_iff.2 hp0;simp only [go_sem,yb,hk,h0,e0,ms,l0];exact⟨⟨hwp,hwq⟩,hrp4,hrq4,hK⟩
  have lp0:p.length≠0:=λe=>hp0 (List.length_eq_zero_iff.1 e);have lp0' : ¬(p.length:Int)=0:=by omega
  by_cases hq0:q=[]
  .rw [if_pos (.inr hq0)]at ec;rw [ec,if_neg (by decide),Vd tE (by decide)]at hK
   have l0:q.length=0:=List.length_eq_zero_iff.2 hq0;simp only [go_sem,yb,hk,h0,e0,ms,l0,lp0'];refine⟨⟨hwp,hwq⟩,?_⟩;repeat first | refine q_Wk ?_ | intro _
   exact hK
  have lq0:q.length≠0:=λe=>hq0 (List.length_eq_zero_iff.1 e);have lq0' : ¬(q.length:Int)=0:=by omega
  rw [if_neg (λh=>h.elim hp0 hq0)]at ec;obtain⟨canp,mcp⟩:=Vo c1 hwp;obtain⟨canq,mcq⟩:=Vo c2 hwq;obtain⟨i1,_,l1⟩:=Qm c1 hwp;obtain⟨i2,_,l2⟩:=Qm c2 hwq;have hrp9:∀t∈p,rl t.2.2<=4000000000:=λt ht=>Nat.le_trans (hrp t ht) (by decide)
  have hrq9:∀t∈q,rl t.2.2<=4000000000:=λt ht=>Nat.le_trans (hrq t ht) (by decide)
  have t1:=van canp.ins;have t2:=van canq.ins;have t3:=qaH (p:=p.map mv) (by simpa using hp0)
  have t4:=qaH (p:=q.map mv) (by simpa using hq0)
  have la:=Yu (p.map mv);have lb:=Yu (q.map mv);have d1:=QD canp;have d2:=QD canq;have d3:=jI canp (by simpa using hp0)
  have d4:=jI canq (by simpa using hq0)
  rw [<-Vg,mcp]at d1 d3;rw [<-Vg,mcq]at d2 d4;obtain⟨dp,hdp⟩:=Int.eq_ofNat_of_zero_le d3;obtain⟨dq,hdq⟩:=Int.eq_ofNat_of_zero_le d4;have hdpq:degM p*degM q=((dp*dq:Nat):Int):=by rw [hdp,hdq,Int.natCast_mul]
  have hdpq' : (dp:Int)*(dq:Int)=((dp*dq:Nat):Int):=(Int.natCast_mul ..).symm;have hdpq24:dp*dq<=24*24:=Nat.mul_le_mul (by omega) (by omega)
  obtain⟨a,ha⟩:∃a,topY (p.map mv)=a:=⟨_,rfl⟩;obtain⟨b,hb⟩:∃b,topY (q.map mv)=b:=⟨_,rfl⟩;rw [ha]at t1 t3 la;rw [hb]at t2 t4 lb;rw [ha,hb,hdpq]at ec;have lenpq:((rowsP (p.map mv)).length:Int)+((rowsP (q.map mv)).length:Int)-2=((a+b-2:Nat):Int):=by omega
  by_cases h8:8<a+b-2
  .have h8' : (8:Int)<((a+b:Nat):Int)-2:=by omega
   rw [if_pos (.inl h8)]at ec;rw [ec,if_neg (by decide),Vd tE (by decide)]at hK
   simp only [go_sem,yb,hk,hr,hd,h0,c1,c2,e0,ms,lp0',lq0',lenpq,hdp,hdq,hdpq',la,lb,h8'];refine⟨⟨hwp,hwq⟩,?_⟩;repeat first | refine q_Wk ?_ | intro _
   exact hK
  have h8' : ¬(8:Int)<((a+b:Nat):Int)-2:=by omega
  by_cases h64:64<dp*dq
  .have h64' : (64:Int)<((dp*dq:Nat):Int):=by omega
   rw [if_pos (.inr h64')]at ec;rw [ec,if_neg (by decide),Vd tE (by decide)]at hK
   simp only [go_sem,yb,hk,hr,hd,h0,c1,c2,e0,ms,lp0',lq0',lenpq,hdp,hdq,hdpq',la,lb,h8',h64'];refine⟨⟨hwp,hwq⟩,?_⟩;repeat first | refine q_Wk ?_ | intro _
   exact hK
  have h64' : ¬(64:Int)<((dp*dq:Nat):Int):=by omega
  rw [if_neg (λh=>h.elim h8 h64')]at ec;obtain⟨hd9,hsm⟩:=hside ec;rw [hdpq]at hd9;rw [ec,if_pos rfl,e0]at hK;simp only [go_sem,yb,hk,hr,hd,h0,c1,c2,e0,ms,lp0',lq0',lenpq,hdp,hdq,hdpq',la,lb,h8',h64'];refine⟨⟨hwp,hwq⟩,?_⟩;repeat first | refine q_Wk ?_ | intro _
  obtain⟨n,hn⟩:∃n,dp*dq+1=n:=⟨_,rfl⟩;rw [hn];have hn10:n<=10:=by omega
  obtain⟨pq,hpq⟩:∃u,p.map mv=u:=⟨_,rfl⟩;obtain⟨qq,hqq⟩:∃u,q.map mv=u:=⟨_,rfl⟩;rw [hpq,hqq]at hK ⊢;rw [hpq]at la canp ha;rw [hqq]at lb canq hb;rw [hpq,hqq]at hsm;obtain⟨D,E,hD0,hDw,hEw,bp,bq⟩:=hsm;refine ja (λk:Nat=>⟨mkV [(7,.one (.slice ((rowsP pq).map plC))),(8,.one (.slice ((rowsP qq).map plC))),(9,if k=0 then .one .emp else .one (.own 117 1 3 0 k)),(10,if k=0 then .one .emp else .one (.own 121 1 3 0 k)),(63,.one (.lit (.int .i64 n))),(64,.one (.lit (.int .i64 k)))],mkH (if k=0 then [] else [(117,⟨1,some ⟨((xsn k).map rcan).map rC,3,true⟩⟩),(121,⟨1,some ⟨((ysE pq qq k).map rcan).map rC,3,true⟩⟩)])⟩) (λk=>k<=n) (λk=>n-k) 0 ?_ ?_ ?_
  .exact qa (by simp [bitvec_to_nat]) trivial
  .exact Nat.zero_le _
  .intro k hkn;obtain⟨s9,hs9⟩:∃s:AV,(if k=0 then .one .emp else .one (.own 117 1 3 0 k))=s:=⟨_,rfl⟩
   obtain⟨s10,hs10⟩:∃s:AV,(if k=0 then .one .emp else .one (.own 121 1 3 0 k))=s:=⟨_,rfl⟩
   obtain⟨Z,hZ⟩:∃Z:List (Nat×HB),(if k=0 then [] else [(117,⟨1,some ⟨((xsn k).map rcan).map rC,3,true⟩⟩),(121,⟨1,some ⟨((ysE pq qq k).map rcan).map rC,3,true⟩⟩)])=Z:=⟨_,rfl⟩
   rw [hs9,hs10,hZ];have zno:∀r,r≠117->r≠121->mkH Z r=⟨0,none⟩:=λr h1 h2=>by
    rw [<-hZ];split
    .rfl
    .rw [za,if_neg h1,za,if_neg h2];rfl
   have zv:∀h h',h 117=mkH Z 117->h' 117=mkH Z 117->h 121=mkH Z 121->h' 121=mkH Z 121->okV h h' s9 s9/\okV h h' s10 s10:=λh h' h1 h2 h3 h4=>by
    rw [<-hZ]at h1 h2 h3 h4;rw [<-hs9,<-hs10];by_cases k0:k=0
    .rw [if_pos k0,if_pos k0];exact⟨trivial,trivial⟩
    .rw [if_neg k0]at h1 h2 h3 h4;rw [if_neg k0,if_neg k0];simp [za,-List.map_map]at h1 h2 h3 h4;simp [okV,okC,h1,h2,h3,h4]
   have z3:∀(h h' : Nat->HB) (R:Prop),h 117=mkH Z 117->h' 117=mkH Z 117->h 121=mkH Z 121->h' 121=mkH Z 121->R->okV h h' s9 s9/\okV h h' s10 s10/\R:=λh h' R h1 h2 h3 h4 r=>⟨(zv h h' h1 h2 h3 h4).1,(zv h h' h1 h2 h3 h4).2,r⟩;have zh:∀h h',h 117=mkH Z 117->h 121=mkH Z 121->okH h h' Z:=λh h' h1 h2=>by
    rw [<-hZ]at h1 h2 ⊢;by_cases k0:k=0
    .rw [if_pos k0];trivial
    .rw [if_neg k0]at h1 h2 ⊢;simp [za,-List.map_map]at h1 h2;refine⟨?_,?_,trivial⟩
     .rw [h1];exact xo rfl
     .rw [h2];exact xo rfl
   by_cases hlt:k<n
   .have hlt' : (k:Int)<(n:Int):=by omega
    have z12:=zno 12 (by decide) (by decide)
    have z13:=zno 13 (by decide) (by decide)
    have z18:=zno 18 (by decide) (by decide)
    have z20:=zno 20 (by decide) (by decide)
    have z99:=zno 99 (by decide) (by decide)
    simp only [go_sem,hlt',z12,z13,ho,Rat.intCast_natCast];repeat first | refine q_Wk ?_ | intro _
    obtain⟨va,hva⟩:∃l,(rowsP pq).map (λl=>hv l (k:Rat))=l:=⟨_,rfl⟩;obtain⟨vb,hvb⟩:∃l,(rowsP qq).map (λl=>hv l (k:Rat))=l:=⟨_,rfl⟩;have lva:va.length=a:=by rw [<-hva,List.length_map,la]
    have lvb:vb.length=b:=by rw [<-hvb,List.length_map,lb]
    have sw9:swA 99 500 s9=s9/\swA 99 500 s10=s10/\swK 99 500 Z=Z:=by
     rw [<-hs9,<-hs10,<-hZ];by_cases k0:k=0
     .simp only [if_pos k0];exact⟨rfl,rfl,rfl⟩
     .simp only [if_neg k0];refine⟨rfl,rfl,?_⟩;simp only [YT,QaM,QbK];rfl
    refine xaG 2 ⟨mkV [(9,s9),(10,s10),(7,.one (.slice ((rowsP pq).map plC))),(8,.one (.slice ((rowsP qq).map plC))),(12,.one (.ptr 12 1 0 0)),(13,.one (.ptr 13 1 0 0)),(63,.one (.lit (.int .i64 n))),(64,.one (.lit (.int .i64 k))),(71,.one (.full [[.slice ((rowsP pq).map plC)],[.slice ((rowsP qq).map plC)]])),(72,.one (.lit (.int .i64 2))),(73,.one (.lit (.int .i64 0)))],mkH ((13,⟨1,some ⟨[[.emp,.emp]],2,true⟩⟩)::(12,⟨1,some ⟨[[cb (rcan (k:Rat)),cn (rcan (k:Rat)),cd (rcan (k:Rat))]],3,true⟩⟩)::Z)⟩ ?_ ?_
    .have z:=zv (mkH ((13,⟨1,some ⟨[[.emp,.emp]],2,true⟩⟩)::(12,⟨1,some ⟨[[cb (rcan (k:Rat)),cn (rcan (k:Rat)),cd (rcan (k:Rat))]],3,true⟩⟩)::(12,⟨1,some ⟨[[.lit (.bool false),.emp,.emp]],3,true⟩⟩)::Z)) (mkH ((13,⟨1,some ⟨[[.emp,.emp]],2,true⟩⟩)::(12,⟨1,some ⟨[[cb (rcan (k:Rat)),cn (rcan (k:Rat)),cd (rcan (k:Rat))]],3,true⟩⟩)::Z)) (by simp [za]) (by simp [za]) (by simp [za]) (by simp [za])
     refine qa ?_ ⟨⟨⟨rfl,rfl⟩,.inr (by simp [bitvec_to_nat])⟩,qp,zh _ _ (by simp [za]) (by simp [za])⟩
     simp only [okS,Qp,Nat.reduceEqDiff,if_false,if_true];exact⟨z.1,z.2,by simp [bitvec_to_nat]⟩
    .simp only [go_sem,Int.reduceLT,decide_true];repeat first | refine q_Wk ?_ | intro _
     refine ja (λt:Nat=>⟨mkV [(9,s9),(10,s10),(7,.one (.slice ((rowsP pq).map plC))),(8,.one (.slice ((rowsP qq).map plC))),(12,.one (.ptr 12 1 0 0)),(13,.one (.ptr 13 1 0 0)),(14,.one (.lit (.int .i64 0))),(63,.one (.lit (.int .i64 n))),(64,.one (.lit (.int .i64 k))),(71,.one (.full [[.slice ((rowsP pq).map plC)],[.slice ((rowsP qq).map plC)]])),(72,.one (.lit (.int .i64 2))),(73,.one (.lit (.int .i64 0))),(78,.one (.slice ((rowsP pq).map plC))),(79,.one (.lit (.int .i64 a))),(80,.one (.lit (.int .i64 t)))],mkH ((13,⟨1,some ⟨[[valC t,.emp]],2,true⟩⟩)::(12,⟨1,some ⟨[[cb (rcan (k:Rat)),cn (rcan (k:Rat)),cd (rcan (k:Rat))]],3,true⟩⟩)::(99,valB t va)::Z)⟩) (λt=>t<=a) (λt=>a-t) 0 ?_ ?_ ?_
     .have z:=zv (mkH ((13,⟨1,some ⟨[[.emp,.emp]],2,true⟩⟩)::(12,⟨1,some ⟨[[cb (rcan (k:Rat)),cn (rcan (k:Rat)),cd (rcan (k:Rat))]],3,true⟩⟩)::Z)) (mkH ((13,⟨1,some ⟨[[valC 0,.emp]],2,true⟩⟩)::(12,⟨1,some ⟨[[cb (rcan (k:Rat)),cn (rcan (k:Rat)),cd (rcan (k:Rat))]],3,true⟩⟩)::(99,valB 0 va)::Z)) (by simp [za]) (by simp [za]) (by simp [za]) (by simp [za])
      refine qa ?_ ⟨⟨⟨rfl,rfl⟩,.inr (by simp [bitvec_to_nat,valC])⟩,qp,yT (λh=>(h rfl).elim),zh _ _ (by simp [za]) (by simp [za])⟩
      simp only [okS,Qp,Nat.reduceEqDiff,if_false,if_true];exact⟨z.1,z.2,by simp [bitvec_to_nat,la]⟩
     .exact Nat.zero_le _
     .intro t hta;by_cases htl:t<a
      .have htl' : (t:Int)<(a:Int):=by omega
       obtain⟨c,hcc⟩:∃c,(rowsP pq).getD t []=c:=⟨_,rfl⟩;have hcm:c∈rowsP pq:=by
        rw [<-hcc,List.getD_eq_getElem?_getD,List.getElem?_eq_getElem (by omega)]
        exact List.getElem_mem _
       obtain⟨tc1,tc2⟩:=ZU hcm;have rc:=waX hD0 hDw hEw canp bp hcm;have rc6:∀x∈c,rz x<=1000000:=λx hx=>Nat.le_trans (rc x hx) (by decide)
       have rk:=Jy (k:=k) (by omega)
       obtain⟨y,hy⟩:∃y,hv c (k:Rat)=y:=⟨_,rfl⟩;have hvt:va.take (t+1)=va.take t++[y]:=by
        rw [List.take_add_one,<-hva,List.getElem?_map,<-hy,<-hcc,List.getD_eq_getElem?_getD,List.getElem?_eq_getElem (by omega)]
        rfl
       have c65:c.length<=65:=by omega
       rcases Nat.eq_zero_or_pos t with t0 | t0
       case' inl=>
        subst t0;have eC:valC 0=.emp:=rfl;have eB:valB 0 va=⟨0,none⟩:=rfl;rw [eC,eB];simp only [go_sem,htl,htl',Qag,hcc,he,e0,rQ,hy,la,z18,Int.toNat_zero,Int.toNat_natCast];repeat first | refine q_Wk ?_ | intro _
       case' inr=>
        have eC:valC t=.own 99 1 3 0 t:=if_neg (by omega)
        have eB:valB t va=⟨1,some ⟨((va.take t).map rcan).map rC,3,true⟩⟩:=if_neg (by omega)
        have htk:(((va.take t).map rcan).map rC).take t=((va.take t).map rcan).map rC:=List.take_of_length_le (by rw [List.length_map,List.length_map,List.length_take];omega)
        have hlv:((va.take t).map rcan).length=t:=by rw [List.length_map,List.length_take];omega
        rw [eC,eB];simp only [go_sem,htl,htl',Qag,hcc,he,e0,rQ,hy,la,z18,htk,hlv,List.length_map,Yak,Int.toNat_zero,Int.toNat_natCast];repeat first | refine q_Wk ?_ | intro _
       all_goals
        refine⟨λe he=>by rw [List.mem_singleton.1 he];rfl,?_⟩
        repeat first | refine q_Wk ?_ | intro _
       case' inl=>refine⟨0+1,?_,by omega,by omega⟩
       case' inr=>refine⟨t+1,?_,by omega,by omega⟩
       all_goals
        refine qa ?_ ⟨⟨⟨rfl,rfl⟩,.inr (by simp [bitvec_to_nat,valC,valB])⟩,qp,yT (λ_=>?_),zh _ _ (by simp [za]) (by simp [za])⟩
        .simp only [okS,Qp,Nat.reduceEqDiff,if_false,if_true];refine z3 _ _ _ (by simp [za]) (by simp [za]) (by simp [za]) (by simp [za]) ?_
         simp [bitvec_to_nat]
        .rw [hvt];simp [za,rC]
      .have eta:t=a:=by omega
       have htl' : ¬(t:Int)<(a:Int):=by omega
       have eC:valC t=.own 99 1 3 0 a:=by rw [eta];exact if_neg (by omega)
       have eB:valB t va=⟨1,some ⟨(va.map rcan).map rC,3,true⟩⟩:=by
        rw [eta];unfold valB;rw [if_neg (by omega),List.take_of_length_le (by omega)]
       rw [eC,eB];simp only [go_sem,htl'];repeat first | refine q_Wk ?_ | intro _
       refine Yaj ⟨mkV [(9,s9),(10,s10),(7,.one (.slice ((rowsP pq).map plC))),(8,.one (.slice ((rowsP qq).map plC))),(12,.one (.ptr 12 1 0 0)),(13,.one (.ptr 13 1 0 0)),(63,.one (.lit (.int .i64 n))),(64,.one (.lit (.int .i64 k))),(71,.one (.full [[.slice ((rowsP pq).map plC)],[.slice ((rowsP qq).map plC)]])),(72,.one (.lit (.int .i64 2))),(73,.one (.lit (.int .i64 1)))],mkH ((13,⟨1,some ⟨[[.own 500 1 3 0 a,.emp]],2,true⟩⟩)::(12,⟨1,some ⟨[[cb (rcan (k:Rat)),cn (rcan (k:Rat)),cd (rcan (k:Rat))]],3,true⟩⟩)::(500,⟨1,some ⟨(va.map rcan).map rC,3,true⟩⟩)::Z)⟩ ?_ ?_
       .have w:=zas (a:=99) (b:=500) ⟨by decide,by decide⟩ (v:=mkV ?_) (h:=mkH ?_) (l:=[(9,s9),(10,s10),(7,.one (.slice ((rowsP pq).map plC))),(8,.one (.slice ((rowsP qq).map plC))),(12,.one (.ptr 12 1 0 0)),(13,.one (.ptr 13 1 0 0)),(63,.one (.lit (.int .i64 n))),(64,.one (.lit (.int .i64 k))),(71,.one (.full [[.slice ((rowsP pq).map plC)],[.slice ((rowsP qq).map plC)]])),(72,.one (.lit (.int .i64 2))),(73,.one (.lit (.int .i64 1)))]) (k:=(13,⟨1,some ⟨[[.own 99 1 3 0 a,.emp]],2,true⟩⟩)::(12,⟨1,some ⟨[[cb (rcan (k:Rat)),cn (rcan (k:Rat)),cd (rcan (k:Rat))]],3,true⟩⟩)::(99,⟨1,some ⟨(va.map rcan).map rC,3,true⟩⟩)::Z) ⟨?_,?_⟩
        .have e1:swL 99 500 [(9,s9),(10,s10),(7,.one (.slice ((rowsP pq).map plC))),(8,.one (.slice ((rowsP qq).map plC))),(12,.one (.ptr 12 1 0 0)),(13,.one (.ptr 13 1 0 0)),(63,.one (.lit (.int .i64 n))),(64,.one (.lit (.int .i64 k))),(71,.one (.full [[.slice ((rowsP pq).map plC)],[.slice ((rowsP qq).map plC)]])),(72,.one (.lit (.int .i64 2))),(73,.one (.lit (.int .i64 1)))]=[(9,s9),(10,s10),(7,.one (.slice ((rowsP pq).map plC))),(8,.one (.slice ((rowsP qq).map plC))),(12,.one (.ptr 12 1 0 0)),(13,.one (.ptr 13 1 0 0)),(63,.one (.lit (.int .i64 n))),(64,.one (.lit (.int .i64 k))),(71,.one (.full [[.slice ((rowsP pq).map plC)],[.slice ((rowsP qq).map plC)]])),(72,.one (.lit (.int .i64 2))),(73,.one (.lit (.int .i64 1)))]:=by
          simp [xa2,Xba,sw9.1,sw9.2.1,yba,kaO,Wa8,waV,VbN,Za1]
         have e2:swK 99 500 ((13,⟨1,some ⟨[[.own 99 1 3 0 a,.emp]],2,true⟩⟩)::(12,⟨1,some ⟨[[cb (rcan (k:Rat)),cn (rcan (k:Rat)),cd (rcan (k:Rat))]],3,true⟩⟩)::(99,⟨1,some ⟨(va.map rcan).map rC,3,true⟩⟩)::Z)=(13,⟨1,some ⟨[[.own 500 1 3 0 a,.emp]],2,true⟩⟩)::(12,⟨1,some ⟨[[cb (rcan (k:Rat)),cn (rcan (k:Rat)),cd (rcan (k:Rat))]],3,true⟩⟩)::(500,⟨1,some ⟨(va.map rcan).map rC,3,true⟩⟩)::Z:=by
          rw [YT,YT,YT,sw9.2.2,QbK];rfl
         rw [e1,e2]at w;exact w
        .simp only [okS,Qp,Nat.reduceEqDiff,if_false,if_true];refine z3 _ _ _ (by simp [za]) (by simp [za]) (by simp [za]) (by simp [za]) ?_
         simp [bitvec_to_nat]
        .exact⟨⟨⟨rfl,rfl⟩,.inr (by simp [bitvec_to_nat])⟩,qp,xo rfl,zh _ _ (by simp [za]) (by simp [za])⟩
       .simp only [go_sem,Int.reduceLT,Int.reduceAdd,decide_true];repeat first | refine q_Wk ?_ | intro _
        refine ja (λt:Nat=>⟨mkV [(9,s9),(10,s10),(7,.one (.slice ((rowsP pq).map plC))),(8,.one (.slice ((rowsP qq).map plC))),(12,.one (.ptr 12 1 0 0)),(13,.one (.ptr 13 1 0 0)),(14,.one (.lit (.int .i64 1))),(63,.one (.lit (.int .i64 n))),(64,.one (.lit (.int .i64 k))),(71,.one (.full [[.slice ((rowsP pq).map plC)],[.slice ((rowsP qq).map plC)]])),(72,.one (.lit (.int .i64 2))),(73,.one (.lit (.int .i64 1))),(78,.one (.slice ((rowsP qq).map plC))),(79,.one (.lit (.int .i64 b))),(80,.one (.lit (.int .i64 t)))],mkH ((13,⟨1,some ⟨[[.own 500 1 3 0 a,valC t]],2,true⟩⟩)::(12,⟨1,some ⟨[[cb (rcan (k:Rat)),cn (rcan (k:Rat)),cd (rcan (k:Rat))]],3,true⟩⟩)::(500,⟨1,some ⟨(va.map rcan).map rC,3,true⟩⟩)::(99,valB t vb)::Z)⟩) (λt=>t<=b) (λt=>b-t) 0 ?_ ?_ ?_
        .refine qa ?_ ⟨⟨⟨rfl,rfl⟩,.inr (by simp [bitvec_to_nat,valC])⟩,qp,xo rfl,yT (λh=>(h rfl).elim),zh _ _ (by simp [za]) (by simp [za])⟩
         simp only [okS,Qp,Nat.reduceEqDiff,if_false,if_true];refine z3 _ _ _ (by simp [za]) (by simp [za]) (by simp [za]) (by simp [za]) ?_
         simp [bitvec_to_nat,lb]
        .exact Nat.zero_le _
        .clear eC eB htl' htl eta hta t;intro t htb;by_cases htl:t<b
         .have htl' : (t:Int)<(b:Int):=by omega
          obtain⟨c,hcc⟩:∃c,(rowsP qq).getD t []=c:=⟨_,rfl⟩;have hcm:c∈rowsP qq:=by
           rw [<-hcc,List.getD_eq_getElem?_getD,List.getElem?_eq_getElem (by omega)]
           exact List.getElem_mem _
          obtain⟨tc1,tc2⟩:=ZU hcm;have rc:=waX hD0 hDw hEw canq bq hcm;have rc6:∀x∈c,rz x<=1000000:=λx hx=>Nat.le_trans (rc x hx) (by decide)
          have rk:=Jy (k:=k) (by omega)
          obtain⟨y,hy⟩:∃y,hv c (k:Rat)=y:=⟨_,rfl⟩;have hvt:vb.take (t+1)=vb.take t++[y]:=by
           rw [List.take_add_one,<-hvb,List.getElem?_map,<-hy,<-hcc,List.getD_eq_getElem?_getD,List.getElem?_eq_getElem (by omega)]
           rfl
          have c65:c.length<=65:=by omega
          rcases Nat.eq_zero_or_pos t with t0 | t0
          case' inl=>
           subst t0;have eC:valC 0=.emp:=rfl;have eB:valB 0 vb=⟨0,none⟩:=rfl;rw [eC,eB];simp only [go_sem,htl,htl',Qag,hcc,he,e0,rQ,hy,lb,z18,Int.reduceMul,Int.toNat_zero,Int.toNat_natCast];repeat first | refine q_Wk ?_ | intro _
          case' inr=>
           have eC:valC t=.own 99 1 3 0 t:=if_neg (by omega)
           have eB:valB t vb=⟨1,some ⟨((vb.take t).map rcan).map rC,3,true⟩⟩:=if_neg (by omega)
           have htk:(((vb.take t).map rcan).map rC).take t=((vb.take t).map rcan).map rC:=List.take_of_length_le (by rw [List.length_map,List.length_map,List.length_take];omega)
           have hlv:((vb.take t).map rcan).length=t:=by rw [List.length_map,List.length_take];omega
           rw [eC,eB];simp only [go_sem,htl,htl',Qag,hcc,he,e0,rQ,hy,lb,z18,htk,hlv,List.length_map,Yak,Int.toNat_zero,Int.toNat_natCast];repeat first | refine q_Wk ?_ | intro _
          all_goals
           refine⟨λe he=>by rw [List.mem_singleton.1 he];rfl,?_⟩
           repeat first | refine q_Wk ?_ | intro _
          case' inl=>refine⟨0+1,?_,by omega,by omega⟩
          case' inr=>refine⟨t+1,?_,by omega,by omega⟩
          all_goals
           refine qa ?_ ⟨⟨⟨rfl,rfl⟩,.inr (by simp [bitvec_to_nat,valC,valB])⟩,qp,xo rfl,yT (λ_=>?_),zh _ _ (by simp [za]) (by simp [za])⟩
           .simp only [okS,Qp,Nat.reduceEqDiff,if_false,if_true];refine z3 _ _ _ (by simp [za]) (by simp [za]) (by simp [za]) (by simp [za]) ?_
            simp [bitvec_to_nat]
           .rw [hvt];simp [za,rC]
         .have eta:t=b:=by omega
          have htl' : ¬(t:Int)<(b:Int):=by omega
          have eC:valC t=.own 99 1 3 0 b:=by rw [eta];exact if_neg (by omega)
          have eB:valB t vb=⟨1,some ⟨(vb.map rcan).map rC,3,true⟩⟩:=by
           rw [eta];unfold valB;rw [if_neg (by omega),List.take_of_length_le (by omega)]
          rw [eC,eB];simp only [go_sem,htl'];repeat first | refine q_Wk ?_ | intro _
          refine Yaj ⟨mkV [(9,s9),(10,s10),(7,.one (.slice ((rowsP pq).map plC))),(8,.one (.slice ((rowsP qq).map plC))),(12,.one (.ptr 12 1 0 0)),(13,.one (.ptr 13 1 0 0)),(63,.one (.lit (.int .i64 n))),(64,.one (.lit (.int .i64 k))),(71,.one (.full [[.slice ((rowsP pq).map plC)],[.slice ((rowsP qq).map plC)]])),(72,.one (.lit (.int .i64 2))),(73,.one (.lit (.int .i64 2)))],mkH ((13,⟨1,some ⟨[[.own 500 1 3 0 a,.own 99 1 3 0 b]],2,true⟩⟩)::(12,⟨1,some ⟨[[cb (rcan (k:Rat)),cn (rcan (k:Rat)),cd (rcan (k:Rat))]],3,true⟩⟩)::(500,⟨1,some ⟨(va.map rcan).map rC,3,true⟩⟩)::(99,⟨1,some ⟨(vb.map rcan).map rC,3,true⟩⟩)::Z)⟩ ?_ ?_
          .refine qa ?_ ⟨⟨⟨rfl,rfl⟩,.inr (by simp [bitvec_to_nat])⟩,qp,xo rfl,xo rfl,zh _ _ (by simp [za]) (by simp [za])⟩
           simp only [okS,Qp,Nat.reduceEqDiff,if_false,if_true];refine z3 _ _ _ (by simp [za]) (by simp [za]) (by simp [za]) (by simp [za]) ?_
           simp [bitvec_to_nat]
          .have va0:va≠[]:=λe=>by rw [e]at lva;simp at lva;omega
           have vb0:vb≠[]:=λe=>by rw [e]at lvb;simp at lvb;omega
           have rva:=VbO (k:=k) hD0 hDw hEw (by omega) canp bp
           have rvb:=VbO (k:=k) hD0 hDw hEw (by omega) canq bq
           rw [hva]at rva;rw [hvb]at rvb;have hab:va.length+vb.length<=10:=by omega
           have rva' : ∀x∈va,rz x<=1000:=λx hx=>Nat.le_trans (rva x hx) (by decide)
           have rvb' : ∀x∈vb,rz x<=1000:=λx hx=>Nat.le_trans (rvb x hx) (by decide)
           have hval:resQ va vb=valE pq qq k:=by rw [<-hva,<-hvb];rfl
           have tka:((va.map rcan).map rC).take a=(va.map rcan).map rC:=List.take_of_length_le (by rw [List.length_map,List.length_map];omega)
           have tkb:((vb.map rcan).map rC).take b=(vb.map rcan).map rC:=List.take_of_length_le (by rw [List.length_map,List.length_map];omega)
           have a3:a<=va.length:=by omega
           have b3:b<=vb.length:=by omega
           simp only [go_sem,Int.reduceLT,Int.reduceAdd,decide_false,hvl,e0,rQ,hval,tka,tkb,List.length_map,lva,lvb,z20,Int.toNat_zero,Int.toNat_natCast];repeat first | refine q_Wk ?_ | intro _
           clear z3 zh zv zno sw9;subst hs9 hs10 hZ;have xl:=yal k;have yl:=YaZ pq qq k;by_cases hk0:k=0
           .simp only [if_pos hk0];simp only [go_sem];have ex:((xsn 0++[((0:Nat):Rat)]).map rcan).map rC=[[cb (rcan ((0:Nat):Rat)),cn (rcan ((0:Nat):Rat)),cd (rcan ((0:Nat):Rat))]]:=rfl;have ey:((ysE pq qq 0++[valE pq qq 0]).map rcan).map rC=[[cb (rcan (valE pq qq 0)),cn (rcan (valE pq qq 0)),cd (rcan (valE pq qq 0))]]:=rfl;subst hk0;refine⟨λe he=>by rw [List.mem_singleton.1 he];rfl,λe he=>by rw [List.mem_singleton.1 he];rfl,by omega,?_⟩
            refine⟨0+1,?_,by omega,by omega⟩
            rw [if_neg (by omega),if_neg (by omega),if_neg (by omega),<-Ya5,<-jaW,ex,ey]
            refine qa (by simp [bitvec_to_nat]) ⟨?_,?_,trivial⟩
            .rw [<-ex];exact xo (by rw [ex])
            .rw [<-ey];exact xo (by rw [ey])
           .simp only [if_neg hk0];have tkx:(((xsn k).map rcan).map rC).take k=((xsn k).map rcan).map rC:=List.take_of_length_le (by rw [List.length_map,List.length_map];omega)
            have tky:(((ysE pq qq k).map rcan).map rC).take k=((ysE pq qq k).map rcan).map rC:=List.take_of_length_le (by rw [List.length_map,List.length_map];omega)
            simp only [go_sem,List.length_map,xl,yl,tkx,tky,Yak];refine⟨λe he=>by rw [List.mem_singleton.1 he];rfl,by omega,λe he=>by rw [List.mem_singleton.1 he];rfl,by omega,by omega,?_⟩
            refine⟨k+1,?_,by omega,by omega⟩
            rw [if_neg (by omega),if_neg (by omega),if_neg (by omega),<-Ya5,<-jaW]
            exact qa (by simp [bitvec_to_nat]) ⟨xo (by simp [za]),xo (by simp [za]),trivial⟩
   .have ekn:k=n:=by omega
    have hlt' : ¬(k:Int)<(n:Int):=by omega
    have hk0:¬k=0:=by omega
    clear z3 zh zv zno;subst hs9 hs10 hZ;have hh8:topY pq-1+(topY qq-1)<=8:=by rw [ha,hb];omega
    have hy10:=YaZ pq qq k;have hsml:=Qbr (n:=k) canp canq ⟨D,E,hD0,hDw,hEw,bp,bq⟩ hh8 (by omega)
    have hry:∀x∈ysE pq qq k,rz x<=10000:=λx hx=>by
     unfold ysE at hx;obtain⟨j,hj,rfl⟩:=List.mem_map.1 hx;have:=Ybv (k:=j) canp canq ⟨D,E,hD0,hDw,hEw,bp,bq⟩ hh8 (by have:=List.mem_range.1 hj;omega)
     omega
    have hthr:thr (ysE pq qq k)=elL pq qq:=by
     rw [ekn,<-hn];have g1:=xA canp;have g2:=xA canq;have e1:(degB pq).toNat=dp:=by rw [<-hpq,<-Vg,mcp,hdp];exact Int.toNat_natCast dp
     have e2:(degB qq).toNat=dq:=by rw [<-hqq,<-Vg,mcq,hdq];exact Int.toNat_natCast dq
     rw [e1]at g1;rw [e2]at g2;exact ubs canp.ins canq.ins g1 g2
    have xl:=yal k;have k10:k<=10:=by omega
    have tkx:(((xsn k).map rcan).map rC).take k=((xsn k).map rcan).map rC:=List.take_of_length_le (by rw [List.length_map,List.length_map];omega)
    have tky:(((ysE pq qq k).map rcan).map rC).take k=((ysE pq qq k).map rcan).map rC:=List.take_of_length_le (by rw [List.length_map,List.length_map];omega)
    simp only [if_neg hk0];simp only [go_sem,hlt',List.length_map,xl,hy10,tkx,tky,ht,e0,hthr];repeat first | refine q_Wk ?_ | intro _
    exact hK
end Go.Abs
end
section
namespace Go.Num
open Go.Abs
def lowB(n d:Int)(x:R):Bool:=decide (x.2.1.length<2) && (decide (x.2.2.length<2) && ((decide (x.2.1.length=0) || decide ((x.2.1.getD 0 0:Int)<=n)) && (decide (x.2.2.length=0) || decide ((x.2.2.getD 0 0:Int)<=d))))
def lowR(x:R):Bool:=lowB 1000 60 x
def longM(p:List Mo):Bool:=decide (15<p.length) && decide (p.length<=325) || decide (400<p.length)
def shortM(p:List Mo):Bool:=!longM p && p.all λt=>lowR t.2.2
def vldM(p:List Mo):Bool:=shortM p && (decide (chkB p=0) && decide (degM p<=5))
end Go.Num
namespace Go.Abs
open Go.Num
variable {P:Program} {Γ:Nat->Spec}
theorem XF{α β:Type}{f:α->β}(hf:∀a b,f a=f b->a=b):∀{l m:List α},l.map f=m.map f->l=m
 | [],[],_=>rfl
 | [],_::_,h=>by simp at h
 | _::_,[],h=>by simp at h
 | x::l,y::m,h=>by
  simp only [List.map_cons,List.cons.injEq]at h;rw [hf x y h.1,XF hf h.2]
def mlA(L:List (List Mo)):AV:=.one (.slice (L.map λl=>[.slice (l.map mC)]))
theorem kbE{a b:List Mo}(h:ms a=ms b):a=b:=kak a b (by unfold msA;rw [h])
theorem uaj(x y:List (List Mo))(h:mlA x=mlA y):x=y:=by
 simp only [mlA,AV.one.injEq,C.slice.injEq]at h;exact XF (λa b h=>kbE (by simpa [ms] using h)) h
def onMl(k:List (List Mo)->Prop)(a:AV):Prop:=onE mlA (λL=>(∀l∈L,∀t∈l,WLM t)/\k L) a
@[congr] theorem Wb0{k:List (List Mo)->Prop}{a a'}(h:a=a'):onMl k a=onMl k a':=by subst h;rfl
theorem Wbl(k:List (List Mo)->Prop)(p:List Mo):onMl k (.one (.slice [[.slice (p.map mC)]]))=((∀l∈[p],∀t∈l,WLM t)/\k [p]):=kf uaj _ [p]
theorem Xbn(k:List (List Mo)->Prop)(p q:List Mo):onMl k (.one (.slice [[.slice (p.map mC)],[.slice (q.map mC)]]))=((∀l∈[p,q],∀t∈l,WLM t)/\k [p,q]):=kf uaj _ [p,q]
theorem va4{β:Type}{T:List (List Mo)->(β->Prop)->Prop}(h:∀l,GoodT (T l)){a:AV}:GoodT λK=>onMl (λl=>T l K) a:=
 uz (e:=mlA) (T:=λL K=>(∀l∈L,∀t∈l,WLM t)/\T L K) uaj λL=>GoodT.and (c:=∀l∈L,∀t∈l,WLM t) (T:=T L) λ_=>h L
theorem xaS(K:List C->Prop)(L:List (List Mo))(i:Nat):getE K (L.map λl=>[.slice (l.map mC)]) i=(i<L.length/\K [.slice ((L.getD i []).map mC)]):=by
 simp only [getE,List.length_map,List.getElem?_map];refine propext ⟨λh=>⟨h.1,h.2 _ (by simp [h.1,List.getD_eq_getElem?_getD])⟩,λh=>⟨h.1,λe he=>?_⟩⟩
 simp [h.1]at he;subst he;have:=h.2;simpa [List.getD_eq_getElem?_getD,h.1] using this
theorem zaB(L:List (List Mo)):Clean (.slice (L.map λl=>[.slice (l.map mC)]))=True:=eq_true (.slice _ λe he c hc=>by
 obtain⟨l,_,rfl⟩:=List.mem_map.1 he;rw [List.mem_singleton]at hc;subst hc;exact of_eq_true (Xw _))
theorem zbk(k:List R->Prop)(x:R):onRs k (.one (.slice [[cb x,cn x,cd x]]))=((∀y∈[x],WLR y)/\k [x]):=vaB k [x]
theorem Qbi(k:List R->Prop)(x y:R):onRs k (.one (.slice [[cb x,cn x,cd x],[cb y,cn y,cd y]]))=((∀z∈[x,y],WLR z)/\k [x,y]):=vaB k [x,y]
attribute [go_sem,go_sem ↓] Wbl Xbn xaS zaB zbk Qbi
def Zx(l:List AV)(K:AV->Prop):Prop:=
 match l with
 | [a,b]=>onM (λx=>onM (λy=>inM x/\inM y/\K (.one (.lit (.bool (decide (kM x<kM y)))))) b) a
 | _=>False
theorem QaO:type_of% @Zx.eq_1:=q_E @Zx.eq_1
@[congr] theorem zb2{K}{l l'}(h:l=l'):Zx l K=Zx l' K:=h▸rfl
attribute [go_sem,go_sem ↓] QaO
theorem UaQ:Good Zx:=Ja λas=>by
 unfold Zx;split
 .exact(JM λ_=>(JM λ_=>(.and λ_=>(.and λ_=>(.ret _)))))
 .exact .of λK hk=>hk.elim
def Qx(l:List AV)(K:AV->Prop):Prop:=
 match l with
 | [a]=>onM (λt=>K (.one (.lit (.int .i64 (if inM t then 0 else 3))))) a
 | _=>False
theorem Qba:type_of% @Qx.eq_1:=q_E @Qx.eq_1
@[congr] theorem ybZ{K}{l l'}(h:l=l'):Qx l K=Qx l' K:=h▸rfl
attribute [go_sem,go_sem ↓] Qba
theorem QaT:Good Qx:=Ja λas=>by
 unfold Qx;split
 .exact(JM λ_=>(.ret _))
 .exact .of λK hk=>hk.elim
def Wh(l:List AV)(K:AV->Prop):Prop:=
 match l with
 | [a]=>onMs (λl=>(∀t∈l,rl t.2.2<=4294967296)/\K (.one (.lit (.int .i64 (chkB l:Nat))))) a
 | _=>False
theorem jae:type_of% @Wh.eq_1:=q_E @Wh.eq_1
@[congr] theorem ubF{K}{l l'}(h:l=l'):Wh l K=Wh l' K:=h▸rfl
attribute [go_sem,go_sem ↓] jae
theorem Xan:Good Wh:=Ja λas=>by
 unfold Wh;split
 .exact(we λ_=>(.and λ_=>(.ret _)))
 .exact .of λK hk=>hk.elim
def ui(l:List AV)(K:AV->Prop):Prop:=
 match l with
 | [a]=>onMs (λl=>(∀t∈l,rl t.2.2<=4294967296)/\K (.tup [.one (.lit (.int .i64 (if chkB l=0 then degM l else 0))),.one (.lit (.int .i64 (chkB l:Nat)))])) a
 | _=>False
theorem qO:type_of% @ui.eq_1:=q_E @ui.eq_1
@[congr] theorem xbA{K}{l l'}(h:l=l'):ui l K=ui l' K:=h▸rfl
attribute [go_sem,go_sem ↓] qO
theorem Yah:Good ui:=Ja λas=>by
 unfold ui;split
 .exact(we λ_=>(.and λ_=>(.ret _)))
 .exact .of λK hk=>hk.elim
def Ju(l:List AV)(K:AV->Prop):Prop:=
 match l with
 | [a]=>onM2 (λp q=>(∀t∈p,rl t.2.2<=4294967296)/\(∀t∈q,rl t.2.2<=4294967296)/\K (.one (.lit (.int .i64 (chk2 p q:Nat))))) a
 | _=>False
theorem Uao:type_of% @Ju.eq_1:=q_E @Ju.eq_1
@[congr] theorem zbU{K}{l l'}(h:l=l'):Ju l K=Ju l' K:=h▸rfl
attribute [go_sem,go_sem ↓] Uao
theorem XaM:Good Ju:=Ja λas=>by
 unfold Ju;split
 .exact(YaD λ_ _=>(.and λ_=>(.and λ_=>(.ret _))))
 .exact .of λK hk=>hk.elim
def jk(l:List AV)(K:AV->Prop):Prop:=
 match l with
 | [a,b]=>onMs (λp=>onMs (λq=>(∀t∈p,rl t.2.2<=4294967296)/\p.length<=1000000/\K (.one (.lit (.bool (decide (p=q)))))) b) a
 | _=>False
theorem Q7:type_of% @jk.eq_1:=q_E @jk.eq_1
@[congr] theorem ybJ{K}{l l'}(h:l=l'):jk l K=jk l' K:=h▸rfl
attribute [go_sem,go_sem ↓] Q7
theorem Jam:Good jk:=Ja λas=>by
 unfold jk;split
 .exact(we λ_=>(we λ_=>(.and λ_=>(.and λ_=>(.ret _)))))
 .exact .of λK hk=>hk.elim
def Qz(l:List AV)(K:AV->Prop):Prop:=
 match l with
 | [a,b,c]=>onR (λx=>asInt (λk n=>asInt (λk' d=>k=.u32/\k' = .u32/\rl x<=4294967296/\K (.one (.lit (.bool (lowB n d x))))) c) b) a
 | _=>False
theorem wak:type_of% @Qz.eq_1:=q_E @Qz.eq_1
@[congr] theorem VbV{K}{l l'}(h:l=l'):Qz l K=Qz l' K:=h▸rfl
attribute [go_sem,go_sem ↓] wak
theorem waQ:Good Qz:=Ja λas=>by
 unfold Qz;split
 .repeat (first | exact .ret _ | exact .of (λK hk=>hk.elim) | (refine .and λ_=>?_) | (refine Xe λ_=>?_) | (refine va4 λ_=>?_) | (refine JM λ_=>?_) | (refine Xq λ_=>?_) | (refine we λ_=>?_) | (refine YaD λ_=>?_) | (refine va4 λ_=>?_) | (refine vbl λ_=>?_) | (refine Yc (λ_ _=>?_) _) | (refine xF (λ_=>?_) _) | (refine uz ?_ ?_) | (intro _) | assumption)
 .exact .of λK hk=>hk.elim
def vG(l:List AV)(K:AV->Prop):Prop:=
 match l with
 | [a]=>onRs (λl=>okRs 4294967296 l/\l.length<=1000000/\K (.one (.lit (.bool (l.all lowR))))) a
 | _=>False
theorem Xaa:type_of% @vG.eq_1:=q_E @vG.eq_1
@[congr] theorem ubG{K}{l l'}(h:l=l'):vG l K=vG l' K:=h▸rfl
attribute [go_sem,go_sem ↓] Xaa
def Ui(l:List AV)(K:AV->Prop):Prop:=
 match l with
 | [a]=>onMl (λL=>(∀l∈L,l.length<=10000000/\∀t∈l,rl t.2.2<=4294967296)/\L.length<=1000000/\K (.one (.lit (.bool (L.all shortM))))) a
 | _=>False
theorem ZQ:type_of% @Ui.eq_1:=q_E @Ui.eq_1
@[congr] theorem zbB{K}{l l'}(h:l=l'):Ui l K=Ui l' K:=h▸rfl
attribute [go_sem,go_sem ↓] ZQ
theorem Y6:Good Ui:=Ja λas=>by
 unfold Ui;split
 .exact(va4 λ_=>(.and λ_=>(.and λ_=>(.ret _))))
 .exact .of λK hk=>hk.elim
def yA(l:List AV)(K:AV->Prop):Prop:=
 match l with
 | [a]=>onM2 (λp q=>(p.length<=10000000/\∀t∈p,rl t.2.2<=4294967296)/\(q.length<=10000000/\∀t∈q,rl t.2.2<=4294967296)/\K (.one (.lit (.bool (vldM p && vldM q))))) a
 | _=>False
theorem zN:type_of% @yA.eq_1:=q_E @yA.eq_1
@[congr] theorem XbA{K}{l l'}(h:l=l'):yA l K=yA l' K:=h▸rfl
attribute [go_sem,go_sem ↓] zN
def jd:AC:=(.o [.K 2 5 0,.K 3 5 1,.m 4 .fa] [2,3] (.f (.o [.A 5 0 2,.F 6 1 5,.A 7 1 2,.F 8 1 7,.B 9 .add 6 8,.A 10 0 3,.F 11 1 10,.A 12 1 3,.F 13 1 12,.B 14 .add 11 13,.B 15 .neq 9 14] [2,3,15] (.cond (.t 15) (.seq (.p [.A 16 0 2,.F 17 1 16,.A 18 1 2,.F 19 1 18,.B 20 .add 17 19,.A 21 0 3,.F 22 1 21,.A 23 1 3,.F 24 1 23,.B 25 .add 22 24,.B 26 .lss 20 25,.M 4 26]) .ret) .skip)) [2,3] (.seq (.p [.A 27 0 2,.F 28 1 27,.A 29 0 3,.F 30 1 29,.B 31 .lss 28 30,.M 4 31]) .ret)))
def Zb:AC:=(.o [.K 1 5 0,.N 2 0] [1] (.f (.o [.A 3 0 1,.F 4 1 3,.I 5 .lss 4 0,.M 6 5,.T 7 6 false 1 1,.U 8 6 false 1 false 7,.w 9 6 false (.bin .lss (.t 8) (.i 0)),.Q 10 6 9,.M 11 10,.T 12 11 false 0 1,.U 13 11 false 1 false 12,.w 14 11 false (.bin .gtr (.t 13) (.i 24)),.Q 15 11 14,.M 16 15,.T 17 16 false 1 1,.U 18 16 false 1 false 17,.w 19 16 false (.bin .gtr (.t 18) (.i 24)),.Q 20 16 19,.M 21 20,.T 22 21 false 0 1,.U 23 21 false 1 false 22,.T 24 21 false 1 1,.U 25 21 false 1 false 24,.w 26 21 false (.bin .add (.t 23) (.t 25)),.w 27 21 false (.bin .gtr (.t 26) (.i 24)),.Q 28 21 27] [28] (.cond (.t 28) (.seq (.p [.N 2 3]) .ret) .skip)) [] (.seq (.p [.N 2 0]) .ret)))
def yd(f0 f1 f2 f3:Nat):AC:=(.o [.N 2 0] [0] (.f (.o [.M 6 0,.Z 7 6,.I 8 .gtr 7 325] [0,8] (.cond (.t 8) (.seq (.p [.N 2 4]) .ret) .skip)) [0] (.f (.o [.M 9 0,.Z 10 9,.N 11 0] [0,9,10,11] (.block 0 (.loop (.o [.B 12 .lss 11 10] [0,9,10,11,12] (.f (.cond (.t 12) .skip (.exit 0)) [0,9,10,11] (.f (.block 1 (.o [.M 13 11,.J 14 5 9 11,.L 15 5 14,.G 4 [(.lit (.int .i64 0)),(.lit (.int .i64 0)),.z,.emp,.emp],.M 3 13,.S 5 4 15] [0,3,4,9,10,11] (.f (.o [.L 16 5 4,.H 17 f0 16,.M 5 17] [0,3,4,5,9,10,11] (.o [.M 18 5,.I 19 .neq 18 0] [0,3,4,5,9,10,11,19] (.cond (.t 19) (.seq (.p [.M 20 5,.M 2 20]) .ret) .skip))) [0,3,4,9,10,11] (.f (.o [.A 21 2 4,.L 22 3 21,.H 23 f1 22,.u 24 (.un .not (.t 23))] [0,3,4,9,10,11,24] (.cond (.t 24) (.seq (.p [.N 2 2]) .ret) .skip)) [0,3,4,9,10,11] (.f (.o [.A 25 2 4,.L 26 3 25,.H 27 f2 26,.I 28 .eql 27 0] [0,3,4,9,10,11,28] (.cond (.t 28) (.seq (.p [.N 2 8]) .ret) .skip)) [0,3,4,9,10,11] (.f (.y [.M 29 3,.I 30 .gtr 29 0,.M 31 30,.V 32 31 true 0,.V 33 31 true 3,.w 34 31 true (.bin .sub (.t 33) (.i 1)),.w 35 31 true (.idx 5 (.t 32) (.t 34)),.U 36 31 true 5 true 35,.U 37 31 true 5 true 4,.Y 38 31 true f3 36 37,.w 39 31 true (.un .not (.t 38)),.P 40 31 39]) [0,9,10,11,40] (.cond (.t 40) (.seq (.p [.N 2 12]) .ret) .skip))))))) [0,9,10,11] (.p [.I 41 .add 11 1,.M 11 41]))))))) [] (.seq (.p [.N 2 0]) .ret))))
def Zd:AC:=(.o [.N 2 0] [0] (.f (.o [.M 4 0,.Z 5 4,.I 6 .eql 5 0] [0,6] (.cond (.t 6) (.seq (.p [.N 2 (-1)]) .ret) .skip)) [0] (.o [.M 7 0,.M 8 0,.Z 9 8,.I 10 .sub 9 1,.J 11 5 7 10,.L 12 5 11,.G 3 [(.lit (.int .i64 0)),(.lit (.int .i64 0)),.z,.emp,.emp],.S 5 3 12] [3] (.seq (.p [.A 13 0 3,.F 14 1 13,.A 15 1 3,.F 16 1 15,.B 17 .add 14 16,.M 2 17]) .ret))))
def zd(f0 f1:Nat):AC:=(.o [.N 2 0,.N 3 0] [0] (.f (.o [.M 5 0,.H 6 f0 5,.M 4 6] [0,4] (.o [.M 7 4,.I 8 .neq 7 0] [0,4,8] (.cond (.t 8) (.seq (.p [.M 9 4,.N 2 0,.M 3 9]) .ret) .skip))) [0] (.seq (.p [.M 10 0,.H 11 f1 10,.M 2 11,.N 3 0]) .ret)))
def Ug(f0:Nat):AC:=(.o [.N 2 0] [0] (.f (.o [.M 6 0,.Z 7 6,.N 8 0] [6,7,8] (.block 0 (.loop (.o [.B 9 .lss 8 7] [6,7,8,9] (.f (.cond (.t 9) .skip (.exit 0)) [6,7,8] (.f (.block 1 (.o [.J 10 1 6 8,.F 11 1 10,.M 4 11] [4,6,7,8] (.o [.M 12 4,.H 13 f0 12,.M 5 13] [5,6,7,8] (.o [.M 14 5,.I 15 .neq 14 0] [5,6,7,8,15] (.cond (.t 15) (.seq (.p [.M 16 5,.M 2 16]) .ret) .skip))))) [6,7,8] (.p [.I 17 .add 8 1,.M 8 17]))))))) [] (.seq (.p [.N 2 0]) .ret)))
def jh(f0:Nat):AC:=(.o [.K 2 3 0,.K 3 3 1,.m 4 .fa] [2,3] (.seq (.p [.L 5 3 2,.L 6 3 3,.D 7 f0 5 6,.M 4 7]) .ret))
def Wd(f0:Nat):AC:=(.o [.m 4 .fa] [0,1] (.f (.o [.M 6 0,.Z 7 6,.M 8 1,.Z 9 8,.B 10 .neq 7 9] [0,1,10] (.cond (.t 10) (.seq (.p [.m 4 .fa]) .ret) .skip)) [0,1] (.f (.o [.M 11 0,.Z 12 11,.N 13 0] [0,1,12,13] (.block 0 (.loop (.o [.B 14 .lss 13 12] [0,1,12,13,14] (.f (.cond (.t 14) .skip (.exit 0)) [0,1,12,13] (.f (.block 1 (.o [.M 15 13,.M 5 15] [0,1,5,12,13] (.f (.y [.M 16 0,.M 17 5,.J 18 5 16 17,.A 19 0 18,.F 20 1 19,.M 21 1,.M 22 5,.J 23 5 21 22,.A 24 0 23,.F 25 1 24,.B 26 .neq 20 25,.M 27 26,.V 28 27 false 0,.V 29 27 false 5,.w 30 27 false (.idx 5 (.t 28) (.t 29)),.T 31 27 false 1 30,.U 32 27 false 1 false 31,.V 33 27 false 1,.V 34 27 false 5,.w 35 27 false (.idx 5 (.t 33) (.t 34)),.T 36 27 false 1 35,.U 37 27 false 1 false 36,.w 38 27 false (.bin .neq (.t 32) (.t 37)),.Q 39 27 38,.M 40 39,.V 41 40 false 0,.V 42 40 false 5,.w 43 40 false (.idx 5 (.t 41) (.t 42)),.T 44 40 false 2 43,.U 45 40 false 3 true 44,.V 46 40 false 1,.V 47 40 false 5,.w 48 40 false (.idx 5 (.t 46) (.t 47)),.T 49 40 false 2 48,.U 50 40 false 3 true 49,.Y 51 40 false f0 45 50,.w 52 40 false (.un .not (.t 51)),.Q 53 40 52]) [0,1,12,13,53] (.cond (.t 53) (.seq (.p [.m 4 .fa]) .ret) .skip)))) [0,1,12,13] (.p [.I 54 .add 13 1,.M 13 54]))))))) [] (.seq (.p [.m 4 .tr]) .ret))))
def Uc:AC:=(.o [.K 3 3 0,.m 6 .fa] [1,2,3] (.seq (.p [.A 7 1 3,.F 8 1 7,.Z 9 8,.I 10 .lss 9 2,.M 11 10,.T 12 11 true 2 3,.U 13 11 true 1 false 12,.w 14 11 true (.len (.t 13)),.w 15 11 true (.bin .lss (.t 14) (.i 2)),.P 16 11 15,.M 17 16,.T 18 17 true 1 3,.U 19 17 true 1 false 18,.w 20 17 true (.len (.t 19)),.w 21 17 true (.bin .eql (.t 20) (.i 0)),.V 22 17 true 21,.T 23 22 false 1 3,.U 24 22 false 1 false 23,.w 25 22 false (.idx 1 (.t 24) (.i 0)),.U 26 22 false 1 false 25,.V 27 22 false 1,.w 28 22 false (.bin .leq (.t 26) (.t 27)),.w 29 17 true (.pick (.t 22) .tr (.t 28)),.P 30 17 29,.M 31 30,.T 32 31 true 2 3,.U 33 31 true 1 false 32,.w 34 31 true (.len (.t 33)),.w 35 31 true (.bin .eql (.t 34) (.i 0)),.V 36 31 true 35,.T 37 36 false 2 3,.U 38 36 false 1 false 37,.w 39 36 false (.idx 1 (.t 38) (.i 0)),.U 40 36 false 1 false 39,.V 41 36 false 2,.w 42 36 false (.bin .leq (.t 40) (.t 41)),.w 43 31 true (.pick (.t 36) .tr (.t 42)),.P 44 31 43,.M 6 44]) .ret))
def uf(f0:Nat):AC:=(.o [.m 2 .fa] [0] (.f (.o [.M 7 0,.Z 8 7,.N 9 0] [7,8,9] (.block 0 (.loop (.o [.B 10 .lss 9 8] [7,8,9,10] (.f (.cond (.t 10) .skip (.exit 0)) [7,8,9] (.f (.block 1 (.o [.J 11 1 7 9,.F 12 1 11,.M 4 12] [4,7,8,9] (.f (.o [.M 13 4,.Z 14 13,.I 15 .gtr 14 15,.M 16 15,.V 17 16 true 4,.w 18 16 true (.len (.t 17)),.w 19 16 true (.bin .leq (.t 18) (.i 325)),.P 20 16 19,.M 21 20,.V 22 21 false 4,.w 23 21 false (.len (.t 22)),.w 24 21 false (.bin .gtr (.t 23) (.i 400)),.Q 25 21 24] [4,7,8,9,25] (.cond (.t 25) (.seq (.p [.m 2 .fa]) .ret) .skip)) [4,7,8,9] (.o [.M 26 4,.Z 27 26,.N 28 0] [7,8,9,26,27,28] (.block 2 (.loop (.o [.B 29 .lss 28 27] [7,8,9,26,27,28,29] (.f (.cond (.t 29) .skip (.exit 2)) [7,8,9,26,27,28] (.f (.block 3 (.o [.J 30 5 26 28,.L 31 5 30,.G 6 [(.lit (.int .i64 0)),(.lit (.int .i64 0)),.z,.emp,.emp],.S 5 6 31] [6,7,8,9,26,27,28] (.o [.A 32 2 6,.L 33 3 32,.u 34 (.call f0 [(.t 33),(.c (.one (.lit (.int .u32 1000)))),(.c (.one (.lit (.int .u32 60))))]),.u 35 (.un .not (.t 34))] [7,8,9,26,27,28,35] (.cond (.t 35) (.seq (.p [.m 2 .fa]) .ret) .skip)))) [7,8,9,26,27,28] (.p [.I 36 .add 28 1,.M 28 36])))))))))) [7,8,9] (.p [.I 37 .add 9 1,.M 9 37]))))))) [] (.seq (.p [.m 2 .tr]) .ret)))
theorem jaK(hΓ:Holds P Γ){f:Nat}(hc:check P f=some (32,jd.strip,[.tmp 4])):Sound P f (.dat false Zx):=by
 refine Qa hc UaQ hΓ (λargs K hcl hfi hG=>?_);match args,hG with
 | [a,b],hG=>
  obtain⟨s,rfl,hws,t,rfl,hwt,hs,ht,hK⟩:=hG;refine⟨by simp,?_⟩
  have h1:=W5 hs ht;obtain⟨s1,s2,s3⟩:=hs;obtain⟨t1,t2,t3⟩:=ht;by_cases e:s.1+s.2.1=t.1+t.2.1
  .simp only [go_sem,jd,mC,e];have h2:decide (kM s<kM t)=decide (s.1<t.1):=by rw [decide_eq_decide,h1];omega
   rw [h2]at hK;exact⟨⟨by omega,by omega⟩,⟨by omega,by omega⟩,hK⟩
  .simp only [go_sem,jd,mC,e];have h2:decide (kM s<kM t)=decide (s.1+s.2.1<t.1+t.2.1):=by rw [decide_eq_decide,h1];omega
   rw [h2]at hK;exact⟨⟨by omega,by omega⟩,⟨by omega,by omega⟩,⟨by omega,by omega⟩,⟨by omega,by omega⟩,hK⟩
theorem uaM(hΓ:Holds P Γ){f:Nat}(hc:check P f=some (29,Zb.strip,[.tmp 2])):Sound P f (.dat true Qx):=by
 refine Qa hc QaT hΓ (λargs K hcl hfi hG=>?_);match args,hG with
 | [a],hG=>
  obtain⟨t,rfl,⟨hw1,hw2,hw3⟩,hK⟩:=hG;refine⟨by simp,?_⟩
  unfold i64r at hw1 hw2;have no:¬inM t->K (.one (.lit (.int .i64 3))):=λh=>by rw [if_neg h]at hK;exact hK
  have yes:inM t->K (.one (.lit (.int .i64 0))):=λh=>by rw [if_pos h]at hK;exact hK
  by_cases a1:t.1<0
  .simp only [go_sem,Zb,mC,a1];exact no λh=>by unfold inM at h;omega
  by_cases a2:t.2.1<0
  .simp only [go_sem,Zb,mC,a1,a2];exact no λh=>by unfold inM at h;omega
  by_cases a3:24<t.1
  .simp only [go_sem,Zb,mC,a1,a2,a3];exact no λh=>by unfold inM at h;omega
  by_cases a4:24<t.2.1
  .simp only [go_sem,Zb,mC,a1,a2,a3,a4];exact no λh=>by unfold inM at h;omega
  simp only [go_sem,Zb,mC,a1,a2,a3,a4];refine⟨⟨by omega,by omega⟩,λh=>no λh'=>?_,λh=>yes ?_⟩
  .unfold inM at h';omega
  .unfold inM;omega
theorem uaJ(hΓ:Holds P Γ){f:Nat}(hc:check P f=some (18,Zd.strip,[.tmp 2])):Sound P f (.dat true Vl):=by
 refine Qa hc W7 hΓ (λargs K hcl hfi hG=>?_);match args,hG with
 | [a],hG=>
  obtain⟨l,rfl,hw,hin,hl,hK⟩:=hG;refine⟨by simp,?_⟩
  rcases hl0:l with _ | ⟨t,l0⟩
  .subst hl0;simp only [go_sem,Zd];simpa [degM] using hK
  .have hlen:l.length=l0.length+1:=by rw [hl0];rfl
   rw [<-hl0];obtain⟨y,hy⟩:∃y,l.getD l0.length mo0=y:=⟨_,rfl⟩;have hy0:=getDm (by omega) hy
   have hym:=List.mem_of_getElem? hy0;have hd:degM l=y.1+y.2.1:=by
    unfold degM;rw [List.getLast?_eq_getElem?,hlen,Nat.add_sub_cancel,hy0]
   rw [hd]at hK;obtain⟨i1,i2,i3⟩:=hin y hym;have hn1:((l0.length+1:Nat):Int)-1=(l0.length:Int):=by omega
   have hn0:¬((l0.length+1:Nat):Int)=0:=by omega
   simp only [go_sem,Zd,hlen,hn1,hn0,hy,mC];exact λ_ _=>⟨by omega,by omega,⟨by omega,by omega⟩,hK⟩
theorem kU(hΓ:Holds P Γ){f fk fd:Nat}(hk:Γ fk=.dat false Wh)(hd:Γ fd=.dat true Vl)(hc:check P f=some (12,(zd fk fd).strip,[.tmp 2,.tmp 3])):Sound P f (.dat false ui):=by
 refine Qa hc Yah hΓ (λargs K hcl hfi hG=>?_);match args,hG with
 | [a],hG=>
  obtain⟨l,rfl,hw,hrl,hK⟩:=hG;refine⟨by simp,?_⟩
  by_cases h0:chkB l=0
  .obtain⟨i1,i2,i3⟩:=Qm h0 hw;rw [if_pos h0,h0]at hK;simp only [go_sem,zd,hk,hd,h0];exact⟨hw,hrl,hw,i1,by omega,hK⟩
  .rw [if_neg h0]at hK;have h0' : ¬(chkB l:Int)=0:=by omega
   simp only [go_sem,zd,hk,hd,h0'];exact⟨hw,hrl,hK⟩
theorem qam(hΓ:Holds P Γ){f fr:Nat}(hr:Γ fr=.dat true Us)(hc:check P f=some (8,(jh fr).strip,[.tmp 4])):Sound P f (.dat true Us):=by
 refine Qa hc Vac hΓ (λargs K hcl hfi hG=>?_);match args,hG with
 | [a,b],hG=>
  obtain⟨x,rfl,hx,y,rfl,hy,hxl,hK⟩:=hG;refine⟨by simp,?_⟩
  simp only [go_sem,jh,hr];exact⟨hx,hy,hxl,hK⟩
theorem Z2(hΓ:Holds P Γ){f fi fv fs fo:Nat}(hi:Γ fi=.dat true Qx)(hv:Γ fv=.dat true xc)(hs:Γ fs=.dat true ke)(ho:Γ fo=.dat false Zx)(hc:check P f=some (42,(yd fi fv fs fo).strip,[.tmp 2])):Sound P f (.dat false Wh):=by
 refine Qa hc Xan hΓ (λargs K hcl hfi hG=>?_);match args,hG with
 | [a],hG=>
  obtain⟨l,rfl,hw,hrl,hK⟩:=hG;refine⟨by simp,?_⟩
  by_cases h325:325<l.length
  .have e:chkB l=4:=if_pos h325;rw [e]at hK;have h325' : (325:Int)<(l.length:Int):=by omega
   simp only [go_sem,yd,h325'];exact λ_=>hK
  .have h325' : ¬(325:Int)<(l.length:Int):=by omega
   have e:chkB l=chkG none l:=if_neg h325;rw [e]at hK;simp only [go_sem,yd,h325'];intro _ _;refine ja (λk:Nat=>⟨mkV [(0,msA l),(9,msA l),(10,.one (.lit (.int .i64 l.length))),(11,.one (.lit (.int .i64 k)))],mkH []⟩) (λk=>k<=l.length/\chkG none l=chkG (lastO l k) (l.drop k)/\∀t∈l.take k,inM t) (λk=>l.length-k) 0 ?_ ?_ ?_
   .exact qa (by simp [bitvec_to_nat,msA,ms]) trivial
   .exact⟨Nat.zero_le _,rfl,by simp⟩
   .rintro k ⟨hk,hch,hin⟩;by_cases hlt:k<l.length
    .obtain⟨x,hx⟩:∃x,l.getD k mo0=x:=⟨_,rfl⟩;have hx0:=getDm hlt hx;have hxm:=List.mem_of_getElem? hx0;have hwx:=hw x hxm;have hrx:=hrl x hxm;rw [wag _ hx0]at hch;by_cases a1:inM x
     .cases a2:vldR x.2.2 with
      | false=>
       have ec:chkT (lastO l k) x=2:=by unfold chkT;rw [if_neg (by simp [a1]),if_pos a2]
       rw [ec,if_pos (by decide)]at hch
       rw [hch]at hK;simp only [go_sem,hlt,hx,hi,hv,mC,a1,a2];exact⟨hwx,hwx.2.2,hrx,hK⟩
      | true=>
       by_cases a3:rv x.2.2=0
       .have ec:chkT (lastO l k) x=8:=by unfold chkT;rw [if_neg (by simp [a1]),if_neg (by simp [a2]),if_pos a3]
        rw [ec,if_pos (by decide)]at hch
        rw [hch]at hK;have a3' : ordQ (rv x.2.2) 0=0:=Ve.2 a3;simp only [go_sem,hlt,hx,hi,hv,hs,mC,a1,a2,a3'];exact⟨hwx,hwx.2.2,hrx,hwx.2.2,hrx,hK⟩
       .have hin' : ∀t∈l.take (k+1),inM t:=λt ht=>by
         rw [List.take_add_one,hx0]at ht;rcases List.mem_append.1 ht with ht | ht
         .exact hin t ht
         .simp at ht;rw [ht];exact a1
        have a3' : ¬ordQ (rv x.2.2) 0=0:=λh=>a3 (Ve.1 h);cases k with
        | zero=>
         simp only [go_sem,hlt,hx,hi,hv,hs,mC,a1,a2,a3',Int.lt_irrefl];have ec:chkT (lastO l 0) x=0:=by unfold chkT;rw [if_neg (by simp [a1]),if_neg (by simp [a2]),if_neg a3,if_neg (by simp [lastO,badO])]
         rw [ec,if_neg (by decide)]at hch
         have hl1:lastO l 1=some x:=congrArg some hx;exact⟨hwx,hwx.2.2,hrx,hwx.2.2,hrx,by omega,1,qa (by simp [bitvec_to_nat,msA,ms]) trivial,⟨by omega,by rw [hl1];exact hch,hin'⟩,by omega⟩
        | succ j=>
         have hn1:((j+1:Nat):Int)-1=(j:Int):=by omega
         have hn2:(0:Int)<((j+1:Nat):Int):=by omega
         have hym:l.getD j mo0∈l:=by
          rw [List.getD_eq_getElem?_getD,List.getElem?_eq_getElem (by omega)];exact List.getElem_mem _
         have hyt:l.getD j mo0∈l.take (j+1):=by
          rw [List.getD_eq_getElem?_getD,List.getElem?_eq_getElem (by omega),Option.getD_some]
          exact List.mem_iff_getElem.2 ⟨j,by rw [List.length_take];omega,by simp⟩
         have hiy:=hin _ hyt;have hwy:=hw _ hym;have hlj:lastO l (j+1)=some (l.getD j mo0):=rfl;have hl1:lastO l (j+1+1)=some x:=congrArg some hx;by_cases h:kM (l.getD j mo0)<kM x
         .have ec:chkT (lastO l (j+1)) x=0:=by unfold chkT;rw [if_neg (by simp [a1]),if_neg (by simp [a2]),if_neg a3,if_neg (by rw [hlj];simpa [badO] using h)]
          rw [ec,if_neg (by decide)]at hch
          simp only [go_sem,hlt,hx,hi,hv,hs,ho,mC,a1,a2,a3',hn1,hn2,h];exact⟨hwx,hwx.2.2,hrx,hwx.2.2,hrx,by omega,by omega,hwy,hwx,hiy,by omega,j+1+1,qa (by simp [bitvec_to_nat,msA,ms]) trivial,⟨by omega,by rw [hl1];exact hch,hin'⟩,by omega⟩
         .have ec:chkT (lastO l (j+1)) x=12:=by unfold chkT;rw [if_neg (by simp [a1]),if_neg (by simp [a2]),if_neg a3,if_pos (by rw [hlj];simpa [badO] using h)]
          rw [ec,if_pos (by decide)]at hch
          rw [hch]at hK;simp only [go_sem,hlt,hx,hi,hv,hs,ho,mC,a1,a2,a3',hn1,hn2,h];exact⟨hwx,hwx.2.2,hrx,hwx.2.2,hrx,by omega,by omega,hwy,hwx,hiy,hK⟩
     .have ec:chkT (lastO l k) x=3:=by unfold chkT;rw [if_pos a1]
      rw [ec,if_pos (by decide)]at hch
      rw [hch]at hK;have t30:¬(3:Int)=0:=by decide
      simp only [go_sem,hlt,hx,hi,mC,a1,t30];exact⟨hwx,hK⟩
    .rw [List.drop_of_length_le (by omega)]at hch
     have e0:chkG (lastO l k) []=0:=rfl;rw [hch,e0]at hK;simp only [go_sem,hlt];exact hK
theorem Uak(hΓ:Holds P Γ){f fk:Nat}(hk:Γ fk=.dat false Wh)(hc:check P f=some (18,(Ug fk).strip,[.tmp 2])):Sound P f (.dat false Ju):=by
 refine Qa hc XaM hΓ (λargs K hcl hfi hG=>?_);match args,hG with
 | [a],hG=>
  obtain⟨p,q,rfl,⟨hwp,hwq⟩,hp,hq,hK⟩:=hG;refine⟨by simp,?_⟩
  simp only [go_sem,Ug,ms];refine ja (λk:Nat=>⟨mkV [(6,.one (.slice [[ms p],[ms q]])),(7,.one (.lit (.int .i64 2))),(8,.one (.lit (.int .i64 k)))],mkH []⟩) (λk=>k<=2/\(0<k->chkB p=0)/\(1<k->chkB q=0)) (λk=>2-k) 0 ?_ ?_ ?_
  .exact qa (by simp [bitvec_to_nat,ms]) trivial
  .exact⟨by decide,by omega,by omega⟩
  .rintro k ⟨hk2,h1,h2⟩;have hk3:k=0∨k=1∨k=2:=by omega
   unfold chk2 at hK;rcases hk3 with rfl | rfl | rfl
   .by_cases hx:chkB p=0
    .simp only [go_sem,c02,hk,ms];exact⟨hwp,hp,λ_=>⟨by decide,1,qa (by simp [bitvec_to_nat,ms]) trivial,⟨by omega,by simp [hx],by omega⟩,by omega⟩,λh=>absurd hx h⟩
    .rw [if_pos hx]at hK;simp only [go_sem,c02,hk,ms,hx];exact⟨hwp,hp,hK⟩
   .have hx:=h1 (by omega)
    rw [if_neg (by simp [hx])]at hK
    by_cases hy:chkB q=0
    .simp only [go_sem,c12,QR,hk,ms];exact⟨hwq,hq,λ_=>⟨by decide,2,qa (by simp [bitvec_to_nat,ms]) trivial,⟨by omega,by simp [hx],by simp [hy]⟩,by omega⟩,λh=>absurd hy h⟩
    .simp only [go_sem,c12,QR,hk,ms,hy];exact⟨hwq,hq,hK⟩
   .have hx:=h1 (by omega)
    have hy:=h2 (by omega)
    rw [if_neg (by simp [hx]),hy]at hK
    simp only [go_sem,c22];exact hK
theorem yag(hΓ:Holds P Γ){f fs:Nat}(hs:Γ fs=.dat true Us)(hc:check P f=some (55,(Wd fs).strip,[.tmp 4])):Sound P f (.dat false jk):=by
 refine Qa hc Jam hΓ (λargs K hcl hfi hG=>?_);match args,hG with
 | [a,b],hG=>
  obtain⟨p,rfl,hwp,q,rfl,hwq,hrp,hl,hK⟩:=hG;refine⟨by simp,?_⟩
  by_cases hle:p.length=q.length
  case neg=>
   rw [decide_eq_false (λe=>hle (by rw [e]))]at hK
   have hle' : ¬(p.length:Int)=(q.length:Int):=by omega
   simp only [go_sem,Wd,ms,hle'];repeat first | refine q_Wk ?_ | intro _
   exact hK
  have hle' : (p.length:Int)=(q.length:Int):=by omega
  simp only [go_sem,Wd,ms,hle];repeat first | refine q_Wk ?_ | intro _
  refine ja (λk:Nat=>⟨mkV [(0,msA p),(1,msA q),(12,.one (.lit (.int .i64 q.length))),(13,.one (.lit (.int .i64 k)))],mkH []⟩) (λk=>k<=q.length/\p.take k=q.take k) (λk=>q.length-k) 0 ?_ ?_ ?_
  .exact qa (by simp [bitvec_to_nat,msA,ms]) trivial
  .exact⟨Nat.zero_le _,rfl⟩
  .rintro k ⟨hk,htk⟩;by_cases hlt:k<q.length
   .obtain⟨x,hx⟩:∃x,p.getD k mo0=x:=⟨_,rfl⟩;obtain⟨y,hy⟩:∃y,q.getD k mo0=y:=⟨_,rfl⟩;have hltp:k<p.length:=by omega
    have hx0:=getDm hltp hx;have hy0:=getDm hlt hy;have hxm:=List.mem_of_getElem? hx0;have hym:=List.mem_of_getElem? hy0;have hwx:=hwp x hxm;have hwy:=hwq y hym;have hrx:=hrp x hxm;have ne:x≠y->K (.one (.lit (.bool false))):=λhne=>by
     rw [decide_eq_false (λe=>hne (by rw [e,hy0]at hx0;simpa using hx0.symm))]at hK
     exact hK
    by_cases e1:x.1=y.1
    case neg=>
     simp only [go_sem,hlt,hltp,hx,hy,mC,e1,hs];repeat first | refine q_Wk ?_ | intro _
     exact ne λe=>e1 (by rw [e])
    by_cases e2:x.2.1=y.2.1
    case neg=>
     simp only [go_sem,hlt,hltp,hx,hy,mC,e1,e2,hs];repeat first | refine q_Wk ?_ | intro _
     exact ne λe=>e2 (by rw [e])
    by_cases e3:x.2.2=y.2.2
    case neg=>
     simp only [go_sem,hlt,hltp,hx,hy,mC,e1,e2,e3,hs];repeat first | refine q_Wk ?_ | intro _
     refine⟨hwx.2.2,hwy.2.2,hrx,?_⟩;exact ne λe=>e3 (by rw [e])
    have exy:x=y:=by
     obtain⟨a1,a2,a3⟩:=x;obtain⟨b1,b2,b3⟩:=y;simp only at e1 e2 e3;rw [e1,e2,e3]
    simp only [go_sem,hlt,hltp,hx,hy,mC,e1,e2,e3,hs];repeat first | refine q_Wk ?_ | intro _
    refine⟨hwy.2.2,hwy.2.2,by rw [<-e3];exact hrx,by omega,k+1,qa (by simp [bitvec_to_nat,msA,ms]) trivial,⟨by omega,by rw [List.take_add_one,List.take_add_one,htk,hx0,hy0,exy]⟩,by omega⟩
   .have e:p=q:=by
     rw [List.take_of_length_le (by omega),List.take_of_length_le (by omega)]at htk
     exact htk
    rw [decide_eq_true e]at hK;simp only [go_sem,hlt];exact hK
theorem yaL(hΓ:Holds P Γ){f:Nat}(hc:check P f=some (45,Uc.strip,[.tmp 6])):Sound P f (.dat true Qz):=by
 refine Qa hc waQ hΓ (λargs K hcl hfi hG=>?_);match args,hG with
 | [a,b,c],hG=>
  rw [wak]at hG;obtain⟨x,rfl,hx,hG1⟩:=hG;obtain⟨k1,n,rfl,hG2⟩:=Ua hG1;obtain⟨k2,d,rfl,rfl,rfl,hl,hK⟩:=Ua hG2;clear hG1 hG2;refine⟨by simp,?_⟩
  have hl1:x.2.1.length<=4294967296:=Nat.le_trans (Nat.le_max_left _ _) hl;have hl2:x.2.2.length<=4294967296:=Nat.le_trans (Nat.le_max_right _ _) hl;unfold lowB at hK;by_cases a1:x.2.1.length<2
  case neg=>
   have a1' : ¬(x.2.1.length:Int)<2:=by omega
   rw [decide_eq_false a1]at hK;simp only [go_sem,Uc,YU,ZV,XT,a1'];repeat first | refine q_Wk ?_ | intro _
   exact hK
  by_cases a2:x.2.2.length<2
  case neg=>
   have a1' : (x.2.1.length:Int)<2:=by omega
   have a2' : ¬(x.2.2.length:Int)<2:=by omega
   rw [decide_eq_true a1,decide_eq_false a2]at hK;simp only [go_sem,Uc,YU,ZV,XT,a1',a2'];repeat first | refine q_Wk ?_ | intro _
   exact hK
  have a1' : (x.2.1.length:Int)<2:=by omega
  have a2' : (x.2.2.length:Int)<2:=by omega
  simp only [go_sem,Uc,YU,ZV,XT,a1',a2'];rw [decide_eq_true a1,decide_eq_true a2,Bool.true_and,Bool.true_and]at hK;refine λ_ _ _=>⟨λb1 _=>⟨λb2=>?_,λb2=>⟨by decide,by omega,?_⟩⟩,λb1=>⟨by decide,by omega,λc1 _=>⟨λb2=>?_,λb2=>⟨by decide,by omega,?_⟩⟩,λc1=>?_⟩⟩
  .rw [decide_eq_true b1,decide_eq_true b2]at hK;exact hK
  .rw [decide_eq_true b1,decide_eq_false b2]at hK;exact hK
  .rw [decide_eq_false b1,decide_eq_true c1,decide_eq_true b2]at hK;exact hK
  .rw [decide_eq_false b1,decide_eq_true c1,decide_eq_false b2]at hK;exact hK
  .rw [decide_eq_false b1,decide_eq_false c1]at hK;exact hK
theorem getDl{L:List (List Mo)}{i:Nat}{x:List Mo}(hi:i<L.length)(h:L.getD i []=x):L[i]?=some x:=by
 rw [List.getD_eq_getElem?_getD,List.getElem?_eq_getElem hi]at h;rw [List.getElem?_eq_getElem hi];simpa using h
theorem uS(hΓ:Holds P Γ){f fl:Nat}(hl:Γ fl=.dat true Qz)(hc:check P f=some (38,(uf fl).strip,[.tmp 2])):Sound P f (.dat false Ui):=by
 refine Qa hc Y6 hΓ (λargs K hcl hfi hG=>?_);match args,hG with
 | [a],hG=>
  obtain⟨L,rfl,hw,hok,hlen,hK⟩:=hG;refine⟨by simp,?_⟩
  simp only [go_sem,uf,mlA];intro _;refine ja (λk:Nat=>⟨mkV [(7,mlA L),(8,.one (.lit (.int .i64 L.length))),(9,.one (.lit (.int .i64 k)))],mkH []⟩) (λk=>k<=L.length/\(L.take k).all shortM=true) (λk=>L.length-k) 0 ?_ ?_ ?_
  .exact qa (by simp [bitvec_to_nat,mlA]) trivial
  .exact⟨Nat.zero_le _,rfl⟩
  .rintro k ⟨hk,htk⟩;by_cases hlt:k<L.length
   .obtain⟨p,hp⟩:∃p,L.getD k []=p:=⟨_,rfl⟩;have hp0:=getDl hlt hp;have hpm:=List.mem_of_getElem? hp0;have hwp:=hw p hpm;obtain⟨hlp,hrp⟩:=hok p hpm;have bad:shortM p=false->K (.one (.lit (.bool false))):=λh=>by
     have e:L.all shortM=false:=by
      rw [Bool.eq_false_iff];intro h';have:=List.all_eq_true.1 h' p hpm;rw [h]at this;simp at this
     rw [e]at hK;exact hK
    have good:(∀t∈p,lowR t.2.2=true)->longM p=false->((L.take (k+1)).all shortM=true):=λh1 h2=>by
     rw [List.take_add_one,hp0,List.all_append,htk];have:shortM p=true:=by
      unfold shortM;rw [h2,List.all_eq_true.2 h1];rfl
     simpa using this
    have nol:longM p=true->shortM p=false:=λh=>by unfold shortM;rw [h];rfl
    by_cases h15:(15:Int)<(p.length:Int)
    .by_cases h325:(p.length:Int)<=325
     .simp only [go_sem,hlt,hp,mlA,h15,h325];repeat first | refine q_Wk ?_ | intro _
      exact bad (nol (by unfold longM;rw [decide_eq_true (by omega),decide_eq_true (by omega)];rfl))
     .by_cases h400:(400:Int)<(p.length:Int)
      .simp only [go_sem,hlt,hp,mlA,h15,h325,h400];repeat first | refine q_Wk ?_ | intro _
       exact bad (nol (by unfold longM;rw [decide_eq_true (show 400<p.length by omega)];simp))
      have hnl:longM p=false:=by unfold longM;rw [decide_eq_false (show ¬400<p.length by omega),decide_eq_false (show ¬p.length<=325 by omega)];simp
      simp only [go_sem,hlt,hp,mlA,h15,h325,h400];repeat first | refine q_Wk ?_ | intro _
      refine ja (λj:Nat=>⟨mkV [(26,msA p),(27,.one (.lit (.int .i64 p.length))),(28,.one (.lit (.int .i64 j))),(7,.one (.slice (L.map λl=>[.slice (l.map mC)]))),(8,.one (.lit (.int .i64 L.length))),(9,.one (.lit (.int .i64 k)))],mkH []⟩) (λj=>j<=p.length/\∀t∈p.take j,lowR t.2.2=true) (λj=>p.length-j) 0 ?_ ?_ ?_
      .exact qa (by simp [bitvec_to_nat,msA,ms]) trivial
      .exact⟨Nat.zero_le _,by simp⟩
      .rintro j ⟨hj,hall⟩;by_cases hlj:j<p.length
       .obtain⟨x,hx⟩:∃x,p.getD j mo0=x:=⟨_,rfl⟩;have hx0:=getDm hlj hx;have hxm:=List.mem_of_getElem? hx0;have hwx:=hwp x hxm;have hrx:=hrp x hxm;cases hb:lowB 1000 60 x.2.2 with
        | false=>
         have e:shortM p=false:=by
          unfold shortM;have:(p.all λt=>lowR t.2.2)=false:=by
           rw [Bool.eq_false_iff];intro h;have:=List.all_eq_true.1 h x hxm;unfold lowR at this;rw [hb]at this;simp at this
          rw [this,Bool.and_false]
         simp only [go_sem,hlj,hx,hl,hb,mC];repeat first | refine q_Wk ?_ | intro _
         exact⟨hwx.2.2,hrx,bad e⟩
        | true=>
         simp only [go_sem,hlj,hx,hl,hb,mC];repeat first | refine q_Wk ?_ | intro _
         refine⟨hwx.2.2,hrx,by omega,j+1,qa (by simp [bitvec_to_nat,msA,ms]) trivial,⟨by omega,λt ht=>?_⟩,by omega⟩
         rw [List.take_add_one,hx0]at ht;rcases List.mem_append.1 ht with ht | ht
         .exact hall t ht
         .simp at ht;rw [ht];exact hb
       .rw [List.take_of_length_le (by omega)]at hall
        simp only [go_sem,hlj];exact⟨by omega,k+1,qa (by simp [bitvec_to_nat,mlA]) trivial,⟨by omega,good hall hnl⟩,by omega⟩
    .have h400:¬(400:Int)<(p.length:Int):=by omega
     have hnl:longM p=false:=by unfold longM;rw [decide_eq_false (show ¬400<p.length by omega),decide_eq_false (show ¬15<p.length by omega)];simp
     simp only [go_sem,hlt,hp,mlA,h15,h400];repeat first | refine q_Wk ?_ | intro _
     refine ja (λj:Nat=>⟨mkV [(26,msA p),(27,.one (.lit (.int .i64 p.length))),(28,.one (.lit (.int .i64 j))),(7,.one (.slice (L.map λl=>[.slice (l.map mC)]))),(8,.one (.lit (.int .i64 L.length))),(9,.one (.lit (.int .i64 k)))],mkH []⟩) (λj=>j<=p.length/\∀t∈p.take j,lowR t.2.2=true) (λj=>p.length-j) 0 ?_ ?_ ?_
     .exact qa (by simp [bitvec_to_nat,msA,ms]) trivial
     .exact⟨Nat.zero_le _,by simp⟩
     .rintro j ⟨hj,hall⟩;by_cases hlj:j<p.length
      .obtain⟨x,hx⟩:∃x,p.getD j mo0=x:=⟨_,rfl⟩;have hx0:=getDm hlj hx;have hxm:=List.mem_of_getElem? hx0;have hwx:=hwp x hxm;have hrx:=hrp x hxm;cases hb:lowB 1000 60 x.2.2 with
       | false=>
        have e:shortM p=false:=by
         unfold shortM;have:(p.all λt=>lowR t.2.2)=false:=by
          rw [Bool.eq_false_iff];intro h;have:=List.all_eq_true.1 h x hxm;unfold lowR at this;rw [hb]at this;simp at this
         rw [this,Bool.and_false]
        simp only [go_sem,hlj,hx,hl,hb,mC];repeat first | refine q_Wk ?_ | intro _
        exact⟨hwx.2.2,hrx,bad e⟩
       | true=>
        simp only [go_sem,hlj,hx,hl,hb,mC];repeat first | refine q_Wk ?_ | intro _
        refine⟨hwx.2.2,hrx,by omega,j+1,qa (by simp [bitvec_to_nat,msA,ms]) trivial,⟨by omega,λt ht=>?_⟩,by omega⟩
        rw [List.take_add_one,hx0]at ht;rcases List.mem_append.1 ht with ht | ht
        .exact hall t ht
        .simp at ht;rw [ht];exact hb
      .rw [List.take_of_length_le (by omega)]at hall
       simp only [go_sem,hlj];exact⟨by omega,k+1,qa (by simp [bitvec_to_nat,mlA]) trivial,⟨by omega,good hall hnl⟩,by omega⟩
   .rw [List.take_of_length_le (by omega)]at htk
    rw [htk]at hK;simp only [go_sem,hlt];exact hK
end Go.Abs
end
section
namespace Go.Num
open Go.Abs
def okT(n:Int):Prop:=n=1∨n=2∨n=4∨n=12
def tx(n:Int):ByteArray:=if n=12 then ⟨#[49,50]⟩ else if n=4 then ⟨#[52]⟩ else if n=2 then ⟨#[50]⟩ else ⟨#[49]⟩
def txR(q:Rat):ByteArray:=if q.den=1 then tx q.num else tx q.num++⟨#[47]⟩++tx (q.den:Nat)
theorem jbI{m:Nat}(h1:1<=m)(h2:m<=12):digs m=[m]:=by rw [Vp (by omega),show m / 4294967296=0 by omega,Qb,show m % 4294967296=m by omega]
end Go.Num
namespace Go.Abs
open Go.Num
variable {P:Program} {Γ:Nat->Spec}
theorem Vbk{h h' : Nat->HB}{z:Nat}{b:Bool}{w:W}:okB h h' (some ⟨[[zb w,zm w]],z,b⟩) (some ⟨[[zb w,zm w]],z,b⟩):=
 ⟨⟨rfl,rfl⟩,.inl ⟨rfl,λe he c hc=>by
  rw [List.mem_singleton.1 he]at hc;simp only [List.mem_cons,List.not_mem_nil,or_false]at hc;rcases hc with rfl | rfl
  .exact of_eq_true (XW _)
  .exact of_eq_true (qT _)⟩⟩
def eJ(s:ByteArray):AV:=.one (.slice [[.lit (.string s)]])
theorem xbO(x y:ByteArray)(h:eJ x=eJ y):x=y:=by
 simp only [eJ,AV.one.injEq,C.slice.injEq,List.cons.injEq,C.lit.injEq,Value.string.injEq,and_true]at h;exact h
def onJ(k:ByteArray->Prop)(a:AV):Prop:=onE eJ k a
@[congr] theorem zb6{k:ByteArray->Prop}{a a'}(h:a=a'):onJ k a=onJ k a':=by subst h;rfl
theorem vbE(k:ByteArray->Prop)(x:ByteArray):onJ k (.one (.slice [[.lit (.string x)]]))=k x:=kf xbO k x
attribute [go_sem,go_sem ↓] vbE
def Xm(l:List AV)(K:AV->Prop):Prop:=
 match l with
 | [a]=>asInt (λk n=>k=.i64/\okT n/\K (.one (.lit (.string (tx n))))) a
 | _=>False
theorem Qah:type_of% @Xm.eq_1:=q_E @Xm.eq_1
@[congr] theorem XbG{K}{l l'}(h:l=l'):Xm l K=Xm l' K:=h▸rfl
attribute [go_sem,go_sem ↓] Qah
theorem uan:Good Xm:=Ja λas=>by
 unfold Xm;split
 .exact(Yc (λ_ _=>(.and λ_=>(.and λ_=>(.ret _)))) _)
 .exact .of λK hk=>hk.elim
def Qu(l:List AV)(K:AV->Prop):Prop:=
 match l with
 | [a,b]=>asInt (λk n=>k=.i64/\okT n/\asInt (λk m=>k=.i64/\m=10/\K (.one (.lit (.string (tx n))))) b) a
 | _=>False
theorem YV:type_of% @Qu.eq_1:=q_E @Qu.eq_1
@[congr] theorem JbS{K}{l l'}(h:l=l'):Qu l K=Qu l' K:=h▸rfl
attribute [go_sem,go_sem ↓] YV
theorem kaJ:Good Qu:=Ja λas=>by
 unfold Qu;split
 .exact(Yc (λ_ _=>(.and λ_=>(.and λ_=>(Yc (λ_ _=>(.and λ_=>(.and λ_=>(.ret _)))) _)))) _)
 .exact .of λK hk=>hk.elim
def yj(l:List AV)(K:AV->Prop):Prop:=
 match l with
 | [a]=>asInt (λk n=>k=.i64/\okT n/\K (.one (.lit (.string (tx n))))) a
 | _=>False
theorem UaG:type_of% @yj.eq_1:=q_E @yj.eq_1
@[congr] theorem JbT{K}{l l'}(h:l=l'):yj l K=yj l' K:=h▸rfl
attribute [go_sem,go_sem ↓] UaG
theorem zS:Good yj:=Ja λas=>by
 unfold yj;split
 .exact(Yc (λ_ _=>(.and λ_=>(.and λ_=>(.ret _)))) _)
 .exact .of λK hk=>hk.elim
def Q0(l:List AV)(K:AV->Prop):Prop:=
 match l with
 | [a,b]=>onJ (λs=>b=.one (.lit (.string ⟨#[]⟩))/\K (.one (.lit (.string s)))) a
 | _=>False
theorem VaD:type_of% @Q0.eq_1:=q_E @Q0.eq_1
@[congr] theorem jbQ{K}{l l'}(h:l=l'):Q0 l K=Q0 l' K:=h▸rfl
attribute [go_sem,go_sem ↓] VaD
def WE(l:List AV)(K:AV->Prop):Prop:=
 match l with
 | [a]=>onW (λw=>okT (zv w)/\K (.one (.lit (.string (tx (zv w)))))) a
 | _=>False
theorem Qaa:type_of% @WE.eq_1:=q_E @WE.eq_1
@[congr] theorem YbN{K}{l l'}(h:l=l'):WE l K=WE l' K:=h▸rfl
attribute [go_sem,go_sem ↓] Qaa
def ZG(l:List AV)(K:AV->Prop):Prop:=
 match l with
 | [a]=>onR (λx=>okT (rv x).num/\okT ((rv x).den:Nat)/\rl x<=4294967296/\K (.one (.lit (.string (txR (rv x)))))) a
 | _=>False
theorem Y8:type_of% @ZG.eq_1:=q_E @ZG.eq_1
@[congr] theorem YbG{K}{l l'}(h:l=l'):ZG l K=ZG l' K:=h▸rfl
attribute [go_sem,go_sem ↓] Y8
theorem W4(hΓ:Holds P Γ){f:Nat}(hc:check P f=some (15,(Jb).strip,[.tmp 2])):Sound P f (.dat false Xm):=by
 refine Qa hc uan hΓ (λargs K hcl hfi hG=>?_);match args,hG with
 | [a],hG=>
  obtain⟨k,n,rfl,rfl,hn,hK⟩:=Ua hG;refine⟨by simp,?_⟩
  rcases hn with rfl | rfl | rfl | rfl
  .simp only [go_sem,Jb];exact⟨λ_=>⟨by decide,⟨by decide,by decide,by decide⟩,hK⟩,λh=>absurd (by decide) h⟩
  .simp only [go_sem,Jb];exact⟨λ_=>⟨by decide,⟨by decide,by decide,by decide⟩,hK⟩,λh=>absurd (by decide) h⟩
  .simp only [go_sem,Jb];exact⟨λ_=>⟨by decide,⟨by decide,by decide,by decide⟩,hK⟩,λh=>absurd (by decide) h⟩
  .simp only [go_sem,Jb];exact⟨λh=>absurd h (by decide),λ_=>⟨by decide,by decide,by decide,⟨by decide,by decide,by decide⟩,hK⟩⟩
theorem xal(hΓ:Holds P Γ){f fs fn fb fi:Nat}(hs:Γ fs=.dat false Xm)(hc:check P f=some (54,(uc fs fn fb fi).strip,[.tmp 4])):Sound P f (.dat false Qu):=by
 refine Qa hc kaJ hΓ (λargs K hcl hfi hG=>?_);match args,hG with
 | [a,b],hG=>
  rw [YV]at hG;obtain⟨k,n,rfl,rfl,hn,hG'⟩:=Ua hG;obtain⟨k',n',rfl,rfl,rfl,hK⟩:=Ua hG';clear hG hG';refine⟨by simp,?_⟩
  have a1:(0:Int)<=n:=by rcases hn with rfl | rfl | rfl | rfl <;> decide
  have a2:n<100:=by rcases hn with rfl | rfl | rfl | rfl <;> decide
  simp only [go_sem,uc,hs,a1,a2,hn];exact hK
theorem zaj(hΓ:Holds P Γ){f fs:Nat}(hs:Γ fs=.dat false Qu)(hc:check P f=some (5,(xe fs).strip,[.tmp 2])):Sound P f (.dat false yj):=by
 refine Qa hc zS hΓ (λargs K hcl hfi hG=>?_);match args,hG with
 | [a],hG=>
  obtain⟨k,n,rfl,rfl,hn,hK⟩:=Ua hG;refine⟨by simp,?_⟩
  simp only [go_sem,xe,hs,hn];exact hK
theorem J5(hΓ:Holds P Γ){f fs:Nat}(hs:Γ fs=.dat false yj)(hc:check P f=some (5,(jr fs).strip,[.tmp 2])):Sound P f (.dat false yj):=by
 refine Qa hc zS hΓ (λargs K hcl hfi hG=>?_);match args,hG with
 | [a],hG=>
  obtain⟨k,n,rfl,rfl,hn,hK⟩:=Ua hG;refine⟨by simp,?_⟩
  simp only [go_sem,jr,hs,hn];exact hK
end Go.Abs
end
section
namespace Go.Abs
open Go.Num
variable {P:Program} {Γ:Nat->Spec}
def eS(l:List ByteArray):AV:=.one (.slice (l.map λx=>[.lit (.string x)]))
theorem ka7(x y:List ByteArray)(h:eS x=eS y):x=y:=by
 simp only [eS,AV.one.injEq,C.slice.injEq]at h;exact XF (λa b h=>by simpa using h) h
def onS(k:List ByteArray->Prop)(a:AV):Prop:=onE eS k a
@[congr] theorem qb5{k:List ByteArray->Prop}{a a'}(h:a=a'):onS k a=onS k a':=by subst h;rfl
theorem QbF(k:List ByteArray->Prop)(x:ByteArray):onS k (.one (.slice [[.lit (.string x)]]))=k [x]:=kf ka7 k [x]
theorem YbE(k:List ByteArray->Prop)(x y:ByteArray):onS k (.one (.slice [[.lit (.string x)],[.lit (.string y)]]))=k [x,y]:=kf ka7 k [x,y]
theorem zb1{β:Type}{T:List ByteArray->(β->Prop)->Prop}(h:∀l,GoodT (T l)){a:AV}:GoodT λK=>onS (λl=>T l K) a:=
 uz (e:=eS) (T:=T) ka7 h
def eT(s:ByteArray):AV:=.one (.lit (.string s))
theorem ybi(x y:ByteArray)(h:eT x=eT y):x=y:=by simpa [eT] using h
def onT1(k:ByteArray->Prop)(a:AV):Prop:=onE eT k a
@[congr] theorem WbU{k:ByteArray->Prop}{a a'}(h:a=a'):onT1 k a=onT1 k a':=by subst h;rfl
theorem vbq(k:ByteArray->Prop)(x:ByteArray):onT1 k (.one (.lit (.string x)))=k x:=kf ybi k x
theorem ybH{β:Type}{T:ByteArray->(β->Prop)->Prop}(h:∀l,GoodT (T l)){a:AV}:GoodT λK=>onT1 (λl=>T l K) a:=
 uz (e:=eT) (T:=T) ybi h
attribute [go_sem,go_sem ↓] QbF YbE vbq
def jS(l:List ByteArray)(sep:ByteArray):ByteArray:=⟨(Lib.join (l.map (·.data.toList)) sep.data.toList).toArray⟩
theorem jS_1(x s:ByteArray):jS [x] s=x:=by simp [jS,Lib.join]
def yq(l:List AV)(K:AV->Prop):Prop:=
 match l with
 | [a,b]=>onS (λl=>onT1 (λs=>l≠[]/\l.length<=100/\(jS l s).data.toList.length<=1000/\K (.one (.lit (.string (jS l s))))) b) a
 | _=>False
theorem vaC:type_of% @yq.eq_1:=q_E @yq.eq_1
@[congr] theorem wbS{K}{l l'}(h:l=l'):yq l K=yq l' K:=h▸rfl
attribute [go_sem,go_sem ↓] vaC
theorem jaL:Good yq:=Ja λas=>by
 unfold yq;split
 .exact(zb1 λ_=>(ybH λ_=>(.and λ_=>(.and λ_=>(.and λ_=>(.ret _))))))
 .exact .of λK hk=>hk.elim
def qM(l:List AV)(K:AV->Prop):Prop:=
 match l with
 | [a]=>onW (λw=>(zv w=2∨zv w = -2)/\K (.one (.lit (.string (if zv w=2 then ⟨#[50]⟩ else ⟨#[45,50]⟩))))) a
 | _=>False
theorem vbn:type_of% @qM.eq_1:=q_E @qM.eq_1
@[congr] theorem xb4{K}{l l'}(h:l=l'):qM l K=qM l' K:=h▸rfl
attribute [go_sem,go_sem ↓] vbn
theorem vbd:Good qM:=Ja λas=>by
 unfold qM;split
 .exact(Yn λ_=>(.and λ_=>(.ret _)))
 .exact .of λK hk=>hk.elim
def jM(l:List AV)(K:AV->Prop):Prop:=
 match l with
 | [a]=>onR (λx=>(rv x=2∨rv x = -2)/\rl x<=4294967296/\K (.one (.lit (.string (if rv x=2 then ⟨#[50]⟩ else ⟨#[45,50]⟩))))) a
 | _=>False
theorem Ubj:type_of% @jM.eq_1:=q_E @jM.eq_1
@[congr] theorem xb5{K}{l l'}(h:l=l'):jM l K=jM l' K:=h▸rfl
attribute [go_sem,go_sem ↓] Ubj
theorem vbe:Good jM:=Ja λas=>by
 unfold jM;split
 .exact(Xq λ_=>(.and λ_=>(.and λ_=>(.ret _))))
 .exact .of λK hk=>hk.elim
def jn(tE:Nat)(l:List AV)(K:AV->Prop):Prop:=
 match l with
 | [a]=>onLq (λL=>L=[-2,0,2]/\K (.tup [.one (.lit (.string ⟨#[50,32,120,94,50,32,43,32,45,50]⟩)),errV tE 0])) a
 | _=>False
theorem U6:type_of% @jn.eq_1:=q_E @jn.eq_1
@[congr] theorem QbD tE{K}{l l'}(h:l=l'):jn tE l K=jn tE l' K:=by subst h;rfl
attribute [go_sem,go_sem ↓] U6
theorem Vak(tE:Nat):Good (jn tE):=Ja λas=>by
 unfold jn;split
 .exact(Yw λ_=>(.and λ_=>(.ret _)))
 .exact .of λK hk=>hk.elim
def kx(f0 f1 f2 f3 f4:Nat):AC:=(.o [.m 2 (.c (.one (.lit (.string ⟨#[]⟩)))),.m 3 (.c (.one (.lit .nilIface)))] [0] (.f (.o [.M 8 0,.H 9 f0 8,.M 4 9] [0,4] (.o [.M 10 4,.R 11 10] [0,4,11] (.cond (.t 11) (.seq (.p [.M 12 4,.m 2 (.c (.one (.lit (.string ⟨#[]⟩)))),.M 3 12]) .ret) .skip))) [0] (.f (.o [.M 13 0,.Z 14 13,.I 15 .eql 14 0] [0,15] (.cond (.t 15) (.seq (.p [.m 2 (.c (.one (.lit (.string ⟨#[48]⟩)))),.m 3 (.c (.one (.lit .nilIface)))]) .ret) .skip)) [0] (.o [.m 5 (.c (.one .emp))] [0,5] (.f (.o [.M 16 0,.Z 17 16,.I 18 .sub 17 1,.M 6 18] [0,5,6] (.block 0 (.loop (.f (.o [.M 19 6,.I 20 .geq 19 0] [0,5,6,20] (.cond (.t 20) .skip (.exit 0))) [0,5,6] (.f (.block 1 (.f (.o [.M 23 0,.M 24 6,.J 25 3 23 24,.L 26 3 25,.H 27 f1 26,.I 28 .eql 27 0] [0,5,6,28] (.cond (.t 28) (.exit 1) .skip)) [0,5,6] (.o [.M 29 0,.M 30 6,.J 31 3 29 30,.L 32 3 31,.H 33 f2 32,.M 7 33] [0,5,6,7] (.f (.o [.M 34 6,.I 35 .gtr 34 0] [0,5,6,7,35] (.cond (.t 35) (.p [.M 36 7,.u 37 (.sop 2 [(.t 36),(.c (.one (.lit (.string ⟨#[32,120]⟩))))]),.M 7 37]) .skip)) [0,5,6,7] (.f (.o [.M 38 6,.I 39 .gtr 38 1] [0,5,6,7,39] (.cond (.t 39) (.p [.M 40 7,.M 41 6,.H 42 f3 41,.u 43 (.sop 2 [(.c (.one (.lit (.string ⟨#[94]⟩)))),(.t 42)]),.u 44 (.sop 2 [(.t 40),(.t 43)]),.M 7 44]) .skip)) [0,5,6,7] (.p [.M 45 5,.M 46 7,.u 47 (.row 1 [[.x 1 (.t 46)]]),.u 48 (.app 1 (.t 45) (.t 47)),.M 5 48])))))) [0,5,6] (.p [.M 21 6,.I 22 .sub 21 1,.M 6 22])))))) [5] (.seq (.p [.M 49 5,.u 50 (.call f4 [(.t 49),(.c (.one (.lit (.string ⟨#[32,43,32]⟩))))]),.M 2 50,.m 3 (.c (.one (.lit .nilIface)))]) .ret))))))
theorem Wan{f:FuncId}(hE:Enters P f)
  (hJ:∀(bk o c:Nat) (xs:List ByteArray) (sep:ByteArray) (w:World),(∀(j:Nat) x,xs[j]?=some x->w.cell? ⟨bk,o+j,none⟩=some (.string x))->bk<w.heap.size->xs.length<=140737488355328->xs.length<=c->(Lib.join (xs.map (·.data.toList)) sep.data.toList).length<=140737488355328->
   Calls P f #[.slice (some ⟨bk,o,none⟩) xs.length c,.string sep] w λe w'=>e=.returned (.string ⟨(Lib.join (xs.map (·.data.toList)) sep.data.toList).toArray⟩)/\Go.RowKit.Below w.heap.size w w'):Sound P f (.dat false yq):=by
 refine⟨hE,jaL,λargs vals w I K hI hr _ hG=>?_⟩;match args,hG with
 | [a,b],hG=>
  obtain⟨l,rfl,s,rfl,h0,h1,h2,hK⟩:=hG;match vals,hr.1 with
  | [v,u],_=>
   have hv:=hr.2 0 _ v rfl rfl;have hu:=hr.2 1 _ u rfl rfl;cases hu with
   | one c u hu=>
    cases hu with
    | lit u hu=>
     cases hv with
     | one c v hv=>
      obtain⟨es,hes⟩:∃es,es=l.map λx=>[C.lit (.string x)]:=⟨_,rfl⟩;have hv' : RC M0 I w.heap (.slice es) v:=by rw [hes];exact hv
      have hl:es.length=l.length:=by rw [hes,List.length_map]
      cases hv' with
      | snil a cap=>exact absurd (List.map_eq_nil_iff.1 hes.symm) h0
      | slice _ sz b off cap arr ty fz vs c0 c1 c2 c3 c4 c5 c6 c7=>
       have s1:sz=1:=by
        cases l with
        | nil=>exact absurd rfl h0
        | cons x l=>rw [<-c5 [C.lit (.string x)] (by rw [hes];simp)];rfl
       subst s1;rw [hl];rw [hl]at c2;refine(hJ b off cap l s w ?_ (hI b c3) (by omega) c2 (by simpa [jS] using Nat.le_trans h2 (by decide))).mono λe w' ⟨he,hb⟩=>?_
       .intro j x hj;have hlt:j<l.length:=(List.getElem?_eq_some_iff.1 hj).1;have q1:=c6 j 0 (by omega) (by decide)
        have q2:=c7 j 0 [C.lit (.string x)] (C.lit (.string x)) (by rw [hes,List.getElem?_map,hj];rfl) rfl
        generalize hvj:vs j 0=vj at q1 q2;cases q2
        have q3:=yV (w:=w) (b:=b) (off:=off) (j:=j) c4 (by simpa using q1)
        rwa [Ys]at q3
       .exact⟨_,_,I,he,hK,.one _ _ (.lit _ rfl),.lit _,{ grow:=hb.size,keep:=λk hk=>hb.block k hk,sub:=λ_ h=>h,new:=λ_ h=>.inl h,imb:=λk hk=>Nat.lt_of_lt_of_le (hI k hk) hb.size,os:=hb.os,tape:=hb.tape,out:=hb.output }⟩
theorem QaW(hΓ:Holds P Γ){f fm fs fi fr fj fn:Nat}(hm:Γ fm=.dat false Xg)(hs:Γ fs=.dat false Xr)(hi:Γ fi=.dat false yj)(hj:Γ fj=.dat false yq)(hn:Γ fn=.dat true ye)(hc:check P f=some (44,(Zr fm fs fi fr fj fn).strip,[.tmp 2])):Sound P f (.dat false qM):=by
 refine Qa hc vbd hΓ (λargs K hcl hfi hG=>?_);match args,hG with
 | [a],hG=>
  obtain⟨w,rfl,hw,h1,hK⟩:=hG;refine⟨by simp,?_⟩
  have d1:digs 2=[2]:=jbI (by decide) (by decide)
  have d0:=Qb;have v1:val [2] / 1000000000=0:=by decide
  have v2:val [2] % 1000000000=2:=by decide
  have na:(zv w).natAbs=2:=by rcases h1 with h | h <;> rw [h] <;> rfl
  have w1:WL [2]:=ub.2 ⟨by decide,qc⟩
  have hok:okT ((2:Nat):Int):=.inr (.inl rfl);have jj:jS [tx ((2:Nat):Int)] ⟨#[]⟩=⟨#[50]⟩:=jS_1 _ _;have j2:(jS [tx ((2:Nat):Int)] ⟨#[]⟩).data.toList.length<=1000:=by rw [jj];decide
  simp only [go_sem,Zr,hm,hs,hi,hj,hn,hw,na,d1];refine ja (λk:Nat=>if k=0 then ⟨mkV [(1,.one (.ptr 1 1 0 0)),(3,wsA [2]),(4,.one .emp)],mkH [(1,⟨1,some ⟨[[zb w,zm w]],2,true⟩⟩)]⟩ else ⟨mkV [(1,.one (.ptr 1 1 0 0)),(3,wsA []),(4,.one (.full [[.lit (.string (tx ((2:Nat):Int)))]]))],mkH [(1,⟨1,some ⟨[[zb w,zm w]],2,true⟩⟩)]⟩) (λ_=>True) (λk=>1-k) 0 ?_ trivial ?_
  .rw [if_pos rfl];exact qa (by simp [bitvec_to_nat,wc]) ⟨Vbk,trivial⟩
  .intro k _;by_cases hk:k=0
   .subst hk;rw [if_pos rfl];simp only [go_sem,hs,hi,v1,v2,d0];refine⟨w1,by decide,by decide,by omega,hok,λe he=>by simp at he,1,?_,by decide⟩
    rw [if_neg (by decide)]
    exact qa (by simp [bitvec_to_nat,wc]) ⟨Vbk,trivial⟩
   .rw [if_neg hk];rcases h1 with h1 | h1
    .rw [if_pos h1]at hK;simp only [go_sem,hj,hn,hw,h1,jj,j2];exact⟨by simp,λh=>absurd h (by decide),λ_=>hK⟩
    .rw [if_neg (by rw [h1];decide)]at hK
     simp only [go_sem,hj,hn,hw,h1,jj,j2];exact⟨by simp,λ_=>⟨by decide,hK⟩,λh=>absurd (by decide) h⟩
theorem wa0(hΓ:Holds P Γ){f fp fo fc ft:Nat}(hp:Γ fp=.dat false Qd)(ho:Γ fo=.dat false vl)(hc' : Γ fc=.dat true yw)(ht:Γ ft=.dat false qM)(hc:check P f=some (22,(Zj fp fo fc ft).strip,[.tmp 2])):Sound P f (.dat false jM):=by
 refine Qa hc vbe hΓ (λargs K hcl hfi hG=>?_);match args,hG with
 | [a],hG=>
  obtain⟨x,rfl,hx,h1,hl,hK⟩:=hG;refine⟨by simp,?_⟩
  have t2:¬(-2:Int)=2:=by decide
  rcases h1 with h1 | h1
  .have e1:ordI ((Rat.den 2:Nat):Int) 1=0:=by decide
   have e2:(Rat.num 2:Int)=2:=by decide
   rw [if_pos h1]at hK;simp only [go_sem,Zj,hp,ho,hc',ht,hx,h1,e1,e2];exact⟨hl,.inl trivial,hK⟩
  .have e1:ordI ((Rat.den (-2):Nat):Int) 1=0:=by decide
   have e2:(Rat.num (-2):Int) = -2:=by decide
   rw [if_neg (by rw [h1];decide)]at hK
   simp only [go_sem,Zj,hp,ho,hc',ht,hx,h1,e1,e2,t2];exact⟨hl,.inr trivial,hK⟩
theorem X6(hΓ:Holds P Γ){f fk fs ft fi fj tE:Nat}(hk:Γ fk=.dat false (vk tE))(hs:Γ fs=.dat true ke)(ht:Γ ft=.dat false jM)(hi:Γ fi=.dat false yj)(hj:Γ fj=.dat false yq)(hc:check P f=some (51,(kx fk fs ft fi fj).strip,[.tmp 2,.tmp 3])):Sound P f (.dat false (jn tE)):=by
 refine Qa hc (Vak tE) hΓ (λargs K hcl hfi hG=>?_);match args,hG with
 | [a],hG=>
  obtain⟨L,rfl,hL,hK⟩:=hG;refine⟨by simp,?_⟩
  have hc0:chkP L=0:=by rw [hL];decide +kernel
  have hr:∀x∈L,rz x<=4000000000:=by rw [hL];decide +kernel
  have hl:L.length=3:=by rw [hL];rfl
  have g0:L.getD 0 0 = -2:=by rw [hL];rfl
  have g1:L.getD 1 0=0:=by rw [hL];rfl
  have g2:L.getD 2 0=2:=by rw [hL];rfl
  have e0:=Ud tE;simp only [go_sem,kx,hk,hc0,e0,hl];refine⟨hr,by omega,?_⟩
  have o2:ordQ 2 0=1:=by decide +kernel
  have om:ordQ (-2) 0 = -1:=by decide +kernel
  have o0:ordQ 0 0=0:=by decide +kernel
  have n31:((3:Nat):Int)-1=2:=rfl;have okt:okT 2:=.inr (.inl rfl);have r2:rl (rcan 2)<=4294967296:=by decide +kernel
  have rm:rl (rcan (-2))<=4294967296:=by decide +kernel
  have r0:rl (rcan 0)<=4294967296:=by decide +kernel
  have q1:¬(1:Int)=0:=by decide
  have q2:¬(-1:Int)=0:=by decide
  have q3:¬(-2:Rat)=2:=by decide
  have tx2:tx 2=⟨#[50]⟩:=rfl;have t0:(2:Int).toNat=2:=rfl;have t1:(1:Int).toNat=1:=rfl;have t00:(0:Int).toNat=0:=rfl;refine xaG 3 ⟨mkV [(0,lqA L),(5,.one .emp),(6,.one (.lit (.int .i64 2)))],mkH []⟩ (qa (by simp [bitvec_to_nat,lqA]) trivial) ?_
  simp only [go_sem,hs,ht,hi,hj,g2,Xn,o2,q1,t0,tx2,Int.reduceLE,Int.reduceLT,Int.reduceSub];have z1:∀(s:ByteArray) (e:List C),e∈[[C.lit (.string s)]]->e.length=1:=λs e he=>by rw [List.mem_singleton.1 he];rfl
  refine⟨by omega,by decide +kernel,by omega,.inl trivial,by decide +kernel,by decide,okt,by decide,by decide,z1 _,?_⟩
  generalize hTA:(⟨#[50]⟩:ByteArray)++⟨#[32,120]⟩++(⟨#[94]⟩++⟨#[50]⟩)=TA;refine va6 [0,5,6] [48] (by simp [go_sem,-List.map_map]) ?_
  simp only [go_sem,hs,ht,hi,hj,g1,Xn,o0,t1,Int.reduceLE,Int.reduceLT,Int.reduceSub];refine⟨by omega,by decide +kernel,?_⟩
  refine va6 [0,5,6] [48] (by simp [go_sem,-List.map_map]) ?_
  simp only [go_sem,hs,ht,hi,hj,g0,Xn,om,q2,q3,t00,Int.reduceLE,Int.reduceLT,Int.reduceSub];refine⟨by omega,by decide +kernel,by omega,.inr trivial,by decide +kernel,z1 _,?_⟩
  refine va6 [0,5,6] [48] (by simp [go_sem,-List.map_map]) ?_
  have jj:jS [TA,⟨#[45,50]⟩] ⟨#[32,43,32]⟩=⟨#[50,32,120,94,50,32,43,32,45,50]⟩:=by rw [<-hTA];decide +kernel
  have j2:(jS [TA,⟨#[45,50]⟩] ⟨#[32,43,32]⟩).data.toList.length<=1000:=by rw [jj];decide
  rw [Ud]at hK;simp only [go_sem,hj,Int.reduceLE,jj,j2];exact⟨by simp,hK⟩
end Go.Abs
end
section
namespace Go.Num
open Go.Abs
def o3(l:List (Int×Int×Int)):BQ:=l.map λt=>(t.1,t.2.1,(t.2.2:Rat))
theorem Va1(l m:List (Int×Int×Int)):o3 (l++m)=o3 l++o3 m:=List.map_append
theorem Ybp(l:List (Int×Int×Int)):(mcs (o3 l)).length=l.length:=by unfold mcs o3;rw [List.length_map,List.length_map]
theorem xbz{l:List (Int×Int×Int)}{k:Nat}{x:Int×Int×Int}(h:l[k]?=some x):mcs (o3 (l.take (k+1)))=mcs (o3 (l.take k))++[(x.1,x.2.1,rcan (x.2.2:Rat))]:=by
 rw [List.take_add_one,h,Va1,Yp];rfl
def xmP:List (Int×Int×Int):=[(0,0,-2),(0,2,1),(2,0,1)]
def xmQ:List (Int×Int×Int):=[(0,1,1),(1,0,-1)]
def xmA:List (Int×Int×Int):=[(0,1,1),(1,0,1)]
def xmB:List (Int×Int×Int):=[(0,1,-1),(1,0,1)]
def xmC:List (Int×Int×Int):=[(0,2,-1),(2,0,1)]
theorem Vb2:elL (o3 xmP) (o3 xmQ)=[-2,0,2]:=by decide +kernel
theorem zbJ:mulB (o3 xmA) (o3 xmB)=o3 xmC:=by decide +kernel
theorem jbL:erC (mcs (o3 xmP)) (mcs (o3 xmQ))=0:=by decide +kernel
theorem Ybq:mulC (mcs (o3 xmA)) (mcs (o3 xmB))=0:=by decide +kernel
theorem jbN:degM (mcs (o3 xmP))*degM (mcs (o3 xmQ))<=9:=by decide +kernel
end Go.Num
namespace Go.Abs
open Go.Num
variable {P:Program} {Γ:Nat->Spec}
def iC(t:Int×Int×Int):List C:=[.lit (.int .i64 t.1),.lit (.int .i64 t.2.1),.lit (.int .i64 t.2.2)]
def i3A(l:List (Int×Int×Int)):AV:=.one (.slice (l.map iC))
theorem kan(x y:List (Int×Int×Int))(h:i3A x=i3A y):x=y:=by
 simp only [i3A,AV.one.injEq,C.slice.injEq]at h;refine XF (λa b h=>?_) h;obtain⟨a1,a2,a3⟩:=a;obtain⟨b1,b2,b3⟩:=b;simpa [iC] using h
def onI3(k:List (Int×Int×Int)->Prop)(a:AV):Prop:=onE i3A k a
@[congr] theorem WbX{k:List (Int×Int×Int)->Prop}{a a'}(h:a=a'):onI3 k a=onI3 k a':=by subst h;rfl
theorem ybm(k:List (Int×Int×Int)->Prop)(a b c d e f:Int):onI3 k (.one (.slice [[.lit (.int .i64 a),.lit (.int .i64 b),.lit (.int .i64 c)],[.lit (.int .i64 d),.lit (.int .i64 e),.lit (.int .i64 f)]]))=k [(a,b,c),(d,e,f)]:=kf kan k [(a,b,c),(d,e,f)]
theorem ubn(k:List (Int×Int×Int)->Prop)(a b c d e f g h i:Int):onI3 k (.one (.slice [[.lit (.int .i64 a),.lit (.int .i64 b),.lit (.int .i64 c)],[.lit (.int .i64 d),.lit (.int .i64 e),.lit (.int .i64 f)],[.lit (.int .i64 g),.lit (.int .i64 h),.lit (.int .i64 i)]]))=k [(a,b,c),(d,e,f),(g,h,i)]:=kf kan k [(a,b,c),(d,e,f),(g,h,i)]
theorem kbF{β:Type}{T:List (Int×Int×Int)->(β->Prop)->Prop}(h:∀l,GoodT (T l)){a:AV}:GoodT λK=>onI3 (λl=>T l K) a:=
 uz (e:=i3A) (T:=T) kan h
theorem kba(K:List C->Prop)(L:List (Int×Int×Int))(i:Nat):getE K (L.map iC) i=(i<L.length/\K (iC (L.getD i (0,0,0)))):=by
 simp only [getE,List.length_map,List.getElem?_map];refine propext ⟨λh=>⟨h.1,h.2 _ (by simp [h.1,List.getD_eq_getElem?_getD])⟩,λh=>⟨h.1,λe he=>?_⟩⟩
 simp [h.1]at he;subst he;have:=h.2;simpa [List.getD_eq_getElem?_getD,h.1] using this
theorem yao(L:List (Int×Int×Int)):Clean (.slice (L.map iC))=True:=eq_true (.slice _ λe he c hc=>by
 obtain⟨l,_,rfl⟩:=List.mem_map.1 he;simp only [iC,List.mem_cons,List.not_mem_nil,or_false]at hc;rcases hc with rfl | rfl | rfl <;> exact .lit _)
attribute [go_sem,go_sem ↓] ybm ubn kba yao
def VM(l:List AV)(K:AV->Prop):Prop:=
 match l with
 | [a]=>onI3 (λl=>(∀t∈l,-1000<=t.2.2/\t.2.2<=1000)/\l.length<=1000/\K (.one (.slice ((mcs (o3 l)).map mC)))) a
 | _=>False
theorem Xbj:type_of% @VM.eq_1:=q_E @VM.eq_1
@[congr] theorem Ub5{K}{l l'}(h:l=l'):VM l K=VM l' K:=h▸rfl
attribute [go_sem,go_sem ↓] Xbj
theorem ybc:Good VM:=Ja λas=>by
 unfold VM;split
 .exact(kbF λ_=>(.and λ_=>(.and λ_=>(.ret _))))
 .exact .of λK hk=>hk.elim
def Vn(l:List AV)(K:AV->Prop):Prop:=
 match l with
 | []=>K (.one (.lit (.bool true)))
 | _=>False
theorem xae:type_of% @Vn.eq_1:=q_E @Vn.eq_1
@[congr] theorem xbL{K}{l l'}(h:l=l'):Vn l K=Vn l' K:=h▸rfl
attribute [go_sem,go_sem ↓] xae
theorem Zao:Good Vn:=Ja λas=>by
 unfold Vn;split
 .exact(.ret _)
 .exact .of λK hk=>hk.elim
def Yj(f0:Nat):AC:=(.o [.m 2 (.c (.one .emp))] [0] (.o [.m 3 (.c (.one .emp))] [0,3] (.f (.o [.M 6 0,.Z 7 6,.N 8 0] [3,6,7,8] (.block 0 (.loop (.o [.B 9 .lss 8 7] [3,6,7,8,9] (.f (.cond (.t 9) .skip (.exit 0)) [3,6,7,8] (.f (.block 1 (.o [.J 10 3 6 8,.L 11 3 10,.G 5 [(.lit (.int .i64 0)),(.lit (.int .i64 0)),(.lit (.int .i64 0))],.S 3 5 11] [3,5,6,7,8] (.y [.M 12 3,.u 13 (.ai 1 3 (.t 5) (.i 0)),.F 14 1 13,.u 15 (.ai 1 3 (.t 5) (.i 1)),.F 16 1 15,.u 17 (.ai 1 3 (.t 5) (.i 2)),.F 18 1 17,.H 19 f0 18,.u 20 (.build [.x 1 (.t 14),.x 1 (.t 16),.x 3 (.t 19)]),.u 21 (.row 5 [[.x 5 (.t 20)]]),.u 22 (.app 5 (.t 12) (.t 21)),.M 3 22]))) [3,6,7,8] (.p [.I 23 .add 8 1,.M 8 23]))))))) [3] (.seq (.p [.M 24 3,.M 2 24]) .ret))))
def qg(f0 f1 f2 f3 f4:Nat):AC:=(.o [.m 0 .fa] [] (.o [.u 8 (.build [.x 1 (.i 0),.x 1 (.i 1),.x 1 (.i 1)]),.u 9 (.build [.x 1 (.i 1),.x 1 (.i 0),.x 1 (.i 1)]),.u 10 (.row 3 [[.x 3 (.t 8)],[.x 3 (.t 9)]]),.H 11 f0 10,.u 12 (.build [.x 1 (.i 0),.x 1 (.i 1),.x 1 (.i (-1))]),.u 13 (.build [.x 1 (.i 1),.x 1 (.i 0),.x 1 (.i 1)]),.u 14 (.row 3 [[.x 3 (.t 12)],[.x 3 (.t 13)]]),.H 15 f0 14,.D 16 f1 11 15,.M 7 16,.X 17 0 7,.X 18 1 7,.M 1 17,.M 2 18] [1,2] (.o [.u 20 (.build [.x 1 (.i 0),.x 1 (.i 0),.x 1 (.i (-2))]),.u 21 (.build [.x 1 (.i 0),.x 1 (.i 2),.x 1 (.i 1)]),.u 22 (.build [.x 1 (.i 2),.x 1 (.i 0),.x 1 (.i 1)]),.u 23 (.row 3 [[.x 3 (.t 20)],[.x 3 (.t 21)],[.x 3 (.t 22)]]),.H 24 f0 23,.u 25 (.build [.x 1 (.i 0),.x 1 (.i 1),.x 1 (.i 1)]),.u 26 (.build [.x 1 (.i 1),.x 1 (.i 0),.x 1 (.i (-1))]),.u 27 (.row 3 [[.x 3 (.t 25)],[.x 3 (.t 26)]]),.H 28 f0 27,.D 29 f2 24 28,.M 19 29,.X 30 0 19,.X 31 1 19,.M 3 30,.M 4 31] [1,2,3,4] (.f (.o [.M 32 2,.R 33 32,.M 34 33,.V 35 34 false 4,.w 36 34 false (.binn .neq (.t 35) (.c (.one (.lit .nilIface)))),.Q 37 34 36] [1,3,37] (.cond (.t 37) (.seq (.p [.m 0 .fa]) .ret) .skip)) [1,3] (.o [.M 39 3,.H 40 f3 39,.M 38 40,.X 41 0 38,.X 42 1 38,.M 5 41,.M 6 42] [1,5,6] (.seq (.p [.M 43 6,.u 44 (.binn .eql (.t 43) (.c (.one (.lit .nilIface)))),.M 45 44,.V 46 45 true 5,.w 47 45 true (.sop 1 [(.t 46),(.c (.one (.lit (.string ⟨#[50,32,120,94,50,32,43,32,45,50]⟩))))]),.P 48 45 47,.M 49 48,.V 50 49 true 1,.w 51 49 true (.build [.x 1 (.i 0),.x 1 (.i 2),.x 1 (.i (-1))]),.w 52 49 true (.build [.x 1 (.i 2),.x 1 (.i 0),.x 1 (.i 1)]),.w 53 49 true (.row 3 [[.x 3 (.t 51)],[.x 3 (.t 52)]]),.W 54 49 true f0 53,.Y 55 49 true f4 50 54,.P 56 49 55,.M 0 56]) .ret))))))
theorem vaQ(hΓ:Holds P Γ){f fo:Nat}(ho:Γ fo=.dat false Uz)(hc:check P f=some (25,(Yj fo).strip,[.tmp 2])):Sound P f (.dat false VM):=by
 refine Qa hc ybc hΓ (λargs K hcl hfi hG=>?_);match args,hG with
 | [a],hG=>
  obtain⟨l,rfl,hr,hl,hK⟩:=hG;refine⟨by simp,?_⟩
  simp only [go_sem,Yj,i3A];intro _;refine ja (λk:Nat=>if k=0 then ⟨mkV [(3,.one .emp),(6,i3A l),(7,.one (.lit (.int .i64 l.length))),(8,.one (.lit (.int .i64 k)))],mkH []⟩
    else ⟨mkV [(3,.one (.own 22 1 5 0 k)),(6,i3A l),(7,.one (.lit (.int .i64 l.length))),(8,.one (.lit (.int .i64 k)))],mkH [(22,⟨1,some ⟨(mcs (o3 (l.take k))).map mC,5,true⟩⟩)]⟩) (λk=>k<=l.length) (λk=>l.length-k) 0 ?_ ?_ ?_
  .exact qa (by simp [bitvec_to_nat,i3A]) trivial
  .exact Nat.zero_le _
  .intro k hk;by_cases hlt:k<l.length
   .obtain⟨y,hy⟩:∃y,l.getD k (0,0,0)=y:=⟨_,rfl⟩;have hy0:l[k]?=some y:=by
     rw [List.getD_eq_getElem?_getD,List.getElem?_eq_getElem hlt]at hy;rw [List.getElem?_eq_getElem hlt];simpa using hy
    have hry:=hr y (List.mem_of_getElem? hy0);have ht:=xbz hy0;by_cases hk0:k=0
    .subst hk0;simp only [go_sem,hlt,hy,ho,iC,i3A];repeat first | refine q_Wk ?_ | intro _
     refine⟨λe he=>by rw [List.mem_singleton.1 he];rfl,by omega,1,?_,by omega,by omega⟩
     rw [if_neg (by decide)]
     exact qa (by simp [bitvec_to_nat,i3A]) ⟨Jd (by rw [ht];rfl),trivial⟩
    .have hlk:(mcs (o3 (l.take k))).length=k:=by rw [Ybp,List.length_take];omega
     simp only [go_sem,hlt,hy,ho,iC,i3A,hk0,hlk];repeat first | refine q_Wk ?_ | intro _
     refine⟨λe he=>by rw [List.mem_singleton.1 he];rfl,by omega,by omega,k+1,?_,by omega,by omega⟩
     rw [if_neg (by omega)]
     exact qa (by simp [bitvec_to_nat,i3A]) ⟨Jd (by rw [ht];simp [mC]),trivial⟩
   .by_cases hk0:k=0
    .subst hk0;have hl0:l=[]:=List.length_eq_zero_iff.1 (by omega)
     subst hl0;simp only [go_sem,hlt,i3A];exact hK
    .have hlk:(mcs (o3 (l.take k))).length=k:=by rw [Ybp,List.length_take];omega
     have et:l.take k=l:=List.take_of_length_le (by omega)
     simp only [go_sem,hlt,hk0,i3A];rw [if_pos (by omega),List.take_of_length_le (Nat.le_of_eq hlk),xn _ (of_eq_true (Je _)),et]
     exact hK
theorem Xb3:SmE (o3 xmP) (o3 xmQ):=by
 have b1:∀(n:Int),n.natAbs<=2->Bd 1 2 (n:Rat):=λn h=>(Bd.int n).mono h;refine⟨1,2,by decide,by decide +kernel,by decide +kernel,λt ht=>?_,λt ht=>?_⟩
 .simp only [o3,xmP,List.map_cons,List.map_nil,List.mem_cons,List.not_mem_nil,or_false]at ht;rcases ht with rfl | rfl | rfl <;> exact b1 _ (by decide)
 .simp only [o3,xmQ,List.map_cons,List.map_nil,List.mem_cons,List.not_mem_nil,or_false]at ht;rcases ht with rfl | rfl <;> exact b1 _ (by decide)
theorem Yad(hΓ:Holds P Γ){f ff fm fe ft fq tE:Nat}(hf:Γ ff=.dat false VM)(hm:Γ fm=.dat false (xz tE))(he:Γ fe=.dat false (Vt tE))(ht:Γ ft=.dat false (jn tE))(hq:Γ fq=.dat false jk)(hc:check P f=some (57,(qg ff fm fe ft fq).strip,[.tmp 0])):Sound P f (.dat false Vn):=by
 refine Qa hc Zao hΓ (λargs K hcl hfi hG=>?_);match args,hG with
 | [],hK=>
  have hK:K (.one (.lit (.bool true))):=hK;refine⟨by simp,?_⟩
  obtain⟨A,hA⟩:∃A,mcs (o3 xmA)=A:=⟨_,rfl⟩;obtain⟨B,hB⟩:∃B,mcs (o3 xmB)=B:=⟨_,rfl⟩;obtain⟨C,hC⟩:∃C,mcs (o3 xmC)=C:=⟨_,rfl⟩;obtain⟨X,hX⟩:∃X,mcs (o3 xmP)=X:=⟨_,rfl⟩;obtain⟨Y,hY⟩:∃Y,mcs (o3 xmQ)=Y:=⟨_,rfl⟩;have wl:∀l:List (Int×Int×Int),InQ (o3 l)->∀t∈mcs (o3 l),WLM t:=λl h=>Xam h;have s1:∀t∈xmA,-1000<=t.2.2/\t.2.2<=1000:=by decide
  have s2:∀t∈xmB,-1000<=t.2.2/\t.2.2<=1000:=by decide
  have s3:∀t∈xmC,-1000<=t.2.2/\t.2.2<=1000:=by decide
  have s4:∀t∈xmP,-1000<=t.2.2/\t.2.2<=1000:=by decide
  have s5:∀t∈xmQ,-1000<=t.2.2/\t.2.2<=1000:=by decide
  have m1:mulC A B=0:=by rw [<-hA,<-hB];exact Ybq
  have m2:mulB (A.map mv) (B.map mv)=o3 xmC:=by rw [<-hA,<-hB,ut,ut];exact zbJ
  have e1:erC X Y=0:=by rw [<-hX,<-hY];exact jbL
  obtain⟨L,hL⟩:∃L:List Rat,L=[-2,0,2]:=⟨_,rfl⟩;have e2:elL (X.map mv) (Y.map mv)=L:=by rw [hL,<-hX,<-hY,ut,ut];exact Vb2
  have e3:degM X*degM Y<=9/\SmE (X.map mv) (Y.map mv):=by rw [<-hX,<-hY,ut,ut];exact⟨jbN,Xb3⟩
  have r1:∀t∈A,rl t.2.2<=1000000:=by rw [<-hA];decide +kernel
  have r2:∀t∈B,rl t.2.2<=1000000:=by rw [<-hB];decide +kernel
  have r3:∀t∈C,rl t.2.2<=1000000:=by rw [<-hC];decide +kernel
  have r4:∀t∈X,rl t.2.2<=1000000:=by rw [<-hX];decide +kernel
  have r5:∀t∈Y,rl t.2.2<=1000000:=by rw [<-hY];decide +kernel
  have w1:∀t∈A,WLM t:=by rw [<-hA];exact wl _ (by unfold InQ inQ;decide +kernel)
  have w2:∀t∈B,WLM t:=by rw [<-hB];exact wl _ (by unfold InQ inQ;decide +kernel)
  have w3:∀t∈C,WLM t:=by rw [<-hC];exact wl _ (by unfold InQ inQ;decide +kernel)
  have w4:∀t∈X,WLM t:=by rw [<-hX];exact wl _ (by unfold InQ inQ;decide +kernel)
  have w5:∀t∈Y,WLM t:=by rw [<-hY];exact wl _ (by unfold InQ inQ;decide +kernel)
  have z1:sz (A.map mv)+sz (B.map mv)<=3000000:=by rw [<-hA,<-hB,ut,ut];decide +kernel
  have g1:(∀t∈A,rl t.2.2<=1000000000)/\(∀t∈B,rl t.2.2<=1000000000):=⟨λt ht=>Nat.le_trans (r1 t ht) (by decide),λt ht=>Nat.le_trans (r2 t ht) (by decide)⟩
  have g3:∀t∈C,rl t.2.2<=4294967296:=λt ht=>Nat.le_trans (r3 t ht) (by decide)
  have lC:C.length<=1000000:=by rw [<-hC];decide +kernel
  have e0:=Ud tE;have b0:=X4 (o3 xmC);unfold xmA at hA s1;unfold xmB at hB s2;unfold xmP at hX s4;unfold xmQ at hY s5;have hC2:=hC;have s3':=s3;unfold xmC at hC2 s3';simp only [go_sem,qg,hf,hm,he,ht,hq,hA,hB,hX,hY,hC2,m1,m2,e1,e2,e0,b0,hC,s1,s2,s3',s4,s5];exact⟨s1,s2,w1,w2,g1.1,g1.2,z1,s4,s5,w4,w5,r4,r5,e3,hL,λ_=>⟨s3',w3,w3,g3,lC,hK⟩,λh=>absurd h (by simp)⟩
end Go.Abs
end
section
namespace Go.Num
open Go.Abs
theorem xbF{b:Nat}:∀{l:BQ},(∀t∈l,rz t.2.2<=b)->sz l<=l.length*(b+2)
 | [],_=>by simp [sz]
 | t::l,h=>by
  have h1:=h t (by simp)
  have h2:=xbF (l:=l) λu hu=>h u (by simp [hu])
  simp only [sz,List.length_cons,Nat.add_mul,Nat.one_mul];omega
theorem uaV{x:R}(h:lowR x=true):rl x<=1:=by
 unfold lowR lowB at h;simp only [Bool.and_eq_true,decide_eq_true_eq]at h;unfold rl;omega
theorem PB.wl{d s:Nat}{p:BQ}(h:PB d s p):∀t∈mcs p,WLM t:=Xam h.canon.ins
theorem PB.rl{d s:Nat}{p:BQ}(h:PB d s p):∀t∈mcs p,rl t.2.2<=s:=λt ht=>by
 obtain⟨u,hu,rfl⟩:=List.mem_map.1 ht;have h1:rz u.2.2<=sz p:=Uam hu;have h2:=h.size;show rz u.2.2<=s;omega
theorem PB.chk{d s d' s' : Nat}{p q:BQ}(h:PB d s p)(k:PB d' s' q):chk2 (mcs p) (mcs q)=0:=WaA h.canon k.canon
theorem PB.mulC{d s d' s' : Nat}{p q:BQ}(h:PB d s p)(k:PB d' s' q)(hd:d+d'<=24):mulC (mcs p) (mcs q)=0:=Wbh h.canon k.canon (by
 have h1:=XaP h.canon h.deg;have h2:=XaP k.canon k.deg;omega)
theorem PB.ev{d s m n:Nat}{p:BQ}(h:PB d s p)(hl:p.length<=m){x y:Rat}(hx:rz x<=n)(hy:rz y<=n):rz (ev p x y)<=s+m*(48*(n+2)+8):=by
 have h1:=zbY h.canon.ins x y;have h2:=h.size;have h3:=Nat.mul_le_mul hl (show 24*(rz x+2)+24*(rz y+2)+8<=48*(n+2)+8 by omega)
 omega
end Go.Num
namespace Go.Abs
open Go.Num
variable {P:Program} {Γ:Nat->Spec}
def XZ(l:List AV)(K:AV->Prop):Prop:=
 match l with
 | [a,b,c]=>onMs (λp=>onMs (λq=>onA (λx=>(p.length<=1048576/\∀t∈p,rl t.2.2<=1048576)/\(q.length<=1048576/\∀t∈q,rl t.2.2<=1048576)/\al x<=1048576/\K (.one (.lit (.bool true)))) c) b) a
 | _=>False
theorem xat:type_of% @XZ.eq_1:=q_E @XZ.eq_1
@[congr] theorem zbR{K}{l l'}(h:l=l'):XZ l K=XZ l' K:=h▸rfl
attribute [go_sem,go_sem ↓] xat
end Go.Abs
end
section
namespace Go.Num
open Go.Abs
def kpM(d:Int)(t:Mo):Bool:=!decide (t.1+t.2.1<d)
theorem Vbr{dg:Int}{l:List Mo}{k:Nat}{x:Mo}(hx:l[k]?=some x)(ha:(l.take k).all (kpM dg)=true)(hn:(kpM dg) x=false):(l.takeWhile (kpM dg)).length=k/\l.all (kpM dg)=false:=by
 induction l generalizing k with
 | nil=>simp at hx
 | cons y l ih=>
  cases k with
  | zero=>
   simp only [List.getElem?_cons_zero,Option.some.injEq]at hx;subst hx;simp [List.takeWhile_cons,hn]
  | succ k=>
   simp only [List.getElem?_cons_succ]at hx;simp only [List.take_succ_cons,List.all_cons,Bool.and_eq_true]at ha;obtain⟨h1,h2⟩:=ih hx ha.2;simp [List.takeWhile_cons,ha.1,h1,h2]
theorem QW{dg:Int}{l:List Mo}(h:l.all (kpM dg)=true):l.filter (kpM dg)=l:=List.filter_eq_self.2 λx hx=>List.all_eq_true.1 h x hx
theorem yJ{dg:Int}{l:List Mo}{k:Nat}{x:Mo}(hx:l[k]?=some x):(l.take (k+1)).filter (kpM dg)=(l.take k).filter (kpM dg)++if (kpM dg) x=true then [x] else []:=by
 rw [List.take_add_one,hx,List.filter_append];cases h:(kpM dg) x <;> simp [h]
theorem Jbg{dg:Int}{l:List Mo}(h:l.all (kpM dg)≠true):(l.takeWhile (kpM dg)).length<l.length/\(l.take (l.takeWhile (kpM dg)).length).all (kpM dg)=true/\∃x,l[(l.takeWhile (kpM dg)).length]?=some x/\(kpM dg) x=false:=by
 induction l with
 | nil=>simp at h
 | cons y l ih=>
  cases hy:(kpM dg) y with
  | false=>simp [List.takeWhile_cons,hy]
  | true=>
   have h' : l.all (kpM dg)≠true:=by simpa [hy] using h
   obtain⟨h1,h2,x,h3,h4⟩:=ih h';simp only [List.takeWhile_cons,hy,if_true,List.length_cons,List.take_succ_cons,List.all_cons,Bool.true_and,List.getElem?_cons_succ];exact⟨by omega,h2,x,h3,h4⟩
theorem WaW(f:Mo->Bool):∀p:List Mo,sz ((p.filter f).map mv)<=sz (p.map mv)
 | []=>Nat.le_refl _
 | t::p=>by
  have ih:=WaW f p;cases h:f t with
  | true=>rw [List.filter_cons_of_pos h];simp only [List.map_cons,sz];omega
  | false=>rw [List.filter_cons_of_neg (by simp [h])];simp only [List.map_cons,sz];omega
def topM(p:List Mo):List Mo:=p.filter (kpM (degM p))
end Go.Num
namespace Go.Abs
open Go.Num
variable {P:Program} {Γ:Nat->Spec}
def dgR(d:Int):AV:=.one (.ref [.lit (.int .i64 d)])
def dC9(f:Nat)(d:Int):AV:=.one (.clo f [.ref [.lit (.int .i64 d)]])
theorem Wa5(x y:Int)(h:dgR x=dgR y):x=y:=by simpa [dgR] using h
theorem jaP(f:Nat)(x y:Int)(h:dC9 f x=dC9 f y):x=y:=by simpa [dC9] using h
def onD(k:Int->Prop)(a:AV):Prop:=onE dgR k a
@[congr] theorem wb5{k}{a a'}(h:a=a'):onD k a=onD k a':=by subst h;rfl
theorem JbM(k:Int->Prop)(x:Int):onD k (.one (.ref [.lit (.int .i64 x)]))=k x:=kf Wa5 k x
theorem Zb2{β:Type}{T:Int->(β->Prop)->Prop}(h:∀x,GoodT (T x)){a:AV}:GoodT λK=>onD (λx=>T x K) a:=uz (e:=dgR) (T:=T) Wa5 h
def onDc(f:Nat)(k:Int->Prop)(a:AV):Prop:=onE (dC9 f) k a
@[congr] theorem kb0{f}{k}{a a'}(h:a=a'):onDc f k a=onDc f k a':=by subst h;rfl
theorem Ubp(f:Nat)(k:Int->Prop)(x:Int):onDc f k (.one (.clo f [.ref [.lit (.int .i64 x)]]))=k x:=kf (jaP f) k x
theorem XbH{β:Type}{f:Nat}{T:Int->(β->Prop)->Prop}(h:∀x,GoodT (T x)){a:AV}:GoodT λK=>onDc f (λx=>T x K) a:=uz (e:=dC9 f) (T:=T) (jaP f) h
theorem jG(x:Int):CleanL [C.ref [C.lit (.int .i64 x)]]=True:=eq_true λc hc=>by
 rw [List.mem_singleton.1 hc];exact .ref _ λc hc=>by rw [List.mem_singleton.1 hc];exact .lit _
theorem ya5(x:Int)(z:Nat)(b:Bool):datQ 0 0 (some ⟨[[.lit (.int .i64 x)]],z,b⟩)=.ref [.lit (.int .i64 x)]:=jB [] z b 0 [.lit (.int .i64 x)] [] ⟨Nat.zero_le _,λc hc=>by
 rw [List.mem_singleton.1 hc];exact .lit _⟩
attribute [go_sem,go_sem ↓] JbM Ubp jG ya5
theorem VU{l l' : List (Nat×AV)}{k k' : List (Nat×HB)}{t f q ver i off:Nat}(h1:okS (mkH k) (mkH k') (mkV l) ((t,.any)::l'))(h2:okH (mkH k) (mkH k') k')
  (hv:mkV l t=.one (.clo f [.ptr q ver i off])) (ha:ver=(mkH k q).ver) (hb:ver=(mkH k' q).ver) (hn:(mkH k' q).blk≠none):Weak ⟨mkV l,mkH k⟩ ⟨mkV ((t,.one (.clo f [.ptr q ver i off]))::l'),mkH k'⟩:=by
 have w:=kK h1 h2;refine⟨id,λu=>?_,w.h,w.inj,w.pin⟩;by_cases hu:u=t
 .subst hu;have e:mkV ((u,.one (.clo f [.ptr q ver i off]))::l') u=.one (.clo f [.ptr q ver i off]):=by simp [mkV,find]
  show WA id (mkH k) (mkH k') (mkV l u) (mkV _ u);rw [e,hv];refine .one _ _ (.clo f _ _ rfl λj c c' hc hc'=>?_);cases j with
  | zero=>
   simp only [List.getElem?_cons_zero,Option.some.injEq]at hc hc';subst hc hc';have:=WC.ptr (ρ:=id) (h:=mkH k) (h':=mkH k') q i off hn;simp only [id]at this;rw [<-ha,<-hb]at this;exact this
  | succ j=>simp at hc
 .have e:mkV ((t,.one (.clo f [.ptr q ver i off]))::l') u=mkV ((t,.any)::l') u:=by
   have hu' : ¬t=u:=λh=>hu h.symm;simp [mkV,find,hu,hu']
  show WA id (mkH k) (mkH k') (mkV l u) (mkV _ u);rw [e];exact w.v u
def xx(l:List AV)(K:AV->Prop):Prop:=
 match l with
 | [a,r]=>onM (λt=>onD (λd=>inM t/\K (.one (.lit (.bool (!kpM d t))))) r) a
 | _=>False
theorem qba:type_of% @xx.eq_1:=q_E @xx.eq_1
@[congr] theorem jbZ{K}{l l'}(h:l=l'):xx l K=xx l' K:=h▸rfl
attribute [go_sem,go_sem ↓] qba
theorem WaQ:Good xx:=Ja λas=>by
 unfold xx;split
 .exact(JM λ_=>(Zb2 λ_=>(.and λ_=>(.ret _))))
 .exact .of λK hk=>hk.elim
def jz(fd:Nat)(l:List AV)(K:AV->Prop):Prop:=
 match l with
 | [a,c]=>onMs (λl=>onDc fd (λdg=>(∀t∈l,inM t)/\l.length<=68719476736/\K (.one (.lit (.int .i64 (if l.all (kpM dg)=true then -1 else ((l.takeWhile (kpM dg)).length:Nat)))))) c) a
 | _=>False
theorem vaP:type_of% @jz.eq_1:=q_E @jz.eq_1
@[congr] theorem vbW fd{K}{l l'}(h:l=l'):jz fd l K=jz fd l' K:=by subst h;rfl
attribute [go_sem,go_sem ↓] vaP
theorem ka2(fd:Nat):Good (jz fd):=Ja λas=>by
 unfold jz;split
 .exact(we λ_=>(XbH λ_=>(.and λ_=>(.and λ_=>(.ret _)))))
 .exact .of λK hk=>hk.elim
def jE(fd:Nat)(d:Option Nat)(args:List AV)(h:Nat->HB)(K:AV->(Nat->HB)->Prop):Prop:=
 match args with
 | [.one (.own r ver 5 0 len),.one (.clo f [.ptr q vq 0 0])]=>∃(l:List Mo) (dg:Int),f=fd/\r≠q/\len=l.length/\len<=1000000000/\h r=⟨ver,some ⟨l.map mC,5,true⟩⟩/\h q=⟨vq,some ⟨[[.lit (.int .i64 dg)]],1,true⟩⟩/\(∀t∈l,WLM t/\inM t)/\
   ∀es,K (.one (.own r ver 5 0 (l.filter (kpM dg)).length)) (upd (upd h q ⟨vq,some ⟨[[.lit (.int .i64 dg)]],1,true⟩⟩) r ⟨ver,some ⟨(l.filter (kpM dg)).map mC++es,5,true⟩⟩)
 | _=>False
@[congr] theorem wb2 {fd:Nat} {d:Option Nat} {l l' : List AV} {h h' : Nat->HB} {K:AV->(Nat->HB)->Prop} (e1:l=l') (e2:h=h'):jE fd d l h K=jE fd d l' h' K:=by subst e1;subst e2;rfl
def Xy(tE:Nat)(l:List AV)(K:AV->Prop):Prop:=
 match l with
 | [a]=>onMs (λp=>(∀t∈p,rl t.2.2<=4294967296)/\sz (p.map mv)<=1000000000/\K (.tup [.one (.slice ((if chkB p=0 then mcs (nf ((topM p).map mv)) else []).map mC)),errV tE (chkB p)])) a
 | _=>False
theorem Qa9:type_of% @Xy.eq_1:=q_E @Xy.eq_1
@[congr] theorem UbV tE{K}{l l'}(h:l=l'):Xy tE l K=Xy tE l' K:=by subst h;rfl
attribute [go_sem,go_sem ↓] Qa9
theorem ja2(tE:Nat):Good (Xy tE):=Ja λas=>by
 unfold Xy;split
 .exact(we λ_=>(.and λ_=>(.and λ_=>(.ret _))))
 .exact .of λK hk=>hk.elim
def zq:AC:=(.o [.K 2 5 0,.m 3 .fa] [1,2] (.seq (.p [.A 4 0 2,.F 5 1 4,.A 6 1 2,.F 7 1 6,.B 8 .add 5 7,.F 9 1 1,.B 10 .lss 8 9,.M 3 10]) .ret))
def zp(f0 f1 f2 f3 f4 f5:Nat):AC:=(.o [.m 2 (.c (.one .emp)),.m 3 (.c (.one (.lit .nilIface)))] [0] (.f (.o [.M 6 0,.H 7 f0 6,.M 4 7] [0,4] (.o [.M 8 4,.R 9 8] [0,4,9] (.cond (.t 9) (.seq (.p [.M 10 4,.m 2 (.c (.one .emp)),.M 3 10]) .ret) .skip))) [0] (.o [.M 11 0,.H 12 f1 11,.G 5 [(.lit (.int .i64 0))],.S 1 5 12] [0,5] (.seq (.p [.M 13 0,.u 14 (.callf f2 [(.t 13)]),.u 15 (.clo f5 [(.t 5)]),.D 16 f3 14 15,.H 17 f4 16,.M 2 17,.m 3 (.c (.one (.lit .nilIface)))]) .ret))))
theorem kaK(hΓ:Holds P Γ){f:Nat}(hc:check P f=some (11,zq.strip,[.tmp 3])):Sound P f (.dat true xx):=by
 refine Qa hc WaQ hΓ (λargs K hcl hfi hG=>?_);match args,hG with
 | [a,b],hG=>
  obtain⟨t,rfl,hw,dg,rfl,hin,hK⟩:=hG;refine⟨by simp,?_⟩
  obtain⟨i1,i2,i3⟩:=hin;unfold kpM at hK;rw [Bool.not_not]at hK;simp only [go_sem,zq,dgR,mC];exact⟨⟨by omega,by omega⟩,hK⟩
theorem YaN(hΓ:Holds P Γ){f fd:Nat}(hd:Γ fd=.dat true xx)(hc:check P f=some (19,Xb.strip,[.tmp 4])):Sound P f (.dat true (jz fd)):=by
 refine Qa hc (ka2 fd) hΓ (λargs K hcl hfi hG=>?_);match args,hG with
 | [a,c],hG=>
  obtain⟨l,rfl,hw,dg,rfl,hl,hln,hK⟩:=hG;refine⟨by simp,?_⟩
  simp only [go_sem,Xb,dC9];intro _;refine ja (λk:Nat=>⟨mkV [(0,.one (ms l)),(1,dC9 fd dg),(7,.one (.lit (.int .i64 l.length))),(8,.one (.lit (.int .i64 k)))],mkH []⟩) (λk=>k<=l.length/\(l.take k).all (kpM dg)=true) (λk=>l.length-k) 0 ?_ ?_ ?_
  .exact qa (by simp [bitvec_to_nat,ms,dC9,jG]) trivial
  .exact⟨Nat.zero_le _,rfl⟩
  .rintro k ⟨hk,hall⟩;by_cases hlt:k<l.length
   .obtain⟨x,hx⟩:∃x,l.getD k mo0=x:=⟨_,rfl⟩;have hx0:=getDm hlt hx;have hxm:=List.mem_of_getElem? hx0;cases hz:(kpM dg) x with
    | true=>
     simp only [go_sem,hlt,hx,hd,dC9,hz];refine⟨hw x hxm,hl x hxm,by omega,k+1,qa (by simp [bitvec_to_nat,ms,dC9,jG]) trivial,⟨by omega,allS hx0 hall hz⟩,by omega⟩
    | false=>
     obtain⟨e1,e2⟩:=Vbr hx0 hall hz;rw [e1,e2]at hK;simp only [go_sem,hlt,hx,hd,dC9,hz];exact⟨hw x hxm,hl x hxm,by simpa using hK⟩
   .rw [List.take_of_length_le (by omega)]at hall
    rw [if_pos hall]at hK;simp only [go_sem,hlt];exact hK
theorem jaU{h h' : Nat->HB}{x:Int}{z:Nat}{b:Bool}:okB h h' (some ⟨[[.lit (.int .i64 x)]],z,b⟩) (some ⟨[[.lit (.int .i64 x)]],z,b⟩):=⟨⟨rfl,rfl⟩,.inr (by simp [bitvec_to_nat])⟩
theorem VaN(hΓ:Holds P Γ){f fi fd:Nat}(hi:Γ fi=.dat true (jz fd))(hd:Γ fd=.dat true xx)(hc:check P f=some (42,(ua fi).strip,[.tmp 4])):Sound P f (.own (jE fd)):=by
 refine Ye hc hΓ (λd args h K hG=>?_);unfold jE at hG;split at hG
 .rename_i r ver len f' q vq;obtain⟨l,dg,rfl,hne,rfl,hlen,hr,hqv,hok,hK⟩:=hG;refine⟨[r,q],[⟨l.map mC,5,true⟩,⟨[[.lit (.int .i64 dg)]],1,true⟩],[.one (.own 1048576 ver 5 0 l.length),.one (.clo f' [.ptr 1048577 vq 0 0])],by simpa using hne,rfl,?_,?_,?_,λhfi=>⟨by simp,?_⟩⟩
  .intro i r' b h1 h2;cases i with
   | zero=>simp only [List.getElem?_cons_zero,Option.some.injEq]at h1 h2;subst h1 h2;exact⟨by rw [hr],rfl,of_eq_true (Je _)⟩
   | succ i=>
    cases i with
    | zero=>simp only [List.getElem?_cons_succ,List.getElem?_cons_zero,Option.some.injEq]at h1 h2;subst h1 h2;exact⟨by rw [hqv],rfl,by simp [go_sem]⟩
    | succ i=>simp at h1
  .simp [exA,exC,exB,nameOf,pinA,fnV]
  .intro a ha;simp only [List.mem_cons,List.not_mem_nil,or_false]at ha;rcases ha with rfl | rfl
   .simp [pasA,pasC,pasB,nameOf,pinA]
   .simp [pasA,pasC,pasB,nameOf,pinA]
  have hW:∀x∈l,WLM x:=λx hx=>(hok x hx).1;have hL:∀x∈l,inM x:=λx hx=>(hok x hx).2;by_cases hall:l.all (kpM dg)=true
  .have hK':=hK [];rw [List.append_nil,QW hall]at hK';simp only [go_sem,ua,hr,hqv,hi,hall];exact⟨hW,hL,by omega,hK'⟩
  .obtain⟨g1,g2,x,g3,g4⟩:=Jbg hall;obtain⟨i0,hi0⟩:∃i0,(l.takeWhile (kpM dg)).length=i0:=⟨_,rfl⟩;rw [hi0]at g1 g2 g3;simp only [go_sem,ua,hr,hqv,hi,hall,hi0];refine⟨hW,hL,by omega,by omega,?_⟩
   refine ja (λp:Nat×List Mo=>⟨mkV [(1,.one (.clo f' [.ptr 1048577 vq 0 0])),(0,.one (.own 1048576 ver 5 0 l.length)),(5,.one (.lit (.int .i64 (((l.take p.1).filter (kpM dg)).length:Nat)))),(6,.one (.lit (.int .i64 p.1)))],mkH [(1048576,⟨ver,some ⟨p.2.map mC,5,true⟩⟩),(1048577,⟨vq,some ⟨[[.lit (.int .i64 dg)]],1,true⟩⟩)]⟩)
    (λp=>i0<p.1/\p.1<=l.length/\((l.take p.1).filter (kpM dg)).length<p.1/\p.2.length=l.length/\p.2.take ((l.take p.1).filter (kpM dg)).length=(l.take p.1).filter (kpM dg)/\p.2.drop p.1=l.drop p.1) (λp=>l.length-p.1) (i0+1,l) ?_ ?_ ?_
   .have e:((l.take (i0+1)).filter (kpM dg)).length=i0:=by rw [yJ g3,QW g2,g4];simp;omega
    exact VU (by simp only [bitvec_to_nat,e];simp) ⟨Jd rfl,jaU,trivial⟩ (by simp [mkV,find]) (by simp [mkH,find]) (by simp [mkH,find]) (by simp [mkH,find])
   .have e:(l.take (i0+1)).filter (kpM dg)=l.take i0:=by rw [yJ g3,QW g2,g4];simp
    have e2:(l.take i0).length=i0:=by rw [List.length_take];omega
    refine⟨by simp,by simp;omega,?_,rfl,?_,rfl⟩
    .simp only [e,e2];omega
    .simp only [e,e2]
   .rintro⟨j,B⟩ ⟨q1,q2,q3,q4,q5,q6⟩;simp only at q1 q2 q3 q4 q5 q6;obtain⟨n,hn⟩:∃n,((l.take j).filter (kpM dg)).length=n:=⟨_,rfl⟩;rw [hn]at q3 q5;by_cases hlt:j<l.length
    .obtain⟨y,hy⟩:∃y,l[j]?=some y:=⟨_,List.getElem?_eq_getElem hlt⟩;have hym:=List.mem_of_getElem? hy;have hBy:B[j]?=some y:=by
      have:=congrArg (λL=>L[0]?) q6;simp only [List.getElem?_drop,Nat.add_zero]at this;rw [this,hy]
     have hBy' : B.getD j mo0=y:=by rw [List.getD_eq_getElem?_getD,hBy];rfl
     have hjB:j<B.length:=by omega
     have hnB:n<B.length:=by omega
     have hft:=yJ (dg:=dg) hy;have hdr:B.drop (j+1)=l.drop (j+1):=by
      have:=congrArg (λL=>L.drop 1) q6;simpa [List.drop_drop] using this
     cases hz:(kpM dg) y with
     | true=>
      rw [hz,if_pos rfl]at hft;have hfl:((l.take (j+1)).filter (kpM dg)).length=n+1:=by rw [hft,List.length_append,hn];rfl
      simp only [go_sem,hlt,hn,hBy',hd,hz,hjB,hnB,q4];refine λ_=>⟨hW y hym,hL y hym,by omega,by omega,by omega,by omega,(j+1,B.set n y),VU (by simp only [bitvec_to_nat,hfl];simp) ⟨Jd rfl,jaU,trivial⟩ (by simp [mkV,find]) (by simp [mkH,find]) (by simp [mkH,find]) (by simp [mkH,find]),⟨by simp only;omega,by simp only;omega,by simp only;omega,by simp only;rw [List.length_set];exact q4,?_,?_⟩,by simp only;omega⟩
      .simp only;rw [hfl,hft,<-q5];rw [List.take_add_one,List.getElem?_set_self hnB,List.take_set_of_le (Nat.le_refl _)];rfl
      .simp only;rw [List.drop_set_of_lt (by omega),hdr]
     | false=>
      rw [hz,if_neg (by decide),List.append_nil]at hft
      simp only [go_sem,hlt,hn,hBy',hd,hz,hjB,q4];refine λ_=>⟨hW y hym,hL y hym,by omega,(j+1,B),VU (by simp only [bitvec_to_nat,hft,hn];simp) ⟨Jd rfl,jaU,trivial⟩ (by simp [mkV,find]) (by simp [mkH,find]) (by simp [mkH,find]) (by simp [mkH,find]),⟨by simp only;omega,by simp only;omega,by simp only [hft,hn];omega,q4,?_,hdr⟩,by simp only;omega⟩
      simp only [hft,hn];exact q5
    .have ej:j=l.length:=by omega
     have et:l.take j=l:=by rw [ej];exact List.take_length
     rw [et]at hn q5;simp only [go_sem,hlt,et,hn,q4,hr,hqv];refine λ_=>⟨by omega,by omega,⟨by omega,by omega⟩,?_⟩
     rw [q5,<-hn];exact hK _
 .exact hG.elim
theorem UaN(hΓ:Holds P Γ){f fk fd fc fx fs ft tE m:Nat}(hm:325<=m)(hk:Γ fk=.dat false (Vh tE))(hd:Γ fd=.dat true Vl)(hcl:Γ fc=.fresh 5 jl)(hx:Γ fx=.own (jE ft))(hs:Γ fs=.dat false (Xo m))(hc:check P f=some (18,(zp fk fd fc fx fs ft).strip,[.tmp 2,.tmp 3])):Sound P f (.dat false (Xy tE)):=by
 refine Qa hc (ja2 tE) hΓ (λargs K hcl' hfi hG=>?_);match args,hG with
 | [a],hG=>
  obtain⟨p,rfl,hwp,hrp,hsz,hK⟩:=hG;refine⟨by simp,?_⟩
  by_cases h0:chkB p=0
  case neg=>
   rw [if_neg h0,Vd tE h0]at hK;have e0:=Vd tE h0;simp only [go_sem,zp,hk,ms,e0];exact⟨hwp,hrp,hK⟩
  rw [if_pos h0,h0,Ud]at hK;have e0:=Ud tE;obtain⟨i1,i2,i3⟩:=Qm h0 hwp;obtain⟨dg,hdg⟩:∃d,degM p=d:=⟨_,rfl⟩;simp only [go_sem,zp,hk,hd,hcl,hx,ms,h0,e0,hdg];refine⟨hwp,hrp,hwp,i1,by omega,hwp,by omega,?_⟩
  unfold jE;refine⟨p,dg,rfl,by decide,rfl,by omega,by simp [mkH,find],by simp [mkH,find],λt ht=>⟨hwp t ht,i1 t ht⟩,λes=>?_⟩
  have ht:p.filter (kpM dg)=topM p:=by unfold topM;rw [hdg]
  rw [ht];have hsub:∀t∈topM p,t∈p:=λt ht=>(List.mem_filter.1 ht).1;have hlen:(topM p).length<=p.length:=List.length_filter_le _ _;have hsz2:sz ((topM p).map mv)<=1000000000:=Nat.le_trans (WaW _ p) hsz;obtain⟨T,hT⟩:∃T,topM p=T:=⟨_,rfl⟩;rw [hT]at hsub hlen hsz2 hK ⊢;simp only [go_sem,hs];rw [if_pos (by simp),List.take_left' (by simp),xn _ (of_eq_true (Je _)),Uah]
  exact⟨λt ht=>hwp t (hsub t ht),λt ht=>⟨i1 t (hsub t ht),hrp t (hsub t ht)⟩,by omega,hsz2,hK⟩
end Go.Abs
end
section
namespace Go.Num
open Go.Abs
def topB(p:BQ):BQ:=p.filter (isD (degB p))
theorem qbg{p:BQ}(h:Canon p):(topM (mcs p)).map mv=topB p:=by
 unfold topM topB;rw [Vg];unfold mcs;rw [List.filter_map,List.map_map];have e:mv ∘ mcan=id:=funext λt=>ua7 t;rw [e,List.map_id];refine List.filter_congr λt ht=>?_;have h1:=ZJ h t ht;show(!decide ((mcan t).1+(mcan t).2.1<degB p))=isD (degB p) t;have e2:(mcan t).1+(mcan t).2.1=t.1+t.2.1:=rfl;rw [e2];unfold isD;by_cases h2:t.1+t.2.1<degB p
 .rw [decide_eq_true h2,decide_eq_false (by omega)];rfl
 .rw [decide_eq_false h2,decide_eq_true (by omega)];rfl
theorem UM{p:BQ}(h:Canon p):Canon (topB p):=⟨h.str.filter _,λt ht=>h.ins t (List.mem_filter.1 ht).1,λt ht=>h.nz t (List.mem_filter.1 ht).1⟩
theorem PB.top{d s:Nat}{p:BQ}(h:PB d s p):PB d s (topB p):=⟨UM h.canon,λt ht=>h.deg t (List.mem_filter.1 ht).1,by
 have:∀(f:MQ->Bool) (l:BQ),sz (l.filter f)<=sz l:=λf l=>by
  induction l with
  | nil=>exact Nat.le_refl _
  | cons t l ih=>
   cases h:f t with
   | true=>rw [List.filter_cons_of_pos h];simp only [sz];omega
   | false=>rw [List.filter_cons_of_neg (by simp [h])];simp only [sz];omega
 exact Nat.le_trans (this _ p) h.size⟩
end Go.Num
end
section
namespace Go.Num
open Go.Abs
def smX(p q:List Mo)(i:Nat):Bool:=decide (kM (p.getD i mo0)=kM (q.getD i mo0)) && decide (rv (p.getD i mo0).2.2*rv (q.getD 0 mo0).2.2=rv (q.getD i mo0).2.2*rv (p.getD 0 mo0).2.2)
def smM(p q:List Mo):Bool:=decide (p.length=q.length) && (List.range p.length).all (smX p q)
theorem Vbp{p q:List Mo}(h:p.length=q.length)(ha:∀i,i<p.length->smX p q i=true):smM p q=true:=by
 unfold smM;rw [decide_eq_true h,Bool.true_and,List.all_eq_true];exact λi hi=>ha i (List.mem_range.1 hi)
theorem Zai{p q:List Mo}{i:Nat}(hi:i<p.length)(h:smX p q i=false):smM p q=false:=by
 unfold smM;have:(List.range p.length).all (smX p q)=false:=by
  rw [Bool.eq_false_iff];intro h2;have:=List.all_eq_true.1 h2 i (List.mem_range.2 hi);rw [h]at this;simp at this
 rw [this,Bool.and_false]
theorem wat(a b:Nat):ordK a b=0↔a=b:=by
 unfold ordK;split
 .omega
 .split <;> omega
end Go.Num
namespace Go.Abs
open Go.Num
variable {P:Program} {Γ:Nat->Spec}
def qu(tE:Nat)(l:List AV)(K:AV->Prop):Prop:=
 match l with
 | [a,b]=>onMs (λp=>onMs (λq=>(∀t∈p,rl t.2.2<=1000000000)/\(∀t∈q,rl t.2.2<=1000000000)/\K (.tup [.one (.lit (.bool (decide (chk2 p q=0) && smM p q))),errV tE (chk2 p q)])) b) a
 | _=>False
theorem xaq:type_of% @qu.eq_1:=q_E @qu.eq_1
@[congr] theorem ubQ tE{K}{l l'}(h:l=l'):qu tE l K=qu tE l' K:=by subst h;rfl
attribute [go_sem,go_sem ↓] xaq
theorem yaN(tE:Nat):Good (qu tE):=Ja λas=>by
 unfold qu;split
 .exact(we λ_=>(we λ_=>(.and λ_=>(.and λ_=>(.ret _)))))
 .exact .of λK hk=>hk.elim
def xi(f0 f1 f2 f3:Nat):AC:=(.o [.m 4 .fa,.m 5 (.c (.one (.lit .nilIface)))] [0,1] (.f (.o [.M 8 0,.M 9 1,.u 10 (.row 1 [[.x 1 (.t 8)],[.x 1 (.t 9)]]),.H 11 f0 10,.M 6 11] [0,1,6] (.o [.M 12 6,.R 13 12] [0,1,6,13] (.cond (.t 13) (.seq (.p [.M 14 6,.m 4 .fa,.M 5 14]) .ret) .skip))) [0,1] (.f (.o [.M 15 0,.Z 16 15,.M 17 1,.Z 18 17,.B 19 .neq 16 18] [0,1,19] (.cond (.t 19) (.seq (.p [.m 4 .fa,.m 5 (.c (.one (.lit .nilIface)))]) .ret) .skip)) [0,1] (.f (.o [.M 20 0,.Z 21 20,.N 22 0] [0,1,21,22] (.block 0 (.loop (.o [.B 23 .lss 22 21] [0,1,21,22,23] (.f (.cond (.t 23) .skip (.exit 0)) [0,1,21,22] (.f (.block 1 (.o [.M 24 22,.M 7 24] [0,1,7,21,22] (.f (.y [.M 25 0,.M 26 7,.J 27 5 25 26,.L 28 5 27,.M 29 1,.M 30 7,.J 31 5 29 30,.L 32 5 31,.D 33 f1 28 32,.I 34 .neq 33 0,.M 35 34,.V 36 35 false 0,.V 37 35 false 7,.w 38 35 false (.idx 5 (.t 36) (.t 37)),.T 39 35 false 2 38,.U 40 35 false 3 true 39,.V 41 35 false 1,.w 42 35 false (.idx 5 (.t 41) (.i 0)),.T 43 35 false 2 42,.U 44 35 false 3 true 43,.Y 45 35 false f2 40 44,.V 46 35 false 1,.V 47 35 false 7,.w 48 35 false (.idx 5 (.t 46) (.t 47)),.T 49 35 false 2 48,.U 50 35 false 3 true 49,.V 51 35 false 0,.w 52 35 false (.idx 5 (.t 51) (.i 0)),.T 53 35 false 2 52,.U 54 35 false 3 true 53,.Y 55 35 false f2 50 54,.Y 56 35 false f3 45 55,.w 57 35 false (.bin .neq (.t 56) (.i 0)),.Q 58 35 57]) [0,1,21,22,58] (.cond (.t 58) (.seq (.p [.m 4 .fa,.m 5 (.c (.one (.lit .nilIface)))]) .ret) .skip)))) [0,1,21,22] (.p [.I 59 .add 22 1,.M 22 59]))))))) [] (.seq (.p [.m 4 .tr,.m 5 (.c (.one (.lit .nilIface)))]) .ret)))))
theorem Qal(hΓ:Holds P Γ){f fk fo fm fc tE:Nat}(hk:Γ fk=.dat false (Yf tE))(ho:Γ fo=.dat true Yr)(hm:Γ fm=.dat false Wl)(hcm:Γ fc=.dat true Uw)(hc:check P f=some (60,(xi fk fo fm fc).strip,[.tmp 4,.tmp 5])):Sound P f (.dat false (qu tE)):=by
 refine Qa hc (yaN tE) hΓ (λargs K hcl hfi hG=>?_);match args,hG with
 | [a,b],hG=>
  obtain⟨p,rfl,hwp,q,rfl,hwq,hrp,hrq,hK⟩:=hG;refine⟨by simp,?_⟩
  have hrp4:∀t∈p,rl t.2.2<=4294967296:=λt ht=>Nat.le_trans (hrp t ht) (by decide)
  have hrq4:∀t∈q,rl t.2.2<=4294967296:=λt ht=>Nat.le_trans (hrq t ht) (by decide)
  by_cases h0:chk2 p q=0
  case neg=>
   rw [decide_eq_false h0,Bool.false_and,Vd tE h0]at hK;have e0:=Vd tE h0;simp only [go_sem,xi,hk,ms,e0];exact⟨⟨hwp,hwq⟩,hrp4,hrq4,hK⟩
  rw [decide_eq_true h0,Bool.true_and,h0,Ud]at hK;have e0:=Ud tE;obtain⟨k1,k2⟩:=Z4 h0;obtain⟨i1,_,l1⟩:=Qm k1 hwp;obtain⟨i2,_,l2⟩:=Qm k2 hwq;by_cases hle:p.length=q.length
  case neg=>
   have e:smM p q=false:=by unfold smM;rw [decide_eq_false hle];rfl
   rw [e]at hK;have hle' : ¬(p.length:Int)=(q.length:Int):=by omega
   simp only [go_sem,xi,hk,ms,h0,e0,hle'];refine⟨⟨hwp,hwq⟩,hrp4,hrq4,?_⟩;repeat first | refine q_Wk ?_ | intro _
   exact hK
  have hle' : (p.length:Int)=(q.length:Int):=by omega
  simp only [go_sem,xi,hk,ms,h0,e0,hle];refine⟨⟨hwp,hwq⟩,hrp4,hrq4,?_⟩;repeat first | refine q_Wk ?_ | intro _
  refine ja (λk:Nat=>⟨mkV [(0,msA p),(1,msA q),(21,.one (.lit (.int .i64 q.length))),(22,.one (.lit (.int .i64 k)))],mkH []⟩) (λk=>k<=q.length/\∀i,i<k->smX p q i=true) (λk=>q.length-k) 0 ?_ ?_ ?_
  .exact qa (by simp [bitvec_to_nat,msA,ms]) trivial
  .exact⟨Nat.zero_le _,λi hi=>absurd hi (Nat.not_lt_zero _)⟩
  .rintro k ⟨hk',hall⟩;by_cases hlt:k<q.length
   .obtain⟨x,hx⟩:∃x,p.getD k mo0=x:=⟨_,rfl⟩;obtain⟨y,hy⟩:∃y,q.getD k mo0=y:=⟨_,rfl⟩;obtain⟨x0,hx0⟩:∃x,p.getD 0 mo0=x:=⟨_,rfl⟩;obtain⟨y0,hy0⟩:∃y,q.getD 0 mo0=y:=⟨_,rfl⟩;have hltp:k<p.length:=by omega
    have hxm:=List.mem_of_getElem? (getDm hltp hx);have hym:=List.mem_of_getElem? (getDm hlt hy);have hx0m:=List.mem_of_getElem? (getDm (show 0<p.length by omega) hx0)
    have hy0m:=List.mem_of_getElem? (getDm (show 0<q.length by omega) hy0)
    have e:smX p q k=(decide (kM x=kM y) && decide (rv x.2.2*rv y0.2.2=rv y.2.2*rv x0.2.2)):=by unfold smX;rw [hx,hy,hx0,hy0]
    have wx:=hwp x hxm;have wy:=hwq y hym;have wx3:=wx.2.2;have wy3:=wy.2.2;have wx0:=(hwp x0 hx0m).2.2;have wy0:=(hwq y0 hy0m).2.2;have jx:=i1 x hxm;have jy:=i2 y hym;have rx:=hrp x hxm;have ry:=hrq y hym;have rx0:=hrp x0 hx0m;have ry0:=hrq y0 hy0m;have p0:0<p.length:=by omega
    have q0:0<q.length:=by omega
    by_cases hkm:kM x=kM y
    case neg=>
     rw [decide_eq_false hkm,Bool.false_and]at e;rw [Zai hltp e]at hK;have ho0:¬ordK (kM x) (kM y)=0:=λh=>hkm ((wat _ _).1 h);simp only [go_sem,hlt,hltp,hx,hy,mC,ho,hm,hcm,ho0];repeat first | refine q_Wk ?_ | intro _
     exact hK
    have ho0:ordK (kM x) (kM y)=0:=(wat _ _).2 hkm;have z1:=kk (rv x.2.2) (rv y0.2.2);have z2:=kk (rv y.2.2) (rv x0.2.2);have z3:=vt wx3;have z4:=vt wy3;have z5:=vt wx0;have z6:=vt wy0;have z7:rz (rv x.2.2*rv y0.2.2)<=4294967296:=by omega
    have z8:rz (rv y.2.2*rv x0.2.2)<=4294967296:=by omega
    have rx4:rl x.2.2<=4294967296:=by omega
    have ry4:rl y.2.2<=4294967296:=by omega
    have rx04:rl x0.2.2<=4294967296:=by omega
    have ry04:rl y0.2.2<=4294967296:=by omega
    rw [decide_eq_true hkm,Bool.true_and]at e;by_cases hcr:rv x.2.2*rv y0.2.2=rv y.2.2*rv x0.2.2
    case neg=>
     rw [decide_eq_false hcr]at e;rw [Zai hltp e]at hK;have hc0:¬ordQ (rv x.2.2*rv y0.2.2) (rv y.2.2*rv x0.2.2)=0:=λh=>hcr (Ve.1 h);simp only [go_sem,hlt,hltp,hx,hy,hx0,hy0,mC,ho,hm,hcm,ho0,hc0];repeat first | refine q_Wk ?_ | intro _
     exact hK
    rw [decide_eq_true hcr]at e;have hc0:ordQ (rv x.2.2*rv y0.2.2) (rv y.2.2*rv x0.2.2)=0:=Ve.2 hcr;simp only [go_sem,hlt,hltp,hx,hy,hx0,hy0,mC,ho,hm,hcm,ho0,hc0];repeat first | refine q_Wk ?_ | intro _
    refine⟨k+1,qa (by simp [bitvec_to_nat,msA,ms]) trivial,⟨by omega,λi hi=>?_⟩,by omega⟩
    by_cases hik:i=k
    .rw [hik];exact e
    .exact hall i (by omega)
   .rw [Vbp hle λi hi=>hall i (by omega)]at hK
    simp only [go_sem,hlt];exact hK
end Go.Abs
end
section
namespace Go.Num
open Go.Abs
theorem ybD{x y:Mo}(hx:inM x)(hy:inM y):kM x=kM y↔x.1=y.1/\x.2.1=y.2.1:=by
 have h1:=W5 hx hy;have h2:=W5 hy hx;constructor
 .intro h;have a1:¬kM x<kM y:=by omega
  have a2:¬kM y<kM x:=by omega
  rw [h1]at a1;rw [h2]at a2;omega
 .rintro⟨e1,e2⟩;unfold kM;rw [e1,e2]
end Go.Num
namespace Go.Abs
open Go.Num
variable {P:Program} {Γ:Nat->Spec}
def Yt(l:List AV)(K:AV->Prop):Prop:=
 match l with
 | [a,b]=>onMs (λp=>onMs (λq=>(∀t∈p,rl t.2.2<=1000000)/\(∀t∈q,rl t.2.2<=1000000)/\K (.tup [.one (.lit (.bool (decide (chk2 p q=0) && smM p q))),.one (.lit (.int .i64 (chk2 p q:Nat)))])) b) a
 | _=>False
theorem YaI:type_of% @Yt.eq_1:=q_E @Yt.eq_1
@[congr] theorem WbS{K}{l l'}(h:l=l'):Yt l K=Yt l' K:=h▸rfl
attribute [go_sem,go_sem ↓] YaI
theorem JaK:Good Yt:=Ja λas=>by
 unfold Yt;split
 .exact(we λ_=>(we λ_=>(.and λ_=>(.and λ_=>(.ret _)))))
 .exact .of λK hk=>hk.elim
def Wc(f0 f1 f2:Nat):AC:=(.o [.m 4 .fa,.N 5 0] [0,1] (.f (.o [.M 8 0,.M 9 1,.u 10 (.row 1 [[.x 1 (.t 8)],[.x 1 (.t 9)]]),.H 11 f0 10,.M 6 11] [0,1,6] (.o [.M 12 6,.I 13 .neq 12 0] [0,1,6,13] (.cond (.t 13) (.seq (.p [.M 14 6,.m 4 .fa,.M 5 14]) .ret) .skip))) [0,1] (.f (.o [.M 15 0,.Z 16 15,.M 17 1,.Z 18 17,.B 19 .neq 16 18] [0,1,19] (.cond (.t 19) (.seq (.p [.m 4 .fa,.N 5 0]) .ret) .skip)) [0,1] (.f (.o [.M 20 0,.Z 21 20,.N 22 0] [0,1,21,22] (.block 0 (.loop (.o [.B 23 .lss 22 21] [0,1,21,22,23] (.f (.cond (.t 23) .skip (.exit 0)) [0,1,21,22] (.f (.block 1 (.o [.M 24 22,.M 7 24] [0,1,7,21,22] (.f (.y [.M 25 0,.M 26 7,.J 27 5 25 26,.A 28 0 27,.F 29 1 28,.M 30 1,.M 31 7,.J 32 5 30 31,.A 33 0 32,.F 34 1 33,.B 35 .neq 29 34,.M 36 35,.V 37 36 false 0,.V 38 36 false 7,.w 39 36 false (.idx 5 (.t 37) (.t 38)),.T 40 36 false 1 39,.U 41 36 false 1 false 40,.V 42 36 false 1,.V 43 36 false 7,.w 44 36 false (.idx 5 (.t 42) (.t 43)),.T 45 36 false 1 44,.U 46 36 false 1 false 45,.w 47 36 false (.bin .neq (.t 41) (.t 46)),.Q 48 36 47,.M 49 48,.V 50 49 false 0,.V 51 49 false 7,.w 52 49 false (.idx 5 (.t 50) (.t 51)),.T 53 49 false 2 52,.U 54 49 false 3 true 53,.V 55 49 false 1,.w 56 49 false (.idx 5 (.t 55) (.i 0)),.T 57 49 false 2 56,.U 58 49 false 3 true 57,.Y 59 49 false f1 54 58,.V 60 49 false 1,.V 61 49 false 7,.w 62 49 false (.idx 5 (.t 60) (.t 61)),.T 63 49 false 2 62,.U 64 49 false 3 true 63,.V 65 49 false 0,.w 66 49 false (.idx 5 (.t 65) (.i 0)),.T 67 49 false 2 66,.U 68 49 false 3 true 67,.Y 69 49 false f1 64 68,.Y 70 49 false f2 59 69,.w 71 49 false (.bin .neq (.t 70) (.i 0)),.Q 72 49 71]) [0,1,21,22,72] (.cond (.t 72) (.seq (.p [.m 4 .fa,.N 5 0]) .ret) .skip)))) [0,1,21,22] (.p [.I 73 .add 22 1,.M 22 73]))))))) [] (.seq (.p [.m 4 .tr,.N 5 0]) .ret)))))
theorem Qao(hΓ:Holds P Γ){f fk fm fc:Nat}(hk:Γ fk=.dat false Ju)(hm:Γ fm=.dat false Wl)(hcm:Γ fc=.dat true kn)(hc:check P f=some (74,(Wc fk fm fc).strip,[.tmp 4,.tmp 5])):Sound P f (.dat false Yt):=by
 refine Qa hc JaK hΓ (λargs K hcl hfi hG=>?_);match args,hG with
 | [a,b],hG=>
  obtain⟨p,rfl,hwp,q,rfl,hwq,hrp,hrq,hK⟩:=hG;refine⟨by simp,?_⟩
  have hrp4:∀t∈p,rl t.2.2<=4294967296:=λt ht=>Nat.le_trans (hrp t ht) (by decide)
  have hrq4:∀t∈q,rl t.2.2<=4294967296:=λt ht=>Nat.le_trans (hrq t ht) (by decide)
  by_cases h0:chk2 p q=0
  case neg=>
   rw [decide_eq_false h0,Bool.false_and]at hK;simp only [go_sem,Wc,hk,ms,h0];exact⟨⟨hwp,hwq⟩,hrp4,hrq4,hK⟩
  rw [decide_eq_true h0,Bool.true_and,h0]at hK;obtain⟨k1,k2⟩:=Z4 h0;obtain⟨i1,_,l1⟩:=Qm k1 hwp;obtain⟨i2,_,l2⟩:=Qm k2 hwq;by_cases hle:p.length=q.length
  case neg=>
   have e:smM p q=false:=by unfold smM;rw [decide_eq_false hle];rfl
   rw [e]at hK;have hle' : ¬(p.length:Int)=(q.length:Int):=by omega
   simp only [go_sem,Wc,hk,ms,h0,hle'];refine⟨⟨hwp,hwq⟩,hrp4,hrq4,?_⟩;intro _ _;exact hK
  have hle' : (p.length:Int)=(q.length:Int):=by omega
  simp only [go_sem,Wc,hk,ms,h0,hle];refine⟨⟨hwp,hwq⟩,hrp4,hrq4,?_⟩;intro _ _ _;refine ja (λk:Nat=>⟨mkV [(0,msA p),(1,msA q),(21,.one (.lit (.int .i64 q.length))),(22,.one (.lit (.int .i64 k)))],mkH []⟩) (λk=>k<=q.length/\∀i,i<k->smX p q i=true) (λk=>q.length-k) 0 ?_ ?_ ?_
  .exact qa (by simp [bitvec_to_nat,msA,ms]) trivial
  .exact⟨Nat.zero_le _,λi hi=>absurd hi (Nat.not_lt_zero _)⟩
  .rintro k ⟨hk',hall⟩;by_cases hlt:k<q.length
   .obtain⟨x,hx⟩:∃x,p.getD k mo0=x:=⟨_,rfl⟩;obtain⟨y,hy⟩:∃y,q.getD k mo0=y:=⟨_,rfl⟩;obtain⟨x0,hx0⟩:∃x,p.getD 0 mo0=x:=⟨_,rfl⟩;obtain⟨y0,hy0⟩:∃y,q.getD 0 mo0=y:=⟨_,rfl⟩;have hltp:k<p.length:=by omega
    have hxm:=List.mem_of_getElem? (getDm hltp hx);have hym:=List.mem_of_getElem? (getDm hlt hy);have hx0m:=List.mem_of_getElem? (getDm (show 0<p.length by omega) hx0)
    have hy0m:=List.mem_of_getElem? (getDm (show 0<q.length by omega) hy0)
    have e:smX p q k=(decide (kM x=kM y) && decide (rv x.2.2*rv y0.2.2=rv y.2.2*rv x0.2.2)):=by unfold smX;rw [hx,hy,hx0,hy0]
    have wx:=hwp x hxm;have wy:=hwq y hym;have wx3:=wx.2.2;have wy3:=wy.2.2;have wx0:=(hwp x0 hx0m).2.2;have wy0:=(hwq y0 hy0m).2.2;have jx:=i1 x hxm;have jy:=i2 y hym;have rx:=hrp x hxm;have ry:=hrq y hym;have rx0:=hrp x0 hx0m;have ry0:=hrq y0 hy0m;have p0:0<p.length:=by omega
    have q0:0<q.length:=by omega
    have hkq:=ybD jx jy;by_cases he1:x.1=y.1
    case neg=>
     rw [decide_eq_false (λh=>he1 (hkq.1 h).1),Bool.false_and]at e;rw [Zai hltp e]at hK;simp only [go_sem,hlt,hltp,hx,hy,mC,hm,hcm,he1];repeat refine q_Wr ?_
     exact hK
    by_cases he2:x.2.1=y.2.1
    case neg=>
     rw [decide_eq_false (λh=>he2 (hkq.1 h).2),Bool.false_and]at e;rw [Zai hltp e]at hK;simp only [go_sem,hlt,hltp,hx,hy,mC,hm,hcm,he1,he2];repeat refine q_Wr ?_
     exact hK
    have hkm:kM x=kM y:=hkq.2 ⟨he1,he2⟩;have z1:=kk (rv x.2.2) (rv y0.2.2);have z2:=kk (rv y.2.2) (rv x0.2.2);have z3:=vt wx3;have z4:=vt wy3;have z5:=vt wx0;have z6:=vt wy0;have z7:rz (rv x.2.2*rv y0.2.2)<=1073741824:=by omega
    have z8:rz (rv y.2.2*rv x0.2.2)<=1073741824:=by omega
    have rx4:rl x.2.2<=4294967296:=by omega
    have ry4:rl y.2.2<=4294967296:=by omega
    have rx04:rl x0.2.2<=4294967296:=by omega
    have ry04:rl y0.2.2<=4294967296:=by omega
    rw [decide_eq_true hkm,Bool.true_and]at e;by_cases hcr:rv x.2.2*rv y0.2.2=rv y.2.2*rv x0.2.2
    case neg=>
     rw [decide_eq_false hcr]at e;rw [Zai hltp e]at hK;have hc0:¬ordQ (rv x.2.2*rv y0.2.2) (rv y.2.2*rv x0.2.2)=0:=λh=>hcr (Ve.1 h);simp only [go_sem,hlt,hltp,hx,hy,hx0,hy0,mC,hm,hcm,he1,he2,hc0];repeat refine q_Wr ?_
     exact hK
    rw [decide_eq_true hcr]at e;have hc0:ordQ (rv x.2.2*rv y0.2.2) (rv y.2.2*rv x0.2.2)=0:=Ve.2 hcr;simp only [go_sem,hlt,hltp,hx,hy,hx0,hy0,mC,hm,hcm,he1,he2,hc0];refine⟨by decide,q0,wx3,wy0,rx4,ry04,by decide,p0,wy3,wx0,ry4,rx04,z7,z8,by omega,k+1,qa (by simp [bitvec_to_nat,msA,ms]) trivial,⟨by omega,λi hi=>?_⟩,by omega⟩
    by_cases hik:i=k
    .rw [hik];exact e
    .exact hall i (by omega)
   .rw [Vbp hle λi hi=>hall i (by omega)]at hK
    refine(?_:∀R,wpA Γ (.seq (.ops false [⟨some 23,none,.bin .lss (.t 22) (.t 21)⟩]) (.fg [0,1,21,22,23] (.seq (.cond (.t 23) .skip (.exit 0)) (.fg [0,1,21,22] R)))) _ _) _;intro R;simp only [go_sem,hlt];exact hK
end Go.Abs
end
