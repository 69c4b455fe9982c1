/-
  Parts of the proof, merged: BipH, BipU, CogT, BipT, BipV, BipW, IntC, IntD, IntE, IntF.
-/
import Derived.Test.YthoibmokhnoccaaGreatDoorM11
import Derived.Lib.Join
set_option linter.unusedVariables false
set_option linter.unusedSimpArgs false
set_option maxRecDepth 100000
section
namespace Go.Num
open Go.Abs
def erC(p q:List Mo):Nat:=if chk2 p q≠0 then chk2 p q else if p=[]∨q=[] then 8 else if 8<topY (p.map mv)+topY (q.map mv)-2∨64<degM p*degM q then 4 else 0
end Go.Num
namespace Go.Abs
open Go.Num
variable {P:Program} {Γ:Nat->Spec}
theorem qac(l:List Rat):plC l=[.slice ((l.map rcan).map rC)]:=eq_of_heq (HEq.refl _)
theorem Xa3(l:List Rat):(plC l).length=1:=eq_of_heq (HEq.refl _)
theorem Xaz(K:List C->Prop)(L:PL)(i:Nat):getE K (L.map plC) i=(i<L.length/\K (plC (L.getD i []))):=by
 simp only [getE,List.length_map,List.getElem?_map];refine propext ⟨λh=>⟨h.1,h.2 _ (by simp [h.1,List.getD_eq_getElem?_getD])⟩,λh=>⟨h.1,λe he=>?_⟩⟩
 simp [h.1]at he;subst he;have:=h.2;simpa [List.getD_eq_getElem?_getD,h.1] using this
theorem QG(L:PL):CleanR (L.map plC)=True:=eq_true λe he c hc=>by
 obtain⟨l,_,rfl⟩:=List.mem_map.1 he;rw [qac,List.mem_singleton]at hc;subst hc;exact of_eq_true (kD _)
theorem ua6(L:PL):(∀e∈L.map plC,e.length=1)=True:=eq_true λe he=>by
 obtain⟨l,_,rfl⟩:=List.mem_map.1 he;rfl
theorem uW(L:PL):Clean (.slice (L.map plC))=True:=eq_true (.slice _ (of_eq_true (QG L)))
attribute [go_sem,go_sem ↓] Xa3 Xaz QG ua6 uW
theorem qbF{a b ver:Nat}(L:List Rat):swB a b ⟨ver,some ⟨(L.map rcan).map rC,3,true⟩⟩=⟨ver,some ⟨(L.map rcan).map rC,3,true⟩⟩:=by
 unfold swB;simp only [Option.map_some,HB.mk.injEq,Option.some.injEq,Blk.mk.injEq,and_true,true_and];rw [List.map_map];exact List.map_congr_left λj _=>rfl
def valC(t:Nat):C:=if t=0 then .emp else .own 99 1 3 0 t
def valB(t:Nat)(L:List Rat):HB:=if t=0 then ⟨0,none⟩ else ⟨1,some ⟨((L.take t).map rcan).map rC,3,true⟩⟩
theorem QU{h h' : Nat->HB}{t:Nat}{L:List Rat}{b:HB}(e:t≠0->b.blk=some ⟨((L.take t).map rcan).map rC,3,true⟩):okB h h' b.blk (valB t L).blk:=by
 unfold valB;by_cases h:t=0
 .rw [if_pos h];cases b.blk <;> trivial
 .rw [if_neg h,e h];exact Zn rfl
theorem Jal(L:List Rat)(x:Rat):(L.map rcan).map rC++[[cb (rcan x),cn (rcan x),cd (rcan x)]]=((L++[x]).map rcan).map rC:=by simp [rC]
def yv(tE:Nat)(l:List AV)(K:AV->Prop):Prop:=
 match l with
 | [a,b]=>onMs (λp=>onMs (λq=>(∀t∈p,rl t.2.2<=1000000)/\(∀t∈q,rl t.2.2<=1000000)/\(erC p q=0->degM p*degM q<=9/\SmE (p.map mv) (q.map mv))/\K (.tup [.one (.slice (((if erC p q=0 then elL (p.map mv) (q.map mv) else []).map rcan).map rC)),errV tE (erC p q)])) b) a
 | _=>False
theorem yax tE a b K:yv tE [a,b] K=(onMs (λp=>onMs (λq=>(∀t∈p,rl t.2.2<=1000000)/\(∀t∈q,rl t.2.2<=1000000)/\(erC p q=0->degM p*degM q<=9/\SmE (p.map mv) (q.map mv))/\K (.tup [.one (.slice (((if erC p q=0 then elL (p.map mv) (q.map mv) else []).map rcan).map rC)),errV tE (erC p q)])) b) a):=propext Iff.rfl
@[congr] theorem JbN tE{K}{l l'}(h:l=l'):yv tE l K=yv tE l' K:=by subst h;rfl
attribute [go_sem,go_sem ↓] yax
theorem UaE(tE:Nat):Good (yv tE):=Ja λas=>by
 unfold yv;split
 .exact(yg λ_=>(yg λ_=>(.and λ_=>(.and λ_=>(.and λ_=>(.ret _))))))
 .exact .of λK hk=>hk.elim
def wb(f0 f1 f2 f3 f4 f5 f6 tE:Nat):AC:=(.o [.m 4 (.c (.one .emp)),.m 5 (.c (.one (.lit .nilIface)))] [0,1] (.f (.o [.M 22 0,.M 23 1,.u 24 (.row 1 [[.x 1 (.t 22)],[.x 1 (.t 23)]]),.H 25 f0 24,.M 6 25] [0,1,6] (.o [.M 26 6,.R 27 26] [0,1,6,27] (.cond (.t 27) (.seq (.p [.M 28 6,.m 4 (.c (.one .emp)),.M 5 28]) .ret) .skip))) [0,1] (.f (.o [.M 29 0,.Z 30 29,.I 31 .eql 30 0,.M 32 31,.V 33 32 false 1,.w 34 32 false (.len (.t 33)),.w 35 32 false (.bin .eql (.t 34) (.i 0)),.Q 36 32 35] [0,1,36] (.cond (.t 36) (.seq (.p [.u 37 (.iface tE (.i 8)),.m 4 (.c (.one .emp)),.M 5 37]) .ret) .skip)) [0,1] (.o [.M 38 0,.H 39 f1 38,.M 40 1,.H 41 f1 40,.M 7 39,.M 8 41] [0,1,7,8] (.f (.o [.M 42 7,.Z 43 42,.M 44 8,.Z 45 44,.B 46 .add 43 45,.I 47 .sub 46 2,.I 48 .gtr 47 8,.M 49 48,.V 50 49 false 0,.W 51 49 false f2 50,.V 52 49 false 1,.W 53 49 false f2 52,.w 54 49 false (.bin .mul (.t 51) (.t 53)),.w 55 49 false (.bin .gtr (.t 54) (.i 64)),.Q 56 49 55] [0,1,7,8,56] (.cond (.t 56) (.seq (.p [.u 57 (.iface tE (.i 4)),.m 4 (.c (.one .emp)),.M 5 57]) .ret) .skip)) [0,1,7,8] (.o [.m 9 (.c (.one .emp)),.m 10 (.c (.one .emp))] [0,1,7,8,9,10] (.f (.o [.M 58 0,.H 59 f2 58,.M 60 1,.H 61 f2 60,.B 62 .mul 59 61,.I 63 .add 62 1,.N 64 0] [7,8,9,10,63,64] (.block 0 (.loop (.o [.B 65 .lss 64 63] [7,8,9,10,63,64,65] (.f (.cond (.t 65) .skip (.exit 0)) [7,8,9,10,63,64] (.f (.block 1 (.o [.M 66 64,.M 11 66] [7,8,9,10,11,63,64] (.o [.M 67 11,.H 68 f3 67,.G 12 [.z,.emp,.emp],.S 3 12 68] [7,8,9,10,12,63,64] (.o [.G 13 [.emp,.emp]] [7,8,9,10,12,13,63,64] (.f (.o [.M 69 7,.M 70 8,.u 71 (.row 1 [[.x 1 (.t 69)],[.x 1 (.t 70)]]),.Z 72 71,.N 73 0] [7,8,9,10,12,13,63,64,71,72,73] (.block 2 (.loop (.o [.B 74 .lss 73 72] [7,8,9,10,12,13,63,64,71,72,73,74] (.f (.cond (.t 74) .skip (.exit 2)) [7,8,9,10,12,13,63,64,71,72,73] (.f (.block 3 (.o [.M 75 73,.J 76 1 71 73,.F 77 1 76,.M 14 75,.M 15 77] [7,8,9,10,12,13,14,15,63,64,71,72,73] (.o [.M 78 15,.Z 79 78,.N 80 0] [7,8,9,10,12,13,14,63,64,71,72,73,78,79,80] (.block 4 (.loop (.o [.B 81 .lss 80 79] [7,8,9,10,12,13,14,63,64,71,72,73,78,79,80,81] (.f (.cond (.t 81) .skip (.exit 4)) [7,8,9,10,12,13,14,63,64,71,72,73,78,79,80] (.f (.block 5 (.o [.J 82 1 78 80,.F 83 1 82,.M 17 83] [7,8,9,10,12,13,14,17,63,64,71,72,73,78,79,80] (.o [.M 85 17,.L 86 3 12,.D 87 f4 85 86,.M 84 87,.X 88 0 84,.X 89 1 84,.G 18 [.z,.emp,.emp],.S 3 18 88,.M 19 89] [7,8,9,10,12,13,14,18,19,63,64,71,72,73,78,79,80] (.f (.o [.M 90 19,.R 91 90] [7,8,9,10,12,13,14,18,19,63,64,71,72,73,78,79,80,91] (.cond (.t 91) (.seq (.p [.M 92 19,.m 4 (.c (.one .emp)),.M 5 92]) .ret) .skip)) [7,8,9,10,12,13,14,18,63,64,71,72,73,78,79,80] (.y [.M 93 14,.M 94 14,.u 95 (.ai 1 2 (.t 13) (.t 94)),.F 96 1 95,.L 97 3 18,.u 98 (.row 3 [[.x 3 (.t 97)]]),.u 99 (.app 3 (.t 96) (.t 98)),.u 100 (.ai 1 2 (.t 13) (.t 93)),.S 1 100 99]))))) [7,8,9,10,12,13,14,63,64,71,72,73,78,79,80] (.p [.I 101 .add 80 1,.M 80 101]))))))))) [7,8,9,10,12,13,63,64,71,72,73] (.p [.I 102 .add 73 1,.M 73 102]))))))) [7,8,9,10,12,13,63,64] (.o [.u 104 (.ai 1 2 (.t 13) (.i 0)),.F 105 1 104,.u 106 (.ai 1 2 (.t 13) (.i 1)),.F 107 1 106,.D 108 f5 105 107,.M 103 108,.X 109 0 103,.X 110 1 103,.G 20 [.z,.emp,.emp],.S 3 20 109,.M 21 110] [7,8,9,10,12,20,21,63,64] (.f (.o [.M 111 21,.R 112 111] [7,8,9,10,12,20,21,63,64,112] (.cond (.t 112) (.seq (.p [.M 113 21,.m 4 (.c (.one .emp)),.M 5 113]) .ret) .skip)) [7,8,9,10,12,20,63,64] (.y [.M 114 9,.u 115 (.ld (some 12) 3 true (.t 12)),.u 116 (.row 3 [[.x 3 (.t 115)]]),.u 117 (.appb 117 3 (.t 114) (.t 116)),.M 118 10,.u 119 (.ld (some 20) 3 true (.t 20)),.u 120 (.row 3 [[.x 3 (.t 119)]]),.u 121 (.appb 121 3 (.t 118) (.t 120)),.M 9 117,.M 10 121])))))))) [7,8,9,10,63,64] (.p [.I 122 .add 64 1,.M 64 122]))))))) [9,10] (.seq (.p [.M 123 9,.M 124 10,.D 125 f6 123 124,.X 126 0 125,.X 127 1 125,.M 4 126,.M 5 127]) .ret))))))))
theorem kae(hΓ:Holds P Γ){f fk fr fd fo fe fv ft tE:Nat}(hk:Γ fk=.dat false (xe tE))(hr:Γ fr=.dat false Yu)(hd:Γ fd=.dat true xq)(ho:Γ fo=.dat false Xx)(he:Γ fe=.dat false (Zs tE))(hvl:Γ fv=.dat false (zo tE))(ht:Γ ft=.dat false (Qv tE))(hc:check P f=some (128,(wb fk fr fd fo fe fv ft tE).strip,[.tmp 4,.tmp 5])):Sound P f (.dat false (yv tE)):=by
 refine Qa hc (UaE tE) hΓ (λargs K hcl hfi hG=>?_);match args,hG with
 | [a0,a1],hG=>
  obtain⟨p,rfl,hwp,q,rfl,hwq,hrp,hrq,hside,hK⟩:=hG;refine⟨by simp,?_⟩
  have hrp4:∀t∈p,rl t.2.2<=4294967296:=λt ht=>Nat.le_trans (hrp t ht) (by decide)
  have hrq4:∀t∈q,rl t.2.2<=4294967296:=λt ht=>Nat.le_trans (hrq t ht) (by decide)
  by_cases h0:chk2 p q=0
  case neg=>
   have ec:erC p q=chk2 p q:=if_pos h0;rw [ec,if_neg h0,We tE h0]at hK;have e1:=We tE h0;simp only [go_sem,wb,hk,e1,ms];exact⟨⟨hwp,hwq⟩,hrp4,hrq4,hK⟩
  have e0:=Wd tE;obtain⟨c1,c2⟩:=uaa h0;have ec:erC p q=if p=[]∨q=[] then 8 else if 8<topY (p.map mv)+topY (q.map mv)-2∨64<degM p*degM q then 4 else 0:=if_neg (by simp [h0])
  by_cases hp0:p=[]
  .rw [if_pos (.inl hp0)]at ec;rw [ec,if_neg (by decide),We tE (by decide)]at hK
   have l0:p.length=0:=List.length_eq_zero_iff.2 hp0;simp only [go_sem,wb,hk,h0,e0,ms,l0];exact⟨⟨hwp,hwq⟩,hrp4,hrq4,hK⟩
  have lp0:p.length≠0:=λe=>hp0 (List.length_eq_zero_iff.1 e);have lp0' : ¬(p.length:Int)=0:=by omega
  by_cases hq0:q=[]
  .rw [if_pos (.inr hq0)]at ec;rw [ec,if_neg (by decide),We tE (by decide)]at hK
   have l0:q.length=0:=List.length_eq_zero_iff.2 hq0;simp only [go_sem,wb,hk,h0,e0,ms,l0,lp0'];refine⟨⟨hwp,hwq⟩,?_⟩;repeat first | refine q_Wk ?_ | intro _
   exact hK
  have lq0:q.length≠0:=λe=>hq0 (List.length_eq_zero_iff.1 e);have lq0' : ¬(q.length:Int)=0:=by omega
  rw [if_neg (λh=>h.elim hp0 hq0)]at ec;obtain⟨canp,mcp⟩:=yp c1 hwp;obtain⟨canq,mcq⟩:=yp c2 hwq;obtain⟨i1,_,l1⟩:=ym c1 hwp;obtain⟨i2,_,l2⟩:=ym c2 hwq;have hrp9:∀t∈p,rl t.2.2<=4000000000:=λt ht=>Nat.le_trans (hrp t ht) (by decide)
  have hrq9:∀t∈q,rl t.2.2<=4000000000:=λt ht=>Nat.le_trans (hrq t ht) (by decide)
  have t1:=yaj canp.ins;have t2:=yaj canq.ins;have t3:=xas (p:=p.map mv) (by simpa using hp0)
  have t4:=xas (p:=q.map mv) (by simpa using hq0)
  have la:=Jt (p.map mv);have lb:=Jt (q.map mv);have d1:=vC canp;have d2:=vC canq;have d3:=qI canp (by simpa using hp0)
  have d4:=qI canq (by simpa using hq0)
  rw [<-Qh,mcp]at d1 d3;rw [<-Qh,mcq]at d2 d4;obtain⟨dp,hdp⟩:=Int.eq_ofNat_of_zero_le d3;obtain⟨dq,hdq⟩:=Int.eq_ofNat_of_zero_le d4;have hdpq:degM p*degM q=((dp*dq:Nat):Int):=by rw [hdp,hdq,Int.natCast_mul]
  have hdpq' : (dp:Int)*(dq:Int)=((dp*dq:Nat):Int):=(Int.natCast_mul ..).symm;have hdpq24:dp*dq<=24*24:=Nat.mul_le_mul (by omega) (by omega)
  obtain⟨a,ha⟩:∃a,topY (p.map mv)=a:=⟨_,rfl⟩;obtain⟨b,hb⟩:∃b,topY (q.map mv)=b:=⟨_,rfl⟩;rw [ha]at t1 t3 la;rw [hb]at t2 t4 lb;rw [ha,hb,hdpq]at ec;have lenpq:((rowsP (p.map mv)).length:Int)+((rowsP (q.map mv)).length:Int)-2=((a+b-2:Nat):Int):=by omega
  by_cases h8:8<a+b-2
  .have h8' : (8:Int)<((a+b:Nat):Int)-2:=by omega
   rw [if_pos (.inl h8)]at ec;rw [ec,if_neg (by decide),We tE (by decide)]at hK
   simp only [go_sem,wb,hk,hr,hd,h0,c1,c2,e0,ms,lp0',lq0',lenpq,hdp,hdq,hdpq',la,lb,h8'];refine⟨⟨hwp,hwq⟩,?_⟩;repeat first | refine q_Wk ?_ | intro _
   exact hK
  have h8' : ¬(8:Int)<((a+b:Nat):Int)-2:=by omega
  by_cases h64:64<dp*dq
  .have h64' : (64:Int)<((dp*dq:Nat):Int):=by omega
   rw [if_pos (.inr h64')]at ec;rw [ec,if_neg (by decide),We tE (by decide)]at hK
   simp only [go_sem,wb,hk,hr,hd,h0,c1,c2,e0,ms,lp0',lq0',lenpq,hdp,hdq,hdpq',la,lb,h8',h64'];refine⟨⟨hwp,hwq⟩,?_⟩;repeat first | refine q_Wk ?_ | intro _
   exact hK
  have h64' : ¬(64:Int)<((dp*dq:Nat):Int):=by omega
  rw [if_neg (λh=>h.elim h8 h64')]at ec;obtain⟨hd9,hsm⟩:=hside ec;rw [hdpq]at hd9;rw [ec,if_pos rfl,e0]at hK;simp only [go_sem,wb,hk,hr,hd,h0,c1,c2,e0,ms,lp0',lq0',lenpq,hdp,hdq,hdpq',la,lb,h8',h64'];refine⟨⟨hwp,hwq⟩,?_⟩;repeat first | refine q_Wk ?_ | intro _
  obtain⟨n,hn⟩:∃n,dp*dq+1=n:=⟨_,rfl⟩;rw [hn];have hn10:n<=10:=by omega
  obtain⟨pq,hpq⟩:∃u,p.map mv=u:=⟨_,rfl⟩;obtain⟨qq,hqq⟩:∃u,q.map mv=u:=⟨_,rfl⟩;rw [hpq,hqq]at hK ⊢;rw [hpq]at la canp ha;rw [hqq]at lb canq hb;rw [hpq,hqq]at hsm;obtain⟨D,E,hD0,hDw,hEw,bp,bq⟩:=hsm;refine ja (λk:Nat=>⟨mkV [(7,.one (.slice ((rowsP pq).map plC))),(8,.one (.slice ((rowsP qq).map plC))),(9,if k=0 then .one .emp else .one (.own 117 1 3 0 k)),(10,if k=0 then .one .emp else .one (.own 121 1 3 0 k)),(63,.one (.lit (.int .i64 n))),(64,.one (.lit (.int .i64 k)))],mkH (if k=0 then [] else [(117,⟨1,some ⟨((xsn k).map rcan).map rC,3,true⟩⟩),(121,⟨1,some ⟨((ysE pq qq k).map rcan).map rC,3,true⟩⟩)])⟩) (λk=>k<=n) (λk=>n-k) 0 ?_ ?_ ?_
  .exact qa (by simp [bitvec_to_nat]) trivial
  .exact Nat.zero_le _
  .intro k hkn;obtain⟨s9,hs9⟩:∃s:AV,(if k=0 then .one .emp else .one (.own 117 1 3 0 k))=s:=⟨_,rfl⟩
   obtain⟨s10,hs10⟩:∃s:AV,(if k=0 then .one .emp else .one (.own 121 1 3 0 k))=s:=⟨_,rfl⟩
   obtain⟨Z,hZ⟩:∃Z:List (Nat×HB),(if k=0 then [] else [(117,⟨1,some ⟨((xsn k).map rcan).map rC,3,true⟩⟩),(121,⟨1,some ⟨((ysE pq qq k).map rcan).map rC,3,true⟩⟩)])=Z:=⟨_,rfl⟩
   rw [hs9,hs10,hZ];have zno:∀r,r≠117->r≠121->mkH Z r=⟨0,none⟩:=λr h1 h2=>by
    rw [<-hZ];split
    .rfl
    .rw [za,if_neg h1,za,if_neg h2];rfl
   have zv:∀h h',h 117=mkH Z 117->h' 117=mkH Z 117->h 121=mkH Z 121->h' 121=mkH Z 121->okV h h' s9 s9/\okV h h' s10 s10:=λh h' h1 h2 h3 h4=>by
    rw [<-hZ]at h1 h2 h3 h4;rw [<-hs9,<-hs10];by_cases k0:k=0
    .rw [if_pos k0,if_pos k0];exact⟨trivial,trivial⟩
    .rw [if_neg k0]at h1 h2 h3 h4;rw [if_neg k0,if_neg k0];simp [za,-List.map_map]at h1 h2 h3 h4;simp [okV,okC,h1,h2,h3,h4]
   have z3:∀(h h' : Nat->HB) (R:Prop),h 117=mkH Z 117->h' 117=mkH Z 117->h 121=mkH Z 121->h' 121=mkH Z 121->R->okV h h' s9 s9/\okV h h' s10 s10/\R:=λh h' R h1 h2 h3 h4 r=>⟨(zv h h' h1 h2 h3 h4).1,(zv h h' h1 h2 h3 h4).2,r⟩;have zh:∀h h',h 117=mkH Z 117->h 121=mkH Z 121->okH h h' Z:=λh h' h1 h2=>by
    rw [<-hZ]at h1 h2 ⊢;by_cases k0:k=0
    .rw [if_pos k0];trivial
    .rw [if_neg k0]at h1 h2 ⊢;simp [za,-List.map_map]at h1 h2;refine⟨?_,?_,trivial⟩
     .rw [h1];exact Zn rfl
     .rw [h2];exact Zn rfl
   by_cases hlt:k<n
   .have hlt' : (k:Int)<(n:Int):=by omega
    have z12:=zno 12 (by decide) (by decide)
    have z13:=zno 13 (by decide) (by decide)
    have z18:=zno 18 (by decide) (by decide)
    have z20:=zno 20 (by decide) (by decide)
    have z99:=zno 99 (by decide) (by decide)
    simp only [go_sem,hlt',z12,z13,ho,Rat.intCast_natCast];repeat first | refine q_Wk ?_ | intro _
    obtain⟨va,hva⟩:∃l,(rowsP pq).map (λl=>hv l (k:Rat))=l:=⟨_,rfl⟩;obtain⟨vb,hvb⟩:∃l,(rowsP qq).map (λl=>hv l (k:Rat))=l:=⟨_,rfl⟩;have lva:va.length=a:=by rw [<-hva,List.length_map,la]
    have lvb:vb.length=b:=by rw [<-hvb,List.length_map,lb]
    have sw9:swA 99 500 s9=s9/\swA 99 500 s10=s10/\swK 99 500 Z=Z:=by
     rw [<-hs9,<-hs10,<-hZ];by_cases k0:k=0
     .simp only [if_pos k0];exact⟨rfl,rfl,rfl⟩
     .simp only [if_neg k0];refine⟨rfl,rfl,?_⟩;simp only [vaO,wbx,qbF];rfl
    refine xaz 2 ⟨mkV [(9,s9),(10,s10),(7,.one (.slice ((rowsP pq).map plC))),(8,.one (.slice ((rowsP qq).map plC))),(12,.one (.ptr 12 1 0 0)),(13,.one (.ptr 13 1 0 0)),(63,.one (.lit (.int .i64 n))),(64,.one (.lit (.int .i64 k))),(71,.one (.full [[.slice ((rowsP pq).map plC)],[.slice ((rowsP qq).map plC)]])),(72,.one (.lit (.int .i64 2))),(73,.one (.lit (.int .i64 0)))],mkH ((13,⟨1,some ⟨[[.emp,.emp]],2,true⟩⟩)::(12,⟨1,some ⟨[[cb (rcan (k:Rat)),cn (rcan (k:Rat)),cd (rcan (k:Rat))]],3,true⟩⟩)::Z)⟩ ?_ ?_
    .have z:=zv (mkH ((13,⟨1,some ⟨[[.emp,.emp]],2,true⟩⟩)::(12,⟨1,some ⟨[[cb (rcan (k:Rat)),cn (rcan (k:Rat)),cd (rcan (k:Rat))]],3,true⟩⟩)::(12,⟨1,some ⟨[[.lit (.bool false),.emp,.emp]],3,true⟩⟩)::Z)) (mkH ((13,⟨1,some ⟨[[.emp,.emp]],2,true⟩⟩)::(12,⟨1,some ⟨[[cb (rcan (k:Rat)),cn (rcan (k:Rat)),cd (rcan (k:Rat))]],3,true⟩⟩)::Z)) (by simp [za]) (by simp [za]) (by simp [za]) (by simp [za])
     refine qa ?_ ⟨⟨⟨rfl,rfl⟩,.inr (by simp [bitvec_to_nat])⟩,Qd,zh _ _ (by simp [za]) (by simp [za])⟩
     simp only [okS,Jo,Nat.reduceEqDiff,if_false,if_true];exact⟨z.1,z.2,by simp [bitvec_to_nat]⟩
    .simp only [go_sem,Int.reduceLT,decide_true];repeat first | refine q_Wk ?_ | intro _
     refine ja (λt:Nat=>⟨mkV [(9,s9),(10,s10),(7,.one (.slice ((rowsP pq).map plC))),(8,.one (.slice ((rowsP qq).map plC))),(12,.one (.ptr 12 1 0 0)),(13,.one (.ptr 13 1 0 0)),(14,.one (.lit (.int .i64 0))),(63,.one (.lit (.int .i64 n))),(64,.one (.lit (.int .i64 k))),(71,.one (.full [[.slice ((rowsP pq).map plC)],[.slice ((rowsP qq).map plC)]])),(72,.one (.lit (.int .i64 2))),(73,.one (.lit (.int .i64 0))),(78,.one (.slice ((rowsP pq).map plC))),(79,.one (.lit (.int .i64 a))),(80,.one (.lit (.int .i64 t)))],mkH ((13,⟨1,some ⟨[[valC t,.emp]],2,true⟩⟩)::(12,⟨1,some ⟨[[cb (rcan (k:Rat)),cn (rcan (k:Rat)),cd (rcan (k:Rat))]],3,true⟩⟩)::(99,valB t va)::Z)⟩) (λt=>t<=a) (λt=>a-t) 0 ?_ ?_ ?_
     .have z:=zv (mkH ((13,⟨1,some ⟨[[.emp,.emp]],2,true⟩⟩)::(12,⟨1,some ⟨[[cb (rcan (k:Rat)),cn (rcan (k:Rat)),cd (rcan (k:Rat))]],3,true⟩⟩)::Z)) (mkH ((13,⟨1,some ⟨[[valC 0,.emp]],2,true⟩⟩)::(12,⟨1,some ⟨[[cb (rcan (k:Rat)),cn (rcan (k:Rat)),cd (rcan (k:Rat))]],3,true⟩⟩)::(99,valB 0 va)::Z)) (by simp [za]) (by simp [za]) (by simp [za]) (by simp [za])
      refine qa ?_ ⟨⟨⟨rfl,rfl⟩,.inr (by simp [bitvec_to_nat,valC])⟩,Qd,QU (λh=>(h rfl).elim),zh _ _ (by simp [za]) (by simp [za])⟩
      simp only [okS,Jo,Nat.reduceEqDiff,if_false,if_true];exact⟨z.1,z.2,by simp [bitvec_to_nat,la]⟩
     .exact Nat.zero_le _
     .intro t hta;by_cases htl:t<a
      .have htl' : (t:Int)<(a:Int):=by omega
       obtain⟨c,hcc⟩:∃c,(rowsP pq).getD t []=c:=⟨_,rfl⟩;have hcm:c∈rowsP pq:=by
        rw [<-hcc,List.getD_eq_getElem?_getD,List.getElem?_eq_getElem (by omega)]
        exact List.getElem_mem _
       obtain⟨tc1,tc2⟩:=kP hcm;have rc:=zaV hD0 hDw hEw canp bp hcm;have rc6:∀x∈c,rz x<=1000000:=λx hx=>Nat.le_trans (rc x hx) (by decide)
       have rk:=Jx (k:=k) (by omega)
       obtain⟨y,hy⟩:∃y,hv c (k:Rat)=y:=⟨_,rfl⟩;have hvt:va.take (t+1)=va.take t++[y]:=by
        rw [List.take_add_one,<-hva,List.getElem?_map,<-hy,<-hcc,List.getD_eq_getElem?_getD,List.getElem?_eq_getElem (by omega)]
        rfl
       have c65:c.length<=65:=by omega
       rcases Nat.eq_zero_or_pos t with t0 | t0
       case' inl=>
        subst t0;have eC:valC 0=.emp:=rfl;have eB:valB 0 va=⟨0,none⟩:=rfl;rw [eC,eB];simp only [go_sem,htl,htl',qac,hcc,he,e0,rQ,hy,la,z18,Int.toNat_zero,Int.toNat_natCast];repeat first | refine q_Wk ?_ | intro _
       case' inr=>
        have eC:valC t=.own 99 1 3 0 t:=if_neg (by omega)
        have eB:valB t va=⟨1,some ⟨((va.take t).map rcan).map rC,3,true⟩⟩:=if_neg (by omega)
        have htk:(((va.take t).map rcan).map rC).take t=((va.take t).map rcan).map rC:=List.take_of_length_le (by rw [List.length_map,List.length_map,List.length_take];omega)
        have hlv:((va.take t).map rcan).length=t:=by rw [List.length_map,List.length_take];omega
        rw [eC,eB];simp only [go_sem,htl,htl',qac,hcc,he,e0,rQ,hy,la,z18,htk,hlv,List.length_map,Jal,Int.toNat_zero,Int.toNat_natCast];repeat first | refine q_Wk ?_ | intro _
       all_goals
        refine⟨λe he=>by rw [List.mem_singleton.1 he];rfl,?_⟩
        repeat first | refine q_Wk ?_ | intro _
       case' inl=>refine⟨0+1,?_,by omega,by omega⟩
       case' inr=>refine⟨t+1,?_,by omega,by omega⟩
       all_goals
        refine qa ?_ ⟨⟨⟨rfl,rfl⟩,.inr (by simp [bitvec_to_nat,valC,valB])⟩,Qd,QU (λ_=>?_),zh _ _ (by simp [za]) (by simp [za])⟩
        .simp only [okS,Jo,Nat.reduceEqDiff,if_false,if_true];refine z3 _ _ _ (by simp [za]) (by simp [za]) (by simp [za]) (by simp [za]) ?_
         simp [bitvec_to_nat]
        .rw [hvt];simp [za,rC]
      .have eta:t=a:=by omega
       have htl' : ¬(t:Int)<(a:Int):=by omega
       have eC:valC t=.own 99 1 3 0 a:=by rw [eta];exact if_neg (by omega)
       have eB:valB t va=⟨1,some ⟨(va.map rcan).map rC,3,true⟩⟩:=by
        rw [eta];unfold valB;rw [if_neg (by omega),List.take_of_length_le (by omega)]
       rw [eC,eB];simp only [go_sem,htl'];repeat first | refine q_Wk ?_ | intro _
       refine kaf ⟨mkV [(9,s9),(10,s10),(7,.one (.slice ((rowsP pq).map plC))),(8,.one (.slice ((rowsP qq).map plC))),(12,.one (.ptr 12 1 0 0)),(13,.one (.ptr 13 1 0 0)),(63,.one (.lit (.int .i64 n))),(64,.one (.lit (.int .i64 k))),(71,.one (.full [[.slice ((rowsP pq).map plC)],[.slice ((rowsP qq).map plC)]])),(72,.one (.lit (.int .i64 2))),(73,.one (.lit (.int .i64 1)))],mkH ((13,⟨1,some ⟨[[.own 500 1 3 0 a,.emp]],2,true⟩⟩)::(12,⟨1,some ⟨[[cb (rcan (k:Rat)),cn (rcan (k:Rat)),cd (rcan (k:Rat))]],3,true⟩⟩)::(500,⟨1,some ⟨(va.map rcan).map rC,3,true⟩⟩)::Z)⟩ ?_ ?_
       .have w:=YaQ (a:=99) (b:=500) ⟨by decide,by decide⟩ (v:=mkV ?_) (h:=mkH ?_) (l:=[(9,s9),(10,s10),(7,.one (.slice ((rowsP pq).map plC))),(8,.one (.slice ((rowsP qq).map plC))),(12,.one (.ptr 12 1 0 0)),(13,.one (.ptr 13 1 0 0)),(63,.one (.lit (.int .i64 n))),(64,.one (.lit (.int .i64 k))),(71,.one (.full [[.slice ((rowsP pq).map plC)],[.slice ((rowsP qq).map plC)]])),(72,.one (.lit (.int .i64 2))),(73,.one (.lit (.int .i64 1)))]) (k:=(13,⟨1,some ⟨[[.own 99 1 3 0 a,.emp]],2,true⟩⟩)::(12,⟨1,some ⟨[[cb (rcan (k:Rat)),cn (rcan (k:Rat)),cd (rcan (k:Rat))]],3,true⟩⟩)::(99,⟨1,some ⟨(va.map rcan).map rC,3,true⟩⟩)::Z) ⟨?_,?_⟩
        .have e1:swL 99 500 [(9,s9),(10,s10),(7,.one (.slice ((rowsP pq).map plC))),(8,.one (.slice ((rowsP qq).map plC))),(12,.one (.ptr 12 1 0 0)),(13,.one (.ptr 13 1 0 0)),(63,.one (.lit (.int .i64 n))),(64,.one (.lit (.int .i64 k))),(71,.one (.full [[.slice ((rowsP pq).map plC)],[.slice ((rowsP qq).map plC)]])),(72,.one (.lit (.int .i64 2))),(73,.one (.lit (.int .i64 1)))]=[(9,s9),(10,s10),(7,.one (.slice ((rowsP pq).map plC))),(8,.one (.slice ((rowsP qq).map plC))),(12,.one (.ptr 12 1 0 0)),(13,.one (.ptr 13 1 0 0)),(63,.one (.lit (.int .i64 n))),(64,.one (.lit (.int .i64 k))),(71,.one (.full [[.slice ((rowsP pq).map plC)],[.slice ((rowsP qq).map plC)]])),(72,.one (.lit (.int .i64 2))),(73,.one (.lit (.int .i64 1)))]:=by
          simp [QaW,xaP,sw9.1,sw9.2.1,qa2,ya3,qaO,xaV,ubE,QaI]
         have e2:swK 99 500 ((13,⟨1,some ⟨[[.own 99 1 3 0 a,.emp]],2,true⟩⟩)::(12,⟨1,some ⟨[[cb (rcan (k:Rat)),cn (rcan (k:Rat)),cd (rcan (k:Rat))]],3,true⟩⟩)::(99,⟨1,some ⟨(va.map rcan).map rC,3,true⟩⟩)::Z)=(13,⟨1,some ⟨[[.own 500 1 3 0 a,.emp]],2,true⟩⟩)::(12,⟨1,some ⟨[[cb (rcan (k:Rat)),cn (rcan (k:Rat)),cd (rcan (k:Rat))]],3,true⟩⟩)::(500,⟨1,some ⟨(va.map rcan).map rC,3,true⟩⟩)::Z:=by
          rw [vaO,vaO,vaO,sw9.2.2,qbF];rfl
         rw [e1,e2]at w;exact w
        .simp only [okS,Jo,Nat.reduceEqDiff,if_false,if_true];refine z3 _ _ _ (by simp [za]) (by simp [za]) (by simp [za]) (by simp [za]) ?_
         simp [bitvec_to_nat]
        .exact⟨⟨⟨rfl,rfl⟩,.inr (by simp [bitvec_to_nat])⟩,Qd,Zn rfl,zh _ _ (by simp [za]) (by simp [za])⟩
       .simp only [go_sem,Int.reduceLT,Int.reduceAdd,decide_true];repeat first | refine q_Wk ?_ | intro _
        refine ja (λt:Nat=>⟨mkV [(9,s9),(10,s10),(7,.one (.slice ((rowsP pq).map plC))),(8,.one (.slice ((rowsP qq).map plC))),(12,.one (.ptr 12 1 0 0)),(13,.one (.ptr 13 1 0 0)),(14,.one (.lit (.int .i64 1))),(63,.one (.lit (.int .i64 n))),(64,.one (.lit (.int .i64 k))),(71,.one (.full [[.slice ((rowsP pq).map plC)],[.slice ((rowsP qq).map plC)]])),(72,.one (.lit (.int .i64 2))),(73,.one (.lit (.int .i64 1))),(78,.one (.slice ((rowsP qq).map plC))),(79,.one (.lit (.int .i64 b))),(80,.one (.lit (.int .i64 t)))],mkH ((13,⟨1,some ⟨[[.own 500 1 3 0 a,valC t]],2,true⟩⟩)::(12,⟨1,some ⟨[[cb (rcan (k:Rat)),cn (rcan (k:Rat)),cd (rcan (k:Rat))]],3,true⟩⟩)::(500,⟨1,some ⟨(va.map rcan).map rC,3,true⟩⟩)::(99,valB t vb)::Z)⟩) (λt=>t<=b) (λt=>b-t) 0 ?_ ?_ ?_
        .refine qa ?_ ⟨⟨⟨rfl,rfl⟩,.inr (by simp [bitvec_to_nat,valC])⟩,Qd,Zn rfl,QU (λh=>(h rfl).elim),zh _ _ (by simp [za]) (by simp [za])⟩
         simp only [okS,Jo,Nat.reduceEqDiff,if_false,if_true];refine z3 _ _ _ (by simp [za]) (by simp [za]) (by simp [za]) (by simp [za]) ?_
         simp [bitvec_to_nat,lb]
        .exact Nat.zero_le _
        .clear eC eB htl' htl eta hta t;intro t htb;by_cases htl:t<b
         .have htl' : (t:Int)<(b:Int):=by omega
          obtain⟨c,hcc⟩:∃c,(rowsP qq).getD t []=c:=⟨_,rfl⟩;have hcm:c∈rowsP qq:=by
           rw [<-hcc,List.getD_eq_getElem?_getD,List.getElem?_eq_getElem (by omega)]
           exact List.getElem_mem _
          obtain⟨tc1,tc2⟩:=kP hcm;have rc:=zaV hD0 hDw hEw canq bq hcm;have rc6:∀x∈c,rz x<=1000000:=λx hx=>Nat.le_trans (rc x hx) (by decide)
          have rk:=Jx (k:=k) (by omega)
          obtain⟨y,hy⟩:∃y,hv c (k:Rat)=y:=⟨_,rfl⟩;have hvt:vb.take (t+1)=vb.take t++[y]:=by
           rw [List.take_add_one,<-hvb,List.getElem?_map,<-hy,<-hcc,List.getD_eq_getElem?_getD,List.getElem?_eq_getElem (by omega)]
           rfl
          have c65:c.length<=65:=by omega
          rcases Nat.eq_zero_or_pos t with t0 | t0
          case' inl=>
           subst t0;have eC:valC 0=.emp:=rfl;have eB:valB 0 vb=⟨0,none⟩:=rfl;rw [eC,eB];simp only [go_sem,htl,htl',qac,hcc,he,e0,rQ,hy,lb,z18,Int.reduceMul,Int.toNat_zero,Int.toNat_natCast];repeat first | refine q_Wk ?_ | intro _
          case' inr=>
           have eC:valC t=.own 99 1 3 0 t:=if_neg (by omega)
           have eB:valB t vb=⟨1,some ⟨((vb.take t).map rcan).map rC,3,true⟩⟩:=if_neg (by omega)
           have htk:(((vb.take t).map rcan).map rC).take t=((vb.take t).map rcan).map rC:=List.take_of_length_le (by rw [List.length_map,List.length_map,List.length_take];omega)
           have hlv:((vb.take t).map rcan).length=t:=by rw [List.length_map,List.length_take];omega
           rw [eC,eB];simp only [go_sem,htl,htl',qac,hcc,he,e0,rQ,hy,lb,z18,htk,hlv,List.length_map,Jal,Int.toNat_zero,Int.toNat_natCast];repeat first | refine q_Wk ?_ | intro _
          all_goals
           refine⟨λe he=>by rw [List.mem_singleton.1 he];rfl,?_⟩
           repeat first | refine q_Wk ?_ | intro _
          case' inl=>refine⟨0+1,?_,by omega,by omega⟩
          case' inr=>refine⟨t+1,?_,by omega,by omega⟩
          all_goals
           refine qa ?_ ⟨⟨⟨rfl,rfl⟩,.inr (by simp [bitvec_to_nat,valC,valB])⟩,Qd,Zn rfl,QU (λ_=>?_),zh _ _ (by simp [za]) (by simp [za])⟩
           .simp only [okS,Jo,Nat.reduceEqDiff,if_false,if_true];refine z3 _ _ _ (by simp [za]) (by simp [za]) (by simp [za]) (by simp [za]) ?_
            simp [bitvec_to_nat]
           .rw [hvt];simp [za,rC]
         .have eta:t=b:=by omega
          have htl' : ¬(t:Int)<(b:Int):=by omega
          have eC:valC t=.own 99 1 3 0 b:=by rw [eta];exact if_neg (by omega)
          have eB:valB t vb=⟨1,some ⟨(vb.map rcan).map rC,3,true⟩⟩:=by
           rw [eta];unfold valB;rw [if_neg (by omega),List.take_of_length_le (by omega)]
          rw [eC,eB];simp only [go_sem,htl'];repeat first | refine q_Wk ?_ | intro _
          refine kaf ⟨mkV [(9,s9),(10,s10),(7,.one (.slice ((rowsP pq).map plC))),(8,.one (.slice ((rowsP qq).map plC))),(12,.one (.ptr 12 1 0 0)),(13,.one (.ptr 13 1 0 0)),(63,.one (.lit (.int .i64 n))),(64,.one (.lit (.int .i64 k))),(71,.one (.full [[.slice ((rowsP pq).map plC)],[.slice ((rowsP qq).map plC)]])),(72,.one (.lit (.int .i64 2))),(73,.one (.lit (.int .i64 2)))],mkH ((13,⟨1,some ⟨[[.own 500 1 3 0 a,.own 99 1 3 0 b]],2,true⟩⟩)::(12,⟨1,some ⟨[[cb (rcan (k:Rat)),cn (rcan (k:Rat)),cd (rcan (k:Rat))]],3,true⟩⟩)::(500,⟨1,some ⟨(va.map rcan).map rC,3,true⟩⟩)::(99,⟨1,some ⟨(vb.map rcan).map rC,3,true⟩⟩)::Z)⟩ ?_ ?_
          .refine qa ?_ ⟨⟨⟨rfl,rfl⟩,.inr (by simp [bitvec_to_nat])⟩,Qd,Zn rfl,Zn rfl,zh _ _ (by simp [za]) (by simp [za])⟩
           simp only [okS,Jo,Nat.reduceEqDiff,if_false,if_true];refine z3 _ _ _ (by simp [za]) (by simp [za]) (by simp [za]) (by simp [za]) ?_
           simp [bitvec_to_nat]
          .have va0:va≠[]:=λe=>by rw [e]at lva;simp at lva;omega
           have vb0:vb≠[]:=λe=>by rw [e]at lvb;simp at lvb;omega
           have rva:=JbI (k:=k) hD0 hDw hEw (by omega) canp bp
           have rvb:=JbI (k:=k) hD0 hDw hEw (by omega) canq bq
           rw [hva]at rva;rw [hvb]at rvb;have hab:va.length+vb.length<=10:=by omega
           have rva' : ∀x∈va,rz x<=1000:=λx hx=>Nat.le_trans (rva x hx) (by decide)
           have rvb' : ∀x∈vb,rz x<=1000:=λx hx=>Nat.le_trans (rvb x hx) (by decide)
           have hval:resQ va vb=valE pq qq k:=by rw [<-hva,<-hvb];rfl
           have tka:((va.map rcan).map rC).take a=(va.map rcan).map rC:=List.take_of_length_le (by rw [List.length_map,List.length_map];omega)
           have tkb:((vb.map rcan).map rC).take b=(vb.map rcan).map rC:=List.take_of_length_le (by rw [List.length_map,List.length_map];omega)
           have a3:a<=va.length:=by omega
           have b3:b<=vb.length:=by omega
           simp only [go_sem,Int.reduceLT,Int.reduceAdd,decide_false,hvl,e0,rQ,hval,tka,tkb,List.length_map,lva,lvb,z20,Int.toNat_zero,Int.toNat_natCast];repeat first | refine q_Wk ?_ | intro _
           clear z3 zh zv zno sw9;subst hs9 hs10 hZ;have xl:=zaf k;have yl:=qaL pq qq k;by_cases hk0:k=0
           .simp only [if_pos hk0];simp only [go_sem];have ex:((xsn 0++[((0:Nat):Rat)]).map rcan).map rC=[[cb (rcan ((0:Nat):Rat)),cn (rcan ((0:Nat):Rat)),cd (rcan ((0:Nat):Rat))]]:=rfl;have ey:((ysE pq qq 0++[valE pq qq 0]).map rcan).map rC=[[cb (rcan (valE pq qq 0)),cn (rcan (valE pq qq 0)),cd (rcan (valE pq qq 0))]]:=rfl;subst hk0;refine⟨λe he=>by rw [List.mem_singleton.1 he];rfl,λe he=>by rw [List.mem_singleton.1 he];rfl,by omega,?_⟩
            refine⟨0+1,?_,by omega,by omega⟩
            rw [if_neg (by omega),if_neg (by omega),if_neg (by omega),<-uaV,<-QaX,ex,ey]
            refine qa (by simp [bitvec_to_nat]) ⟨?_,?_,trivial⟩
            .rw [<-ex];exact Zn (by rw [ex])
            .rw [<-ey];exact Zn (by rw [ey])
           .simp only [if_neg hk0];have tkx:(((xsn k).map rcan).map rC).take k=((xsn k).map rcan).map rC:=List.take_of_length_le (by rw [List.length_map,List.length_map];omega)
            have tky:(((ysE pq qq k).map rcan).map rC).take k=((ysE pq qq k).map rcan).map rC:=List.take_of_length_le (by rw [List.length_map,List.length_map];omega)
            simp only [go_sem,List.length_map,xl,yl,tkx,tky,Jal];refine⟨λe he=>by rw [List.mem_singleton.1 he];rfl,by omega,λe he=>by rw [List.mem_singleton.1 he];rfl,by omega,by omega,?_⟩
            refine⟨k+1,?_,by omega,by omega⟩
            rw [if_neg (by omega),if_neg (by omega),if_neg (by omega),<-uaV,<-QaX]
            exact qa (by simp [bitvec_to_nat]) ⟨Zn (by simp [za]),Zn (by simp [za]),trivial⟩
   .have ekn:k=n:=by omega
    have hlt' : ¬(k:Int)<(n:Int):=by omega
    have hk0:¬k=0:=by omega
    clear z3 zh zv zno;subst hs9 hs10 hZ;have hh8:topY pq-1+(topY qq-1)<=8:=by rw [ha,hb];omega
    have hy10:=qaL pq qq k;have hsml:=wbq (n:=k) canp canq ⟨D,E,hD0,hDw,hEw,bp,bq⟩ hh8 (by omega)
    have hry:∀x∈ysE pq qq k,rz x<=10000:=λx hx=>by
     unfold ysE at hx;obtain⟨j,hj,rfl⟩:=List.mem_map.1 hx;have:=qbv (k:=j) canp canq ⟨D,E,hD0,hDw,hEw,bp,bq⟩ hh8 (by have:=List.mem_range.1 hj;omega)
     omega
    have hthr:thr (ysE pq qq k)=elL pq qq:=by
     rw [ekn,<-hn];have g1:=Yz canp;have g2:=Yz canq;have e1:(degB pq).toNat=dp:=by rw [<-hpq,<-Qh,mcp,hdp];exact Int.toNat_natCast dp
     have e2:(degB qq).toNat=dq:=by rw [<-hqq,<-Qh,mcq,hdq];exact Int.toNat_natCast dq
     rw [e1]at g1;rw [e2]at g2;exact xbs canp.ins canq.ins g1 g2
    have xl:=zaf k;have k10:k<=10:=by omega
    have tkx:(((xsn k).map rcan).map rC).take k=((xsn k).map rcan).map rC:=List.take_of_length_le (by rw [List.length_map,List.length_map];omega)
    have tky:(((ysE pq qq k).map rcan).map rC).take k=((ysE pq qq k).map rcan).map rC:=List.take_of_length_le (by rw [List.length_map,List.length_map];omega)
    simp only [if_neg hk0];simp only [go_sem,hlt',List.length_map,xl,hy10,tkx,tky,ht,e0,hthr];repeat first | refine q_Wk ?_ | intro _
    exact hK
end Go.Abs
end
section
namespace Go.Num
open Go.Abs
def lowB(n d:Int)(x:R):Bool:=decide (x.2.1.length<2) && (decide (x.2.2.length<2) && ((decide (x.2.1.length=0) || decide ((x.2.1.getD 0 0:Int)<=n)) && (decide (x.2.2.length=0) || decide ((x.2.2.getD 0 0:Int)<=d))))
def lowR(x:R):Bool:=lowB 1000 60 x
def longM(p:List Mo):Bool:=decide (15<p.length) && decide (p.length<=325) || decide (400<p.length)
def shortM(p:List Mo):Bool:=!longM p && p.all λt=>lowR t.2.2
def vldM(p:List Mo):Bool:=shortM p && (decide (chkB p=0) && decide (degM p<=5))
end Go.Num
namespace Go.Abs
open Go.Num
variable {P:Program} {Γ:Nat->Spec}
theorem jE{α β:Type}{f:α->β}(hf:∀a b,f a=f b->a=b):∀{l m:List α},l.map f=m.map f->l=m
 | [],[],_=>rfl
 | [],_::_,h=>by simp at h
 | _::_,[],h=>by simp at h
 | x::l,y::m,h=>by
  simp only [List.map_cons,List.cons.injEq]at h;rw [hf x y h.1,jE hf h.2]
def mlA(L:List (List Mo)):AV:=.one (.slice (L.map λl=>[.slice (l.map mC)]))
theorem wbH{a b:List Mo}(h:ms a=ms b):a=b:=xae a b (by unfold msA;rw [h])
theorem zag(x y:List (List Mo))(h:mlA x=mlA y):x=y:=by
 simp only [mlA,AV.one.injEq,C.slice.injEq]at h;exact jE (λa b h=>wbH (by simpa [ms] using h)) h
def onMl(k:List (List Mo)->Prop)(a:AV):Prop:=onE mlA (λL=>(∀l∈L,∀t∈l,WLM t)/\k L) a
@[congr] theorem XbR{k:List (List Mo)->Prop}{a a'}(h:a=a'):onMl k a=onMl k a':=by subst h;rfl
theorem Ube(k:List (List Mo)->Prop)(p:List Mo):onMl k (.one (.slice [[.slice (p.map mC)]]))=((∀l∈[p],∀t∈l,WLM t)/\k [p]):=Xf zag _ [p]
theorem zbl(k:List (List Mo)->Prop)(p q:List Mo):onMl k (.one (.slice [[.slice (p.map mC)],[.slice (q.map mC)]]))=((∀l∈[p,q],∀t∈l,WLM t)/\k [p,q]):=Xf zag _ [p,q]
theorem vaM{β:Type}{T:List (List Mo)->(β->Prop)->Prop}(h:∀l,GoodT (T l)){a:AV}:GoodT λK=>onMl (λl=>T l K) a:=
 xB (e:=mlA) (T:=λL K=>(∀l∈L,∀t∈l,WLM t)/\T L K) zag λL=>GoodT.and (c:=∀l∈L,∀t∈l,WLM t) (T:=T L) λ_=>h L
theorem JaV(K:List C->Prop)(L:List (List Mo))(i:Nat):getE K (L.map λl=>[.slice (l.map mC)]) i=(i<L.length/\K [.slice ((L.getD i []).map mC)]):=by
 simp only [getE,List.length_map,List.getElem?_map];refine propext ⟨λh=>⟨h.1,h.2 _ (by simp [h.1,List.getD_eq_getElem?_getD])⟩,λh=>⟨h.1,λe he=>?_⟩⟩
 simp [h.1]at he;subst he;have:=h.2;simpa [List.getD_eq_getElem?_getD,h.1] using this
theorem yaB(L:List (List Mo)):Clean (.slice (L.map λl=>[.slice (l.map mC)]))=True:=eq_true (.slice _ λe he c hc=>by
 obtain⟨l,_,rfl⟩:=List.mem_map.1 he;rw [List.mem_singleton]at hc;subst hc;exact of_eq_true (kw _))
theorem Vbi(k:List R->Prop)(x:R):onRs k (.one (.slice [[cb x,cn x,cd x]]))=((∀y∈[x],WLR y)/\k [x]):=vas k [x]
theorem ube(k:List R->Prop)(x y:R):onRs k (.one (.slice [[cb x,cn x,cd x],[cb y,cn y,cd y]]))=((∀z∈[x,y],WLR z)/\k [x,y]):=vas k [x,y]
attribute [go_sem,go_sem ↓] Ube zbl JaV yaB Vbi ube
def QA(l:List AV)(K:AV->Prop):Prop:=
 match l with
 | [a,b]=>onM (λx=>onM (λy=>inM x/\inM y/\K (.one (.lit (.bool (decide (kM x<kM y)))))) b) a
 | _=>False
theorem kaY a b K:QA [a,b] K=(onM (λx=>onM (λy=>inM x/\inM y/\K (.one (.lit (.bool (decide (kM x<kM y)))))) b) a):=propext Iff.rfl
@[congr] theorem ybV{K}{l l'}(h:l=l'):QA l K=QA l' K:=by subst h;rfl
attribute [go_sem,go_sem ↓] kaY
theorem xa3:Good QA:=Ja λas=>by
 unfold QA;split
 .exact(WV λ_=>(WV λ_=>(.and λ_=>(.and λ_=>(.ret _)))))
 .exact .of λK hk=>hk.elim
def vA(l:List AV)(K:AV->Prop):Prop:=
 match l with
 | [a]=>onM (λt=>K (.one (.lit (.int .i64 (if inM t then 0 else 3))))) a
 | _=>False
theorem wa4 a K:vA [a] K=(onM (λt=>K (.one (.lit (.int .i64 (if inM t then 0 else 3))))) a):=propext Iff.rfl
@[congr] theorem UbQ{K}{l l'}(h:l=l'):vA l K=vA l' K:=by subst h;rfl
attribute [go_sem,go_sem ↓] wa4
theorem ua4:Good vA:=Ja λas=>by
 unfold vA;split
 .exact(WV λ_=>(.ret _))
 .exact .of λK hk=>hk.elim
def jn(l:List AV)(K:AV->Prop):Prop:=
 match l with
 | [a]=>onMs (λl=>(∀t∈l,rl t.2.2<=4294967296)/\K (.one (.lit (.int .i64 (chkB l:Nat))))) a
 | _=>False
theorem qab a K:jn [a] K=(onMs (λl=>(∀t∈l,rl t.2.2<=4294967296)/\K (.one (.lit (.int .i64 (chkB l:Nat))))) a):=propext Iff.rfl
@[congr] theorem UbD{K}{l l'}(h:l=l'):jn l K=jn l' K:=by subst h;rfl
attribute [go_sem,go_sem ↓] qab
theorem Ual:Good jn:=Ja λas=>by
 unfold jn;split
 .exact(yg λ_=>(.and λ_=>(.ret _)))
 .exact .of λK hk=>hk.elim
def Xj(l:List AV)(K:AV->Prop):Prop:=
 match l with
 | [a]=>onMs (λl=>(∀t∈l,rl t.2.2<=4294967296)/\K (.tup [.one (.lit (.int .i64 (if chkB l=0 then degM l else 0))),.one (.lit (.int .i64 (chkB l:Nat)))])) a
 | _=>False
theorem zL a K:Xj [a] K=(onMs (λl=>(∀t∈l,rl t.2.2<=4294967296)/\K (.tup [.one (.lit (.int .i64 (if chkB l=0 then degM l else 0))),.one (.lit (.int .i64 (chkB l:Nat)))])) a):=propext Iff.rfl
@[congr] theorem Zbw{K}{l l'}(h:l=l'):Xj l K=Xj l' K:=by subst h;rfl
attribute [go_sem,go_sem ↓] zL
theorem UZ:Good Xj:=Ja λas=>by
 unfold Xj;split
 .exact(yg λ_=>(.and λ_=>(.ret _)))
 .exact .of λK hk=>hk.elim
def Vae(l:List AV)(K:AV->Prop):Prop:=
 match l with
 | [a]=>onM2 (λp q=>(∀t∈p,rl t.2.2<=4294967296)/\(∀t∈q,rl t.2.2<=4294967296)/\K (.one (.lit (.int .i64 (chk2 p q:Nat))))) a
 | _=>False
theorem Yaz a K:Vae [a] K=(onM2 (λp q=>(∀t∈p,rl t.2.2<=4294967296)/\(∀t∈q,rl t.2.2<=4294967296)/\K (.one (.lit (.int .i64 (chk2 p q:Nat))))) a):=propext Iff.rfl
@[congr] theorem kbP{K}{l l'}(h:l=l'):Vae l K=Vae l' K:=by subst h;rfl
attribute [go_sem,go_sem ↓] Yaz
def Ul(l:List AV)(K:AV->Prop):Prop:=
 match l with
 | [a,b]=>onMs (λp=>onMs (λq=>(∀t∈p,rl t.2.2<=4294967296)/\p.length<=1000000/\K (.one (.lit (.bool (decide (p=q)))))) b) a
 | _=>False
theorem vX a b K:Ul [a,b] K=(onMs (λp=>onMs (λq=>(∀t∈p,rl t.2.2<=4294967296)/\p.length<=1000000/\K (.one (.lit (.bool (decide (p=q)))))) b) a):=propext Iff.rfl
@[congr] theorem zby{K}{l l'}(h:l=l'):Ul l K=Ul l' K:=by subst h;rfl
attribute [go_sem,go_sem ↓] vX
theorem Wal:Good Ul:=Ja λas=>by
 unfold Ul;split
 .exact(yg λ_=>(yg λ_=>(.and λ_=>(.and λ_=>(.ret _)))))
 .exact .of λK hk=>hk.elim
def zy(l:List AV)(K:AV->Prop):Prop:=
 match l with
 | [a,b,c]=>onR (λx=>asInt (λk n=>asInt (λk' d=>k=.u32/\k' = .u32/\rl x<=4294967296/\K (.one (.lit (.bool (lowB n d x))))) c) b) a
 | _=>False
theorem Yak a b c K:zy [a,b,c] K=(onR (λx=>asInt (λk n=>asInt (λk' d=>k=.u32/\k' = .u32/\rl x<=4294967296/\K (.one (.lit (.bool (lowB n d x))))) c) b) a):=propext Iff.rfl
@[congr] theorem ubS{K}{l l'}(h:l=l'):zy l K=zy l' K:=by subst h;rfl
attribute [go_sem,go_sem ↓] Yak
theorem ja4:Good zy:=Ja λas=>by
 unfold zy;split
 .repeat (first | exact .ret _ | exact .of (λK hk=>hk.elim) | (refine .and λ_=>?_) | (refine Je λ_=>?_) | (refine vaM λ_=>?_) | (refine WV λ_=>?_) | (refine zn λ_=>?_) | (refine yg λ_=>?_) | (refine uao λ_=>?_) | (refine vaM λ_=>?_) | (refine WaX λ_=>?_) | (refine jc (λ_ _=>?_) _) | (refine VE (λ_=>?_) _) | (refine xB ?_ ?_) | (intro _) | assumption)
 .exact .of λK hk=>hk.elim
def Qo(l:List AV)(K:AV->Prop):Prop:=
 match l with
 | [a]=>onRs (λl=>okRs 4294967296 l/\l.length<=1000000/\K (.one (.lit (.bool (l.all lowR))))) a
 | _=>False
theorem Y2 a K:Qo [a] K=(onRs (λl=>okRs 4294967296 l/\l.length<=1000000/\K (.one (.lit (.bool (l.all lowR))))) a):=propext Iff.rfl
@[congr] theorem Yby{K}{l l'}(h:l=l'):Qo l K=Qo l' K:=by subst h;rfl
attribute [go_sem,go_sem ↓] Y2
theorem vag:Good Qo:=Ja λas=>by
 unfold Qo;split
 .exact(WaX λ_=>(.and λ_=>(.and λ_=>(.ret _))))
 .exact .of λK hk=>hk.elim
def Zk(l:List AV)(K:AV->Prop):Prop:=
 match l with
 | [a]=>onMl (λL=>(∀l∈L,l.length<=10000000/\∀t∈l,rl t.2.2<=4294967296)/\L.length<=1000000/\K (.one (.lit (.bool (L.all shortM))))) a
 | _=>False
theorem qM a K:Zk [a] K=(onMl (λL=>(∀l∈L,l.length<=10000000/\∀t∈l,rl t.2.2<=4294967296)/\L.length<=1000000/\K (.one (.lit (.bool (L.all shortM))))) a):=propext Iff.rfl
@[congr] theorem ubv{K}{l l'}(h:l=l'):Zk l K=Zk l' K:=by subst h;rfl
attribute [go_sem,go_sem ↓] qM
theorem J3:Good Zk:=Ja λas=>by
 unfold Zk;split
 .exact(vaM λ_=>(.and λ_=>(.and λ_=>(.ret _))))
 .exact .of λK hk=>hk.elim
def kj(l:List AV)(K:AV->Prop):Prop:=
 match l with
 | [a]=>onM2 (λp q=>(p.length<=10000000/\∀t∈p,rl t.2.2<=4294967296)/\(q.length<=10000000/\∀t∈q,rl t.2.2<=4294967296)/\K (.one (.lit (.bool (vldM p && vldM q))))) a
 | _=>False
theorem YM a K:kj [a] K=(onM2 (λp q=>(p.length<=10000000/\∀t∈p,rl t.2.2<=4294967296)/\(q.length<=10000000/\∀t∈q,rl t.2.2<=4294967296)/\K (.one (.lit (.bool (vldM p && vldM q))))) a):=propext Iff.rfl
@[congr] theorem vbw{K}{l l'}(h:l=l'):kj l K=kj l' K:=by subst h;rfl
attribute [go_sem,go_sem ↓] YM
theorem WZ:Good kj:=Ja λas=>by
 unfold kj;split
 .exact(uao λ_ _=>(.and λ_=>(.and λ_=>(.ret _))))
 .exact .of λK hk=>hk.elim
def uc:AC:=(.o [.K 2 5 0,.K 3 5 1,.m 4 .fa] [2,3] (.f (.o [.A 5 0 2,.F 6 1 5,.A 7 1 2,.F 8 1 7,.B 9 .add 6 8,.A 10 0 3,.F 11 1 10,.A 12 1 3,.F 13 1 12,.B 14 .add 11 13,.B 15 .neq 9 14] [2,3,15] (.cond (.t 15) (.seq (.p [.A 16 0 2,.F 17 1 16,.A 18 1 2,.F 19 1 18,.B 20 .add 17 19,.A 21 0 3,.F 22 1 21,.A 23 1 3,.F 24 1 23,.B 25 .add 22 24,.B 26 .lss 20 25,.M 4 26]) .ret) .skip)) [2,3] (.seq (.p [.A 27 0 2,.F 28 1 27,.A 29 0 3,.F 30 1 29,.B 31 .lss 28 30,.M 4 31]) .ret)))
def qb:AC:=(.o [.K 1 5 0,.N 2 0] [1] (.f (.o [.A 3 0 1,.F 4 1 3,.I 5 .lss 4 0,.M 6 5,.T 7 6 false 1 1,.U 8 6 false 1 false 7,.w 9 6 false (.bin .lss (.t 8) (.i 0)),.Q 10 6 9,.M 11 10,.T 12 11 false 0 1,.U 13 11 false 1 false 12,.w 14 11 false (.bin .gtr (.t 13) (.i 24)),.Q 15 11 14,.M 16 15,.T 17 16 false 1 1,.U 18 16 false 1 false 17,.w 19 16 false (.bin .gtr (.t 18) (.i 24)),.Q 20 16 19,.M 21 20,.T 22 21 false 0 1,.U 23 21 false 1 false 22,.T 24 21 false 1 1,.U 25 21 false 1 false 24,.w 26 21 false (.bin .add (.t 23) (.t 25)),.w 27 21 false (.bin .gtr (.t 26) (.i 24)),.Q 28 21 27] [28] (.cond (.t 28) (.seq (.p [.N 2 3]) .ret) .skip)) [] (.seq (.p [.N 2 0]) .ret)))
def Jd(f0 f1 f2 f3:Nat):AC:=(.o [.N 2 0] [0] (.f (.o [.M 6 0,.Z 7 6,.I 8 .gtr 7 325] [0,8] (.cond (.t 8) (.seq (.p [.N 2 4]) .ret) .skip)) [0] (.f (.o [.M 9 0,.Z 10 9,.N 11 0] [0,9,10,11] (.block 0 (.loop (.o [.B 12 .lss 11 10] [0,9,10,11,12] (.f (.cond (.t 12) .skip (.exit 0)) [0,9,10,11] (.f (.block 1 (.o [.M 13 11,.J 14 5 9 11,.L 15 5 14,.G 4 [(.lit (.int .i64 0)),(.lit (.int .i64 0)),.z,.emp,.emp],.M 3 13,.S 5 4 15] [0,3,4,9,10,11] (.f (.o [.L 16 5 4,.H 17 f0 16,.M 5 17] [0,3,4,5,9,10,11] (.o [.M 18 5,.I 19 .neq 18 0] [0,3,4,5,9,10,11,19] (.cond (.t 19) (.seq (.p [.M 20 5,.M 2 20]) .ret) .skip))) [0,3,4,9,10,11] (.f (.o [.A 21 2 4,.L 22 3 21,.H 23 f1 22,.u 24 (.un .not (.t 23))] [0,3,4,9,10,11,24] (.cond (.t 24) (.seq (.p [.N 2 2]) .ret) .skip)) [0,3,4,9,10,11] (.f (.o [.A 25 2 4,.L 26 3 25,.H 27 f2 26,.I 28 .eql 27 0] [0,3,4,9,10,11,28] (.cond (.t 28) (.seq (.p [.N 2 8]) .ret) .skip)) [0,3,4,9,10,11] (.f (.y [.M 29 3,.I 30 .gtr 29 0,.M 31 30,.V 32 31 true 0,.V 33 31 true 3,.w 34 31 true (.bin .sub (.t 33) (.i 1)),.w 35 31 true (.idx 5 (.t 32) (.t 34)),.U 36 31 true 5 true 35,.U 37 31 true 5 true 4,.Y 38 31 true f3 36 37,.w 39 31 true (.un .not (.t 38)),.P 40 31 39]) [0,9,10,11,40] (.cond (.t 40) (.seq (.p [.N 2 12]) .ret) .skip))))))) [0,9,10,11] (.p [.I 41 .add 11 1,.M 11 41]))))))) [] (.seq (.p [.N 2 0]) .ret))))
def Uc:AC:=(.o [.N 2 0] [0] (.f (.o [.M 4 0,.Z 5 4,.I 6 .eql 5 0] [0,6] (.cond (.t 6) (.seq (.p [.N 2 (-1)]) .ret) .skip)) [0] (.o [.M 7 0,.M 8 0,.Z 9 8,.I 10 .sub 9 1,.J 11 5 7 10,.L 12 5 11,.G 3 [(.lit (.int .i64 0)),(.lit (.int .i64 0)),.z,.emp,.emp],.S 5 3 12] [3] (.seq (.p [.A 13 0 3,.F 14 1 13,.A 15 1 3,.F 16 1 15,.B 17 .add 14 16,.M 2 17]) .ret))))
def zd(f0 f1:Nat):AC:=(.o [.N 2 0,.N 3 0] [0] (.f (.o [.M 5 0,.H 6 f0 5,.M 4 6] [0,4] (.o [.M 7 4,.I 8 .neq 7 0] [0,4,8] (.cond (.t 8) (.seq (.p [.M 9 4,.N 2 0,.M 3 9]) .ret) .skip))) [0] (.seq (.p [.M 10 0,.H 11 f1 10,.M 2 11,.N 3 0]) .ret)))
def Yg(f0:Nat):AC:=(.o [.K 2 3 0,.K 3 3 1,.m 4 .fa] [2,3] (.seq (.p [.L 5 3 2,.L 6 3 3,.D 7 f0 5 6,.M 4 7]) .ret))
def wd(f0:Nat):AC:=(.o [.m 4 .fa] [0,1] (.f (.o [.M 6 0,.Z 7 6,.M 8 1,.Z 9 8,.B 10 .neq 7 9] [0,1,10] (.cond (.t 10) (.seq (.p [.m 4 .fa]) .ret) .skip)) [0,1] (.f (.o [.M 11 0,.Z 12 11,.N 13 0] [0,1,12,13] (.block 0 (.loop (.o [.B 14 .lss 13 12] [0,1,12,13,14] (.f (.cond (.t 14) .skip (.exit 0)) [0,1,12,13] (.f (.block 1 (.o [.M 15 13,.M 5 15] [0,1,5,12,13] (.f (.y [.M 16 0,.M 17 5,.J 18 5 16 17,.A 19 0 18,.F 20 1 19,.M 21 1,.M 22 5,.J 23 5 21 22,.A 24 0 23,.F 25 1 24,.B 26 .neq 20 25,.M 27 26,.V 28 27 false 0,.V 29 27 false 5,.w 30 27 false (.idx 5 (.t 28) (.t 29)),.T 31 27 false 1 30,.U 32 27 false 1 false 31,.V 33 27 false 1,.V 34 27 false 5,.w 35 27 false (.idx 5 (.t 33) (.t 34)),.T 36 27 false 1 35,.U 37 27 false 1 false 36,.w 38 27 false (.bin .neq (.t 32) (.t 37)),.Q 39 27 38,.M 40 39,.V 41 40 false 0,.V 42 40 false 5,.w 43 40 false (.idx 5 (.t 41) (.t 42)),.T 44 40 false 2 43,.U 45 40 false 3 true 44,.V 46 40 false 1,.V 47 40 false 5,.w 48 40 false (.idx 5 (.t 46) (.t 47)),.T 49 40 false 2 48,.U 50 40 false 3 true 49,.Y 51 40 false f0 45 50,.w 52 40 false (.un .not (.t 51)),.Q 53 40 52]) [0,1,12,13,53] (.cond (.t 53) (.seq (.p [.m 4 .fa]) .ret) .skip)))) [0,1,12,13] (.p [.I 54 .add 13 1,.M 13 54]))))))) [] (.seq (.p [.m 4 .tr]) .ret))))
def Xc:AC:=(.o [.K 3 3 0,.m 6 .fa] [1,2,3] (.seq (.p [.A 7 1 3,.F 8 1 7,.Z 9 8,.I 10 .lss 9 2,.M 11 10,.T 12 11 true 2 3,.U 13 11 true 1 false 12,.w 14 11 true (.len (.t 13)),.w 15 11 true (.bin .lss (.t 14) (.i 2)),.P 16 11 15,.M 17 16,.T 18 17 true 1 3,.U 19 17 true 1 false 18,.w 20 17 true (.len (.t 19)),.w 21 17 true (.bin .eql (.t 20) (.i 0)),.V 22 17 true 21,.T 23 22 false 1 3,.U 24 22 false 1 false 23,.w 25 22 false (.idx 1 (.t 24) (.i 0)),.U 26 22 false 1 false 25,.V 27 22 false 1,.w 28 22 false (.bin .leq (.t 26) (.t 27)),.w 29 17 true (.pick (.t 22) .tr (.t 28)),.P 30 17 29,.M 31 30,.T 32 31 true 2 3,.U 33 31 true 1 false 32,.w 34 31 true (.len (.t 33)),.w 35 31 true (.bin .eql (.t 34) (.i 0)),.V 36 31 true 35,.T 37 36 false 2 3,.U 38 36 false 1 false 37,.w 39 36 false (.idx 1 (.t 38) (.i 0)),.U 40 36 false 1 false 39,.V 41 36 false 2,.w 42 36 false (.bin .leq (.t 40) (.t 41)),.w 43 31 true (.pick (.t 36) .tr (.t 42)),.P 44 31 43,.M 6 44]) .ret))
def jf(f0:Nat):AC:=(.o [.m 2 .fa] [0] (.f (.o [.M 5 0,.Z 6 5,.N 7 0] [5,6,7] (.block 0 (.loop (.o [.B 8 .lss 7 6] [5,6,7,8] (.f (.cond (.t 8) .skip (.exit 0)) [5,6,7] (.f (.block 1 (.o [.J 9 3 5 7,.L 10 3 9,.G 4 [.z,.emp,.emp],.S 3 4 10] [4,5,6,7] (.o [.L 11 3 4,.u 12 (.call f0 [(.t 11),(.c (.one (.lit (.int .u32 1000)))),(.c (.one (.lit (.int .u32 60))))]),.u 13 (.un .not (.t 12))] [5,6,7,13] (.cond (.t 13) (.seq (.p [.m 2 .fa]) .ret) .skip)))) [5,6,7] (.p [.I 14 .add 7 1,.M 7 14]))))))) [] (.seq (.p [.m 2 .tr]) .ret)))
def Vf(f0:Nat):AC:=(.o [.m 2 .fa] [0] (.f (.o [.M 7 0,.Z 8 7,.N 9 0] [7,8,9] (.block 0 (.loop (.o [.B 10 .lss 9 8] [7,8,9,10] (.f (.cond (.t 10) .skip (.exit 0)) [7,8,9] (.f (.block 1 (.o [.J 11 1 7 9,.F 12 1 11,.M 4 12] [4,7,8,9] (.f (.o [.M 13 4,.Z 14 13,.I 15 .gtr 14 15,.M 16 15,.V 17 16 true 4,.w 18 16 true (.len (.t 17)),.w 19 16 true (.bin .leq (.t 18) (.i 325)),.P 20 16 19,.M 21 20,.V 22 21 false 4,.w 23 21 false (.len (.t 22)),.w 24 21 false (.bin .gtr (.t 23) (.i 400)),.Q 25 21 24] [4,7,8,9,25] (.cond (.t 25) (.seq (.p [.m 2 .fa]) .ret) .skip)) [4,7,8,9] (.o [.M 26 4,.Z 27 26,.N 28 0] [7,8,9,26,27,28] (.block 2 (.loop (.o [.B 29 .lss 28 27] [7,8,9,26,27,28,29] (.f (.cond (.t 29) .skip (.exit 2)) [7,8,9,26,27,28] (.f (.block 3 (.o [.J 30 5 26 28,.L 31 5 30,.G 6 [(.lit (.int .i64 0)),(.lit (.int .i64 0)),.z,.emp,.emp],.S 5 6 31] [6,7,8,9,26,27,28] (.o [.A 32 2 6,.L 33 3 32,.u 34 (.call f0 [(.t 33),(.c (.one (.lit (.int .u32 1000)))),(.c (.one (.lit (.int .u32 60))))]),.u 35 (.un .not (.t 34))] [7,8,9,26,27,28,35] (.cond (.t 35) (.seq (.p [.m 2 .fa]) .ret) .skip)))) [7,8,9,26,27,28] (.p [.I 36 .add 28 1,.M 28 36])))))))))) [7,8,9] (.p [.I 37 .add 9 1,.M 9 37]))))))) [] (.seq (.p [.m 2 .tr]) .ret)))
def yf(f0 f1:Nat):AC:=(.o [.m 2 .fa] [0] (.f (.o [.M 7 0,.Z 8 7,.N 9 0] [7,8,9] (.block 0 (.loop (.o [.B 10 .lss 9 8] [7,8,9,10] (.f (.cond (.t 10) .skip (.exit 0)) [7,8,9] (.f (.block 1 (.o [.J 11 1 7 9,.F 12 1 11,.M 4 12] [4,7,8,9] (.o [.M 14 4,.H 15 f0 14,.M 13 15,.X 16 0 13,.X 17 1 13,.M 5 16,.M 6 17] [4,5,6,7,8,9] (.o [.M 18 4,.u 19 (.row 1 [[.x 1 (.t 18)]]),.H 20 f1 19,.u 21 (.un .not (.t 20)),.M 22 21,.V 23 22 false 6,.w 24 22 false (.bin .neq (.t 23) (.i 0)),.Q 25 22 24,.M 26 25,.V 27 26 false 5,.w 28 26 false (.bin .gtr (.t 27) (.i 5)),.Q 29 26 28] [7,8,9,29] (.cond (.t 29) (.seq (.p [.m 2 .fa]) .ret) .skip))))) [7,8,9] (.p [.I 30 .add 9 1,.M 9 30]))))))) [] (.seq (.p [.m 2 .tr]) .ret)))
theorem yaF(hΓ:Holds P Γ){f:Nat}(hc:check P f=some (32,uc.strip,[.tmp 4])):Sound P f (.dat false QA):=by
 refine Qa hc xa3 hΓ (λargs K hcl hfi hG=>?_);match args,hG with
 | [a,b],hG=>
  obtain⟨s,rfl,hws,t,rfl,hwt,hs,ht,hK⟩:=hG;refine⟨by simp,?_⟩
  have h1:=zaF hs ht;obtain⟨s1,s2,s3⟩:=hs;obtain⟨t1,t2,t3⟩:=ht;by_cases e:s.1+s.2.1=t.1+t.2.1
  .simp only [go_sem,uc,mC,e];have h2:decide (kM s<kM t)=decide (s.1<t.1):=by rw [decide_eq_decide,h1];omega
   rw [h2]at hK;exact⟨⟨by omega,by omega⟩,⟨by omega,by omega⟩,hK⟩
  .simp only [go_sem,uc,mC,e];have h2:decide (kM s<kM t)=decide (s.1+s.2.1<t.1+t.2.1):=by rw [decide_eq_decide,h1];omega
   rw [h2]at hK;exact⟨⟨by omega,by omega⟩,⟨by omega,by omega⟩,⟨by omega,by omega⟩,⟨by omega,by omega⟩,hK⟩
theorem qaF(hΓ:Holds P Γ){f:Nat}(hc:check P f=some (29,qb.strip,[.tmp 2])):Sound P f (.dat true vA):=by
 refine Qa hc ua4 hΓ (λargs K hcl hfi hG=>?_);match args,hG with
 | [a],hG=>
  obtain⟨t,rfl,⟨hw1,hw2,hw3⟩,hK⟩:=hG;refine⟨by simp,?_⟩
  unfold i64r at hw1 hw2;have no:¬inM t->K (.one (.lit (.int .i64 3))):=λh=>by rw [if_neg h]at hK;exact hK
  have yes:inM t->K (.one (.lit (.int .i64 0))):=λh=>by rw [if_pos h]at hK;exact hK
  by_cases a1:t.1<0
  .simp only [go_sem,qb,mC,a1];exact no λh=>by unfold inM at h;omega
  by_cases a2:t.2.1<0
  .simp only [go_sem,qb,mC,a1,a2];exact no λh=>by unfold inM at h;omega
  by_cases a3:24<t.1
  .simp only [go_sem,qb,mC,a1,a2,a3];exact no λh=>by unfold inM at h;omega
  by_cases a4:24<t.2.1
  .simp only [go_sem,qb,mC,a1,a2,a3,a4];exact no λh=>by unfold inM at h;omega
  simp only [go_sem,qb,mC,a1,a2,a3,a4];refine⟨⟨by omega,by omega⟩,λh=>no λh'=>?_,λh=>yes ?_⟩
  .unfold inM at h';omega
  .unfold inM;omega
theorem UaF(hΓ:Holds P Γ){f:Nat}(hc:check P f=some (18,Uc.strip,[.tmp 2])):Sound P f (.dat true xq):=by
 refine Qa hc qW hΓ (λargs K hcl hfi hG=>?_);match args,hG with
 | [a],hG=>
  obtain⟨l,rfl,hw,hin,hl,hK⟩:=hG;refine⟨by simp,?_⟩
  rcases hl0:l with _ | ⟨t,l0⟩
  .subst hl0;simp only [go_sem,Uc];simpa [degM] using hK
  .have hlen:l.length=l0.length+1:=by rw [hl0];rfl
   rw [<-hl0];obtain⟨y,hy⟩:∃y,l.getD l0.length mo0=y:=⟨_,rfl⟩;have hy0:=getDm (by omega) hy
   have hym:=List.mem_of_getElem? hy0;have hd:degM l=y.1+y.2.1:=by
    unfold degM;rw [List.getLast?_eq_getElem?,hlen,Nat.add_sub_cancel,hy0]
   rw [hd]at hK;obtain⟨i1,i2,i3⟩:=hin y hym;have hn1:((l0.length+1:Nat):Int)-1=(l0.length:Int):=by omega
   have hn0:¬((l0.length+1:Nat):Int)=0:=by omega
   simp only [go_sem,Uc,hlen,hn1,hn0,hy,mC];exact λ_ _=>⟨by omega,by omega,⟨by omega,by omega⟩,hK⟩
theorem zU(hΓ:Holds P Γ){f fk fd:Nat}(hk:Γ fk=.dat false jn)(hd:Γ fd=.dat true xq)(hc:check P f=some (12,(zd fk fd).strip,[.tmp 2,.tmp 3])):Sound P f (.dat false Xj):=by
 refine Qa hc UZ hΓ (λargs K hcl hfi hG=>?_);match args,hG with
 | [a],hG=>
  obtain⟨l,rfl,hw,hrl,hK⟩:=hG;refine⟨by simp,?_⟩
  by_cases h0:chkB l=0
  .obtain⟨i1,i2,i3⟩:=ym h0 hw;rw [if_pos h0,h0]at hK;simp only [go_sem,zd,hk,hd,h0];exact⟨hw,hrl,hw,i1,by omega,hK⟩
  .rw [if_neg h0]at hK;have h0' : ¬(chkB l:Int)=0:=by omega
   simp only [go_sem,zd,hk,hd,h0'];exact⟨hw,hrl,hK⟩
theorem Qai(hΓ:Holds P Γ){f fr:Nat}(hr:Γ fr=.dat true Us)(hc:check P f=some (8,(Yg fr).strip,[.tmp 4])):Sound P f (.dat true Us):=by
 refine Qa hc Z0 hΓ (λargs K hcl hfi hG=>?_);match args,hG with
 | [a,b],hG=>
  obtain⟨x,rfl,hx,y,rfl,hy,hxl,hK⟩:=hG;refine⟨by simp,?_⟩
  simp only [go_sem,Yg,hr];exact⟨hx,hy,hxl,hK⟩
theorem vW(hΓ:Holds P Γ){f fi fv fs fo:Nat}(hi:Γ fi=.dat true vA)(hv:Γ fv=.dat true ud)(hs:Γ fs=.dat true jg)(ho:Γ fo=.dat false QA)(hc:check P f=some (42,(Jd fi fv fs fo).strip,[.tmp 2])):Sound P f (.dat false jn):=by
 refine Qa hc Ual hΓ (λargs K hcl hfi hG=>?_);match args,hG with
 | [a],hG=>
  obtain⟨l,rfl,hw,hrl,hK⟩:=hG;refine⟨by simp,?_⟩
  by_cases h325:325<l.length
  .have e:chkB l=4:=if_pos h325;rw [e]at hK;have h325' : (325:Int)<(l.length:Int):=by omega
   simp only [go_sem,Jd,h325'];exact λ_=>hK
  .have h325' : ¬(325:Int)<(l.length:Int):=by omega
   have e:chkB l=chkG none l:=if_neg h325;rw [e]at hK;simp only [go_sem,Jd,h325'];intro _ _;refine ja (λk:Nat=>⟨mkV [(0,msA l),(9,msA l),(10,.one (.lit (.int .i64 l.length))),(11,.one (.lit (.int .i64 k)))],mkH []⟩) (λk=>k<=l.length/\chkG none l=chkG (lastO l k) (l.drop k)/\∀t∈l.take k,inM t) (λk=>l.length-k) 0 ?_ ?_ ?_
   .exact qa (by simp [bitvec_to_nat,msA,ms]) trivial
   .exact⟨Nat.zero_le _,rfl,by simp⟩
   .rintro k ⟨hk,hch,hin⟩;by_cases hlt:k<l.length
    .obtain⟨x,hx⟩:∃x,l.getD k mo0=x:=⟨_,rfl⟩;have hx0:=getDm hlt hx;have hxm:=List.mem_of_getElem? hx0;have hwx:=hw x hxm;have hrx:=hrl x hxm;rw [zY _ hx0]at hch;by_cases a1:inM x
     .cases a2:vldR x.2.2 with
      | false=>
       have ec:chkT (lastO l k) x=2:=by unfold chkT;rw [if_neg (by simp [a1]),if_pos a2]
       rw [ec,if_pos (by decide)]at hch
       rw [hch]at hK;simp only [go_sem,hlt,hx,hi,hv,mC,a1,a2];exact⟨hwx,hwx.2.2,hrx,hK⟩
      | true=>
       by_cases a3:rv x.2.2=0
       .have ec:chkT (lastO l k) x=8:=by unfold chkT;rw [if_neg (by simp [a1]),if_neg (by simp [a2]),if_pos a3]
        rw [ec,if_pos (by decide)]at hch
        rw [hch]at hK;have a3' : ordQ (rv x.2.2) 0=0:=jk.2 a3;simp only [go_sem,hlt,hx,hi,hv,hs,mC,a1,a2,a3'];exact⟨hwx,hwx.2.2,hrx,hwx.2.2,hrx,hK⟩
       .have hin' : ∀t∈l.take (k+1),inM t:=λt ht=>by
         rw [List.take_add_one,hx0]at ht;rcases List.mem_append.1 ht with ht | ht
         .exact hin t ht
         .simp at ht;rw [ht];exact a1
        have a3' : ¬ordQ (rv x.2.2) 0=0:=λh=>a3 (jk.1 h);cases k with
        | zero=>
         simp only [go_sem,hlt,hx,hi,hv,hs,mC,a1,a2,a3',Int.lt_irrefl];have ec:chkT (lastO l 0) x=0:=by unfold chkT;rw [if_neg (by simp [a1]),if_neg (by simp [a2]),if_neg a3,if_neg (by simp [lastO,badO])]
         rw [ec,if_neg (by decide)]at hch
         have hl1:lastO l 1=some x:=congrArg some hx;exact⟨hwx,hwx.2.2,hrx,hwx.2.2,hrx,by omega,1,qa (by simp [bitvec_to_nat,msA,ms]) trivial,⟨by omega,by rw [hl1];exact hch,hin'⟩,by omega⟩
        | succ j=>
         have hn1:((j+1:Nat):Int)-1=(j:Int):=by omega
         have hn2:(0:Int)<((j+1:Nat):Int):=by omega
         have hym:l.getD j mo0∈l:=by
          rw [List.getD_eq_getElem?_getD,List.getElem?_eq_getElem (by omega)];exact List.getElem_mem _
         have hyt:l.getD j mo0∈l.take (j+1):=by
          rw [List.getD_eq_getElem?_getD,List.getElem?_eq_getElem (by omega),Option.getD_some]
          exact List.mem_iff_getElem.2 ⟨j,by rw [List.length_take];omega,by simp⟩
         have hiy:=hin _ hyt;have hwy:=hw _ hym;have hlj:lastO l (j+1)=some (l.getD j mo0):=rfl;have hl1:lastO l (j+1+1)=some x:=congrArg some hx;by_cases h:kM (l.getD j mo0)<kM x
         .have ec:chkT (lastO l (j+1)) x=0:=by unfold chkT;rw [if_neg (by simp [a1]),if_neg (by simp [a2]),if_neg a3,if_neg (by rw [hlj];simpa [badO] using h)]
          rw [ec,if_neg (by decide)]at hch
          simp only [go_sem,hlt,hx,hi,hv,hs,ho,mC,a1,a2,a3',hn1,hn2,h];exact⟨hwx,hwx.2.2,hrx,hwx.2.2,hrx,by omega,by omega,hwy,hwx,hiy,by omega,j+1+1,qa (by simp [bitvec_to_nat,msA,ms]) trivial,⟨by omega,by rw [hl1];exact hch,hin'⟩,by omega⟩
         .have ec:chkT (lastO l (j+1)) x=12:=by unfold chkT;rw [if_neg (by simp [a1]),if_neg (by simp [a2]),if_neg a3,if_pos (by rw [hlj];simpa [badO] using h)]
          rw [ec,if_pos (by decide)]at hch
          rw [hch]at hK;simp only [go_sem,hlt,hx,hi,hv,hs,ho,mC,a1,a2,a3',hn1,hn2,h];exact⟨hwx,hwx.2.2,hrx,hwx.2.2,hrx,by omega,by omega,hwy,hwx,hiy,hK⟩
     .have ec:chkT (lastO l k) x=3:=by unfold chkT;rw [if_pos a1]
      rw [ec,if_pos (by decide)]at hch
      rw [hch]at hK;have t30:¬(3:Int)=0:=by decide
      simp only [go_sem,hlt,hx,hi,mC,a1,t30];exact⟨hwx,hK⟩
    .rw [List.drop_of_length_le (by omega)]at hch
     have e0:chkG (lastO l k) []=0:=rfl;rw [hch,e0]at hK;simp only [go_sem,hlt];exact hK
theorem yad(hΓ:Holds P Γ){f fs:Nat}(hs:Γ fs=.dat true Us)(hc:check P f=some (55,(wd fs).strip,[.tmp 4])):Sound P f (.dat false Ul):=by
 refine Qa hc Wal hΓ (λargs K hcl hfi hG=>?_);match args,hG with
 | [a,b],hG=>
  obtain⟨p,rfl,hwp,q,rfl,hwq,hrp,hl,hK⟩:=hG;refine⟨by simp,?_⟩
  by_cases hle:p.length=q.length
  case neg=>
   rw [decide_eq_false (λe=>hle (by rw [e]))]at hK
   have hle' : ¬(p.length:Int)=(q.length:Int):=by omega
   simp only [go_sem,wd,ms,hle'];repeat first | refine q_Wk ?_ | intro _
   exact hK
  have hle' : (p.length:Int)=(q.length:Int):=by omega
  simp only [go_sem,wd,ms,hle];repeat first | refine q_Wk ?_ | intro _
  refine ja (λk:Nat=>⟨mkV [(0,msA p),(1,msA q),(12,.one (.lit (.int .i64 q.length))),(13,.one (.lit (.int .i64 k)))],mkH []⟩) (λk=>k<=q.length/\p.take k=q.take k) (λk=>q.length-k) 0 ?_ ?_ ?_
  .exact qa (by simp [bitvec_to_nat,msA,ms]) trivial
  .exact⟨Nat.zero_le _,rfl⟩
  .rintro k ⟨hk,htk⟩;by_cases hlt:k<q.length
   .obtain⟨x,hx⟩:∃x,p.getD k mo0=x:=⟨_,rfl⟩;obtain⟨y,hy⟩:∃y,q.getD k mo0=y:=⟨_,rfl⟩;have hltp:k<p.length:=by omega
    have hx0:=getDm hltp hx;have hy0:=getDm hlt hy;have hxm:=List.mem_of_getElem? hx0;have hym:=List.mem_of_getElem? hy0;have hwx:=hwp x hxm;have hwy:=hwq y hym;have hrx:=hrp x hxm;have ne:x≠y->K (.one (.lit (.bool false))):=λhne=>by
     rw [decide_eq_false (λe=>hne (by rw [e,hy0]at hx0;simpa using hx0.symm))]at hK
     exact hK
    by_cases e1:x.1=y.1
    case neg=>
     simp only [go_sem,hlt,hltp,hx,hy,mC,e1,hs];repeat first | refine q_Wk ?_ | intro _
     exact ne λe=>e1 (by rw [e])
    by_cases e2:x.2.1=y.2.1
    case neg=>
     simp only [go_sem,hlt,hltp,hx,hy,mC,e1,e2,hs];repeat first | refine q_Wk ?_ | intro _
     exact ne λe=>e2 (by rw [e])
    by_cases e3:x.2.2=y.2.2
    case neg=>
     simp only [go_sem,hlt,hltp,hx,hy,mC,e1,e2,e3,hs];repeat first | refine q_Wk ?_ | intro _
     refine⟨hwx.2.2,hwy.2.2,hrx,?_⟩;exact ne λe=>e3 (by rw [e])
    have exy:x=y:=by
     obtain⟨a1,a2,a3⟩:=x;obtain⟨b1,b2,b3⟩:=y;simp only at e1 e2 e3;rw [e1,e2,e3]
    simp only [go_sem,hlt,hltp,hx,hy,mC,e1,e2,e3,hs];repeat first | refine q_Wk ?_ | intro _
    refine⟨hwy.2.2,hwy.2.2,by rw [<-e3];exact hrx,by omega,k+1,qa (by simp [bitvec_to_nat,msA,ms]) trivial,⟨by omega,by rw [List.take_add_one,List.take_add_one,htk,hx0,hy0,exy]⟩,by omega⟩
   .have e:p=q:=by
     rw [List.take_of_length_le (by omega),List.take_of_length_le (by omega)]at htk
     exact htk
    rw [decide_eq_true e]at hK;simp only [go_sem,hlt];exact hK
theorem QaG(hΓ:Holds P Γ){f:Nat}(hc:check P f=some (45,Xc.strip,[.tmp 6])):Sound P f (.dat true zy):=by
 refine Qa hc ja4 hΓ (λargs K hcl hfi hG=>?_);match args,hG with
 | [a,b,c],hG=>
  rw [Yak]at hG;obtain⟨x,rfl,hx,hG1⟩:=hG;obtain⟨k1,n,rfl,hG2⟩:=Xa hG1;obtain⟨k2,d,rfl,rfl,rfl,hl,hK⟩:=Xa hG2;clear hG1 hG2;refine⟨by simp,?_⟩
  have hl1:x.2.1.length<=4294967296:=Nat.le_trans (Nat.le_max_left _ _) hl;have hl2:x.2.2.length<=4294967296:=Nat.le_trans (Nat.le_max_right _ _) hl;unfold lowB at hK;by_cases a1:x.2.1.length<2
  case neg=>
   have a1' : ¬(x.2.1.length:Int)<2:=by omega
   rw [decide_eq_false a1]at hK;simp only [go_sem,Xc,YP,XR,JQ,a1'];repeat first | refine q_Wk ?_ | intro _
   exact hK
  by_cases a2:x.2.2.length<2
  case neg=>
   have a1' : (x.2.1.length:Int)<2:=by omega
   have a2' : ¬(x.2.2.length:Int)<2:=by omega
   rw [decide_eq_true a1,decide_eq_false a2]at hK;simp only [go_sem,Xc,YP,XR,JQ,a1',a2'];repeat first | refine q_Wk ?_ | intro _
   exact hK
  have a1' : (x.2.1.length:Int)<2:=by omega
  have a2' : (x.2.2.length:Int)<2:=by omega
  simp only [go_sem,Xc,YP,XR,JQ,a1',a2'];rw [decide_eq_true a1,decide_eq_true a2,Bool.true_and,Bool.true_and]at hK;refine λ_ _ _=>⟨λb1 _=>⟨λb2=>?_,λb2=>⟨by decide,by omega,?_⟩⟩,λb1=>⟨by decide,by omega,λc1 _=>⟨λb2=>?_,λb2=>⟨by decide,by omega,?_⟩⟩,λc1=>?_⟩⟩
  .rw [decide_eq_true b1,decide_eq_true b2]at hK;exact hK
  .rw [decide_eq_true b1,decide_eq_false b2]at hK;exact hK
  .rw [decide_eq_false b1,decide_eq_true c1,decide_eq_true b2]at hK;exact hK
  .rw [decide_eq_false b1,decide_eq_true c1,decide_eq_false b2]at hK;exact hK
  .rw [decide_eq_false b1,decide_eq_false c1]at hK;exact hK
theorem W1(hΓ:Holds P Γ){f fl:Nat}(hl:Γ fl=.dat true zy)(hc:check P f=some (15,(jf fl).strip,[.tmp 2])):Sound P f (.dat false Qo):=by
 refine Qa hc vag hΓ (λargs K hcl hfi hG=>?_);match args,hG with
 | [a],hG=>
  obtain⟨l,rfl,hw,hok,hlen,hK⟩:=hG;refine⟨by simp,?_⟩
  simp only [go_sem,jf,UaT];intro _;refine ja (λk:Nat=>⟨mkV [(5,rsA l),(6,.one (.lit (.int .i64 l.length))),(7,.one (.lit (.int .i64 k)))],mkH []⟩) (λk=>k<=l.length/\(l.take k).all lowR=true) (λk=>l.length-k) 0 ?_ ?_ ?_
  .exact qa (by simp [bitvec_to_nat,rsA]) trivial
  .exact⟨Nat.zero_le _,rfl⟩
  .rintro k ⟨hk,htk⟩;by_cases hlt:k<l.length
   .obtain⟨x,hx⟩:∃x,l.getD k (rcan 0)=x:=⟨_,rfl⟩;have hx0:l[k]?=some x:=by
     rw [List.getD_eq_getElem?_getD,List.getElem?_eq_getElem hlt]at hx;rw [List.getElem?_eq_getElem hlt];simpa using hx
    have hxm:=List.mem_of_getElem? hx0;have hwx:=hw x hxm;have hrx:=(hok x hxm).2;cases hb:lowB 1000 60 x with
    | false=>
     have e:l.all lowR=false:=by
      rw [Bool.eq_false_iff];intro h;have:=List.all_eq_true.1 h x hxm;unfold lowR at this;rw [hb]at this;simp at this
     rw [e]at hK;simp only [go_sem,hlt,hx,hl,hb,rC];repeat first | refine q_Wk ?_ | intro _
     exact hK
    | true=>
     simp only [go_sem,hlt,hx,hl,hb,rC];repeat first | refine q_Wk ?_ | intro _
     refine⟨k+1,qa (by simp [bitvec_to_nat,rsA]) trivial,⟨by omega,?_⟩,by omega⟩
     rw [List.take_add_one,hx0,List.all_append,htk];simpa [lowR] using hb
   .rw [List.take_of_length_le (by omega)]at htk
    rw [htk]at hK;simp only [go_sem,hlt];exact hK
theorem getDl{L:List (List Mo)}{i:Nat}{x:List Mo}(hi:i<L.length)(h:L.getD i []=x):L[i]?=some x:=by
 rw [List.getD_eq_getElem?_getD,List.getElem?_eq_getElem hi]at h;rw [List.getElem?_eq_getElem hi];simpa using h
theorem XP(hΓ:Holds P Γ){f fl:Nat}(hl:Γ fl=.dat true zy)(hc:check P f=some (38,(Vf fl).strip,[.tmp 2])):Sound P f (.dat false Zk):=by
 refine Qa hc J3 hΓ (λargs K hcl hfi hG=>?_);match args,hG with
 | [a],hG=>
  obtain⟨L,rfl,hw,hok,hlen,hK⟩:=hG;refine⟨by simp,?_⟩
  simp only [go_sem,Vf,mlA];intro _;refine ja (λk:Nat=>⟨mkV [(7,mlA L),(8,.one (.lit (.int .i64 L.length))),(9,.one (.lit (.int .i64 k)))],mkH []⟩) (λk=>k<=L.length/\(L.take k).all shortM=true) (λk=>L.length-k) 0 ?_ ?_ ?_
  .exact qa (by simp [bitvec_to_nat,mlA]) trivial
  .exact⟨Nat.zero_le _,rfl⟩
  .rintro k ⟨hk,htk⟩;by_cases hlt:k<L.length
   .obtain⟨p,hp⟩:∃p,L.getD k []=p:=⟨_,rfl⟩;have hp0:=getDl hlt hp;have hpm:=List.mem_of_getElem? hp0;have hwp:=hw p hpm;obtain⟨hlp,hrp⟩:=hok p hpm;have bad:shortM p=false->K (.one (.lit (.bool false))):=λh=>by
     have e:L.all shortM=false:=by
      rw [Bool.eq_false_iff];intro h';have:=List.all_eq_true.1 h' p hpm;rw [h]at this;simp at this
     rw [e]at hK;exact hK
    have good:(∀t∈p,lowR t.2.2=true)->longM p=false->((L.take (k+1)).all shortM=true):=λh1 h2=>by
     rw [List.take_add_one,hp0,List.all_append,htk];have:shortM p=true:=by
      unfold shortM;rw [h2,List.all_eq_true.2 h1];rfl
     simpa using this
    have nol:longM p=true->shortM p=false:=λh=>by unfold shortM;rw [h];rfl
    by_cases h15:(15:Int)<(p.length:Int)
    .by_cases h325:(p.length:Int)<=325
     .simp only [go_sem,hlt,hp,mlA,h15,h325];repeat first | refine q_Wk ?_ | intro _
      exact bad (nol (by unfold longM;rw [decide_eq_true (by omega),decide_eq_true (by omega)];rfl))
     .by_cases h400:(400:Int)<(p.length:Int)
      .simp only [go_sem,hlt,hp,mlA,h15,h325,h400];repeat first | refine q_Wk ?_ | intro _
       exact bad (nol (by unfold longM;rw [decide_eq_true (show 400<p.length by omega)];simp))
      have hnl:longM p=false:=by unfold longM;rw [decide_eq_false (show ¬400<p.length by omega),decide_eq_false (show ¬p.length<=325 by omega)];simp
      simp only [go_sem,hlt,hp,mlA,h15,h325,h400];repeat first | refine q_Wk ?_ | intro _
      refine ja (λj:Nat=>⟨mkV [(26,msA p),(27,.one (.lit (.int .i64 p.length))),(28,.one (.lit (.int .i64 j))),(7,.one (.slice (L.map λl=>[.slice (l.map mC)]))),(8,.one (.lit (.int .i64 L.length))),(9,.one (.lit (.int .i64 k)))],mkH []⟩) (λj=>j<=p.length/\∀t∈p.take j,lowR t.2.2=true) (λj=>p.length-j) 0 ?_ ?_ ?_
      .exact qa (by simp [bitvec_to_nat,msA,ms]) trivial
      .exact⟨Nat.zero_le _,by simp⟩
      .rintro j ⟨hj,hall⟩;by_cases hlj:j<p.length
       .obtain⟨x,hx⟩:∃x,p.getD j mo0=x:=⟨_,rfl⟩;have hx0:=getDm hlj hx;have hxm:=List.mem_of_getElem? hx0;have hwx:=hwp x hxm;have hrx:=hrp x hxm;cases hb:lowB 1000 60 x.2.2 with
        | false=>
         have e:shortM p=false:=by
          unfold shortM;have:(p.all λt=>lowR t.2.2)=false:=by
           rw [Bool.eq_false_iff];intro h;have:=List.all_eq_true.1 h x hxm;unfold lowR at this;rw [hb]at this;simp at this
          rw [this,Bool.and_false]
         simp only [go_sem,hlj,hx,hl,hb,mC];repeat first | refine q_Wk ?_ | intro _
         exact⟨hwx.2.2,hrx,bad e⟩
        | true=>
         simp only [go_sem,hlj,hx,hl,hb,mC];repeat first | refine q_Wk ?_ | intro _
         refine⟨hwx.2.2,hrx,by omega,j+1,qa (by simp [bitvec_to_nat,msA,ms]) trivial,⟨by omega,λt ht=>?_⟩,by omega⟩
         rw [List.take_add_one,hx0]at ht;rcases List.mem_append.1 ht with ht | ht
         .exact hall t ht
         .simp at ht;rw [ht];exact hb
       .rw [List.take_of_length_le (by omega)]at hall
        simp only [go_sem,hlj];exact⟨by omega,k+1,qa (by simp [bitvec_to_nat,mlA]) trivial,⟨by omega,good hall hnl⟩,by omega⟩
    .have h400:¬(400:Int)<(p.length:Int):=by omega
     have hnl:longM p=false:=by unfold longM;rw [decide_eq_false (show ¬400<p.length by omega),decide_eq_false (show ¬15<p.length by omega)];simp
     simp only [go_sem,hlt,hp,mlA,h15,h400];repeat first | refine q_Wk ?_ | intro _
     refine ja (λj:Nat=>⟨mkV [(26,msA p),(27,.one (.lit (.int .i64 p.length))),(28,.one (.lit (.int .i64 j))),(7,.one (.slice (L.map λl=>[.slice (l.map mC)]))),(8,.one (.lit (.int .i64 L.length))),(9,.one (.lit (.int .i64 k)))],mkH []⟩) (λj=>j<=p.length/\∀t∈p.take j,lowR t.2.2=true) (λj=>p.length-j) 0 ?_ ?_ ?_
     .exact qa (by simp [bitvec_to_nat,msA,ms]) trivial
     .exact⟨Nat.zero_le _,by simp⟩
     .rintro j ⟨hj,hall⟩;by_cases hlj:j<p.length
      .obtain⟨x,hx⟩:∃x,p.getD j mo0=x:=⟨_,rfl⟩;have hx0:=getDm hlj hx;have hxm:=List.mem_of_getElem? hx0;have hwx:=hwp x hxm;have hrx:=hrp x hxm;cases hb:lowB 1000 60 x.2.2 with
       | false=>
        have e:shortM p=false:=by
         unfold shortM;have:(p.all λt=>lowR t.2.2)=false:=by
          rw [Bool.eq_false_iff];intro h;have:=List.all_eq_true.1 h x hxm;unfold lowR at this;rw [hb]at this;simp at this
         rw [this,Bool.and_false]
        simp only [go_sem,hlj,hx,hl,hb,mC];repeat first | refine q_Wk ?_ | intro _
        exact⟨hwx.2.2,hrx,bad e⟩
       | true=>
        simp only [go_sem,hlj,hx,hl,hb,mC];repeat first | refine q_Wk ?_ | intro _
        refine⟨hwx.2.2,hrx,by omega,j+1,qa (by simp [bitvec_to_nat,msA,ms]) trivial,⟨by omega,λt ht=>?_⟩,by omega⟩
        rw [List.take_add_one,hx0]at ht;rcases List.mem_append.1 ht with ht | ht
        .exact hall t ht
        .simp at ht;rw [ht];exact hb
      .rw [List.take_of_length_le (by omega)]at hall
       simp only [go_sem,hlj];exact⟨by omega,k+1,qa (by simp [bitvec_to_nat,mlA]) trivial,⟨by omega,good hall hnl⟩,by omega⟩
   .rw [List.take_of_length_le (by omega)]at htk
    rw [htk]at hK;simp only [go_sem,hlt];exact hK
theorem UU(hΓ:Holds P Γ){f fd fs:Nat}(hd:Γ fd=.dat false Xj)(hs:Γ fs=.dat false Zk)(hc:check P f=some (31,(yf fd fs).strip,[.tmp 2])):Sound P f (.dat false kj):=by
 refine Qa hc WZ hΓ (λargs K hcl hfi hG=>?_);match args,hG with
 | [a],hG=>
  obtain⟨p,q,rfl,⟨hwp,hwq⟩,⟨hlp,hp⟩,⟨hlq,hq⟩,hK⟩:=hG;refine⟨by simp,?_⟩
  simp only [go_sem,yf,ms];refine ja (λk:Nat=>⟨mkV [(7,.one (.slice [[ms p],[ms q]])),(8,.one (.lit (.int .i64 2))),(9,.one (.lit (.int .i64 k)))],mkH []⟩) (λk=>k<=2/\(0<k->vldM p=true)/\(1<k->vldM q=true)) (λk=>2-k) 0 ?_ ?_ ?_
  .exact qa (by simp [bitvec_to_nat,ms]) trivial
  .exact⟨by decide,by omega,by omega⟩
  .rintro k ⟨hk2,h1,h2⟩;have hk3:k=0∨k=1∨k=2:=by omega
   rcases hk3 with rfl | rfl | rfl
   .have ao:([p]:List (List Mo)).all shortM=shortM p:=by simp
    have a1:∀l∈[p],l.length<=10000000/\∀t∈l,rl t.2.2<=4294967296:=λl hl=>by rw [List.mem_singleton.1 hl];exact⟨hlp,hp⟩
    have a2:∀l∈[p],∀t∈l,WLM t:=λl hl=>by rw [List.mem_singleton.1 hl];exact hwp
    have bad:vldM p=false->K (.one (.lit (.bool false))):=λh=>by rw [h]at hK;exact hK
    cases hsh:shortM p with
    | false=>
     simp only [go_sem,c02,hd,hs,ms,ao,hsh];refine⟨hwp,hp,a2,a1,?_⟩;repeat first | refine q_Wk ?_ | intro _
     exact bad (by unfold vldM;rw [hsh];rfl)
    | true=>
     by_cases hx:chkB p=0
     .simp only [go_sem,c02,hd,hs,ms,ao,hsh,hx];refine⟨hwp,hp,a2,a1,⟨λh=>?_,λh=>?_⟩,λh=>absurd trivial h⟩
      .exact bad (by unfold vldM;rw [decide_eq_false (show ¬degM p<=5 by omega)];simp)
      .have hv:vldM p=true:=by unfold vldM;rw [hsh,decide_eq_true hx,decide_eq_true (show degM p<=5 by omega)];rfl
       exact⟨by decide,1,qa (by simp [bitvec_to_nat,ms]) trivial,⟨by omega,λ_=>hv,by omega⟩,by omega⟩
     .simp only [go_sem,c02,hd,hs,ms,ao,hsh,hx];refine⟨hwp,hp,a2,a1,?_⟩;repeat first | refine q_Wk ?_ | intro _
      exact bad (by unfold vldM;rw [decide_eq_false hx];simp)
   .have ao:([q]:List (List Mo)).all shortM=shortM q:=by simp
    have a1:∀l∈[q],l.length<=10000000/\∀t∈l,rl t.2.2<=4294967296:=λl hl=>by rw [List.mem_singleton.1 hl];exact⟨hlq,hq⟩
    have a2:∀l∈[q],∀t∈l,WLM t:=λl hl=>by rw [List.mem_singleton.1 hl];exact hwq
    have hvp:=h1 (by omega)
    have bad:vldM q=false->K (.one (.lit (.bool false))):=λh=>by rw [h,Bool.and_false]at hK;exact hK
    cases hsh:shortM q with
    | false=>
     simp only [go_sem,c12,zB,hd,hs,ms,ao,hsh];refine⟨hwq,hq,a2,a1,?_⟩;repeat first | refine q_Wk ?_ | intro _
     exact bad (by unfold vldM;rw [hsh];rfl)
    | true=>
     by_cases hx:chkB q=0
     .simp only [go_sem,c12,zB,hd,hs,ms,ao,hsh,hx];refine⟨hwq,hq,a2,a1,⟨λh=>?_,λh=>?_⟩,λh=>absurd trivial h⟩
      .exact bad (by unfold vldM;rw [decide_eq_false (show ¬degM q<=5 by omega)];simp)
      .have hv:vldM q=true:=by unfold vldM;rw [hsh,decide_eq_true hx,decide_eq_true (show degM q<=5 by omega)];rfl
       exact⟨by decide,2,qa (by simp [bitvec_to_nat,ms]) trivial,⟨by omega,λ_=>hvp,λ_=>hv⟩,by omega⟩
     .simp only [go_sem,c12,zB,hd,hs,ms,ao,hsh,hx];refine⟨hwq,hq,a2,a1,?_⟩;repeat first | refine q_Wk ?_ | intro _
      exact bad (by unfold vldM;rw [decide_eq_false hx];simp)
   .have hx:=h1 (by omega)
    have hy:=h2 (by omega)
    rw [hx,hy]at hK;simp only [go_sem,c22];exact hK
end Go.Abs
end
section
namespace Go.Num
open Go.Abs
def okT(n:Int):Prop:=n=1∨n=2∨n=4∨n=12
def tx(n:Int):ByteArray:=if n=12 then ⟨#[49,50]⟩ else if n=4 then ⟨#[52]⟩ else if n=2 then ⟨#[50]⟩ else ⟨#[49]⟩
def txR(q:Rat):ByteArray:=if q.den=1 then tx q.num else tx q.num++⟨#[47]⟩++tx (q.den:Nat)
theorem WbC{m:Nat}(h1:1<=m)(h2:m<=12):digs m=[m]:=by rw [Xn (by omega),show m / 4294967296=0 by omega,Zb,show m % 4294967296=m by omega]
end Go.Num
namespace Go.Abs
open Go.Num
variable {P:Program} {Γ:Nat->Spec}
theorem vbk{h h' : Nat->HB}{z:Nat}{b:Bool}{w:W}:okB h h' (some ⟨[[zb w,zm w]],z,b⟩) (some ⟨[[zb w,zm w]],z,b⟩):=
 ⟨⟨rfl,rfl⟩,.inl ⟨rfl,λe he c hc=>by
  rw [List.mem_singleton.1 he]at hc;simp only [List.mem_cons,List.not_mem_nil,or_false]at hc;rcases hc with rfl | rfl
  .exact of_eq_true (yU _)
  .exact of_eq_true (jT _)⟩⟩
def eJ(s:ByteArray):AV:=.one (.slice [[.lit (.string s)]])
theorem xbA(x y:ByteArray)(h:eJ x=eJ y):x=y:=by
 simp only [eJ,AV.one.injEq,C.slice.injEq,List.cons.injEq,C.lit.injEq,Value.string.injEq,and_true]at h;exact h
def onJ(k:ByteArray->Prop)(a:AV):Prop:=onE eJ k a
@[congr] theorem zb0{k:ByteArray->Prop}{a a'}(h:a=a'):onJ k a=onJ k a':=by subst h;rfl
theorem kbC(k:ByteArray->Prop)(x:ByteArray):onJ k (.one (.slice [[.lit (.string x)]]))=k x:=Xf xbA k x
attribute [go_sem,go_sem ↓] kbC
def jo(l:List AV)(K:AV->Prop):Prop:=
 match l with
 | [a]=>asInt (λk n=>k=.i64/\okT n/\K (.one (.lit (.string (tx n))))) a
 | _=>False
theorem Q9 a K:jo [a] K=(asInt (λk n=>k=.i64/\okT n/\K (.one (.lit (.string (tx n))))) a):=propext Iff.rfl
@[congr] theorem qbB{K}{l l'}(h:l=l'):jo l K=jo l' K:=by subst h;rfl
attribute [go_sem,go_sem ↓] Q9
theorem Yaf:Good jo:=Ja λas=>by
 unfold jo;split
 .exact(jc (λ_ _=>(.and λ_=>(.and λ_=>(.ret _)))) _)
 .exact .of λK hk=>hk.elim
def Yv(l:List AV)(K:AV->Prop):Prop:=
 match l with
 | [a,b]=>asInt (λk n=>k=.i64/\okT n/\asInt (λk m=>k=.i64/\m=10/\K (.one (.lit (.string (tx n))))) b) a
 | _=>False
theorem xU a b K:Yv [a,b] K=(asInt (λk n=>k=.i64/\okT n/\asInt (λk m=>k=.i64/\m=10/\K (.one (.lit (.string (tx n))))) b) a):=propext Iff.rfl
@[congr] theorem QbL{K}{l l'}(h:l=l'):Yv l K=Yv l' K:=by subst h;rfl
attribute [go_sem,go_sem ↓] xU
theorem zaG:Good Yv:=Ja λas=>by
 unfold Yv;split
 .exact(jc (λ_ _=>(.and λ_=>(.and λ_=>(jc (λ_ _=>(.and λ_=>(.and λ_=>(.ret _)))) _)))) _)
 .exact .of λK hk=>hk.elim
def Uj(l:List AV)(K:AV->Prop):Prop:=
 match l with
 | [a]=>asInt (λk n=>k=.i64/\okT n/\K (.one (.lit (.string (tx n))))) a
 | _=>False
theorem Vax a K:Uj [a] K=(asInt (λk n=>k=.i64/\okT n/\K (.one (.lit (.string (tx n))))) a):=propext Iff.rfl
@[congr] theorem UbL{K}{l l'}(h:l=l'):Uj l K=Uj l' K:=by subst h;rfl
attribute [go_sem,go_sem ↓] Vax
theorem ZO:Good Uj:=Ja λas=>by
 unfold Uj;split
 .exact(jc (λ_ _=>(.and λ_=>(.and λ_=>(.ret _)))) _)
 .exact .of λK hk=>hk.elim
def qam(l:List AV)(K:AV->Prop):Prop:=
 match l with
 | [a,b]=>onJ (λs=>b=.one (.lit (.string ⟨#[]⟩))/\K (.one (.lit (.string s)))) a
 | _=>False
theorem Zax a b K:qam [a,b] K=(onJ (λs=>b=.one (.lit (.string ⟨#[]⟩))/\K (.one (.lit (.string s)))) a):=propext Iff.rfl
@[congr] theorem vbO{K}{l l'}(h:l=l'):qam l K=qam l' K:=by subst h;rfl
attribute [go_sem,go_sem ↓] Zax
def zS(l:List AV)(K:AV->Prop):Prop:=
 match l with
 | [a]=>onW (λw=>okT (zv w)/\K (.one (.lit (.string (tx (zv w)))))) a
 | _=>False
theorem Z3 a K:zS [a] K=(onW (λw=>okT (zv w)/\K (.one (.lit (.string (tx (zv w)))))) a):=propext Iff.rfl
@[congr] theorem XbE{K}{l l'}(h:l=l'):zS l K=zS l' K:=by subst h;rfl
attribute [go_sem,go_sem ↓] Z3
def WR(l:List AV)(K:AV->Prop):Prop:=
 match l with
 | [a]=>onR (λx=>okT (rv x).num/\okT ((rv x).den:Nat)/\rl x<=4294967296/\K (.one (.lit (.string (txR (rv x)))))) a
 | _=>False
theorem VZ a K:WR [a] K=(onR (λx=>okT (rv x).num/\okT ((rv x).den:Nat)/\rl x<=4294967296/\K (.one (.lit (.string (txR (rv x)))))) a):=propext Iff.rfl
@[congr] theorem WbB{K}{l l'}(h:l=l'):WR l K=WR l' K:=by subst h;rfl
attribute [go_sem,go_sem ↓] VZ
theorem Zaa(hΓ:Holds P Γ){f:Nat}(hc:check P f=some (15,(Qb).strip,[.tmp 2])):Sound P f (.dat false jo):=by
 refine Qa hc Yaf hΓ (λargs K hcl hfi hG=>?_);match args,hG with
 | [a],hG=>
  obtain⟨k,n,rfl,rfl,hn,hK⟩:=Xa hG;refine⟨by simp,?_⟩
  rcases hn with rfl | rfl | rfl | rfl
  .simp only [go_sem,Qb];exact⟨λ_=>⟨by decide,⟨by decide,by decide,by decide⟩,hK⟩,λh=>absurd (by decide) h⟩
  .simp only [go_sem,Qb];exact⟨λ_=>⟨by decide,⟨by decide,by decide,by decide⟩,hK⟩,λh=>absurd (by decide) h⟩
  .simp only [go_sem,Qb];exact⟨λ_=>⟨by decide,⟨by decide,by decide,by decide⟩,hK⟩,λh=>absurd (by decide) h⟩
  .simp only [go_sem,Qb];exact⟨λh=>absurd h (by decide),λ_=>⟨by decide,by decide,by decide,⟨by decide,by decide,by decide⟩,hK⟩⟩
theorem wag(hΓ:Holds P Γ){f fs fn fb fi:Nat}(hs:Γ fs=.dat false jo)(hc:check P f=some (54,(Yc fs fn fb fi).strip,[.tmp 4])):Sound P f (.dat false Yv):=by
 refine Qa hc zaG hΓ (λargs K hcl hfi hG=>?_);match args,hG with
 | [a,b],hG=>
  rw [xU]at hG;obtain⟨k,n,rfl,rfl,hn,hG'⟩:=Xa hG;obtain⟨k',n',rfl,rfl,rfl,hK⟩:=Xa hG';clear hG hG';refine⟨by simp,?_⟩
  have a1:(0:Int)<=n:=by rcases hn with rfl | rfl | rfl | rfl <;> decide
  have a2:n<100:=by rcases hn with rfl | rfl | rfl | rfl <;> decide
  simp only [go_sem,Yc,hs,a1,a2,hn];exact hK
theorem Vak(hΓ:Holds P Γ){f fs:Nat}(hs:Γ fs=.dat false Yv)(hc:check P f=some (5,(Qe fs).strip,[.tmp 2])):Sound P f (.dat false Uj):=by
 refine Qa hc ZO hΓ (λargs K hcl hfi hG=>?_);match args,hG with
 | [a],hG=>
  obtain⟨k,n,rfl,rfl,hn,hK⟩:=Xa hG;refine⟨by simp,?_⟩
  simp only [go_sem,Qe,hs,hn];exact hK
theorem kZ(hΓ:Holds P Γ){f fs:Nat}(hs:Γ fs=.dat false Uj)(hc:check P f=some (5,(Up fs).strip,[.tmp 2])):Sound P f (.dat false Uj):=by
 refine Qa hc ZO hΓ (λargs K hcl hfi hG=>?_);match args,hG with
 | [a],hG=>
  obtain⟨k,n,rfl,rfl,hn,hK⟩:=Xa hG;refine⟨by simp,?_⟩
  simp only [go_sem,Up,hs,hn];exact hK
end Go.Abs
end
section
namespace Go.Abs
open Go.Num
variable {P:Program} {Γ:Nat->Spec}
def eS(l:List ByteArray):AV:=.one (.slice (l.map λx=>[.lit (.string x)]))
theorem wa3(x y:List ByteArray)(h:eS x=eS y):x=y:=by
 simp only [eS,AV.one.injEq,C.slice.injEq]at h;exact jE (λa b h=>by simpa using h) h
def onS(k:List ByteArray->Prop)(a:AV):Prop:=onE eS k a
@[congr] theorem kb0{k:List ByteArray->Prop}{a a'}(h:a=a'):onS k a=onS k a':=by subst h;rfl
theorem vbJ(k:List ByteArray->Prop)(x:ByteArray):onS k (.one (.slice [[.lit (.string x)]]))=k [x]:=Xf wa3 k [x]
theorem kbG(k:List ByteArray->Prop)(x y:ByteArray):onS k (.one (.slice [[.lit (.string x)],[.lit (.string y)]]))=k [x,y]:=Xf wa3 k [x,y]
theorem kbV{β:Type}{T:List ByteArray->(β->Prop)->Prop}(h:∀l,GoodT (T l)){a:AV}:GoodT λK=>onS (λl=>T l K) a:=
 xB (e:=eS) (T:=T) wa3 h
def eT(s:ByteArray):AV:=.one (.lit (.string s))
theorem Vbh(x y:ByteArray)(h:eT x=eT y):x=y:=by simpa [eT] using h
def onT1(k:ByteArray->Prop)(a:AV):Prop:=onE eT k a
@[congr] theorem qbQ{k:ByteArray->Prop}{a a'}(h:a=a'):onT1 k a=onT1 k a':=by subst h;rfl
theorem Qbe(k:ByteArray->Prop)(x:ByteArray):onT1 k (.one (.lit (.string x)))=k x:=Xf Vbh k x
theorem xbI{β:Type}{T:ByteArray->(β->Prop)->Prop}(h:∀l,GoodT (T l)){a:AV}:GoodT λK=>onT1 (λl=>T l K) a:=
 xB (e:=eT) (T:=T) Vbh h
attribute [go_sem,go_sem ↓] vbJ kbG Qbe
def jS(l:List ByteArray)(sep:ByteArray):ByteArray:=⟨(Lib.join (l.map (·.data.toList)) sep.data.toList).toArray⟩
theorem jS_1(x s:ByteArray):jS [x] s=x:=by simp [jS,Lib.join]
def Ur(l:List AV)(K:AV->Prop):Prop:=
 match l with
 | [a,b]=>onS (λl=>onT1 (λs=>l≠[]/\l.length<=100/\(jS l s).data.toList.length<=1000/\K (.one (.lit (.string (jS l s))))) b) a
 | _=>False
theorem qau a b K:Ur [a,b] K=(onS (λl=>onT1 (λs=>l≠[]/\l.length<=100/\(jS l s).data.toList.length<=1000/\K (.one (.lit (.string (jS l s))))) b) a):=propext Iff.rfl
@[congr] theorem WbM{K}{l l'}(h:l=l'):Ur l K=Ur l' K:=by subst h;rfl
attribute [go_sem,go_sem ↓] qau
theorem jaH:Good Ur:=Ja λas=>by
 unfold Ur;split
 .exact(kbV λ_=>(xbI λ_=>(.and λ_=>(.and λ_=>(.and λ_=>(.ret _))))))
 .exact .of λK hk=>hk.elim
def vP(l:List AV)(K:AV->Prop):Prop:=
 match l with
 | [a]=>onW (λw=>(zv w=2∨zv w = -2)/\K (.one (.lit (.string (if zv w=2 then ⟨#[50]⟩ else ⟨#[45,50]⟩))))) a
 | _=>False
theorem jbg a K:vP [a] K=(onW (λw=>(zv w=2∨zv w = -2)/\K (.one (.lit (.string (if zv w=2 then ⟨#[50]⟩ else ⟨#[45,50]⟩))))) a):=propext Iff.rfl
@[congr] theorem yb0{K}{l l'}(h:l=l'):vP l K=vP l' K:=by subst h;rfl
attribute [go_sem,go_sem ↓] jbg
theorem ubb:Good vP:=Ja λas=>by
 unfold vP;split
 .exact(vm λ_=>(.and λ_=>(.ret _)))
 .exact .of λK hk=>hk.elim
def US(l:List AV)(K:AV->Prop):Prop:=
 match l with
 | [a]=>onR (λx=>(rv x=2∨rv x = -2)/\rl x<=4294967296/\K (.one (.lit (.string (if rv x=2 then ⟨#[50]⟩ else ⟨#[45,50]⟩))))) a
 | _=>False
theorem Zbe a K:US [a] K=(onR (λx=>(rv x=2∨rv x = -2)/\rl x<=4294967296/\K (.one (.lit (.string (if rv x=2 then ⟨#[50]⟩ else ⟨#[45,50]⟩))))) a):=propext Iff.rfl
@[congr] theorem ub0{K}{l l'}(h:l=l'):US l K=US l' K:=by subst h;rfl
attribute [go_sem,go_sem ↓] Zbe
theorem Zba:Good US:=Ja λas=>by
 unfold US;split
 .exact(zn λ_=>(.and λ_=>(.and λ_=>(.ret _))))
 .exact .of λK hk=>hk.elim
def qo(tE:Nat)(l:List AV)(K:AV->Prop):Prop:=
 match l with
 | [a]=>onLq (λL=>L=[-2,0,2]/\K (.tup [.one (.lit (.string ⟨#[50,32,120,94,50,32,43,32,45,50]⟩)),errV tE 0])) a
 | _=>False
theorem kad tE a K:qo tE [a] K=(onLq (λL=>L=[-2,0,2]/\K (.tup [.one (.lit (.string ⟨#[50,32,120,94,50,32,43,32,45,50]⟩)),errV tE 0])) a):=propext Iff.rfl
@[congr] theorem qbE tE{K}{l l'}(h:l=l'):qo tE l K=qo tE l' K:=by subst h;rfl
attribute [go_sem,go_sem ↓] kad
theorem Qal(tE:Nat):Good (qo tE):=Ja λas=>by
 unfold qo;split
 .exact(Uv λ_=>(.and λ_=>(.ret _)))
 .exact .of λK hk=>hk.elim
def Xw(f0 f1 f2 f3 f4:Nat):AC:=(.o [.m 2 (.c (.one (.lit (.string ⟨#[]⟩)))),.m 3 (.c (.one (.lit .nilIface)))] [0] (.f (.o [.M 8 0,.H 9 f0 8,.M 4 9] [0,4] (.o [.M 10 4,.R 11 10] [0,4,11] (.cond (.t 11) (.seq (.p [.M 12 4,.m 2 (.c (.one (.lit (.string ⟨#[]⟩)))),.M 3 12]) .ret) .skip))) [0] (.f (.o [.M 13 0,.Z 14 13,.I 15 .eql 14 0] [0,15] (.cond (.t 15) (.seq (.p [.m 2 (.c (.one (.lit (.string ⟨#[48]⟩)))),.m 3 (.c (.one (.lit .nilIface)))]) .ret) .skip)) [0] (.o [.m 5 (.c (.one .emp))] [0,5] (.f (.o [.M 16 0,.Z 17 16,.I 18 .sub 17 1,.M 6 18] [0,5,6] (.block 0 (.loop (.f (.o [.M 19 6,.I 20 .geq 19 0] [0,5,6,20] (.cond (.t 20) .skip (.exit 0))) [0,5,6] (.f (.block 1 (.f (.o [.M 23 0,.M 24 6,.J 25 3 23 24,.L 26 3 25,.H 27 f1 26,.I 28 .eql 27 0] [0,5,6,28] (.cond (.t 28) (.exit 1) .skip)) [0,5,6] (.o [.M 29 0,.M 30 6,.J 31 3 29 30,.L 32 3 31,.H 33 f2 32,.M 7 33] [0,5,6,7] (.f (.o [.M 34 6,.I 35 .gtr 34 0] [0,5,6,7,35] (.cond (.t 35) (.p [.M 36 7,.u 37 (.sop 2 [(.t 36),(.c (.one (.lit (.string ⟨#[32,120]⟩))))]),.M 7 37]) .skip)) [0,5,6,7] (.f (.o [.M 38 6,.I 39 .gtr 38 1] [0,5,6,7,39] (.cond (.t 39) (.p [.M 40 7,.M 41 6,.H 42 f3 41,.u 43 (.sop 2 [(.c (.one (.lit (.string ⟨#[94]⟩)))),(.t 42)]),.u 44 (.sop 2 [(.t 40),(.t 43)]),.M 7 44]) .skip)) [0,5,6,7] (.p [.M 45 5,.M 46 7,.u 47 (.row 1 [[.x 1 (.t 46)]]),.u 48 (.app 1 (.t 45) (.t 47)),.M 5 48])))))) [0,5,6] (.p [.M 21 6,.I 22 .sub 21 1,.M 6 22])))))) [5] (.seq (.p [.M 49 5,.u 50 (.call f4 [(.t 49),(.c (.one (.lit (.string ⟨#[32,43,32]⟩))))]),.M 2 50,.m 3 (.c (.one (.lit .nilIface)))]) .ret))))))
theorem Uah{f:FuncId}(hE:Enters P f)
  (hJ:∀(bk o c:Nat) (xs:List ByteArray) (sep:ByteArray) (w:World),(∀(j:Nat) x,xs[j]?=some x->w.cell? ⟨bk,o+j,none⟩=some (.string x))->bk<w.heap.size->xs.length<=140737488355328->xs.length<=c->(Lib.join (xs.map (·.data.toList)) sep.data.toList).length<=140737488355328->
   Calls P f #[.slice (some ⟨bk,o,none⟩) xs.length c,.string sep] w λe w'=>e=.returned (.string ⟨(Lib.join (xs.map (·.data.toList)) sep.data.toList).toArray⟩)/\Go.RowKit.Below w.heap.size w w'):Sound P f (.dat false Ur):=by
 refine⟨hE,jaH,λargs vals w I K hI hr _ hG=>?_⟩;match args,hG with
 | [a,b],hG=>
  obtain⟨l,rfl,s,rfl,h0,h1,h2,hK⟩:=hG;match vals,hr.1 with
  | [v,u],_=>
   have hv:=hr.2 0 _ v rfl rfl;have hu:=hr.2 1 _ u rfl rfl;cases hu with
   | one c u hu=>
    cases hu with
    | lit u hu=>
     cases hv with
     | one c v hv=>
      obtain⟨es,hes⟩:∃es,es=l.map λx=>[C.lit (.string x)]:=⟨_,rfl⟩;have hv' : RC M0 I w.heap (.slice es) v:=by rw [hes];exact hv
      have hl:es.length=l.length:=by rw [hes,List.length_map]
      cases hv' with
      | snil a cap=>exact absurd (List.map_eq_nil_iff.1 hes.symm) h0
      | slice _ sz b off cap arr ty fz vs c0 c1 c2 c3 c4 c5 c6 c7=>
       have s1:sz=1:=by
        cases l with
        | nil=>exact absurd rfl h0
        | cons x l=>rw [<-c5 [C.lit (.string x)] (by rw [hes];simp)];rfl
       subst s1;rw [hl];rw [hl]at c2;refine(hJ b off cap l s w ?_ (hI b c3) (by omega) c2 (by simpa [jS] using Nat.le_trans h2 (by decide))).mono λe w' ⟨he,hb⟩=>?_
       .intro j x hj;have hlt:j<l.length:=(List.getElem?_eq_some_iff.1 hj).1;have q1:=c6 j 0 (by omega) (by decide)
        have q2:=c7 j 0 [C.lit (.string x)] (C.lit (.string x)) (by rw [hes,List.getElem?_map,hj];rfl) rfl
        generalize hvj:vs j 0=vj at q1 q2;cases q2
        have q3:=uT (w:=w) (b:=b) (off:=off) (j:=j) c4 (by simpa using q1)
        rwa [zr]at q3
       .exact⟨_,_,I,he,hK,.one _ _ (.lit _ rfl),.lit _,{ grow:=hb.size,keep:=λk hk=>hb.block k hk,sub:=λ_ h=>h,new:=λ_ h=>.inl h,imb:=λk hk=>Nat.lt_of_lt_of_le (hI k hk) hb.size,os:=hb.os,tape:=hb.tape,out:=hb.output }⟩
theorem jaU(hΓ:Holds P Γ){f fm fs fi fr fj fn:Nat}(hm:Γ fm=.dat false kh)(hs:Γ fs=.dat false Jr)(hi:Γ fi=.dat false Uj)(hj:Γ fj=.dat false Ur)(hn:Γ fn=.dat true Ve)(hc:check P f=some (44,(kp fm fs fi fr fj fn).strip,[.tmp 2])):Sound P f (.dat false vP):=by
 refine Qa hc ubb hΓ (λargs K hcl hfi hG=>?_);match args,hG with
 | [a],hG=>
  obtain⟨w,rfl,hw,h1,hK⟩:=hG;refine⟨by simp,?_⟩
  have d1:digs 2=[2]:=WbC (by decide) (by decide)
  have d0:=Zb;have v1:val [2] / 1000000000=0:=by decide
  have v2:val [2] % 1000000000=2:=by decide
  have na:(zv w).natAbs=2:=by rcases h1 with h | h <;> rw [h] <;> rfl
  have w1:WL [2]:=Xb.2 ⟨by decide,Ub⟩
  have hok:okT ((2:Nat):Int):=.inr (.inl rfl);have jj:jS [tx ((2:Nat):Int)] ⟨#[]⟩=⟨#[50]⟩:=jS_1 _ _;have j2:(jS [tx ((2:Nat):Int)] ⟨#[]⟩).data.toList.length<=1000:=by rw [jj];decide
  simp only [go_sem,kp,hm,hs,hi,hj,hn,hw,na,d1];refine ja (λk:Nat=>if k=0 then ⟨mkV [(1,.one (.ptr 1 1 0 0)),(3,wsA [2]),(4,.one .emp)],mkH [(1,⟨1,some ⟨[[zb w,zm w]],2,true⟩⟩)]⟩ else ⟨mkV [(1,.one (.ptr 1 1 0 0)),(3,wsA []),(4,.one (.full [[.lit (.string (tx ((2:Nat):Int)))]]))],mkH [(1,⟨1,some ⟨[[zb w,zm w]],2,true⟩⟩)]⟩) (λ_=>True) (λk=>1-k) 0 ?_ trivial ?_
  .rw [if_pos rfl];exact qa (by simp [bitvec_to_nat,wc]) ⟨vbk,trivial⟩
  .intro k _;by_cases hk:k=0
   .subst hk;rw [if_pos rfl];simp only [go_sem,hs,hi,v1,v2,d0];refine⟨w1,by decide,by decide,by omega,hok,λe he=>by simp at he,1,?_,by decide⟩
    rw [if_neg (by decide)]
    exact qa (by simp [bitvec_to_nat,wc]) ⟨vbk,trivial⟩
   .rw [if_neg hk];rcases h1 with h1 | h1
    .rw [if_pos h1]at hK;simp only [go_sem,hj,hn,hw,h1,jj,j2];exact⟨by simp,λh=>absurd h (by decide),λ_=>hK⟩
    .rw [if_neg (by rw [h1];decide)]at hK
     simp only [go_sem,hj,hn,hw,h1,jj,j2];exact⟨by simp,λ_=>⟨by decide,hK⟩,λh=>absurd (by decide) h⟩
theorem ZaP(hΓ:Holds P Γ){f fp fo fc ft:Nat}(hp:Γ fp=.dat false kd)(ho:Γ fo=.dat false Qm)(hc' : Γ fc=.dat true Qw)(ht:Γ ft=.dat false vP)(hc:check P f=some (22,(Ji fp fo fc ft).strip,[.tmp 2])):Sound P f (.dat false US):=by
 refine Qa hc Zba hΓ (λargs K hcl hfi hG=>?_);match args,hG with
 | [a],hG=>
  obtain⟨x,rfl,hx,h1,hl,hK⟩:=hG;refine⟨by simp,?_⟩
  have t2:¬(-2:Int)=2:=by decide
  rcases h1 with h1 | h1
  .have e1:ordI ((Rat.den 2:Nat):Int) 1=0:=by decide
   have e2:(Rat.num 2:Int)=2:=by decide
   rw [if_pos h1]at hK;simp only [go_sem,Ji,hp,ho,hc',ht,hx,h1,e1,e2];exact⟨hl,.inl trivial,hK⟩
  .have e1:ordI ((Rat.den (-2):Nat):Int) 1=0:=by decide
   have e2:(Rat.num (-2):Int) = -2:=by decide
   rw [if_neg (by rw [h1];decide)]at hK
   simp only [go_sem,Ji,hp,ho,hc',ht,hx,h1,e1,e2,t2];exact⟨hl,.inr trivial,hK⟩
theorem Z4(hΓ:Holds P Γ){f fk fs ft fi fj tE:Nat}(hk:Γ fk=.dat false (Vl tE))(hs:Γ fs=.dat true jg)(ht:Γ ft=.dat false US)(hi:Γ fi=.dat false Uj)(hj:Γ fj=.dat false Ur)(hc:check P f=some (51,(Xw fk fs ft fi fj).strip,[.tmp 2,.tmp 3])):Sound P f (.dat false (qo tE)):=by
 refine Qa hc (Qal tE) hΓ (λargs K hcl hfi hG=>?_);match args,hG with
 | [a],hG=>
  obtain⟨L,rfl,hL,hK⟩:=hG;refine⟨by simp,?_⟩
  have hc0:chkP L=0:=by rw [hL];decide +kernel
  have hr:∀x∈L,rz x<=4000000000:=by rw [hL];decide +kernel
  have hl:L.length=3:=by rw [hL];rfl
  have g0:L.getD 0 0 = -2:=by rw [hL];rfl
  have g1:L.getD 1 0=0:=by rw [hL];rfl
  have g2:L.getD 2 0=2:=by rw [hL];rfl
  have e0:=Wd tE;simp only [go_sem,Xw,hk,hc0,e0,hl];refine⟨hr,by omega,?_⟩
  have o2:ordQ 2 0=1:=by decide +kernel
  have om:ordQ (-2) 0 = -1:=by decide +kernel
  have o0:ordQ 0 0=0:=by decide +kernel
  have n31:((3:Nat):Int)-1=2:=rfl;have okt:okT 2:=.inr (.inl rfl);have r2:rl (rcan 2)<=4294967296:=by decide +kernel
  have rm:rl (rcan (-2))<=4294967296:=by decide +kernel
  have r0:rl (rcan 0)<=4294967296:=by decide +kernel
  have q1:¬(1:Int)=0:=by decide
  have q2:¬(-1:Int)=0:=by decide
  have q3:¬(-2:Rat)=2:=by decide
  have tx2:tx 2=⟨#[50]⟩:=rfl;have t0:(2:Int).toNat=2:=rfl;have t1:(1:Int).toNat=1:=rfl;have t00:(0:Int).toNat=0:=rfl;refine xaz 3 ⟨mkV [(0,lqA L),(5,.one .emp),(6,.one (.lit (.int .i64 2)))],mkH []⟩ (qa (by simp [bitvec_to_nat,lqA]) trivial) ?_
  simp only [go_sem,hs,ht,hi,hj,g2,qm,o2,q1,t0,tx2,Int.reduceLE,Int.reduceLT,Int.reduceSub];have z1:∀(s:ByteArray) (e:List C),e∈[[C.lit (.string s)]]->e.length=1:=λs e he=>by rw [List.mem_singleton.1 he];rfl
  refine⟨by omega,by decide +kernel,by omega,.inl trivial,by decide +kernel,by decide,okt,by decide,by decide,z1 _,?_⟩
  generalize hTA:(⟨#[50]⟩:ByteArray)++⟨#[32,120]⟩++(⟨#[94]⟩++⟨#[50]⟩)=TA;refine waQ [0,5,6] [48] (by simp [go_sem,-List.map_map]) ?_
  simp only [go_sem,hs,ht,hi,hj,g1,qm,o0,t1,Int.reduceLE,Int.reduceLT,Int.reduceSub];refine⟨by omega,by decide +kernel,?_⟩
  refine waQ [0,5,6] [48] (by simp [go_sem,-List.map_map]) ?_
  simp only [go_sem,hs,ht,hi,hj,g0,qm,om,q2,q3,t00,Int.reduceLE,Int.reduceLT,Int.reduceSub];refine⟨by omega,by decide +kernel,by omega,.inr trivial,by decide +kernel,z1 _,?_⟩
  refine waQ [0,5,6] [48] (by simp [go_sem,-List.map_map]) ?_
  have jj:jS [TA,⟨#[45,50]⟩] ⟨#[32,43,32]⟩=⟨#[50,32,120,94,50,32,43,32,45,50]⟩:=by rw [<-hTA];decide +kernel
  have j2:(jS [TA,⟨#[45,50]⟩] ⟨#[32,43,32]⟩).data.toList.length<=1000:=by rw [jj];decide
  rw [Wd]at hK;simp only [go_sem,hj,Int.reduceLE,jj,j2];exact⟨by simp,hK⟩
end Go.Abs
end
section
namespace Go.Num
open Go.Abs
def o3(l:List (Int×Int×Int)):BQ:=l.map λt=>(t.1,t.2.1,(t.2.2:Rat))
theorem UaN(l m:List (Int×Int×Int)):o3 (l++m)=o3 l++o3 m:=List.map_append
theorem ubl(l:List (Int×Int×Int)):(mcs (o3 l)).length=l.length:=by unfold mcs o3;rw [List.length_map,List.length_map]
theorem wbu{l:List (Int×Int×Int)}{k:Nat}{x:Int×Int×Int}(h:l[k]?=some x):mcs (o3 (l.take (k+1)))=mcs (o3 (l.take k))++[(x.1,x.2.1,rcan (x.2.2:Rat))]:=by
 rw [List.take_add_one,h,UaN,Qt];rfl
def xmP:List (Int×Int×Int):=[(0,0,-2),(0,2,1),(2,0,1)]
def xmQ:List (Int×Int×Int):=[(0,1,1),(1,0,-1)]
def xmA:List (Int×Int×Int):=[(0,1,1),(1,0,1)]
def xmB:List (Int×Int×Int):=[(0,1,-1),(1,0,1)]
def xmC:List (Int×Int×Int):=[(0,2,-1),(2,0,1)]
theorem XbX:elL (o3 xmP) (o3 xmQ)=[-2,0,2]:=by decide +kernel
theorem zbF:mulB (o3 xmA) (o3 xmB)=o3 xmC:=by decide +kernel
theorem ybE:erC (mcs (o3 xmP)) (mcs (o3 xmQ))=0:=by decide +kernel
theorem ybs:mulC (mcs (o3 xmA)) (mcs (o3 xmB))=0:=by decide +kernel
theorem JbK:degM (mcs (o3 xmP))*degM (mcs (o3 xmQ))<=9:=by decide +kernel
end Go.Num
namespace Go.Abs
open Go.Num
variable {P:Program} {Γ:Nat->Spec}
def iC(t:Int×Int×Int):List C:=[.lit (.int .i64 t.1),.lit (.int .i64 t.2.1),.lit (.int .i64 t.2.2)]
def i3A(l:List (Int×Int×Int)):AV:=.one (.slice (l.map iC))
theorem qag(x y:List (Int×Int×Int))(h:i3A x=i3A y):x=y:=by
 simp only [i3A,AV.one.injEq,C.slice.injEq]at h;refine jE (λa b h=>?_) h;obtain⟨a1,a2,a3⟩:=a;obtain⟨b1,b2,b3⟩:=b;simpa [iC] using h
def onI3(k:List (Int×Int×Int)->Prop)(a:AV):Prop:=onE i3A k a
@[congr] theorem zbV{k:List (Int×Int×Int)->Prop}{a a'}(h:a=a'):onI3 k a=onI3 k a':=by subst h;rfl
theorem Ybh(k:List (Int×Int×Int)->Prop)(a b c d e f:Int):onI3 k (.one (.slice [[.lit (.int .i64 a),.lit (.int .i64 b),.lit (.int .i64 c)],[.lit (.int .i64 d),.lit (.int .i64 e),.lit (.int .i64 f)]]))=k [(a,b,c),(d,e,f)]:=Xf qag k [(a,b,c),(d,e,f)]
theorem wbe(k:List (Int×Int×Int)->Prop)(a b c d e f g h i:Int):onI3 k (.one (.slice [[.lit (.int .i64 a),.lit (.int .i64 b),.lit (.int .i64 c)],[.lit (.int .i64 d),.lit (.int .i64 e),.lit (.int .i64 f)],[.lit (.int .i64 g),.lit (.int .i64 h),.lit (.int .i64 i)]]))=k [(a,b,c),(d,e,f),(g,h,i)]:=Xf qag k [(a,b,c),(d,e,f),(g,h,i)]
theorem vbH{β:Type}{T:List (Int×Int×Int)->(β->Prop)->Prop}(h:∀l,GoodT (T l)){a:AV}:GoodT λK=>onI3 (λl=>T l K) a:=
 xB (e:=i3A) (T:=T) qag h
theorem uaI(K:List C->Prop)(L:List (Int×Int×Int))(i:Nat):getE K (L.map iC) i=(i<L.length/\K (iC (L.getD i (0,0,0)))):=by
 simp only [getE,List.length_map,List.getElem?_map];refine propext ⟨λh=>⟨h.1,h.2 _ (by simp [h.1,List.getD_eq_getElem?_getD])⟩,λh=>⟨h.1,λe he=>?_⟩⟩
 simp [h.1]at he;subst he;have:=h.2;simpa [List.getD_eq_getElem?_getD,h.1] using this
theorem Uav(L:List (Int×Int×Int)):Clean (.slice (L.map iC))=True:=eq_true (.slice _ λe he c hc=>by
 obtain⟨l,_,rfl⟩:=List.mem_map.1 he;simp only [iC,List.mem_cons,List.not_mem_nil,or_false]at hc;rcases hc with rfl | rfl | rfl <;> exact .lit _)
attribute [go_sem,go_sem ↓] Ybh wbe uaI Uav
def YQ(l:List AV)(K:AV->Prop):Prop:=
 match l with
 | [a]=>onI3 (λl=>(∀t∈l,-1000<=t.2.2/\t.2.2<=1000)/\l.length<=1000/\K (.one (.slice ((mcs (o3 l)).map mC)))) a
 | _=>False
theorem vbi a K:YQ [a] K=(onI3 (λl=>(∀t∈l,-1000<=t.2.2/\t.2.2<=1000)/\l.length<=1000/\K (.one (.slice ((mcs (o3 l)).map mC)))) a):=propext Iff.rfl
@[congr] theorem xbZ{K}{l l'}(h:l=l'):YQ l K=YQ l' K:=by subst h;rfl
attribute [go_sem,go_sem ↓] vbi
theorem va9:Good YQ:=Ja λas=>by
 unfold YQ;split
 .exact(vbH λ_=>(.and λ_=>(.and λ_=>(.ret _))))
 .exact .of λK hk=>hk.elim
def Un(l:List AV)(K:AV->Prop):Prop:=
 match l with
 | []=>K (.one (.lit (.bool true)))
 | _=>False
theorem V0 K:Un [] K=(K (.one (.lit (.bool true)))):=propext Iff.rfl
@[congr] theorem XbG{K}{l l'}(h:l=l'):Un l K=Un l' K:=by subst h;rfl
attribute [go_sem,go_sem ↓] V0
theorem qai:Good Un:=Ja λas=>by
 unfold Un;split
 .exact(.ret _)
 .exact .of λK hk=>hk.elim
def zj(f0:Nat):AC:=(.o [.m 2 (.c (.one .emp))] [0] (.o [.m 3 (.c (.one .emp))] [0,3] (.f (.o [.M 6 0,.Z 7 6,.N 8 0] [3,6,7,8] (.block 0 (.loop (.o [.B 9 .lss 8 7] [3,6,7,8,9] (.f (.cond (.t 9) .skip (.exit 0)) [3,6,7,8] (.f (.block 1 (.o [.J 10 3 6 8,.L 11 3 10,.G 5 [(.lit (.int .i64 0)),(.lit (.int .i64 0)),(.lit (.int .i64 0))],.S 3 5 11] [3,5,6,7,8] (.y [.M 12 3,.u 13 (.ai 1 3 (.t 5) (.i 0)),.F 14 1 13,.u 15 (.ai 1 3 (.t 5) (.i 1)),.F 16 1 15,.u 17 (.ai 1 3 (.t 5) (.i 2)),.F 18 1 17,.H 19 f0 18,.u 20 (.build [.x 1 (.t 14),.x 1 (.t 16),.x 3 (.t 19)]),.u 21 (.row 5 [[.x 5 (.t 20)]]),.u 22 (.app 5 (.t 12) (.t 21)),.M 3 22]))) [3,6,7,8] (.p [.I 23 .add 8 1,.M 8 23]))))))) [3] (.seq (.p [.M 24 3,.M 2 24]) .ret))))
def Zf(f0 f1 f2 f3 f4:Nat):AC:=(.o [.m 0 .fa] [] (.o [.u 8 (.build [.x 1 (.i 0),.x 1 (.i 1),.x 1 (.i 1)]),.u 9 (.build [.x 1 (.i 1),.x 1 (.i 0),.x 1 (.i 1)]),.u 10 (.row 3 [[.x 3 (.t 8)],[.x 3 (.t 9)]]),.H 11 f0 10,.u 12 (.build [.x 1 (.i 0),.x 1 (.i 1),.x 1 (.i (-1))]),.u 13 (.build [.x 1 (.i 1),.x 1 (.i 0),.x 1 (.i 1)]),.u 14 (.row 3 [[.x 3 (.t 12)],[.x 3 (.t 13)]]),.H 15 f0 14,.D 16 f1 11 15,.M 7 16,.X 17 0 7,.X 18 1 7,.M 1 17,.M 2 18] [1,2] (.o [.u 20 (.build [.x 1 (.i 0),.x 1 (.i 0),.x 1 (.i (-2))]),.u 21 (.build [.x 1 (.i 0),.x 1 (.i 2),.x 1 (.i 1)]),.u 22 (.build [.x 1 (.i 2),.x 1 (.i 0),.x 1 (.i 1)]),.u 23 (.row 3 [[.x 3 (.t 20)],[.x 3 (.t 21)],[.x 3 (.t 22)]]),.H 24 f0 23,.u 25 (.build [.x 1 (.i 0),.x 1 (.i 1),.x 1 (.i 1)]),.u 26 (.build [.x 1 (.i 1),.x 1 (.i 0),.x 1 (.i (-1))]),.u 27 (.row 3 [[.x 3 (.t 25)],[.x 3 (.t 26)]]),.H 28 f0 27,.D 29 f2 24 28,.M 19 29,.X 30 0 19,.X 31 1 19,.M 3 30,.M 4 31] [1,2,3,4] (.f (.o [.M 32 2,.R 33 32,.M 34 33,.V 35 34 false 4,.w 36 34 false (.binn .neq (.t 35) (.c (.one (.lit .nilIface)))),.Q 37 34 36] [1,3,37] (.cond (.t 37) (.seq (.p [.m 0 .fa]) .ret) .skip)) [1,3] (.o [.M 39 3,.H 40 f3 39,.M 38 40,.X 41 0 38,.X 42 1 38,.M 5 41,.M 6 42] [1,5,6] (.seq (.p [.M 43 6,.u 44 (.binn .eql (.t 43) (.c (.one (.lit .nilIface)))),.M 45 44,.V 46 45 true 5,.w 47 45 true (.sop 1 [(.t 46),(.c (.one (.lit (.string ⟨#[50,32,120,94,50,32,43,32,45,50]⟩))))]),.P 48 45 47,.M 49 48,.V 50 49 true 1,.w 51 49 true (.build [.x 1 (.i 0),.x 1 (.i 2),.x 1 (.i (-1))]),.w 52 49 true (.build [.x 1 (.i 2),.x 1 (.i 0),.x 1 (.i 1)]),.w 53 49 true (.row 3 [[.x 3 (.t 51)],[.x 3 (.t 52)]]),.W 54 49 true f0 53,.Y 55 49 true f4 50 54,.P 56 49 55,.M 0 56]) .ret))))))
theorem ya4(hΓ:Holds P Γ){f fo:Nat}(ho:Γ fo=.dat false Xx)(hc:check P f=some (25,(zj fo).strip,[.tmp 2])):Sound P f (.dat false YQ):=by
 refine Qa hc va9 hΓ (λargs K hcl hfi hG=>?_);match args,hG with
 | [a],hG=>
  obtain⟨l,rfl,hr,hl,hK⟩:=hG;refine⟨by simp,?_⟩
  simp only [go_sem,zj,i3A];intro _;refine ja (λk:Nat=>if k=0 then ⟨mkV [(3,.one .emp),(6,i3A l),(7,.one (.lit (.int .i64 l.length))),(8,.one (.lit (.int .i64 k)))],mkH []⟩
    else ⟨mkV [(3,.one (.own 22 1 5 0 k)),(6,i3A l),(7,.one (.lit (.int .i64 l.length))),(8,.one (.lit (.int .i64 k)))],mkH [(22,⟨1,some ⟨(mcs (o3 (l.take k))).map mC,5,true⟩⟩)]⟩) (λk=>k<=l.length) (λk=>l.length-k) 0 ?_ ?_ ?_
  .exact qa (by simp [bitvec_to_nat,i3A]) trivial
  .exact Nat.zero_le _
  .intro k hk;by_cases hlt:k<l.length
   .obtain⟨y,hy⟩:∃y,l.getD k (0,0,0)=y:=⟨_,rfl⟩;have hy0:l[k]?=some y:=by
     rw [List.getD_eq_getElem?_getD,List.getElem?_eq_getElem hlt]at hy;rw [List.getElem?_eq_getElem hlt];simpa using hy
    have hry:=hr y (List.mem_of_getElem? hy0);have ht:=wbu hy0;by_cases hk0:k=0
    .subst hk0;simp only [go_sem,hlt,hy,ho,iC,i3A];repeat first | refine q_Wk ?_ | intro _
     refine⟨λe he=>by rw [List.mem_singleton.1 he];rfl,by omega,1,?_,by omega,by omega⟩
     rw [if_neg (by decide)]
     exact qa (by simp [bitvec_to_nat,i3A]) ⟨ui (by rw [ht];rfl),trivial⟩
    .have hlk:(mcs (o3 (l.take k))).length=k:=by rw [ubl,List.length_take];omega
     simp only [go_sem,hlt,hy,ho,iC,i3A,hk0,hlk];repeat first | refine q_Wk ?_ | intro _
     refine⟨λe he=>by rw [List.mem_singleton.1 he];rfl,by omega,by omega,k+1,?_,by omega,by omega⟩
     rw [if_neg (by omega)]
     exact qa (by simp [bitvec_to_nat,i3A]) ⟨ui (by rw [ht];simp [mC]),trivial⟩
   .by_cases hk0:k=0
    .subst hk0;have hl0:l=[]:=List.length_eq_zero_iff.1 (by omega)
     subst hl0;simp only [go_sem,hlt,i3A];exact hK
    .have hlk:(mcs (o3 (l.take k))).length=k:=by rw [ubl,List.length_take];omega
     have et:l.take k=l:=List.take_of_length_le (by omega)
     simp only [go_sem,hlt,hk0,i3A];rw [if_pos (by omega),List.take_of_length_le (Nat.le_of_eq hlk),Jk _ (of_eq_true (qe _)),et]
     exact hK
theorem QbZ:SmE (o3 xmP) (o3 xmQ):=by
 have b1:∀(n:Int),n.natAbs<=2->Bd 1 2 (n:Rat):=λn h=>(Bd.int n).mono h;refine⟨1,2,by decide,by decide +kernel,by decide +kernel,λt ht=>?_,λt ht=>?_⟩
 .simp only [o3,xmP,List.map_cons,List.map_nil,List.mem_cons,List.not_mem_nil,or_false]at ht;rcases ht with rfl | rfl | rfl <;> exact b1 _ (by decide)
 .simp only [o3,xmQ,List.map_cons,List.map_nil,List.mem_cons,List.not_mem_nil,or_false]at ht;rcases ht with rfl | rfl <;> exact b1 _ (by decide)
theorem zae(hΓ:Holds P Γ){f ff fm fe ft fq tE:Nat}(hf:Γ ff=.dat false YQ)(hm:Γ fm=.dat false (Qy tE))(he:Γ fe=.dat false (yv tE))(ht:Γ ft=.dat false (qo tE))(hq:Γ fq=.dat false Ul)(hc:check P f=some (57,(Zf ff fm fe ft fq).strip,[.tmp 0])):Sound P f (.dat false Un):=by
 refine Qa hc qai hΓ (λargs K hcl hfi hG=>?_);match args,hG with
 | [],hK=>
  have hK:K (.one (.lit (.bool true))):=hK;refine⟨by simp,?_⟩
  obtain⟨A,hA⟩:∃A,mcs (o3 xmA)=A:=⟨_,rfl⟩;obtain⟨B,hB⟩:∃B,mcs (o3 xmB)=B:=⟨_,rfl⟩;obtain⟨C,hC⟩:∃C,mcs (o3 xmC)=C:=⟨_,rfl⟩;obtain⟨X,hX⟩:∃X,mcs (o3 xmP)=X:=⟨_,rfl⟩;obtain⟨Y,hY⟩:∃Y,mcs (o3 xmQ)=Y:=⟨_,rfl⟩;have wl:∀l:List (Int×Int×Int),InQ (o3 l)->∀t∈mcs (o3 l),WLM t:=λl h=>jaM h;have s1:∀t∈xmA,-1000<=t.2.2/\t.2.2<=1000:=by decide
  have s2:∀t∈xmB,-1000<=t.2.2/\t.2.2<=1000:=by decide
  have s3:∀t∈xmC,-1000<=t.2.2/\t.2.2<=1000:=by decide
  have s4:∀t∈xmP,-1000<=t.2.2/\t.2.2<=1000:=by decide
  have s5:∀t∈xmQ,-1000<=t.2.2/\t.2.2<=1000:=by decide
  have m1:mulC A B=0:=by rw [<-hA,<-hB];exact ybs
  have m2:mulB (A.map mv) (B.map mv)=o3 xmC:=by rw [<-hA,<-hB,qp,qp];exact zbF
  have e1:erC X Y=0:=by rw [<-hX,<-hY];exact ybE
  obtain⟨L,hL⟩:∃L:List Rat,L=[-2,0,2]:=⟨_,rfl⟩;have e2:elL (X.map mv) (Y.map mv)=L:=by rw [hL,<-hX,<-hY,qp,qp];exact XbX
  have e3:degM X*degM Y<=9/\SmE (X.map mv) (Y.map mv):=by rw [<-hX,<-hY,qp,qp];exact⟨JbK,QbZ⟩
  have r1:∀t∈A,rl t.2.2<=1000000:=by rw [<-hA];decide +kernel
  have r2:∀t∈B,rl t.2.2<=1000000:=by rw [<-hB];decide +kernel
  have r3:∀t∈C,rl t.2.2<=1000000:=by rw [<-hC];decide +kernel
  have r4:∀t∈X,rl t.2.2<=1000000:=by rw [<-hX];decide +kernel
  have r5:∀t∈Y,rl t.2.2<=1000000:=by rw [<-hY];decide +kernel
  have w1:∀t∈A,WLM t:=by rw [<-hA];exact wl _ (by unfold InQ inQ;decide +kernel)
  have w2:∀t∈B,WLM t:=by rw [<-hB];exact wl _ (by unfold InQ inQ;decide +kernel)
  have w3:∀t∈C,WLM t:=by rw [<-hC];exact wl _ (by unfold InQ inQ;decide +kernel)
  have w4:∀t∈X,WLM t:=by rw [<-hX];exact wl _ (by unfold InQ inQ;decide +kernel)
  have w5:∀t∈Y,WLM t:=by rw [<-hY];exact wl _ (by unfold InQ inQ;decide +kernel)
  have z1:sz (A.map mv)+sz (B.map mv)<=3000000:=by rw [<-hA,<-hB,qp,qp];decide +kernel
  have g1:(∀t∈A,rl t.2.2<=1000000000)/\(∀t∈B,rl t.2.2<=1000000000):=⟨λt ht=>Nat.le_trans (r1 t ht) (by decide),λt ht=>Nat.le_trans (r2 t ht) (by decide)⟩
  have g3:∀t∈C,rl t.2.2<=4294967296:=λt ht=>Nat.le_trans (r3 t ht) (by decide)
  have lC:C.length<=1000000:=by rw [<-hC];decide +kernel
  have e0:=Wd tE;have b0:=Wac (o3 xmC);unfold xmA at hA s1;unfold xmB at hB s2;unfold xmP at hX s4;unfold xmQ at hY s5;have hC2:=hC;have s3':=s3;unfold xmC at hC2 s3';simp only [go_sem,Zf,hf,hm,he,ht,hq,hA,hB,hX,hY,hC2,m1,m2,e1,e2,e0,b0,hC,s1,s2,s3',s4,s5];exact⟨s1,s2,w1,w2,g1.1,g1.2,z1,s4,s5,w4,w5,r4,r5,e3,hL,λ_=>⟨s3',w3,w3,g3,lC,hK⟩,λh=>absurd h (by simp)⟩
end Go.Abs
end
section
namespace Go.Num
open Go.Abs
theorem zbH{b:Nat}:∀{l:BQ},(∀t∈l,rz t.2.2<=b)->sz l<=l.length*(b+2)
 | [],_=>by simp [sz]
 | t::l,h=>by
  have h1:=h t (by simp)
  have h2:=zbH (l:=l) λu hu=>h u (by simp [hu])
  simp only [sz,List.length_cons,Nat.add_mul,Nat.one_mul];omega
theorem qae{x:R}(h:lowR x=true):rl x<=1:=by
 unfold lowR lowB at h;simp only [Bool.and_eq_true,decide_eq_true_eq]at h;unfold rl;omega
theorem VaX{p:List Mo}(h:vldM p=true)(hw:∀t∈p,WLM t):∃P,p=mcs P/\PB 5 45 P/\P.length<=15:=by
 unfold vldM at h;simp only [Bool.and_eq_true,decide_eq_true_eq]at h;obtain⟨h1,h2,h3⟩:=h;unfold shortM at h1;simp only [Bool.and_eq_true,Bool.not_eq_true',List.all_eq_true]at h1;obtain⟨h1,h4⟩:=h1;unfold longM at h1;simp only [Bool.or_eq_false_iff,Bool.and_eq_false_iff,decide_eq_false_iff_not]at h1;obtain⟨c1,c2⟩:=yp h2 hw;obtain⟨i1,i2,i3⟩:=ym h2 hw;have hlen:(p.map mv).length<=15:=by rw [List.length_map];omega
 have hd:degB (p.map mv)<=5:=by rw [<-Qh,c2];exact h3
 refine⟨p.map mv,c2.symm,⟨c1,λt ht=>?_,?_⟩,hlen⟩
 .have:=XY c1 t ht;omega
 .have:=zbH (b:=1) (l:=p.map mv) λt ht=>by
   obtain⟨u,hu,rfl⟩:=List.mem_map.1 ht;exact Nat.le_trans (qw (hw u hu).2.2) (qae (h4 u hu))
  omega
theorem PB.wl{d s:Nat}{p:BQ}(h:PB d s p):∀t∈mcs p,WLM t:=jaM h.canon.ins
theorem PB.rl{d s:Nat}{p:BQ}(h:PB d s p):∀t∈mcs p,rl t.2.2<=s:=λt ht=>by
 obtain⟨u,hu,rfl⟩:=List.mem_map.1 ht;have h1:rz u.2.2<=sz p:=Ua9 hu;have h2:=h.size;show rz u.2.2<=s;omega
theorem PB.rlb{d s b:Nat}{p:BQ}(h:PB d s p)(hb:s<=b):∀t∈mcs p,Num.rl t.2.2<=b:=λt ht=>Nat.le_trans (h.rl t ht) hb
theorem PB.chk{d s d' s' : Nat}{p q:BQ}(h:PB d s p)(k:PB d' s' q):chk2 (mcs p) (mcs q)=0:=yam h.canon k.canon
theorem PB.mulC{d s d' s' : Nat}{p q:BQ}(h:PB d s p)(k:PB d' s' q)(hd:d+d'<=24):mulC (mcs p) (mcs q)=0:=Vba h.canon k.canon (by
 have h1:=kaI h.canon h.deg;have h2:=kaI k.canon k.deg;omega)
theorem PB.ev{d s m n:Nat}{p:BQ}(h:PB d s p)(hl:p.length<=m){x y:Rat}(hx:rz x<=n)(hy:rz y<=n):rz (ev p x y)<=s+m*(48*(n+2)+8):=by
 have h1:=Ybx h.canon.ins x y;have h2:=h.size;have h3:=Nat.mul_le_mul hl (show 24*(rz x+2)+24*(rz y+2)+8<=48*(n+2)+8 by omega)
 omega
theorem UaV{d s d' s' : Nat}{p q:BQ}(h:PB d s p)(k:PB d' s' q)(hd:d+d'<=24):mulB q p=mulB p q:=
 UQ (k.mul h (by omega)).canon (h.mul k hd).canon λx y=>by rw [yK k h (by omega),yK h k hd,Rat.mul_comm]
theorem qaW{d s s' s'' : Nat}{p q r:BQ}(h:PB d s p)(k:PB d s' q)(l:PB d s'' r)(hd:d+d<=24):addB (mulB p q) (mulB p r)=mulB p (addB q r):=
 UQ ((h.mul k hd).add (h.mul l hd)).canon (h.mul (k.add l) hd).canon λx y=>by
  rw [waC (h.mul k hd) (h.mul l hd),yK h k hd,yK h l hd,yK h (k.add l) hd,waC k l,Rat.mul_add]
theorem wa9{d s s' : Nat}{p q:BQ}(h:PB d s p)(k:PB d s' q):subB (addB p q) q=p:=
 UQ ((h.add k).sub k).canon h.canon λx y=>by rw [vbD (h.add k) k,waC h k];grind
end Go.Num
namespace Go.Abs
open Go.Num
variable {P:Program} {Γ:Nat->Spec}
theorem xa7(K:List C->Prop)(n i:Nat)(e:List C):getE K (List.replicate n e) i=(i<n/\K e):=by
 simp only [getE,List.length_replicate,List.getElem?_replicate];refine propext ⟨λh=>⟨h.1,h.2 _ (by simp [h.1])⟩,λh=>⟨h.1,λe' he=>?_⟩⟩
 simp [h.1]at he;subst he;exact h.2
def Qu(l:List AV)(K:AV->Prop):Prop:=
 match l with
 | [a,b,c]=>onMs (λp=>onMs (λq=>onA (λx=>(p.length<=1048576/\∀t∈p,rl t.2.2<=1048576)/\(q.length<=1048576/\∀t∈q,rl t.2.2<=1048576)/\al x<=1048576/\K (.one (.lit (.bool true)))) c) b) a
 | _=>False
theorem Qax a b c K:Qu [a,b,c] K=(onMs (λp=>onMs (λq=>onA (λx=>(p.length<=1048576/\∀t∈p,rl t.2.2<=1048576)/\(q.length<=1048576/\∀t∈q,rl t.2.2<=1048576)/\al x<=1048576/\K (.one (.lit (.bool true)))) c) b) a):=propext Iff.rfl
@[congr] theorem jbO{K}{l l'}(h:l=l'):Qu l K=Qu l' K:=by subst h;rfl
attribute [go_sem,go_sem ↓] Qax
theorem JaE:Good Qu:=Ja λas=>by
 unfold Qu;split
 .exact(yg λ_=>(yg λ_=>(UbU λ_=>(.and λ_=>(.and λ_=>(.and λ_=>(.ret _)))))))
 .exact .of λK hk=>hk.elim
def yb(f0 f1 f2 f3 f4 f5 f6 f7 f8 f9 f10:Nat):AC:=(.o [.K 5 6 2,.m 6 .fa] [0,1,5] (.f (.o [.M 31 0,.M 32 1,.u 33 (.row 1 [[.x 1 (.t 31)],[.x 1 (.t 32)]]),.H 34 f0 33,.u 35 (.un .not (.t 34)),.M 36 35,.w 37 36 false (.ai 3 2 (.t 5) (.i 0)),.U 38 36 false 3 true 37,.w 39 36 false (.ai 3 2 (.t 5) (.i 1)),.U 40 36 false 3 true 39,.w 41 36 false (.row 3 [[.x 3 (.t 38)],[.x 3 (.t 40)]]),.W 42 36 false f1 41,.w 43 36 false (.un .not (.t 42)),.Q 44 36 43,.M 45 44,.w 46 45 false (.call f2 []),.w 47 45 false (.un .not (.t 46)),.Q 48 45 47] [0,1,5,48] (.cond (.t 48) (.seq (.p [.u 49 (.call f2 []),.M 6 49]) .ret) .skip)) [0,1,5] (.o [.M 51 0,.M 52 1,.D 53 f3 51 52,.M 50 53,.X 54 0 50,.X 55 1 50,.M 7 54,.M 8 55] [0,1,5,7,8] (.o [.M 57 0,.M 58 1,.D 59 f4 57 58,.M 56 59,.X 60 0 56,.X 61 1 56,.M 9 60,.M 10 61] [0,1,5,7,8,9,10] (.o [.M 63 1,.M 64 0,.D 65 f4 63 64,.M 62 65,.X 66 0 62,.X 67 1 62,.M 11 66,.M 12 67] [0,1,5,7,8,9,10,11,12] (.o [.M 69 0,.M 70 7,.D 71 f4 69 70,.M 68 71,.X 72 0 68,.X 73 1 68,.M 13 72,.M 14 73] [0,1,5,7,8,9,10,11,12,13,14] (.o [.M 75 0,.M 76 0,.D 77 f4 75 76,.M 74 77,.X 78 0 74,.X 79 1 74,.M 15 78,.M 16 79] [0,1,5,7,8,9,10,11,12,13,14,15,16] (.o [.M 81 15,.M 82 9,.D 83 f3 81 82,.M 80 83,.X 84 0 80,.X 85 1 80,.M 17 84,.M 18 85] [0,1,5,7,8,9,10,11,12,13,14,16,17,18] (.o [.M 87 7,.M 88 1,.D 89 f5 87 88,.M 86 89,.X 90 0 86,.X 91 1 86,.M 19 90,.M 20 91] [0,1,5,7,8,9,10,11,12,13,14,16,17,18,19,20] (.o [.M 93 0,.u 94 (.ai 3 2 (.t 5) (.i 0)),.L 95 3 94,.u 96 (.ai 3 2 (.t 5) (.i 1)),.L 97 3 96,.E 98 f6 93 95 97,.M 92 98,.X 99 0 92,.X 100 1 92,.G 21 [.z,.emp,.emp],.S 3 21 99,.M 22 100] [0,1,5,7,8,9,10,11,12,13,14,16,17,18,19,20,21,22] (.o [.M 102 1,.u 103 (.ai 3 2 (.t 5) (.i 0)),.L 104 3 103,.u 105 (.ai 3 2 (.t 5) (.i 1)),.L 106 3 105,.E 107 f6 102 104 106,.M 101 107,.X 108 0 101,.X 109 1 101,.G 23 [.z,.emp,.emp],.S 3 23 108,.M 24 109] [0,5,7,8,9,10,11,12,13,14,16,17,18,19,20,21,22,23,24] (.o [.M 111 7,.u 112 (.ai 3 2 (.t 5) (.i 0)),.L 113 3 112,.u 114 (.ai 3 2 (.t 5) (.i 1)),.L 115 3 114,.E 116 f6 111 113 115,.M 110 116,.X 117 0 110,.X 118 1 110,.G 25 [.z,.emp,.emp],.S 3 25 117,.M 26 118] [0,5,8,9,10,11,12,13,14,16,17,18,19,20,21,22,23,24,25,26] (.o [.M 120 9,.u 121 (.ai 3 2 (.t 5) (.i 0)),.L 122 3 121,.u 123 (.ai 3 2 (.t 5) (.i 1)),.L 124 3 123,.E 125 f6 120 122 124,.M 119 125,.X 126 0 119,.X 127 1 119,.G 27 [.z,.emp,.emp],.S 3 27 126,.M 28 127] [0,8,9,10,11,12,13,14,16,17,18,19,20,21,22,23,24,25,26,27,28] (.f (.o [.M 128 8,.M 129 10,.M 130 12,.M 131 14,.M 132 16,.M 133 18,.M 134 20,.M 135 22,.M 136 24,.M 137 26,.M 138 28,.u 139 (.row 1 [[.x 1 (.t 128)],[.x 1 (.t 129)],[.x 1 (.t 130)],[.x 1 (.t 131)],[.x 1 (.t 132)],[.x 1 (.t 133)],[.x 1 (.t 134)],[.x 1 (.t 135)],[.x 1 (.t 136)],[.x 1 (.t 137)],[.x 1 (.t 138)]]),.Z 140 139,.N 141 0] [0,9,11,13,17,19,21,23,25,27,139,140,141] (.block 0 (.loop (.o [.B 142 .lss 141 140] [0,9,11,13,17,19,21,23,25,27,139,140,141,142] (.f (.cond (.t 142) .skip (.exit 0)) [0,9,11,13,17,19,21,23,25,27,139,140,141] (.f (.block 1 (.o [.J 143 1 139 141,.F 144 1 143,.M 30 144] [0,9,11,13,17,19,21,23,25,27,30,139,140,141] (.o [.M 145 30,.R 146 145] [0,9,11,13,17,19,21,23,25,27,139,140,141,146] (.cond (.t 146) (.seq (.p [.m 6 .fa]) .ret) .skip)))) [0,9,11,13,17,19,21,23,25,27,139,140,141] (.p [.I 147 .add 141 1,.M 141 147]))))))) [0,9,11,13,17,19,21,23,25,27] (.seq (.y [.M 148 9,.M 149 11,.D 150 f7 148 149,.M 151 150,.V 152 151 true 13,.V 153 151 true 17,.Y 154 151 true f7 152 153,.P 155 151 154,.M 156 155,.V 157 156 true 19,.V 158 156 true 0,.Y 159 156 true f7 157 158,.P 160 156 159,.M 161 160,.U 162 161 true 3 true 25,.U 163 161 true 3 true 21,.U 164 161 true 3 true 23,.Y 165 161 true f8 163 164,.Y 166 161 true f9 162 165,.w 167 161 true (.bin .eql (.t 166) (.i 0)),.P 168 161 167,.M 169 168,.U 170 169 true 3 true 27,.U 171 169 true 3 true 21,.U 172 169 true 3 true 23,.Y 173 169 true f10 171 172,.Y 174 169 true f9 170 173,.w 175 169 true (.bin .eql (.t 174) (.i 0)),.P 176 169 175,.M 6 176]) .ret)))))))))))))))
theorem jah(hΓ:Holds P Γ){f fv fb fw fa fm fs fe fq fc ft fr tE:Nat}(hv:Γ fv=.dat false kj)(hb:Γ fb=.dat false Qo)(hw:Γ fw=.dat false Un)(ha:Γ fa=.dat false (xz tE))(hm:Γ fm=.dat false (Qy tE))(hs:Γ fs=.dat false (YB tE))(he:Γ fe=.dat false (uu tE))(hq:Γ fq=.dat false Ul)
  (hcm:Γ fc=.dat true Zy) (hfa:Γ ft=.dat false Qn) (hfm:Γ fr=.dat false Zm) (hc:check P f=some (177,(yb fv fb fw fa fm fs fe fq ft fc fr).strip,[.tmp 6])):Sound P f (.dat true Qu):=by
 refine Qa hc JaE hΓ (λargs K hcl hfi hG=>?_);match args,hG with
 | [a,b,c],hG=>
  obtain⟨p,rfl,hwp,q,rfl,hwq,x,rfl,hwx,⟨hlp,hrp⟩,⟨hlq,hrq⟩,hax,hK⟩:=hG;refine⟨by simp,?_⟩
  obtain⟨u,v⟩:=x;have hwu:WLR u:=hwx.1;have hwv:WLR v:=hwx.2;have hru:rl u<=1048576:=Nat.le_trans (Nat.le_max_left _ _) hax;have hrv:rl v<=1048576:=Nat.le_trans (Nat.le_max_right _ _) hax;have g1:p.length<=10000000/\∀t∈p,rl t.2.2<=4294967296:=⟨by omega,λt ht=>Nat.le_trans (hrp t ht) (by decide)⟩
  have g2:q.length<=10000000/\∀t∈q,rl t.2.2<=4294967296:=⟨by omega,λt ht=>Nat.le_trans (hrq t ht) (by decide)⟩
  have g3:∀y∈[u,v],WLR y:=λy hy=>by
   simp only [List.mem_cons,List.not_mem_nil,or_false]at hy;rcases hy with rfl | rfl <;> assumption
  have g4:okRs 4294967296 [u,v]:=λy hy=>⟨g3 y hy,by
   simp only [List.mem_cons,List.not_mem_nil,or_false]at hy;rcases hy with rfl | rfl <;> omega⟩
  cases h1:vldM p && vldM q with
  | false=>
   simp only [go_sem,yb,hv,hw,ms,aA,aC,h1];exact⟨⟨hwp,hwq⟩,g1,g2,hK⟩
  | true=>
  cases h2:[u,v].all lowR with
  | false=>
   simp only [go_sem,yb,hv,hb,hw,ms,aA,aC,h1,h2];refine⟨⟨hwp,hwq⟩,g1,g2,?_⟩;repeat refine q_Wr ?_
   exact hK
  | true=>
  simp only [Bool.and_eq_true]at h1;obtain⟨hp1,hq1⟩:=h1;obtain⟨A,rfl,pA,lA⟩:=VaX hp1 hwp;obtain⟨B,rfl,pB,lB⟩:=VaX hq1 hwq;have ru:rl u<=1:=qae (List.all_eq_true.1 h2 u (by simp))
  have rv1:rl v<=1:=qae (List.all_eq_true.1 h2 v (by simp))
  have zu:=qw hwu;have zv:=qw hwv;have pS:=pA.add pB;have pM:=pA.mul pB (by decide)
  have pT:=pA.mul pS (by decide)
  have pR:=pA.mul pA (by decide)
  have hN:=UaV pA pB (by decide)
  have hT:=qaW pA pA pB (by decide)
  have hbk:=wa9 pA pB;have eS:=waC pA pB (rv u) (rv v);have eM:=yK pA pB (by decide) (rv u) (rv v)
  have c1:=pA.chk pB;have c2:=pA.mulC pB (by decide)
  have c3:=pB.mulC pA (by decide)
  have c4:=pA.mulC pS (by decide)
  have c5:=pA.mulC pA (by decide)
  have c6:=pR.chk pM;have c7:=pS.chk pB;have k1:chkB (mcs A)=0:=qt pA.canon;have k2:chkB (mcs B)=0:=qt pB.canon;have k3:chkB (mcs (addB A B))=0:=qt pS.canon;have k4:chkB (mcs (mulB A B))=0:=qt pM.canon;have e1:=pA.ev lA (x:=rv u) (y:=rv v) (n:=1) (by omega) (by omega)
  have e2:=pB.ev lB (x:=rv u) (y:=rv v) (n:=1) (by omega) (by omega)
  obtain⟨E1,hE1⟩:∃E,ev A (rv u) (rv v)=E:=⟨_,rfl⟩;obtain⟨E2,hE2⟩:∃E,ev B (rv u) (rv v)=E:=⟨_,rfl⟩;rw [hE1]at e1;rw [hE2]at e2;rw [hE1,hE2]at eS eM;obtain⟨S,hS⟩:∃S,addB A B=S:=⟨_,rfl⟩;obtain⟨M,hM⟩:∃M,mulB A B=M:=⟨_,rfl⟩;rw [hS]at pS pT hT hbk eS c4 c7 k3;rw [hM]at pM hN hT eM c6 k4;obtain⟨T,hTT⟩:∃T,mulB A S=T:=⟨_,rfl⟩;obtain⟨R,hR⟩:∃R,mulB A A=R:=⟨_,rfl⟩;rw [hTT]at pT hT;rw [hR]at pR hT c6;have t6:tri (5+1)=21:=rfl;rw [t6]at pM pT pR;have wA:=pA.wl;have wB:=pB.wl;have wS:=pS.wl;have wM:=pM.wl;have wR:=pR.wl;have wT:=pT.wl;have a9:=pA.rlb (b:=1000000000) (by decide)
  have b9:=pB.rlb (b:=1000000000) (by decide)
  have s9:=pS.rlb (b:=1000000000) (by decide)
  have m9:=pM.rlb (b:=1000000000) (by decide)
  have a4:=pA.rlb (b:=4294967296) (by decide)
  have b4:=pB.rlb (b:=4294967296) (by decide)
  have s4:=pS.rlb (b:=4294967296) (by decide)
  have m4:=pM.rlb (b:=4294967296) (by decide)
  have r4:=pR.rlb (b:=4294967296) (by decide)
  have t4:=pT.rlb (b:=4294967296) (by decide)
  have iA:=pA.size;have iB:=pB.size;have iS:=pS.size;have iM:=pM.size;have iR:=pR.size;have zAB:sz A+sz B<=3000000:=by omega
  have zBA:sz B+sz A<=3000000:=by omega
  have zAS:sz A+sz S<=3000000:=by omega
  have zAA:sz A+sz A<=3000000:=by omega
  have zRM:sz R+sz M<=3000000:=by omega
  have zSB:sz S+sz B<=3000000:=by omega
  have lM:(mcs M).length<=1000000:=by have:=zbe M;unfold mcs;rw [List.length_map];omega
  have lT:(mcs T).length<=1000000:=by have:=zbe T;have:=pT.size;unfold mcs;rw [List.length_map];omega
  have lA' : (mcs A).length<=1000000:=by unfold mcs;rw [List.length_map];omega
  have r11:(0:Int)<=1/\(1:Int)<((2:Nat):Int):=by decide
  have f1:rz E1<=4294967296:=by omega
  have f2:rz E2<=4294967296:=by omega
  have f3:rz (E1+E2)<=4294967296:=by have:=qD E1 E2;omega
  have f4:rz (E1*E2)<=4294967296:=by have:=vk E1 E2;omega
  have e0:=Wd tE;have b0:=λl=>Wac l;have oz:∀x:Rat,ordQ x x=0:=λx=>jk.2 rfl;simp only [go_sem,yb,hv,hb,hw,ha,hm,hs,he,hq,hcm,hfa,hfm,ms,aA,aC,hp1,hq1,h2,qp,c1,c2,c3,c4,c5,c6,c7,k1,k2,k3,k4,e0,b0,hS,hM,hN,hTT,hR,hT,hbk,eS,eM,hE1,hE2,oz,Bool.and_true,Bool.and_self];refine⟨⟨hwp,hwq⟩,g1,g2,?_⟩;repeat refine q_Wr ?_
  refine ja (λk:Nat=>⟨mkV [(0,msA (mcs A)),(9,msA (mcs M)),(11,msA (mcs M)),(13,msA (mcs T)),(17,msA (mcs T)),(19,msA (mcs A)),(21,.one (.ptr 21 1 0 0)),(23,.one (.ptr 23 1 0 0)),(25,.one (.ptr 25 1 0 0)),(27,.one (.ptr 27 1 0 0)),(139,.one (.full (List.replicate 11 [.lit .nilIface]))),(140,.one (.lit (.int .i64 (11:Nat)))),(141,.one (.lit (.int .i64 k)))],
   mkH [(21,⟨1,some ⟨[[cb (rcan E1),cn (rcan E1),cd (rcan E1)]],3,true⟩⟩),(23,⟨1,some ⟨[[cb (rcan E2),cn (rcan E2),cd (rcan E2)]],3,true⟩⟩),(25,⟨1,some ⟨[[cb (rcan (E1+E2)),cn (rcan (E1+E2)),cd (rcan (E1+E2))]],3,true⟩⟩),(27,⟨1,some ⟨[[cb (rcan (E1*E2)),cn (rcan (E1*E2)),cd (rcan (E1*E2))]],3,true⟩⟩)]⟩) (λk=>k<=11) (λk=>11-k) 0 ?_ ?_ ?_
  .exact qa (by simp [bitvec_to_nat,msA,ms,List.replicate]) ⟨Qd,Qd,Qd,Qd,trivial⟩
  .exact Nat.zero_le _
  .intro k hk;by_cases hlt:k<11
   .simp only [go_sem,hlt,xa7];repeat first | refine q_Wk ?_ | intro _
    exact⟨k+1,qa (by simp [bitvec_to_nat,msA,ms]) ⟨Qd,Qd,Qd,Qd,trivial⟩,by omega,by omega⟩
   .simp only [go_sem,hlt,hq,hcm,hfa,hfm,ms,oz];repeat refine q_Wr ?_
    exact hK
end Go.Abs
end
section
namespace Go.Abs
open Go.Num
variable {P:Program} {Γ:Nat->Spec}
def Jq:AC:=(.o [.m 2 (.c (.one .emp))] [0] (.o [.M 4 0,.Z 5 4,.M 3 5] [0,3] (.f (.block 0 (.loop (.f (.o [.M 6 3,.I 7 .gtr 6 0,.M 8 7,.V 9 8 true 0,.V 10 8 true 3,.w 11 8 true (.bin .sub (.t 10) (.i 1)),.w 12 8 true (.idx 1 (.t 9) (.t 11)),.U 13 8 true 1 false 12,.w 14 8 true (.bin .eql (.t 13) (.c (.one (.lit (.int .u32 0))))),.P 15 8 14] [0,3,15] (.cond (.t 15) .skip (.exit 0))) [0,3] (.block 1 (.p [.M 16 3,.I 17 .sub 16 1,.M 3 17]))))) [0,3] (.f (.o [.M 18 3,.I 19 .eql 18 0] [0,3,19] (.cond (.t 19) (.seq (.p [.m 2 (.c (.one .emp))]) .ret) .skip)) [0,3] (.seq (.p [.m 20 (.c (.one .emp)),.M 21 0,.M 22 3,.u 23 (.sl 1 (.t 21) none (some (.t 22))),.u 24 (.app0 1 (.t 20) (.t 23)),.M 2 24]) .ret)))))
def uj:AC:=(.o [.m 4 (.c (.one (.lit (.int .u64 0))))] [0,1] (.f (.o [.M 5 1,.M 6 0,.Z 7 6,.B 8 .lss 5 7] [0,1,8] (.cond (.t 8) (.seq (.p [.M 9 0,.M 10 1,.J 11 1 9 10,.F 12 1 11,.u 13 (.conv .u64 (.t 12)),.M 4 13]) .ret) .skip)) [] (.seq (.p [.m 4 (.c (.one (.lit (.int .u64 0))))]) .ret)))
def vq(f0 f1:Nat):AC:=(.o [.m 4 (.c (.one .emp))] [0,1] (.o [.M 8 0,.Z 9 8,.M 10 1,.Z 11 10,.u 12 (.max [(.t 9),(.t 11)]),.I 13 .add 12 1,.u 14 (.mk 1 [(.lit (.int .u32 0))] (.t 13) (.t 13)),.M 5 14] [0,1,5] (.o [.m 6 (.c (.one (.lit (.int .u64 0))))] [0,1,5,6] (.f (.o [.M 15 5,.Z 16 15,.N 17 0] [0,1,5,6,16,17] (.block 0 (.loop (.o [.B 18 .lss 17 16] [0,1,5,6,16,17,18] (.f (.cond (.t 18) .skip (.exit 0)) [0,1,5,6,16,17] (.f (.block 1 (.o [.M 19 17,.M 7 19] [0,1,5,6,7,16,17] (.o [.M 20 6,.M 21 0,.M 22 7,.D 23 f0 21 22,.M 24 1,.M 25 7,.D 26 f0 24 25,.B 27 .add 23 26,.B 28 .add 20 27,.M 6 28] [0,1,5,6,7,16,17] (.o [.M 29 5,.M 30 7,.M 31 6,.u 32 (.conv .u32 (.t 31)),.J 33 1 29 30,.S 1 33 32] [0,1,5,6,16,17] (.p [.M 34 6,.u 35 (.bin .shr (.t 34) (.c (.one (.lit (.int .u64 32))))),.M 6 35]))))) [0,1,5,6,16,17] (.p [.I 36 .add 17 1,.M 17 36]))))))) [5] (.seq (.p [.M 37 5,.H 38 f1 37,.M 4 38]) .ret)))))
theorem XaH(hΓ:Holds P Γ){f:Nat}(hc:check P f=some (25,Jq.strip,[.tmp 2])):Sound P f (.dat false zp):=by
 refine Qa hc kaT hΓ (λargs K hcl hfi hG=>?_);match args,hG with
 | [a],hG=>
  obtain⟨l,rfl,hl,hlen,hK⟩:=hG;refine⟨by simp,?_⟩
  simp only [go_sem,Jq];intro hmax;refine ja (λn:Nat=>⟨mkV [(0,wsA l),(3,.one (.lit (.int .i64 n)))],mkH []⟩) (λn=>n<=l.length/\val (l.take n)=val l) id l.length ?_ ?_ ?_
  .exact qa (by simp [bitvec_to_nat]) trivial
  .simp
  .rintro n ⟨hn,ht⟩;simp only [go_sem];refine⟨λh=>⟨by omega,by omega,by omega,λh0=>⟨by omega,n-1,qa (by simp [bitvec_to_nat];omega) trivial,⟨by omega,?_⟩,?_⟩,λh0=>⟨λh1=>by omega,λ_=>⟨by omega,by simp;omega,?_⟩⟩⟩,λh=>⟨λh1=>?_,λh1=>by omega⟩⟩
   .rw [show((n:Int)-1).toNat=n-1 by omega]at h0
    have:=Jb l (n-1);rw [show n-1+1=n by omega,h0,Nat.mul_zero,Nat.add_zero]at this
    rw [<-this];exact ht
   .simp only [id];omega
   .rw [show((n:Int)-1).toNat=n-1 by omega]at h0
    have:=Vd (Zv hl n) (xF h hn h0);rw [<-this,ht];exact hK
   .subst h1;have:val l=0:=by rw [<-ht];simp [val]
    rw [this,Zb]at hK;exact hK
theorem JL(hΓ:Holds P Γ){f:Nat}(hc:check P f=some (14,uj.strip,[.tmp 4])):Sound P f (.dat true Qj):=by
 refine Qa hc zaY hΓ (λargs K hcl hfi hG=>?_);match args,hG with
 | [a,b],hG=>
  obtain⟨l,rfl,hl,hG⟩:=hG;obtain⟨k,i,rfl,rfl,hi,hK⟩:=Xa hG;refine⟨by simp,?_⟩
  simp only [go_sem,uj];intro hmax;refine⟨λh=>⟨hi,by omega,?_⟩,λh=>?_⟩
  .have:=jb hl i.toNat;rw [Nat.mod_eq_of_lt (by omega)];exact hK
  .rw [List.getD_eq_getElem?_getD,List.getElem?_eq_none (by omega)]at hK;exact hK
theorem YaE(hΓ:Holds P Γ){f fw ft:Nat}(hw:Γ fw=.dat true Qj)(ht:Γ ft=.dat false zp)(hc:check P f=some (39,(vq fw ft).strip,[.tmp 4])):Sound P f (.dat false qn):=by
 refine Qa hc X3 hΓ (λargs K hcl hfi hG=>?_);match args,hG with
 | [a,b],hG=>
  obtain⟨x,rfl,hx,y,rfl,hy,hxl,hyl,hK⟩:=hG;refine⟨by simp,?_⟩
  simp only [go_sem,vq,hw,ht];intro h1 h2;refine⟨by omega,by omega,λhN=>?_⟩
  generalize hNN:max x.length y.length+1=N at hN;refine ja (λp:List Nat×Nat=>⟨mkV [(0,wsA x),(1,wsA y),(5,.one (.own 14 1 1 0 N)),(6,.one (.lit (.int .u64 p.2))),(16,.one (.lit (.int .i64 N))),(17,.one (.lit (.int .i64 p.1.length)))],mkH [(14,⟨1,some ⟨(p.1++List.replicate (N-p.1.length) 0).map wc,1,true⟩⟩)]⟩)
   (λp=>p.1.length<=N/\WL p.1/\p.2<=1/\val p.1+4294967296 ^ p.1.length*p.2=val (x.take p.1.length)+val (y.take p.1.length)) (λp=>N-p.1.length) ([],0) ?_ ?_ ?_
  .exact qa (by simp [bitvec_to_nat]) (Zh (by simp))
  .simp [Ub,val]
  .rintro⟨o,c⟩ ⟨hoN,ho,hc1,hval⟩;simp only at hoN ho hc1 hval;have hlen:(o++List.replicate (N-o.length) 0).length=N:=by simp;omega
   simp only [go_sem,hw,ht,hlen];refine⟨λhlt=>⟨hx,hy,hlt,hlt,by omega,by omega,?_⟩,λhge=>?_⟩
   .have g1:=jb hx o.length;have g2:=jb hy o.length;rw [Nat.mod_eq_of_lt (show x.getD o.length 0+y.getD o.length 0<18446744073709551616 by omega),Nat.mod_eq_of_lt (show c+(x.getD o.length 0+y.getD o.length 0)<18446744073709551616 by omega)]
    generalize hs:c+(x.getD o.length 0+y.getD o.length 0)=s;refine⟨(o++[s % 4294967296],s / 4294967296),qa (by simp [bitvec_to_nat]) (Zh ?_),⟨by simp;omega,Xd.2 ⟨ho,Xb.2 ⟨Nat.mod_lt _ (by omega),Ub⟩⟩,by simp only;omega,?_⟩,by simp;omega⟩
    .rw [show N-o.length=N-(o.length+1)+1 by omega,jai];simp
    .simp only [List.length_append,List.length_cons,List.length_nil,Nat.zero_add,Jb,Yb,ug,Yk,Nat.mul_zero,Nat.add_zero,Nat.pow_succ];rw [Nat.mul_assoc,Nat.add_assoc,<-Nat.mul_add,Nat.mod_add_div,<-hs,Nat.mul_add,<-Nat.add_assoc,hval,Nat.mul_add];omega
   .have e:o.length=N:=by omega
    simp only [e,Nat.sub_self,List.replicate_zero,List.append_nil,Nat.le_refl,if_true,zD];have hv:val o=val x+val y:=by
     rw [e,wi (by omega),wi (by omega)]at hval
     exact XaB hx hy (by omega) (by omega) (by omega) hval
    refine⟨ho,by omega,?_⟩
    rw [hv];exact hK
end Go.Abs
end
section
namespace Go.Abs
open Go.Num
variable {P:Program} {Γ:Nat->Spec}
def Yp(f0 f1:Nat):AC:=(.o [.m 4 (.c (.one .emp))] [0,1] (.o [.M 9 0,.Z 10 9,.u 11 (.mk 1 [(.lit (.int .u32 0))] (.t 10) (.t 10)),.M 5 11] [0,1,5] (.o [.m 6 (.c (.one (.lit (.int .u64 0))))] [0,1,5,6] (.f (.o [.M 12 5,.Z 13 12,.N 14 0] [0,1,5,6,13,14] (.block 0 (.loop (.o [.B 15 .lss 14 13] [0,1,5,6,13,14,15] (.f (.cond (.t 15) .skip (.exit 0)) [0,1,5,6,13,14] (.f (.block 1 (.o [.M 16 14,.M 7 16] [0,1,5,6,7,13,14] (.f (.y [.M 17 0,.M 18 7,.J 19 1 17 18,.F 20 1 19,.u 21 (.conv .u64 (.t 20)),.M 22 1,.M 23 7,.D 24 f0 22 23,.B 25 .sub 21 24,.M 26 6,.B 27 .sub 25 26,.M 8 27]) [0,1,5,7,8,13,14] (.o [.M 28 5,.M 29 7,.M 30 8,.u 31 (.conv .u32 (.t 30)),.J 32 1 28 29,.S 1 32 31] [0,1,5,8,13,14] (.p [.M 33 8,.u 34 (.bin .shr (.t 33) (.c (.one (.lit (.int .u64 63))))),.M 6 34]))))) [0,1,5,6,13,14] (.p [.I 35 .add 14 1,.M 14 35]))))))) [5] (.seq (.p [.M 36 5,.H 37 f1 36,.M 4 37]) .ret)))))
def kk:AC:=(.o [.N 4 0] [0,1] (.f (.o [.M 6 0,.Z 7 6,.M 8 1,.Z 9 8,.B 10 .neq 7 9] [0,1,10] (.cond (.t 10) (.f (.o [.M 11 0,.Z 12 11,.M 13 1,.Z 14 13,.B 15 .lss 12 14] [15] (.cond (.t 15) (.seq (.p [.N 4 (-1)]) .ret) .skip)) [] (.seq (.p [.N 4 1]) .ret)) .skip)) [0,1] (.f (.o [.M 16 0,.Z 17 16,.I 18 .sub 17 1,.M 5 18] [0,1,5] (.block 0 (.loop (.f (.o [.M 19 5,.I 20 .geq 19 0] [0,1,5,20] (.cond (.t 20) .skip (.exit 0))) [0,1,5] (.f (.block 1 (.f (.y [.M 23 0,.M 24 5,.J 25 1 23 24,.F 26 1 25,.M 27 1,.M 28 5,.J 29 1 27 28,.F 30 1 29,.B 31 .neq 26 30]) [0,1,5,31] (.cond (.t 31) (.f (.f (.y [.M 32 0,.M 33 5,.J 34 1 32 33,.F 35 1 34,.M 36 1,.M 37 5,.J 38 1 36 37,.F 39 1 38,.B 40 .lss 35 39]) [40] (.cond (.t 40) (.seq (.p [.N 4 (-1)]) .ret) .skip)) [] (.seq (.p [.N 4 1]) .ret)) .skip))) [0,1,5] (.p [.M 21 5,.I 22 .sub 21 1,.M 5 22])))))) [] (.seq (.p [.N 4 0]) .ret))))
def Um(f0:Nat):AC:=(.o [.m 4 (.c (.one .emp)),.m 5 (.c (.one (.lit (.int .u32 0))))] [0,1] (.o [.M 9 0,.Z 10 9,.u 11 (.mk 1 [(.lit (.int .u32 0))] (.t 10) (.t 10)),.M 6 11] [0,1,6] (.o [.m 7 (.c (.one (.lit (.int .u64 0))))] [0,1,6,7] (.f (.o [.M 12 0,.Z 13 12,.I 14 .sub 13 1,.M 8 14] [0,1,6,7,8] (.block 0 (.loop (.f (.o [.M 15 8,.I 16 .geq 15 0] [0,1,6,7,8,16] (.cond (.t 16) .skip (.exit 0))) [0,1,6,7,8] (.f (.block 1 (.o [.M 19 7,.u 20 (.bin .shl (.t 19) (.c (.one (.lit (.int .u64 32))))),.M 21 0,.M 22 8,.J 23 1 21 22,.F 24 1 23,.u 25 (.conv .u64 (.t 24)),.B 26 .or 20 25,.M 7 26] [0,1,6,7,8] (.o [.M 27 6,.M 28 8,.M 29 7,.M 30 1,.u 31 (.conv .u64 (.t 30)),.B 32 .quo 29 31,.u 33 (.conv .u32 (.t 32)),.J 34 1 27 28,.S 1 34 33] [0,1,6,7,8] (.p [.M 35 7,.M 36 1,.u 37 (.conv .u64 (.t 36)),.B 38 .rem 35 37,.M 7 38])))) [0,1,6,7,8] (.p [.M 17 8,.I 18 .sub 17 1,.M 8 18])))))) [6,7] (.seq (.p [.M 39 6,.H 40 f0 39,.M 41 7,.u 42 (.conv .u32 (.t 41)),.M 4 40,.M 5 42]) .ret)))))
theorem kaH(hΓ:Holds P Γ){f fw ft:Nat}(hw:Γ fw=.dat true Qj)(ht:Γ ft=.dat false zp)(hc:check P f=some (38,(Yp fw ft).strip,[.tmp 4])):Sound P f (.dat false Xo):=by
 refine Qa hc X4 hΓ (λargs K hcl hfi hG=>?_);match args,hG with
 | [a,b],hG=>
  obtain⟨x,rfl,hx,y,rfl,hy,hxl,hle,hK⟩:=hG;refine⟨by simp,?_⟩
  simp only [go_sem,Yp,hw,ht];intro h1;refine⟨by omega,λ_=>?_⟩
  generalize hN:x.length=N at h1 hxl;refine ja (λp:List Nat×Nat=>⟨mkV [(0,wsA x),(1,wsA y),(5,.one (.own 11 1 1 0 N)),(6,.one (.lit (.int .u64 p.2))),(13,.one (.lit (.int .i64 N))),(14,.one (.lit (.int .i64 p.1.length)))],mkH [(11,⟨1,some ⟨(p.1++List.replicate (N-p.1.length) 0).map wc,1,true⟩⟩)]⟩)
   (λp=>p.1.length<=N/\WL p.1/\p.2<=1/\val p.1+val (y.take p.1.length)=val (x.take p.1.length)+4294967296 ^ p.1.length*p.2) (λp=>N-p.1.length) ([],0) ?_ ?_ ?_
  .exact qa (by simp [bitvec_to_nat]) (Zh (by simp))
  .simp [Ub,val]
  .rintro⟨o,c⟩ ⟨hoN,ho,hc1,hval⟩;simp only at hoN ho hc1 hval;have hlen:(o++List.replicate (N-o.length) 0).length=N:=by simp;omega
   simp only [go_sem,hw,ht,hlen];refine⟨λhlt=>⟨by omega,hy,hlt,hlt,by omega,by omega,?_⟩,λhge=>?_⟩
   .have g1:=jb hx o.length;have g2:=jb hy o.length;rw [Nat.mod_eq_of_lt (show x.getD o.length 0<18446744073709551616 by omega)]
    obtain⟨s1,s2⟩:=Qaw g1 g2 hc1;generalize sub64 (sub64 (x.getD o.length 0) (y.getD o.length 0)) c=s at s1 s2;refine⟨(o++[s % 4294967296],s / 9223372036854775808),qa (by simp [bitvec_to_nat]) (Zh ?_),⟨by simp;omega,Xd.2 ⟨ho,Xb.2 ⟨Nat.mod_lt _ (by omega),Ub⟩⟩,s2,?_⟩,by simp;omega⟩
    .rw [show N-o.length=N-(o.length+1)+1 by omega,jai];simp
    .simp only [List.length_append,List.length_cons,List.length_nil,Nat.zero_add,Jb,Yb,ug,Yk,Nat.mul_zero,Nat.add_zero,Nat.pow_succ];exact UD hval s1
   .have e:o.length=N:=by omega
    have hv:=vD ho hx (by omega) hle hval
    simp only [e,Nat.sub_self,List.replicate_zero,List.append_nil];refine⟨ho,by omega,?_⟩
    rw [hv];exact hK
theorem qQ(hΓ:Holds P Γ){f:Nat}(hc:check P f=some (41,kk.strip,[.tmp 4])):Sound P f (.dat false Wg):=by
 refine Qa hc J2 hΓ (λargs K hcl hfi hG=>?_);match args,hG with
 | [a,b],hG=>
  obtain⟨x,rfl,hx,y,rfl,hy,hzx,hzy,hK⟩:=hG;refine⟨by simp,?_⟩
  simp only [go_sem,kk];intro h1 h2;refine⟨λhl _=>⟨by omega,?_⟩,λhne _ _=>⟨λhlt=>?_,λhge=>?_⟩⟩
  rotate_left
  .rw [vS (xG hx hzy hlt)]at hK;exact hK
  .rw [jaf (xG hy hzx (by omega))]at hK;exact hK
  refine ja (λn:Nat=>⟨mkV [(0,wsA x),(1,wsA y),(5,.one (.lit (.int .i64 ((n:Int)-1))))],mkH []⟩) (λn=>n<=x.length/\x.drop n=y.drop n) id x.length ?_ ?_ ?_
  .exact qa (by simp [bitvec_to_nat]) trivial
  .simp [hl]
  .rintro n ⟨hn,hd⟩;simp only [go_sem];refine⟨λh=>⟨by omega,by omega,by omega,by omega,λhe=>⟨by omega,n-1,qa (by simp [bitvec_to_nat];omega) trivial,⟨by omega,?_⟩,by simp only [id];omega⟩,λhne=>?_⟩,λh=>?_⟩
   .rw [show((n:Int)-1).toNat=n-1 by omega]at he
    rw [List.getD_eq_getElem?_getD,List.getD_eq_getElem?_getD,List.getElem?_eq_getElem (by omega),List.getElem?_eq_getElem (by omega)]at he
    have e1:=List.getElem_cons_drop (as:=x) (i:=n-1) (by omega)
    have e2:=List.getElem_cons_drop (as:=y) (i:=n-1) (by omega)
    rw [show n-1+1=n by omega]at e1 e2
    rw [<-e1,<-e2,hd];simp only [Option.getD_some]at he;rw [he]
   .rw [show((n:Int)-1).toNat=n-1 by omega]at hne ⊢
    refine⟨by omega,by omega,by omega,by omega,λhlt=>?_,λhge=>?_⟩
    .rw [vS (Zbk (i:=n-1) hx hl (by omega) (by rw [show n-1+1=n by omega];exact hd) hlt)]at hK;exact hK
    .rw [jaf (Zbk (i:=n-1) hy hl.symm (by omega) (by rw [show n-1+1=n by omega];exact hd.symm) (by omega))]at hK;exact hK
   .have:n=0:=by omega
    subst this;simp only [List.drop_zero]at hd;rw [hd,xaY]at hK;exact hK
theorem xaj(hΓ:Holds P Γ){f ft:Nat}(ht:Γ ft=.dat false zp)(hc:check P f=some (43,(Um ft).strip,[.tmp 4,.tmp 5])):Sound P f (.dat false Jr):=by
 refine Qa hc qaG hΓ (λargs K hcl hfi hG=>?_);match args,hG with
 | [a,b],hG=>
  obtain⟨x,rfl,hx,hG⟩:=hG;obtain⟨k,m,rfl,rfl,hm,hmB,hxl,hK⟩:=Xa hG;obtain⟨m,rfl⟩:∃n:Nat,m=n:=⟨m.toNat,by omega⟩
  simp only [Int.toNat_natCast]at hK;refine⟨by simp,?_⟩
  simp only [go_sem,Um,ht];intro h1;refine⟨hxl,λ_=>⟨by omega,?_⟩⟩
  refine ja (λp:List Nat×Nat=>⟨mkV [(0,wsA x),(1,.one (.lit (.int .u32 m))),(6,.one (.own 11 1 1 0 x.length)),(7,.one (.lit (.int .u64 p.2))),(8,.one (.lit (.int .i64 ((x.length:Int)-p.1.length-1))))],mkH [(11,⟨1,some ⟨(List.replicate (x.length-p.1.length) 0++p.1).map wc,1,true⟩⟩)]⟩)
   (λp=>p.1.length<=x.length/\WL p.1/\p.2<m/\val p.1*m+p.2=val (x.drop (x.length-p.1.length))) (λp=>x.length-p.1.length) ([],0) ?_ ?_ ?_
  .exact qa (by simp [bitvec_to_nat]) (Zh (by simp))
  .simp [Ub,val];omega
  .rintro⟨q,r⟩ ⟨hq,hqw,hr,hval⟩;simp only at hq hqw hr hval;have hlen:(List.replicate (x.length-q.length) 0++q).length=x.length:=by simp;omega
   simp only [go_sem,ht,hlen];refine⟨λh=>?_,λh=>?_⟩
   .obtain⟨n,hn⟩:∃n,n=x.length-q.length:=⟨_,rfl⟩;have hn0:0<n:=by omega
    have hi:((x.length:Int)-q.length-1).toNat=n-1:=by omega
    have g1:=jb hx (n-1);have hd:=zH x hn0 (by omega)
    obtain⟨s1,s2⟩:=Jba (by omega) hr g1
    have s3:=Ua0 (B:=4294967296) (a:=x.getD (n-1) 0) (by omega) (hn▸hval)
    have e1:r*4294967296 % 18446744073709551616=r*4294967296:=by omega
    have e2:x.getD (n-1) 0 % 18446744073709551616=x.getD (n-1) 0:=by omega
    have e3:m % 18446744073709551616=m:=by omega
    rw [hi,<-hn,e1,e2,e3,or32 _ _ g1];generalize hs:r*4294967296+x.getD (n-1) 0=s at s1 s2 s3;rw [Nat.mod_eq_of_lt (show s / m<18446744073709551616 by omega),Nat.mod_eq_of_lt s1]
    have hm0:s % m<m:=Nat.mod_lt _ (by omega)
    refine⟨⟨rfl,by omega⟩,by omega,by omega,⟨rfl,by omega,by omega⟩,by omega,⟨by omega,by omega⟩,by omega,by omega,by omega,(s / m::q,s % m),qa (by simp [bitvec_to_nat];omega) (Zh ?_),⟨by simp;omega,Xb.2 ⟨s1,hqw⟩,hm0,?_⟩,by simp;omega⟩
    .simp only [List.length_cons];rw [xp q _ hn0,show x.length-(q.length+1)=n-1 by omega]
    .rw [ug,List.length_cons,show x.length-(q.length+1)=n-1 by omega,hd];exact s3
   .have e:x.length-q.length=0:=by omega
    simp only [e,List.replicate_zero,List.nil_append,List.drop_zero]at hval ⊢;have h1:=Nat.div_mod_unique (show 0<m by omega) (a:=val x) (c:=r) (d:=val q)
    obtain⟨h2,h3⟩:=h1.2 ⟨by rw [<-hval,Nat.mul_comm m,Nat.add_comm],hr⟩
    rw [h2,h3]at hK;refine⟨hqw,by omega,?_⟩
    rw [Nat.mod_eq_of_lt (by omega)];exact hK
end Go.Abs
end
section
namespace Go.Abs
open Go.Num
variable {P:Program} {Γ:Nat->Spec}
def Ju:AC:=(.o [.m 4 (.c (.one .emp))] [0,1] (.o [.M 9 0,.Z 10 9,.I 11 .add 10 1,.u 12 (.mk 1 [(.lit (.int .u32 0))] (.t 11) (.t 11)),.M 5 12] [0,1,5] (.f (.o [.M 13 0,.Z 14 13,.N 15 0] [1,5,13,14,15] (.block 0 (.loop (.o [.B 16 .lss 15 14] [1,5,13,14,15,16] (.f (.cond (.t 16) .skip (.exit 0)) [1,5,13,14,15] (.f (.block 1 (.o [.M 17 15,.J 18 1 13 15,.F 19 1 18,.M 6 17,.M 7 19] [1,5,6,7,13,14,15] (.o [.M 20 7,.u 21 (.conv .u64 (.t 20)),.M 22 1,.B 23 .shl 21 22,.M 8 23] [1,5,6,8,13,14,15] (.o [.M 24 5,.M 25 6,.J 26 1 24 25,.F 27 1 26,.M 28 8,.u 29 (.conv .u32 (.t 28)),.B 30 .or 27 29,.J 31 1 24 25,.S 1 31 30] [1,5,6,8,13,14,15] (.p [.M 32 5,.M 33 6,.I 34 .add 33 1,.M 35 8,.u 36 (.bin .shr (.t 35) (.c (.one (.lit (.int .u64 32))))),.u 37 (.conv .u32 (.t 36)),.J 38 1 32 34,.S 1 38 37]))))) [1,5,13,14,15] (.p [.I 39 .add 15 1,.M 15 39]))))))) [5] (.seq (.p [.M 40 5,.M 4 40]) .ret))))
def jq(f0 f1:Nat):AC:=(.o [.m 4 (.c (.one .emp))] [0,1] (.o [.M 7 0,.Z 8 7,.u 9 (.mk 1 [(.lit (.int .u32 0))] (.t 8) (.t 8)),.M 5 9] [0,1,5] (.f (.o [.M 10 0,.Z 11 10,.N 12 0] [0,1,5,11,12] (.block 0 (.loop (.o [.B 13 .lss 12 11] [0,1,5,11,12,13] (.f (.cond (.t 13) .skip (.exit 0)) [0,1,5,11,12] (.f (.block 1 (.o [.M 14 12,.M 6 14] [0,1,5,6,11,12] (.y [.M 15 5,.M 16 6,.M 17 0,.M 18 6,.J 19 1 17 18,.F 20 1 19,.u 21 (.conv .u64 (.t 20)),.M 22 0,.M 23 6,.I 24 .add 23 1,.D 25 f0 22 24,.u 26 (.bin .shl (.t 25) (.c (.one (.lit (.int .u64 32))))),.B 27 .or 21 26,.M 28 1,.B 29 .shr 27 28,.u 30 (.conv .u32 (.t 29)),.J 31 1 15 16,.S 1 31 30]))) [0,1,5,11,12] (.p [.I 32 .add 12 1,.M 12 32]))))))) [5] (.seq (.p [.M 33 5,.H 34 f1 33,.M 4 34]) .ret))))
def wm(f0:Nat):AC:=(.o [.m 4 (.c (.one .emp))] [0,1] (.o [.M 11 0,.Z 12 11,.M 13 1,.Z 14 13,.B 15 .add 12 14,.u 16 (.mk 1 [(.lit (.int .u32 0))] (.t 15) (.t 15)),.M 5 16] [0,1,5] (.f (.o [.M 17 0,.Z 18 17,.N 19 0] [1,5,17,18,19] (.block 0 (.loop (.o [.B 20 .lss 19 18] [1,5,17,18,19,20] (.f (.cond (.t 20) .skip (.exit 0)) [1,5,17,18,19] (.f (.block 1 (.o [.M 21 19,.J 22 1 17 19,.F 23 1 22,.M 6 21,.M 7 23] [1,5,6,7,17,18,19] (.o [.m 8 (.c (.one (.lit (.int .u64 0))))] [1,5,6,7,8,17,18,19] (.f (.o [.M 24 1,.Z 25 24,.N 26 0] [1,5,6,7,8,17,18,19,24,25,26] (.block 2 (.loop (.o [.B 27 .lss 26 25] [1,5,6,7,8,17,18,19,24,25,26,27] (.f (.cond (.t 27) .skip (.exit 2)) [1,5,6,7,8,17,18,19,24,25,26] (.f (.block 3 (.o [.M 28 26,.J 29 1 24 26,.F 30 1 29,.M 9 28,.M 10 30] [1,5,6,7,8,9,10,17,18,19,24,25,26] (.o [.M 31 8,.M 32 7,.u 33 (.conv .u64 (.t 32)),.M 34 10,.u 35 (.conv .u64 (.t 34)),.B 36 .mul 33 35,.M 37 5,.M 38 6,.M 39 9,.B 40 .add 38 39,.J 41 1 37 40,.F 42 1 41,.u 43 (.conv .u64 (.t 42)),.B 44 .add 36 43,.B 45 .add 31 44,.M 8 45] [1,5,6,7,8,9,17,18,19,24,25,26] (.o [.M 46 5,.M 47 6,.M 48 9,.B 49 .add 47 48,.M 50 8,.u 51 (.conv .u32 (.t 50)),.J 52 1 46 49,.S 1 52 51] [1,5,6,7,8,17,18,19,24,25,26] (.p [.M 53 8,.u 54 (.bin .shr (.t 53) (.c (.one (.lit (.int .u64 32))))),.M 8 54]))))) [1,5,6,7,8,17,18,19,24,25,26] (.p [.I 55 .add 26 1,.M 26 55]))))))) [1,5,6,8,17,18,19] (.p [.M 56 5,.M 57 6,.M 58 1,.Z 59 58,.B 60 .add 57 59,.M 61 8,.u 62 (.conv .u32 (.t 61)),.J 63 1 56 60,.S 1 63 62]))))) [1,5,17,18,19] (.p [.I 64 .add 19 1,.M 19 64]))))))) [5] (.seq (.p [.M 65 5,.H 66 f0 65,.M 4 66]) .ret))))
theorem Xba(hΓ:Holds P Γ){f:Nat}(hc:check P f=some (41,Ju.strip,[.tmp 4])):Sound P f (.fresh 1 up_G):=by
 refine zl hc vbr hΓ (λargs K hcl hfi hG=>?_);match args,hG with
 | [a,b],hG=>
  obtain⟨x,rfl,hx,hG⟩:=hG;obtain⟨k,m,rfl,rfl,hm,hmB,hxl,hK⟩:=Xa hG;obtain⟨m,rfl⟩:∃n:Nat,m=n:=⟨m.toNat,by omega⟩
  simp only [Int.toNat_natCast]at hK;refine⟨by simp,?_⟩
  simp only [go_sem,Ju];intro h1;refine⟨by omega,by omega,λ_=>?_⟩
  refine ja (λp:List Nat×Nat=>⟨mkV [(1,.one (.lit (.int .i64 m))),(5,.one (.own 12 1 1 0 (x.length+1))),(13,wsA x),(14,.one (.lit (.int .i64 x.length))),(15,.one (.lit (.int .i64 p.1.length)))],mkH [(12,⟨1,some ⟨(p.1++p.2::List.replicate (x.length-p.1.length) 0).map wc,1,true⟩⟩)]⟩)
   (λp=>p.1.length<=x.length/\WL p.1/\p.2<2 ^ m/\val p.1+4294967296 ^ p.1.length*p.2=val (x.take p.1.length)*2 ^ m) (λp=>x.length-p.1.length) ([],0) ?_ ?_ ?_
  .exact qa (by simp [bitvec_to_nat]) (Zh (by simp [List.replicate_succ]))
  .simp [Ub,val];exact Nat.pow_pos (by omega)
  .rintro⟨o,c⟩ ⟨hoN,ho,hc1,hval⟩;simp only at hoN ho hc1 hval;have hlen:(o++c::List.replicate (x.length-o.length) 0).length=x.length+1:=by simp;omega
   simp only [go_sem,hlen,List.length_set];refine⟨λhlt=>?_,λhge=>?_⟩
   .have g1:=jb hx o.length;obtain⟨s1,s2,s3,s4⟩:=Ubo (by omega) hc1 g1
    have e1:x.getD o.length 0 % 18446744073709551616=x.getD o.length 0:=by omega
    have hp:=uV (show m<32 by omega)
    rw [QbK,e1,Nat.mod_eq_of_lt s1,s2,UbG];generalize hy:x.getD o.length 0*2 ^ m=y at s1 s2 s3 s4;rw [Nat.mod_eq_of_lt (show y / 4294967296<4294967296 by omega)]
    refine⟨hlt,⟨rfl,by omega⟩,by omega,by omega,⟨rfl,by omega,by omega⟩,by omega,by omega,by omega,by omega,by omega,by omega,by omega,(o++[y % 4294967296+c],y / 4294967296),qa (by simp [bitvec_to_nat]) (Zh ?_),⟨by simp;omega,Xd.2 ⟨ho,Xb.2 ⟨s3,Ub⟩⟩,s4,?_⟩,by simp;omega⟩
    .rw [show x.length-o.length=(x.length-(o.length+1))+1 by omega,List.replicate_succ,vbm];simp
    .simp only [List.length_append,List.length_cons,List.length_nil,Nat.zero_add,Jb,Yb,ug,Yk,Nat.mul_zero,Nat.add_zero,Nat.pow_succ];rw [ZbC (B:=4294967296) (x:=y) hval rfl,Nat.add_mul,<-hy,Nat.mul_assoc]
   .have e:o.length=x.length:=by omega
    have hcB:c<4294967296:=by have:=uV (show m<32 by omega);omega
    rw [e,wi (Nat.le_refl _)]at hval;simp only [e,Nat.sub_self,List.replicate_zero];have hw:WL (o++[c]):=Xd.2 ⟨ho,Xb.2 ⟨hcB,Ub⟩⟩;have hv:val (o++[c])=val x*2 ^ m:=by rw [Yb,e];simpa [val] using hval
    have:=yy hw;rw [hv,List.length_append,List.length_singleton,e]at this;rw [<-this];exact hK
theorem ZaG(hΓ:Holds P Γ){f fw ft:Nat}(hw:Γ fw=.dat true Qj)(ht:Γ ft=.dat false zp)(hc:check P f=some (35,(jq fw ft).strip,[.tmp 4])):Sound P f (.dat false Zz):=by
 refine Qa hc Qa1 hΓ (λargs K hcl hfi hG=>?_);match args,hG with
 | [a,b],hG=>
  obtain⟨x,rfl,hx,hG⟩:=hG;obtain⟨k,m,rfl,rfl,hm,hmB,hxl,hK⟩:=Xa hG;obtain⟨m,rfl⟩:∃n:Nat,m=n:=⟨m.toNat,by omega⟩
  simp only [Int.toNat_natCast]at hK;refine⟨by simp,?_⟩
  simp only [go_sem,jq,hw,ht];intro h1;refine⟨by omega,λ_=>?_⟩
  refine ja (λo:List Nat=>⟨mkV [(0,wsA x),(1,.one (.lit (.int .i64 m))),(5,.one (.own 9 1 1 0 x.length)),(11,.one (.lit (.int .i64 x.length))),(12,.one (.lit (.int .i64 o.length)))],mkH [(9,⟨1,some ⟨(o++List.replicate (x.length-o.length) 0).map wc,1,true⟩⟩)]⟩)
   (λo=>o.length<=x.length/\WL o/\val o=val x / 2 ^ m % 4294967296 ^ o.length) (λo=>x.length-o.length) [] ?_ ?_ ?_
  .exact qa (by simp [bitvec_to_nat]) (Zh (by simp))
  .simp [Ub,val,Nat.mod_one]
  .rintro o ⟨hoN,ho,hval⟩;have hlen:(o++List.replicate (x.length-o.length) 0).length=x.length:=by simp;omega
   simp only [go_sem,hw,ht,hlen];refine⟨λhlt=>⟨hlt,by omega,hx,⟨rfl,by omega⟩,⟨rfl,by omega,by omega⟩,by omega,hlt,hlt,by omega,?_⟩,λhge=>?_⟩
   .have g1:=jb hx o.length;have g2:=jb hx (o.length+1);have e1:x.getD o.length 0 % 18446744073709551616=x.getD o.length 0:=by omega
    have e2:x.getD (o.length+1) 0*4294967296 % 18446744073709551616=x.getD (o.length+1) 0*4294967296:=by omega
    rw [e1,e2,or32' _ _ g1,show x.getD (o.length+1) 0*4294967296+x.getD o.length 0=x.getD o.length 0+4294967296*x.getD (o.length+1) 0 by omega,YW hx (by omega)]
    generalize hv:val x / 2 ^ m / 4294967296 ^ o.length % 4294967296=v;have hvB:v<4294967296:=by rw [<-hv];exact Nat.mod_lt _ (by omega)
    refine⟨o++[v],qa (by simp [bitvec_to_nat]) (Zh ?_),⟨by simp;omega,Xd.2 ⟨ho,Xb.2 ⟨hvB,Ub⟩⟩,?_⟩,by simp;omega⟩
    .rw [show x.length-o.length=x.length-(o.length+1)+1 by omega,jai];simp
    .rw [Yb,List.length_append,List.length_singleton,YC,hv,<-hval];simp [val]
   .have e:o.length=x.length:=by omega
    have hlt:val x / 2 ^ m<4294967296 ^ x.length:=Nat.lt_of_le_of_lt (Nat.div_le_self _ _) (xj hx);rw [e,Nat.mod_eq_of_lt hlt]at hval;simp only [e,Nat.sub_self,List.replicate_zero,List.append_nil];refine⟨ho,by omega,?_⟩
    rw [hval];exact hK
theorem Wah(hΓ:Holds P Γ){f ft:Nat}(ht:Γ ft=.dat false zp)(hc:check P f=some (67,(wm ft).strip,[.tmp 4])):Sound P f (.dat false Xu):=by
 refine Qa hc jaE hΓ (λargs K hcl hfi hG=>?_);match args,hG with
 | [a,b],hG=>
  obtain⟨x,rfl,hx,y,rfl,hy,hxl,hyl,hK⟩:=hG;refine⟨by simp,?_⟩
  simp only [go_sem,wm,ht];intro h1 h2;refine⟨by omega,by omega,λ_=>?_⟩
  generalize hN:x.length+y.length=N;refine ja (λp:Nat×List Nat=>⟨mkV [(1,wsA y),(5,.one (.own 16 1 1 0 N)),(17,wsA x),(18,.one (.lit (.int .i64 x.length))),(19,.one (.lit (.int .i64 p.1)))],mkH [(16,⟨1,some ⟨p.2.map wc,1,true⟩⟩)]⟩)
   (λp=>p.1<=x.length/\WL p.2/\p.2.length=N/\val p.2=val (x.take p.1)*val y/\∀j,p.1+y.length<=j->p.2.getD j 0=0) (λp=>x.length-p.1) (0,List.replicate N 0) ?_ ?_ ?_
  .exact qa (by simp [bitvec_to_nat]) (Zh (by simp))
  .simp [qbe,val,wak];intro j _;rw [List.getElem?_replicate];split <;> rfl
  .rintro⟨i,o⟩ ⟨hi,ho,hoN,hval,hz⟩;simp only at hi ho hoN hval hz;simp only [go_sem,ht,hoN];refine⟨λhlt=>⟨hlt,λ_=>?_⟩,λhge=>?_⟩
   .have g1:=jb hx i;refine ja (λp:Nat×Nat×List Nat=>⟨mkV [(1,wsA y),(5,.one (.own 16 1 1 0 N)),(6,.one (.lit (.int .i64 i))),(7,.one (.lit (.int .u32 (x.getD i 0:Nat)))),(8,.one (.lit (.int .u64 p.2.1))),(17,wsA x),(18,.one (.lit (.int .i64 x.length))),(19,.one (.lit (.int .i64 i))),(24,wsA y),(25,.one (.lit (.int .i64 y.length))),(26,.one (.lit (.int .i64 p.1)))],mkH [(16,⟨1,some ⟨p.2.2.map wc,1,true⟩⟩)]⟩)
     (λp=>p.1<=y.length/\p.2.1<4294967296/\WL p.2.2/\p.2.2.length=N/\val p.2.2+4294967296 ^ i*4294967296 ^ p.1*p.2.1=val (x.take i)*val y+4294967296 ^ i*x.getD i 0*val (y.take p.1)/\∀j,i+y.length<=j->p.2.2.getD j 0=0) (λp=>y.length-p.1) (0,0,o) ?_ ?_ ?_
    .exact qa (by simp [bitvec_to_nat]) (Zh rfl)
    .exact⟨Nat.zero_le _,by simp,ho,hoN,by simp [val,hval],hz⟩
    .rintro⟨k,c,o⟩ ⟨hk,hc,ho,hoN,hval,hz⟩;simp only at hk hc ho hoN hval hz;simp only [go_sem,ht,hoN];refine⟨λhlt2=>?_,λhge2=>?_⟩
     .have g2:=jb hy k;have g3:=jb ho (i+k);have s1:=yau g1 g2 hc g3;have e1:x.getD i 0 % 18446744073709551616=x.getD i 0:=by omega
      have e2:y.getD k 0 % 18446744073709551616=y.getD k 0:=by omega
      have e3:o.getD (i+k) 0 % 18446744073709551616=o.getD (i+k) 0:=by omega
      have hstep:=waD hval (by omega) rfl
      rw [e1,e2,e3,Nat.mod_eq_of_lt (show x.getD i 0*y.getD k 0<18446744073709551616 by omega),Nat.mod_eq_of_lt (show x.getD i 0*y.getD k 0+o.getD (i+k) 0<18446744073709551616 by omega),Nat.mod_eq_of_lt s1]
      generalize hs:c+(x.getD i 0*y.getD k 0+o.getD (i+k) 0)=s at s1 hstep;refine⟨hlt2,by omega,by omega,by omega,by omega,by omega,by omega,by omega,by omega,(k+1,s / 4294967296,o.set (i+k) (s % 4294967296)),qa (by simp [bitvec_to_nat]) (Zh rfl),⟨by simp only;omega,by simp only;omega,JaS ho _ (Nat.mod_lt _ (by omega)),by simp [hoN],hstep,?_⟩,by simp only;omega⟩
      intro j hj;simp only;rw [Num.getD_set_ne (by omega)];exact hz j hj
     .have e:k=y.length:=by omega
      subst e;have hend:=VaU hval (by omega) (hz _ (Nat.le_refl _))
      rw [Nat.mod_eq_of_lt hc];refine λ_=>⟨by omega,by omega,by omega,by omega,(i+1,o.set (i+y.length) c),qa (by simp [bitvec_to_nat]) (Zh rfl),⟨by simp only;omega,JaS ho _ hc,by simp [hoN],hend,?_⟩,by simp only;omega⟩
      intro j hj;simp only at hj ⊢;rw [Num.getD_set_ne (by omega)];exact hz j (by omega)
   .have e:i=x.length:=by omega
    subst e;rw [wi (Nat.le_refl _)]at hval;refine⟨ho,by omega,?_⟩
    rw [hval];exact hK
end Go.Abs
end
section
namespace Go.Abs
open Go.Num
variable {P:Program} {Γ:Nat->Spec}
def Wk(f0:Nat):AC:=(.o [.m 6 .fa] [0,1,2] (.o [.m 7 (.c (.one (.lit (.int .u64 0)))),.m 8 (.c (.one (.lit (.int .u64 0))))] [0,1,2,7,8] (.f (.o [.M 11 0,.Z 12 11,.N 13 0] [0,1,2,7,8,12,13] (.block 0 (.loop (.o [.B 14 .lss 13 12] [0,1,2,7,8,12,13,14] (.f (.cond (.t 14) .skip (.exit 0)) [0,1,2,7,8,12,13] (.f (.block 1 (.o [.M 15 13,.M 9 15] [0,1,2,7,8,9,12,13] (.o [.M 16 7,.M 17 2,.M 18 1,.M 19 9,.D 20 f0 18 19,.B 21 .mul 17 20,.B 22 .add 16 21,.M 7 22] [0,1,2,7,8,9,12,13] (.o [.M 23 0,.M 24 9,.J 25 1 23 24,.F 26 1 25,.u 27 (.conv .u64 (.t 26)),.M 28 7,.u 29 (.conv .u32 (.t 28)),.u 30 (.conv .u64 (.t 29)),.B 31 .sub 27 30,.M 32 8,.B 33 .sub 31 32,.M 10 33] [0,1,2,7,9,10,12,13] (.o [.M 34 0,.M 35 9,.M 36 10,.u 37 (.conv .u32 (.t 36)),.J 38 1 34 35,.S 1 38 37] [0,1,2,7,10,12,13] (.o [.M 39 10,.u 40 (.bin .shr (.t 39) (.c (.one (.lit (.int .u64 63))))),.M 8 40] [0,1,2,7,8,12,13] (.p [.M 41 7,.u 42 (.bin .shr (.t 41) (.c (.one (.lit (.int .u64 32))))),.M 7 42]))))))) [0,1,2,7,8,12,13] (.p [.I 43 .add 13 1,.M 13 43]))))))) [8] (.seq (.p [.M 44 8,.u 45 (.bin .eql (.t 44) (.c (.one (.lit (.int .u64 1))))),.M 6 45]) .ret))))
def Zq(f0:Nat):AC:=(.o [.m 4 (.c (.one (.lit (.int .u64 0))))] [0,1,4] (.o [.M 6 0,.Z 7 6,.N 8 0] [0,1,4,7,8] (.block 0 (.loop (.o [.B 9 .lss 8 7] [0,1,4,7,8,9] (.f (.cond (.t 9) .skip (.exit 0)) [0,1,4,7,8] (.f (.block 1 (.o [.M 10 8,.M 5 10] [0,1,4,5,7,8] (.f (.y [.M 11 4,.M 12 0,.M 13 5,.J 14 1 12 13,.F 15 1 14,.u 16 (.conv .u64 (.t 15)),.M 17 1,.M 18 5,.D 19 f0 17 18,.B 20 .add 16 19,.B 21 .add 11 20,.M 4 21]) [0,1,4,5,7,8] (.o [.M 22 0,.M 23 5,.M 24 4,.u 25 (.conv .u32 (.t 24)),.J 26 1 22 23,.S 1 26 25] [0,1,4,7,8] (.p [.M 27 4,.u 28 (.bin .shr (.t 27) (.c (.one (.lit (.int .u64 32))))),.M 4 28]))))) [0,1,4,7,8] (.p [.I 29 .add 8 1,.M 8 29]))))))))
theorem Xad(hΓ:Holds P Γ){f fw:Nat}(hw:Γ fw=.dat true Qj)(hc:check P f=some (46,(Wk fw).strip,[.tmp 6])):Sound P f (.own ko):=by
 refine ye hc hΓ (λd args h K hG=>?_);unfold ko at hG;split at hG
 case h_2=>exact hG.elim
 rename_i r ver off len b n;obtain⟨v,rfl,hv,pre,seg,post,m,rfl,rfl,rfl,hr,hseg,hm,hvl,hlt,hsl,hK⟩:=hG;refine⟨[r],[⟨(pre++seg++post).map wc,1,true⟩],[.one (.own 1048576 ver 1 pre.length seg.length),wsA v,.one (.lit (.int .u64 m))],by simp,rfl,?_,?_,?_,λhfi=>⟨by simp,?_⟩⟩
 .intro i r' b h1 h2;cases i with
  | zero=>simp only [List.getElem?_cons_zero,Option.some.injEq]at h1 h2;subst h1 h2;exact⟨by rw [hr],rfl,of_eq_true (vd _)⟩
  | succ i=>simp at h1
 .simp [exA,exC,exB,nameOf,pinA,wsA,ws]
 .intro a ha;simp only [List.mem_cons,List.not_mem_nil,or_false]at ha;rcases ha with rfl | rfl | rfl
  .simp [pasA,pasC,pasB,nameOf,pinA]
  .exact .slice _ (of_eq_true (vd _))
  .exact .lit _
 simp only [go_sem,Wk,hw,hr];intro h1;refine ja (λp:List Nat×Nat×Nat×Nat=>⟨mkV [(0,.one (.own 1048576 ver 1 pre.length seg.length)),(1,wsA v),(2,.one (.lit (.int .u64 m))),(7,.one (.lit (.int .u64 p.2.1))),(8,.one (.lit (.int .u64 p.2.2.1))),(12,.one (.lit (.int .i64 seg.length))),(13,.one (.lit (.int .i64 p.1.length)))],
   mkH [(1048576,⟨ver,some ⟨(pre++(p.1++seg.drop p.1.length)++post).map wc,1,true⟩⟩)]⟩)
  (λp=>p.1.length<=seg.length/\WL p.1/\(p.2.1=0∨p.2.1<m)/\p.2.2.1<=1/\p.2.2.2+4294967296 ^ p.1.length*p.2.1=m*val (v.take p.1.length)/\val p.1+p.2.2.2=val (seg.take p.1.length)+4294967296 ^ p.1.length*p.2.2.1) (λp=>seg.length-p.1.length) ([],0,0,0) ?_ ?_ ?_
 .exact qa (by simp [bitvec_to_nat]) (Zh (by simp))
 .simp [Ub,val]
 .rintro⟨o,c,bw,p⟩ ⟨hoN,ho,hc1,hb1,hp1,hp2⟩;simp only at hoN ho hc1 hb1 hp1 hp2;have hlen:(pre++(o++seg.drop o.length)++post).length=pre.length+seg.length+post.length:=by simp;omega
  simp only [go_sem,hw,hr,hlen];refine⟨λhlt2=>?_,λhge=>?_⟩
  .have g1:=jb hseg o.length;have g2:=jb hv o.length;obtain⟨s1,s2⟩:=qa7 hm g2 hc1;have a1:=Xbb (B:=4294967296) (v:=v.getD o.length 0) hp1;have e1:m*v.getD o.length 0 % 18446744073709551616=m*v.getD o.length 0:=Nat.mod_eq_of_lt (by omega)
   have e2:seg.getD o.length 0 % 18446744073709551616=seg.getD o.length 0:=by omega
   rw [Ua3 _ _ _ _ hlt2,e1,e2,Nat.mod_eq_of_lt s1,Waj _ _ _ _ _ hlt2];generalize hs:c+m*v.getD o.length 0=s at s1 s2 a1;have e3:s % 4294967296 % 18446744073709551616=s % 4294967296:=by omega
   rw [e3];obtain⟨t1,t2⟩:=Qaw (b:=s % 4294967296) g1 (by omega) hb1
   generalize sub64 (sub64 (seg.getD o.length 0) (s % 4294967296)) bw=d at t1 t2;have a2:=Ybc hp2 t1;refine⟨hv,hlt2,by omega,hlt2,by omega,by omega,by omega,by omega,(o++[d % 4294967296],s / 4294967296,d / 9223372036854775808,p+4294967296 ^ o.length*(s % 4294967296)),qa (by simp [bitvec_to_nat]) (Zh rfl),⟨by simp;omega,Xd.2 ⟨ho,Xb.2 ⟨Nat.mod_lt _ (by omega),Ub⟩⟩,s2,t2,?_,?_⟩,by simp;omega⟩
   .simp only [List.length_append,List.length_cons,List.length_nil,Nat.zero_add,Jb,Nat.pow_succ];exact a1
   .simp only [List.length_append,List.length_cons,List.length_nil,Nat.zero_add,Jb,Yb,ug,Yk,Nat.mul_zero,Nat.add_zero,Nat.pow_succ];exact a2
  .have e:o.length=seg.length:=by omega
   rw [e]at hp1 hp2;rw [wi hvl]at hp1;rw [wi (Nat.le_refl _)]at hp2;obtain⟨t1,t2⟩:=xbr ho e hp1 hlt hp2 hb1;rw [List.drop_of_length_le (by omega),List.append_nil]
   rw [<-t1]at hK;have:(decide ((bw:Int)=1))=decide (val seg<m*val v):=by
    rw [decide_eq_decide,<-t2];omega
   rw [this];exact hK
theorem WaG(hΓ:Holds P Γ){f fw:Nat}(hw:Γ fw=.dat true Qj)(hc:check P f=some (30,(Zq fw).strip,[])):Sound P f (.own uA):=by
 refine ye hc hΓ (λd args h K hG=>?_);unfold uA at hG;split at hG
 case h_2=>exact hG.elim
 rename_i r ver off len b;obtain⟨v,rfl,hv,pre,seg,post,rfl,rfl,hr,hseg,hvl,hsl,hK⟩:=hG;refine⟨[r],[⟨(pre++seg++post).map wc,1,true⟩],[.one (.own 1048576 ver 1 pre.length seg.length),wsA v],by simp,rfl,?_,?_,?_,λhfi=>⟨by simp,?_⟩⟩
 .intro i r' b h1 h2;cases i with
  | zero=>simp only [List.getElem?_cons_zero,Option.some.injEq]at h1 h2;subst h1 h2;exact⟨by rw [hr],rfl,of_eq_true (vd _)⟩
  | succ i=>simp at h1
 .simp [exA,exC,exB,nameOf,pinA,wsA,ws]
 .intro a ha;simp only [List.mem_cons,List.not_mem_nil,or_false]at ha;rcases ha with rfl | rfl
  .simp [pasA,pasC,pasB,nameOf,pinA]
  .exact .slice _ (of_eq_true (vd _))
 simp only [go_sem,Zq,hw,hr];intro h1;refine ja (λp:List Nat×Nat=>⟨mkV [(0,.one (.own 1048576 ver 1 pre.length seg.length)),(1,wsA v),(4,.one (.lit (.int .u64 p.2))),(7,.one (.lit (.int .i64 seg.length))),(8,.one (.lit (.int .i64 p.1.length)))],
   mkH [(1048576,⟨ver,some ⟨(pre++(p.1++seg.drop p.1.length)++post).map wc,1,true⟩⟩)]⟩)
  (λp=>p.1.length<=seg.length/\WL p.1/\p.2<=1/\val p.1+4294967296 ^ p.1.length*p.2=val (seg.take p.1.length)+val (v.take p.1.length)) (λp=>seg.length-p.1.length) ([],0) ?_ ?_ ?_
 .exact qa (by simp [bitvec_to_nat]) (Zh (by simp))
 .simp [Ub,val]
 .rintro⟨o,c⟩ ⟨hoN,ho,hc1,hp1⟩;simp only at hoN ho hc1 hp1;have hlen:(pre++(o++seg.drop o.length)++post).length=pre.length+seg.length+post.length:=by simp;omega
  simp only [go_sem,hw,hr,hlen];refine⟨λhlt2=>?_,λhge=>?_⟩
  .have g1:=jb hseg o.length;have g2:=jb hv o.length;have e2:seg.getD o.length 0 % 18446744073709551616=seg.getD o.length 0:=by omega
   rw [Ua3 _ _ _ _ hlt2,e2,Nat.mod_eq_of_lt (show seg.getD o.length 0+v.getD o.length 0<18446744073709551616 by omega),Nat.mod_eq_of_lt (show c+(seg.getD o.length 0+v.getD o.length 0)<18446744073709551616 by omega),Waj _ _ _ _ _ hlt2]
   have a1:=za8 (B:=4294967296) (a:=seg.getD o.length 0) (b:=v.getD o.length 0) hp1 rfl;generalize hs:c+(seg.getD o.length 0+v.getD o.length 0)=s at a1;refine⟨hlt2,by omega,hv,hlt2,by omega,by omega,by omega,(o++[s % 4294967296],s / 4294967296),qa (by simp [bitvec_to_nat]) (Zh rfl),⟨by simp;omega,Xd.2 ⟨ho,Xb.2 ⟨Nat.mod_lt _ (by omega),Ub⟩⟩,by simp only;omega,?_⟩,by simp;omega⟩
   simp only [List.length_append,List.length_cons,List.length_nil,Nat.zero_add,Jb,Yb,ug,Yk,Nat.mul_zero,Nat.add_zero,Nat.pow_succ];exact a1
  .have e:o.length=seg.length:=by omega
   rw [e,wi hvl,wi (Nat.le_refl _)]at hp1;have t1:=Za8 ho e hp1;rw [List.drop_of_length_le (by omega),List.append_nil]
   rw [<-t1]at hK;exact hK
end Go.Abs
end
