/-
  Parts of the proof, merged: BipH, BipU, CogT, BipT, BipV, BiqC, BiqD, BipW, BiqE.
-/
import Derived.Test.YthoibmokhnoccaaGreatDoorM11
import Derived.Lib.Join
set_option linter.unusedVariables false
set_option linter.unusedSimpArgs false
set_option maxRecDepth 100000
section
namespace Go.Num
open Go.Abs
def erC(p q:List Mo):Nat:=if chk2 p q≠0 then chk2 p q else if p=[]∨q=[] then 8 else if 8<topY (p.map mv)+topY (q.map mv)-2∨64<degM p*degM q then 4 else 0
end Go.Num
namespace Go.Abs
open Go.Num
variable {P:Program} {Γ:Nat->Spec}
theorem Jad(l:List Rat):plC l=[.slice ((l.map rcan).map rC)]:=eq_of_heq (HEq.refl _)
theorem uaN(l:List Rat):(plC l).length=1:=eq_of_heq (HEq.refl _)
theorem qas(K:List C->Prop)(L:PL)(i:Nat):getE K (L.map plC) i=(i<L.length/\K (plC (L.getD i []))):=by
 simp only [getE,List.length_map,List.getElem?_map];refine propext ⟨λh=>⟨h.1,h.2 _ (by simp [h.1,List.getD_eq_getElem?_getD])⟩,λh=>⟨h.1,λe he=>?_⟩⟩
 simp [h.1]at he;subst he;have:=h.2;simpa [List.getD_eq_getElem?_getD,h.1] using this
theorem xI(L:PL):CleanR (L.map plC)=True:=eq_true λe he c hc=>by
 obtain⟨l,_,rfl⟩:=List.mem_map.1 he;rw [Jad,List.mem_singleton]at hc;subst hc;exact of_eq_true (JF _)
theorem ZaV(L:PL):(∀e∈L.map plC,e.length=1)=True:=eq_true λe he=>by
 obtain⟨l,_,rfl⟩:=List.mem_map.1 he;rfl
theorem wac(L:PL):Clean (.slice (L.map plC))=True:=eq_true (.slice _ (of_eq_true (xI L)))
attribute [go_sem,go_sem ↓] uaN qas xI ZaV wac
theorem WbL{a b ver:Nat}(L:List Rat):swB a b ⟨ver,some ⟨(L.map rcan).map rC,3,true⟩⟩=⟨ver,some ⟨(L.map rcan).map rC,3,true⟩⟩:=by
 unfold swB;simp only [Option.map_some,HB.mk.injEq,Option.some.injEq,Blk.mk.injEq,and_true,true_and];rw [List.map_map];exact List.map_congr_left λj _=>rfl
def valC(t:Nat):C:=if t=0 then .emp else .own 99 1 3 0 t
def valB(t:Nat)(L:List Rat):HB:=if t=0 then ⟨0,none⟩ else ⟨1,some ⟨((L.take t).map rcan).map rC,3,true⟩⟩
theorem Q0{h h' : Nat->HB}{t:Nat}{L:List Rat}{b:HB}(e:t≠0->b.blk=some ⟨((L.take t).map rcan).map rC,3,true⟩):okB h h' b.blk (valB t L).blk:=by
 unfold valB;by_cases h:t=0
 .rw [if_pos h];cases b.blk <;> trivial
 .rw [if_neg h,e h];exact zp rfl
theorem Yan(L:List Rat)(x:Rat):(L.map rcan).map rC++[[cb (rcan x),cn (rcan x),cd (rcan x)]]=((L++[x]).map rcan).map rC:=by simp [rC]
def Ju(tE:Nat)(l:List AV)(K:AV->Prop):Prop:=
 match l with
 | [a,b]=>onMs (λp=>onMs (λq=>(∀t∈p,rl t.2.2<=1000000)/\(∀t∈q,rl t.2.2<=1000000)/\(erC p q=0->degM p*degM q<=9/\SmE (p.map mv) (q.map mv))/\K (.tup [.one (.slice (((if erC p q=0 then elL (p.map mv) (q.map mv) else []).map rcan).map rC)),errV tE (erC p q)])) b) a
 | _=>False
theorem xau:type_of% @Ju.eq_1:=q_E @Ju.eq_1
@[congr] theorem JbP tE{K}{l l'}(h:l=l'):Ju tE l K=Ju tE l' K:=by subst h;rfl
attribute [go_sem,go_sem ↓] xau
theorem JaK(tE:Nat):Good (Ju tE):=Ja λas=>by
 unfold Ju;split
 .exact(xd λ_=>(xd λ_=>(.and λ_=>(.and λ_=>(.and λ_=>(.ret _))))))
 .exact .of λK hk=>hk.elim
def yb(f0 f1 f2 f3 f4 f5 f6 tE:Nat):AC:=(.o [.m 4 (.c (.one .emp)),.m 5 (.c (.one (.lit .nilIface)))] [0,1] (.f (.o [.M 22 0,.M 23 1,.u 24 (.row 1 [[.x 1 (.t 22)],[.x 1 (.t 23)]]),.H 25 f0 24,.M 6 25] [0,1,6] (.o [.M 26 6,.R 27 26] [0,1,6,27] (.cond (.t 27) (.seq (.p [.M 28 6,.m 4 (.c (.one .emp)),.M 5 28]) .ret) .skip))) [0,1] (.f (.o [.M 29 0,.Z 30 29,.I 31 .eql 30 0,.M 32 31,.V 33 32 false 1,.w 34 32 false (.len (.t 33)),.w 35 32 false (.bin .eql (.t 34) (.i 0)),.Q 36 32 35] [0,1,36] (.cond (.t 36) (.seq (.p [.u 37 (.iface tE (.i 8)),.m 4 (.c (.one .emp)),.M 5 37]) .ret) .skip)) [0,1] (.o [.M 38 0,.H 39 f1 38,.M 40 1,.H 41 f1 40,.M 7 39,.M 8 41] [0,1,7,8] (.f (.o [.M 42 7,.Z 43 42,.M 44 8,.Z 45 44,.B 46 .add 43 45,.I 47 .sub 46 2,.I 48 .gtr 47 8,.M 49 48,.V 50 49 false 0,.W 51 49 false f2 50,.V 52 49 false 1,.W 53 49 false f2 52,.w 54 49 false (.bin .mul (.t 51) (.t 53)),.w 55 49 false (.bin .gtr (.t 54) (.i 64)),.Q 56 49 55] [0,1,7,8,56] (.cond (.t 56) (.seq (.p [.u 57 (.iface tE (.i 4)),.m 4 (.c (.one .emp)),.M 5 57]) .ret) .skip)) [0,1,7,8] (.o [.m 9 (.c (.one .emp)),.m 10 (.c (.one .emp))] [0,1,7,8,9,10] (.f (.o [.M 58 0,.H 59 f2 58,.M 60 1,.H 61 f2 60,.B 62 .mul 59 61,.I 63 .add 62 1,.N 64 0] [7,8,9,10,63,64] (.block 0 (.loop (.o [.B 65 .lss 64 63] [7,8,9,10,63,64,65] (.f (.cond (.t 65) .skip (.exit 0)) [7,8,9,10,63,64] (.f (.block 1 (.o [.M 66 64,.M 11 66] [7,8,9,10,11,63,64] (.o [.M 67 11,.H 68 f3 67,.G 12 [.z,.emp,.emp],.S 3 12 68] [7,8,9,10,12,63,64] (.o [.G 13 [.emp,.emp]] [7,8,9,10,12,13,63,64] (.f (.o [.M 69 7,.M 70 8,.u 71 (.row 1 [[.x 1 (.t 69)],[.x 1 (.t 70)]]),.Z 72 71,.N 73 0] [7,8,9,10,12,13,63,64,71,72,73] (.block 2 (.loop (.o [.B 74 .lss 73 72] [7,8,9,10,12,13,63,64,71,72,73,74] (.f (.cond (.t 74) .skip (.exit 2)) [7,8,9,10,12,13,63,64,71,72,73] (.f (.block 3 (.o [.M 75 73,.J 76 1 71 73,.F 77 1 76,.M 14 75,.M 15 77] [7,8,9,10,12,13,14,15,63,64,71,72,73] (.o [.M 78 15,.Z 79 78,.N 80 0] [7,8,9,10,12,13,14,63,64,71,72,73,78,79,80] (.block 4 (.loop (.o [.B 81 .lss 80 79] [7,8,9,10,12,13,14,63,64,71,72,73,78,79,80,81] (.f (.cond (.t 81) .skip (.exit 4)) [7,8,9,10,12,13,14,63,64,71,72,73,78,79,80] (.f (.block 5 (.o [.J 82 1 78 80,.F 83 1 82,.M 17 83] [7,8,9,10,12,13,14,17,63,64,71,72,73,78,79,80] (.o [.M 85 17,.L 86 3 12,.D 87 f4 85 86,.M 84 87,.X 88 0 84,.X 89 1 84,.G 18 [.z,.emp,.emp],.S 3 18 88,.M 19 89] [7,8,9,10,12,13,14,18,19,63,64,71,72,73,78,79,80] (.f (.o [.M 90 19,.R 91 90] [7,8,9,10,12,13,14,18,19,63,64,71,72,73,78,79,80,91] (.cond (.t 91) (.seq (.p [.M 92 19,.m 4 (.c (.one .emp)),.M 5 92]) .ret) .skip)) [7,8,9,10,12,13,14,18,63,64,71,72,73,78,79,80] (.y [.M 93 14,.M 94 14,.u 95 (.ai 1 2 (.t 13) (.t 94)),.F 96 1 95,.L 97 3 18,.u 98 (.row 3 [[.x 3 (.t 97)]]),.u 99 (.app 3 (.t 96) (.t 98)),.u 100 (.ai 1 2 (.t 13) (.t 93)),.S 1 100 99]))))) [7,8,9,10,12,13,14,63,64,71,72,73,78,79,80] (.p [.I 101 .add 80 1,.M 80 101]))))))))) [7,8,9,10,12,13,63,64,71,72,73] (.p [.I 102 .add 73 1,.M 73 102]))))))) [7,8,9,10,12,13,63,64] (.o [.u 104 (.ai 1 2 (.t 13) (.i 0)),.F 105 1 104,.u 106 (.ai 1 2 (.t 13) (.i 1)),.F 107 1 106,.D 108 f5 105 107,.M 103 108,.X 109 0 103,.X 110 1 103,.G 20 [.z,.emp,.emp],.S 3 20 109,.M 21 110] [7,8,9,10,12,20,21,63,64] (.f (.o [.M 111 21,.R 112 111] [7,8,9,10,12,20,21,63,64,112] (.cond (.t 112) (.seq (.p [.M 113 21,.m 4 (.c (.one .emp)),.M 5 113]) .ret) .skip)) [7,8,9,10,12,20,63,64] (.y [.M 114 9,.u 115 (.ld (some 12) 3 true (.t 12)),.u 116 (.row 3 [[.x 3 (.t 115)]]),.u 117 (.appb 117 3 (.t 114) (.t 116)),.M 118 10,.u 119 (.ld (some 20) 3 true (.t 20)),.u 120 (.row 3 [[.x 3 (.t 119)]]),.u 121 (.appb 121 3 (.t 118) (.t 120)),.M 9 117,.M 10 121])))))))) [7,8,9,10,63,64] (.p [.I 122 .add 64 1,.M 64 122]))))))) [9,10] (.seq (.p [.M 123 9,.M 124 10,.D 125 f6 123 124,.X 126 0 125,.X 127 1 125,.M 4 126,.M 5 127]) .ret))))))))
theorem ual(hΓ:Holds P Γ){f fk fr fd fo fe fv ft tE:Nat}(hk:Γ fk=.dat false (we tE))(hr:Γ fr=.dat false kt)(hd:Γ fd=.dat true xq)(ho:Γ fo=.dat false Xw)(he:Γ fe=.dat false (wq tE))(hvl:Γ fv=.dat false (Wn tE))(ht:Γ ft=.dat false (ku tE))(hc:check P f=some (128,(yb fk fr fd fo fe fv ft tE).strip,[.tmp 4,.tmp 5])):Sound P f (.dat false (Ju tE)):=by
 refine Qa hc (JaK tE) hΓ (λargs K hcl hfi hG=>?_);match args,hG with
 | [a0,a1],hG=>
  obtain⟨p,rfl,hwp,q,rfl,hwq,hrp,hrq,hside,hK⟩:=hG;refine⟨by simp,?_⟩
  have hrp4:∀t∈p,rl t.2.2<=4294967296:=λt ht=>Nat.le_trans (hrp t ht) (by decide)
  have hrq4:∀t∈q,rl t.2.2<=4294967296:=λt ht=>Nat.le_trans (hrq t ht) (by decide)
  by_cases h0:chk2 p q=0
  case neg=>
   have ec:erC p q=chk2 p q:=if_pos h0;rw [ec,if_neg h0,Ye tE h0]at hK;have e1:=Ye tE h0;simp only [go_sem,yb,hk,e1,ms];exact⟨⟨hwp,hwq⟩,hrp4,hrq4,hK⟩
  have e0:=je tE;obtain⟨c1,c2⟩:=Zz h0;have ec:erC p q=if p=[]∨q=[] then 8 else if 8<topY (p.map mv)+topY (q.map mv)-2∨64<degM p*degM q then 4 else 0:=if_neg (by simp [h0])
  by_cases hp0:p=[]
  .rw [if_pos (.inl hp0)]at ec;rw [ec,if_neg (by decide),Ye tE (by decide)]at hK
   have l0:p.length=0:=List.length_eq_zero_iff.2 hp0;simp only [go_sem,yb,hk,h0,e0,ms,l0];exact⟨⟨hwp,hwq⟩,hrp4,hrq4,hK⟩
  have lp0:p.length≠0:=λe=>hp0 (List.length_eq_zero_iff.1 e);have lp0' : ¬(p.length:Int)=0:=by omega
  by_cases hq0:q=[]
  .rw [if_pos (.inr hq0)]at ec;rw [ec,if_neg (by decide),Ye tE (by decide)]at hK
   have l0:q.length=0:=List.length_eq_zero_iff.2 hq0;simp only [go_sem,yb,hk,h0,e0,ms,l0,lp0'];refine⟨⟨hwp,hwq⟩,?_⟩;repeat first | refine q_Wk ?_ | intro _
   exact hK
  have lq0:q.length≠0:=λe=>hq0 (List.length_eq_zero_iff.1 e);have lq0' : ¬(q.length:Int)=0:=by omega
  rw [if_neg (λh=>h.elim hp0 hq0)]at ec;obtain⟨canp,mcp⟩:=zf c1 hwp;obtain⟨canq,mcq⟩:=zf c2 hwq;obtain⟨i1,_,l1⟩:=kh c1 hwp;obtain⟨i2,_,l2⟩:=kh c2 hwq;have hrp9:∀t∈p,rl t.2.2<=4000000000:=λt ht=>Nat.le_trans (hrp t ht) (by decide)
  have hrq9:∀t∈q,rl t.2.2<=4000000000:=λt ht=>Nat.le_trans (hrq t ht) (by decide)
  have t1:=qak canp.ins;have t2:=qak canq.ins;have t3:=XaE (p:=p.map mv) (by simpa using hp0)
  have t4:=XaE (p:=q.map mv) (by simpa using hq0)
  have la:=Wu (p.map mv);have lb:=Wu (q.map mv);have d1:=Xt canp;have d2:=Xt canq;have d3:=zI canp (by simpa using hp0)
  have d4:=zI canq (by simpa using hq0)
  rw [<-ve,mcp]at d1 d3;rw [<-ve,mcq]at d2 d4;obtain⟨dp,hdp⟩:=Int.eq_ofNat_of_zero_le d3;obtain⟨dq,hdq⟩:=Int.eq_ofNat_of_zero_le d4;have hdpq:degM p*degM q=((dp*dq:Nat):Int):=by rw [hdp,hdq,Int.natCast_mul]
  have hdpq' : (dp:Int)*(dq:Int)=((dp*dq:Nat):Int):=(Int.natCast_mul ..).symm;have hdpq24:dp*dq<=24*24:=Nat.mul_le_mul (by omega) (by omega)
  obtain⟨a,ha⟩:∃a,topY (p.map mv)=a:=⟨_,rfl⟩;obtain⟨b,hb⟩:∃b,topY (q.map mv)=b:=⟨_,rfl⟩;rw [ha]at t1 t3 la;rw [hb]at t2 t4 lb;rw [ha,hb,hdpq]at ec;have lenpq:((rowsP (p.map mv)).length:Int)+((rowsP (q.map mv)).length:Int)-2=((a+b-2:Nat):Int):=by omega
  by_cases h8:8<a+b-2
  .have h8' : (8:Int)<((a+b:Nat):Int)-2:=by omega
   rw [if_pos (.inl h8)]at ec;rw [ec,if_neg (by decide),Ye tE (by decide)]at hK
   simp only [go_sem,yb,hk,hr,hd,h0,c1,c2,e0,ms,lp0',lq0',lenpq,hdp,hdq,hdpq',la,lb,h8'];refine⟨⟨hwp,hwq⟩,?_⟩;repeat first | refine q_Wk ?_ | intro _
   exact hK
  have h8' : ¬(8:Int)<((a+b:Nat):Int)-2:=by omega
  by_cases h64:64<dp*dq
  .have h64' : (64:Int)<((dp*dq:Nat):Int):=by omega
   rw [if_pos (.inr h64')]at ec;rw [ec,if_neg (by decide),Ye tE (by decide)]at hK
   simp only [go_sem,yb,hk,hr,hd,h0,c1,c2,e0,ms,lp0',lq0',lenpq,hdp,hdq,hdpq',la,lb,h8',h64'];refine⟨⟨hwp,hwq⟩,?_⟩;repeat first | refine q_Wk ?_ | intro _
   exact hK
  have h64' : ¬(64:Int)<((dp*dq:Nat):Int):=by omega
  rw [if_neg (λh=>h.elim h8 h64')]at ec;obtain⟨hd9,hsm⟩:=hside ec;rw [hdpq]at hd9;rw [ec,if_pos rfl,e0]at hK;simp only [go_sem,yb,hk,hr,hd,h0,c1,c2,e0,ms,lp0',lq0',lenpq,hdp,hdq,hdpq',la,lb,h8',h64'];refine⟨⟨hwp,hwq⟩,?_⟩;repeat first | refine q_Wk ?_ | intro _
  obtain⟨n,hn⟩:∃n,dp*dq+1=n:=⟨_,rfl⟩;rw [hn];have hn10:n<=10:=by omega
  obtain⟨pq,hpq⟩:∃u,p.map mv=u:=⟨_,rfl⟩;obtain⟨qq,hqq⟩:∃u,q.map mv=u:=⟨_,rfl⟩;rw [hpq,hqq]at hK ⊢;rw [hpq]at la canp ha;rw [hqq]at lb canq hb;rw [hpq,hqq]at hsm;obtain⟨D,E,hD0,hDw,hEw,bp,bq⟩:=hsm;refine ja (λk:Nat=>⟨mkV [(7,.one (.slice ((rowsP pq).map plC))),(8,.one (.slice ((rowsP qq).map plC))),(9,if k=0 then .one .emp else .one (.own 117 1 3 0 k)),(10,if k=0 then .one .emp else .one (.own 121 1 3 0 k)),(63,.one (.lit (.int .i64 n))),(64,.one (.lit (.int .i64 k)))],mkH (if k=0 then [] else [(117,⟨1,some ⟨((xsn k).map rcan).map rC,3,true⟩⟩),(121,⟨1,some ⟨((ysE pq qq k).map rcan).map rC,3,true⟩⟩)])⟩) (λk=>k<=n) (λk=>n-k) 0 ?_ ?_ ?_
  .exact za (by simp [bitvec_to_nat]) trivial
  .exact Nat.zero_le _
  .intro k hkn;obtain⟨s9,hs9⟩:∃s:AV,(if k=0 then .one .emp else .one (.own 117 1 3 0 k))=s:=⟨_,rfl⟩
   obtain⟨s10,hs10⟩:∃s:AV,(if k=0 then .one .emp else .one (.own 121 1 3 0 k))=s:=⟨_,rfl⟩
   obtain⟨Z,hZ⟩:∃Z:List (Nat×HB),(if k=0 then [] else [(117,⟨1,some ⟨((xsn k).map rcan).map rC,3,true⟩⟩),(121,⟨1,some ⟨((ysE pq qq k).map rcan).map rC,3,true⟩⟩)])=Z:=⟨_,rfl⟩
   rw [hs9,hs10,hZ];have zno:∀r,r≠117->r≠121->mkH Z r=⟨0,none⟩:=λr h1 h2=>by
    rw [<-hZ];split
    .rfl
    .rw [qa,if_neg h1,qa,if_neg h2];rfl
   have zv:∀h h',h 117=mkH Z 117->h' 117=mkH Z 117->h 121=mkH Z 121->h' 121=mkH Z 121->okV h h' s9 s9/\okV h h' s10 s10:=λh h' h1 h2 h3 h4=>by
    rw [<-hZ]at h1 h2 h3 h4;rw [<-hs9,<-hs10];by_cases k0:k=0
    .rw [if_pos k0,if_pos k0];exact⟨trivial,trivial⟩
    .rw [if_neg k0]at h1 h2 h3 h4;rw [if_neg k0,if_neg k0];simp [qa,-List.map_map]at h1 h2 h3 h4;simp [okV,okC,h1,h2,h3,h4]
   have z3:∀(h h' : Nat->HB) (R:Prop),h 117=mkH Z 117->h' 117=mkH Z 117->h 121=mkH Z 121->h' 121=mkH Z 121->R->okV h h' s9 s9/\okV h h' s10 s10/\R:=λh h' R h1 h2 h3 h4 r=>⟨(zv h h' h1 h2 h3 h4).1,(zv h h' h1 h2 h3 h4).2,r⟩;have zh:∀h h',h 117=mkH Z 117->h 121=mkH Z 121->okH h h' Z:=λh h' h1 h2=>by
    rw [<-hZ]at h1 h2 ⊢;by_cases k0:k=0
    .rw [if_pos k0];trivial
    .rw [if_neg k0]at h1 h2 ⊢;simp [qa,-List.map_map]at h1 h2;refine⟨?_,?_,trivial⟩
     .rw [h1];exact zp rfl
     .rw [h2];exact zp rfl
   by_cases hlt:k<n
   .have hlt' : (k:Int)<(n:Int):=by omega
    have z12:=zno 12 (by decide) (by decide)
    have z13:=zno 13 (by decide) (by decide)
    have z18:=zno 18 (by decide) (by decide)
    have z20:=zno 20 (by decide) (by decide)
    have z99:=zno 99 (by decide) (by decide)
    simp only [go_sem,hlt',z12,z13,ho,Rat.intCast_natCast];repeat first | refine q_Wk ?_ | intro _
    obtain⟨va,hva⟩:∃l,(rowsP pq).map (λl=>hv l (k:Rat))=l:=⟨_,rfl⟩;obtain⟨vb,hvb⟩:∃l,(rowsP qq).map (λl=>hv l (k:Rat))=l:=⟨_,rfl⟩;have lva:va.length=a:=by rw [<-hva,List.length_map,la]
    have lvb:vb.length=b:=by rw [<-hvb,List.length_map,lb]
    have sw9:swA 99 500 s9=s9/\swA 99 500 s10=s10/\swK 99 500 Z=Z:=by
     rw [<-hs9,<-hs10,<-hZ];by_cases k0:k=0
     .simp only [if_pos k0];exact⟨rfl,rfl,rfl⟩
     .simp only [if_neg k0];refine⟨rfl,rfl,?_⟩;simp only [VT,JaJ,WbL];rfl
    refine Jaq 2 ⟨mkV [(9,s9),(10,s10),(7,.one (.slice ((rowsP pq).map plC))),(8,.one (.slice ((rowsP qq).map plC))),(12,.one (.ptr 12 1 0 0)),(13,.one (.ptr 13 1 0 0)),(63,.one (.lit (.int .i64 n))),(64,.one (.lit (.int .i64 k))),(71,.one (.full [[.slice ((rowsP pq).map plC)],[.slice ((rowsP qq).map plC)]])),(72,.one (.lit (.int .i64 2))),(73,.one (.lit (.int .i64 0)))],mkH ((13,⟨1,some ⟨[[.emp,.emp]],2,true⟩⟩)::(12,⟨1,some ⟨[[cb (rcan (k:Rat)),cn (rcan (k:Rat)),cd (rcan (k:Rat))]],3,true⟩⟩)::Z)⟩ ?_ ?_
    .have z:=zv (mkH ((13,⟨1,some ⟨[[.emp,.emp]],2,true⟩⟩)::(12,⟨1,some ⟨[[cb (rcan (k:Rat)),cn (rcan (k:Rat)),cd (rcan (k:Rat))]],3,true⟩⟩)::(12,⟨1,some ⟨[[.lit (.bool false),.emp,.emp]],3,true⟩⟩)::Z)) (mkH ((13,⟨1,some ⟨[[.emp,.emp]],2,true⟩⟩)::(12,⟨1,some ⟨[[cb (rcan (k:Rat)),cn (rcan (k:Rat)),cd (rcan (k:Rat))]],3,true⟩⟩)::Z)) (by simp [qa]) (by simp [qa]) (by simp [qa]) (by simp [qa])
     refine za ?_ ⟨⟨⟨rfl,rfl⟩,.inr (by simp [bitvec_to_nat])⟩,vk,zh _ _ (by simp [qa]) (by simp [qa])⟩
     simp only [okS,yp,Nat.reduceEqDiff,if_false,if_true];exact⟨z.1,z.2,by simp [bitvec_to_nat]⟩
    .simp only [go_sem,Int.reduceLT,decide_true];repeat first | refine q_Wk ?_ | intro _
     refine ja (λt:Nat=>⟨mkV [(9,s9),(10,s10),(7,.one (.slice ((rowsP pq).map plC))),(8,.one (.slice ((rowsP qq).map plC))),(12,.one (.ptr 12 1 0 0)),(13,.one (.ptr 13 1 0 0)),(14,.one (.lit (.int .i64 0))),(63,.one (.lit (.int .i64 n))),(64,.one (.lit (.int .i64 k))),(71,.one (.full [[.slice ((rowsP pq).map plC)],[.slice ((rowsP qq).map plC)]])),(72,.one (.lit (.int .i64 2))),(73,.one (.lit (.int .i64 0))),(78,.one (.slice ((rowsP pq).map plC))),(79,.one (.lit (.int .i64 a))),(80,.one (.lit (.int .i64 t)))],mkH ((13,⟨1,some ⟨[[valC t,.emp]],2,true⟩⟩)::(12,⟨1,some ⟨[[cb (rcan (k:Rat)),cn (rcan (k:Rat)),cd (rcan (k:Rat))]],3,true⟩⟩)::(99,valB t va)::Z)⟩) (λt=>t<=a) (λt=>a-t) 0 ?_ ?_ ?_
     .have z:=zv (mkH ((13,⟨1,some ⟨[[.emp,.emp]],2,true⟩⟩)::(12,⟨1,some ⟨[[cb (rcan (k:Rat)),cn (rcan (k:Rat)),cd (rcan (k:Rat))]],3,true⟩⟩)::Z)) (mkH ((13,⟨1,some ⟨[[valC 0,.emp]],2,true⟩⟩)::(12,⟨1,some ⟨[[cb (rcan (k:Rat)),cn (rcan (k:Rat)),cd (rcan (k:Rat))]],3,true⟩⟩)::(99,valB 0 va)::Z)) (by simp [qa]) (by simp [qa]) (by simp [qa]) (by simp [qa])
      refine za ?_ ⟨⟨⟨rfl,rfl⟩,.inr (by simp [bitvec_to_nat,valC])⟩,vk,Q0 (λh=>(h rfl).elim),zh _ _ (by simp [qa]) (by simp [qa])⟩
      simp only [okS,yp,Nat.reduceEqDiff,if_false,if_true];exact⟨z.1,z.2,by simp [bitvec_to_nat,la]⟩
     .exact Nat.zero_le _
     .intro t hta;by_cases htl:t<a
      .have htl' : (t:Int)<(a:Int):=by omega
       obtain⟨c,hcc⟩:∃c,(rowsP pq).getD t []=c:=⟨_,rfl⟩;have hcm:c∈rowsP pq:=by
        rw [<-hcc,List.getD_eq_getElem?_getD,List.getElem?_eq_getElem (by omega)]
        exact List.getElem_mem _
       obtain⟨tc1,tc2⟩:=XT hcm;have rc:=uaZ hD0 hDw hEw canp bp hcm;have rc6:∀x∈c,rz x<=1000000:=λx hx=>Nat.le_trans (rc x hx) (by decide)
       have rk:=Qy (k:=k) (by omega)
       obtain⟨y,hy⟩:∃y,hv c (k:Rat)=y:=⟨_,rfl⟩;have hvt:va.take (t+1)=va.take t++[y]:=by
        rw [List.take_add_one,<-hva,List.getElem?_map,<-hy,<-hcc,List.getD_eq_getElem?_getD,List.getElem?_eq_getElem (by omega)]
        rfl
       have c65:c.length<=65:=by omega
       rcases Nat.eq_zero_or_pos t with t0 | t0
       case' inl=>
        subst t0;have eC:valC 0=.emp:=rfl;have eB:valB 0 va=⟨0,none⟩:=rfl;rw [eC,eB];simp only [go_sem,htl,htl',Jad,hcc,he,e0,rQ,hy,la,z18,Int.toNat_zero,Int.toNat_natCast];repeat first | refine q_Wk ?_ | intro _
       case' inr=>
        have eC:valC t=.own 99 1 3 0 t:=if_neg (by omega)
        have eB:valB t va=⟨1,some ⟨((va.take t).map rcan).map rC,3,true⟩⟩:=if_neg (by omega)
        have htk:(((va.take t).map rcan).map rC).take t=((va.take t).map rcan).map rC:=List.take_of_length_le (by rw [List.length_map,List.length_map,List.length_take];omega)
        have hlv:((va.take t).map rcan).length=t:=by rw [List.length_map,List.length_take];omega
        rw [eC,eB];simp only [go_sem,htl,htl',Jad,hcc,he,e0,rQ,hy,la,z18,htk,hlv,List.length_map,Yan,Int.toNat_zero,Int.toNat_natCast];repeat first | refine q_Wk ?_ | intro _
       all_goals
        refine⟨λe he=>by rw [List.mem_singleton.1 he];rfl,?_⟩
        repeat first | refine q_Wk ?_ | intro _
       case' inl=>refine⟨0+1,?_,by omega,by omega⟩
       case' inr=>refine⟨t+1,?_,by omega,by omega⟩
       all_goals
        refine za ?_ ⟨⟨⟨rfl,rfl⟩,.inr (by simp [bitvec_to_nat,valC,valB])⟩,vk,Q0 (λ_=>?_),zh _ _ (by simp [qa]) (by simp [qa])⟩
        .simp only [okS,yp,Nat.reduceEqDiff,if_false,if_true];refine z3 _ _ _ (by simp [qa]) (by simp [qa]) (by simp [qa]) (by simp [qa]) ?_
         simp [bitvec_to_nat]
        .rw [hvt];simp [qa,rC]
      .have eta:t=a:=by omega
       have htl' : ¬(t:Int)<(a:Int):=by omega
       have eC:valC t=.own 99 1 3 0 a:=by rw [eta];exact if_neg (by omega)
       have eB:valB t va=⟨1,some ⟨(va.map rcan).map rC,3,true⟩⟩:=by
        rw [eta];unfold valB;rw [if_neg (by omega),List.take_of_length_le (by omega)]
       rw [eC,eB];simp only [go_sem,htl'];repeat first | refine q_Wk ?_ | intro _
       refine Wal ⟨mkV [(9,s9),(10,s10),(7,.one (.slice ((rowsP pq).map plC))),(8,.one (.slice ((rowsP qq).map plC))),(12,.one (.ptr 12 1 0 0)),(13,.one (.ptr 13 1 0 0)),(63,.one (.lit (.int .i64 n))),(64,.one (.lit (.int .i64 k))),(71,.one (.full [[.slice ((rowsP pq).map plC)],[.slice ((rowsP qq).map plC)]])),(72,.one (.lit (.int .i64 2))),(73,.one (.lit (.int .i64 1)))],mkH ((13,⟨1,some ⟨[[.own 500 1 3 0 a,.emp]],2,true⟩⟩)::(12,⟨1,some ⟨[[cb (rcan (k:Rat)),cn (rcan (k:Rat)),cd (rcan (k:Rat))]],3,true⟩⟩)::(500,⟨1,some ⟨(va.map rcan).map rC,3,true⟩⟩)::Z)⟩ ?_ ?_
       .have w:=Vav (a:=99) (b:=500) ⟨by decide,by decide⟩ (v:=mkV ?_) (h:=mkH ?_) (l:=[(9,s9),(10,s10),(7,.one (.slice ((rowsP pq).map plC))),(8,.one (.slice ((rowsP qq).map plC))),(12,.one (.ptr 12 1 0 0)),(13,.one (.ptr 13 1 0 0)),(63,.one (.lit (.int .i64 n))),(64,.one (.lit (.int .i64 k))),(71,.one (.full [[.slice ((rowsP pq).map plC)],[.slice ((rowsP qq).map plC)]])),(72,.one (.lit (.int .i64 2))),(73,.one (.lit (.int .i64 1)))]) (k:=(13,⟨1,some ⟨[[.own 99 1 3 0 a,.emp]],2,true⟩⟩)::(12,⟨1,some ⟨[[cb (rcan (k:Rat)),cn (rcan (k:Rat)),cd (rcan (k:Rat))]],3,true⟩⟩)::(99,⟨1,some ⟨(va.map rcan).map rC,3,true⟩⟩)::Z) ⟨?_,?_⟩
        .have e1:swL 99 500 [(9,s9),(10,s10),(7,.one (.slice ((rowsP pq).map plC))),(8,.one (.slice ((rowsP qq).map plC))),(12,.one (.ptr 12 1 0 0)),(13,.one (.ptr 13 1 0 0)),(63,.one (.lit (.int .i64 n))),(64,.one (.lit (.int .i64 k))),(71,.one (.full [[.slice ((rowsP pq).map plC)],[.slice ((rowsP qq).map plC)]])),(72,.one (.lit (.int .i64 2))),(73,.one (.lit (.int .i64 1)))]=[(9,s9),(10,s10),(7,.one (.slice ((rowsP pq).map plC))),(8,.one (.slice ((rowsP qq).map plC))),(12,.one (.ptr 12 1 0 0)),(13,.one (.ptr 13 1 0 0)),(63,.one (.lit (.int .i64 n))),(64,.one (.lit (.int .i64 k))),(71,.one (.full [[.slice ((rowsP pq).map plC)],[.slice ((rowsP qq).map plC)]])),(72,.one (.lit (.int .i64 2))),(73,.one (.lit (.int .i64 1)))]:=by
          simp [yaQ,WaY,sw9.1,sw9.2.1,VaQ,zaS,XaR,kaO,UbF,ka6]
         have e2:swK 99 500 ((13,⟨1,some ⟨[[.own 99 1 3 0 a,.emp]],2,true⟩⟩)::(12,⟨1,some ⟨[[cb (rcan (k:Rat)),cn (rcan (k:Rat)),cd (rcan (k:Rat))]],3,true⟩⟩)::(99,⟨1,some ⟨(va.map rcan).map rC,3,true⟩⟩)::Z)=(13,⟨1,some ⟨[[.own 500 1 3 0 a,.emp]],2,true⟩⟩)::(12,⟨1,some ⟨[[cb (rcan (k:Rat)),cn (rcan (k:Rat)),cd (rcan (k:Rat))]],3,true⟩⟩)::(500,⟨1,some ⟨(va.map rcan).map rC,3,true⟩⟩)::Z:=by
          rw [VT,VT,VT,sw9.2.2,WbL];rfl
         rw [e1,e2]at w;exact w
        .simp only [okS,yp,Nat.reduceEqDiff,if_false,if_true];refine z3 _ _ _ (by simp [qa]) (by simp [qa]) (by simp [qa]) (by simp [qa]) ?_
         simp [bitvec_to_nat]
        .exact⟨⟨⟨rfl,rfl⟩,.inr (by simp [bitvec_to_nat])⟩,vk,zp rfl,zh _ _ (by simp [qa]) (by simp [qa])⟩
       .simp only [go_sem,Int.reduceLT,Int.reduceAdd,decide_true];repeat first | refine q_Wk ?_ | intro _
        refine ja (λt:Nat=>⟨mkV [(9,s9),(10,s10),(7,.one (.slice ((rowsP pq).map plC))),(8,.one (.slice ((rowsP qq).map plC))),(12,.one (.ptr 12 1 0 0)),(13,.one (.ptr 13 1 0 0)),(14,.one (.lit (.int .i64 1))),(63,.one (.lit (.int .i64 n))),(64,.one (.lit (.int .i64 k))),(71,.one (.full [[.slice ((rowsP pq).map plC)],[.slice ((rowsP qq).map plC)]])),(72,.one (.lit (.int .i64 2))),(73,.one (.lit (.int .i64 1))),(78,.one (.slice ((rowsP qq).map plC))),(79,.one (.lit (.int .i64 b))),(80,.one (.lit (.int .i64 t)))],mkH ((13,⟨1,some ⟨[[.own 500 1 3 0 a,valC t]],2,true⟩⟩)::(12,⟨1,some ⟨[[cb (rcan (k:Rat)),cn (rcan (k:Rat)),cd (rcan (k:Rat))]],3,true⟩⟩)::(500,⟨1,some ⟨(va.map rcan).map rC,3,true⟩⟩)::(99,valB t vb)::Z)⟩) (λt=>t<=b) (λt=>b-t) 0 ?_ ?_ ?_
        .refine za ?_ ⟨⟨⟨rfl,rfl⟩,.inr (by simp [bitvec_to_nat,valC])⟩,vk,zp rfl,Q0 (λh=>(h rfl).elim),zh _ _ (by simp [qa]) (by simp [qa])⟩
         simp only [okS,yp,Nat.reduceEqDiff,if_false,if_true];refine z3 _ _ _ (by simp [qa]) (by simp [qa]) (by simp [qa]) (by simp [qa]) ?_
         simp [bitvec_to_nat,lb]
        .exact Nat.zero_le _
        .clear eC eB htl' htl eta hta t;intro t htb;by_cases htl:t<b
         .have htl' : (t:Int)<(b:Int):=by omega
          obtain⟨c,hcc⟩:∃c,(rowsP qq).getD t []=c:=⟨_,rfl⟩;have hcm:c∈rowsP qq:=by
           rw [<-hcc,List.getD_eq_getElem?_getD,List.getElem?_eq_getElem (by omega)]
           exact List.getElem_mem _
          obtain⟨tc1,tc2⟩:=XT hcm;have rc:=uaZ hD0 hDw hEw canq bq hcm;have rc6:∀x∈c,rz x<=1000000:=λx hx=>Nat.le_trans (rc x hx) (by decide)
          have rk:=Qy (k:=k) (by omega)
          obtain⟨y,hy⟩:∃y,hv c (k:Rat)=y:=⟨_,rfl⟩;have hvt:vb.take (t+1)=vb.take t++[y]:=by
           rw [List.take_add_one,<-hvb,List.getElem?_map,<-hy,<-hcc,List.getD_eq_getElem?_getD,List.getElem?_eq_getElem (by omega)]
           rfl
          have c65:c.length<=65:=by omega
          rcases Nat.eq_zero_or_pos t with t0 | t0
          case' inl=>
           subst t0;have eC:valC 0=.emp:=rfl;have eB:valB 0 vb=⟨0,none⟩:=rfl;rw [eC,eB];simp only [go_sem,htl,htl',Jad,hcc,he,e0,rQ,hy,lb,z18,Int.reduceMul,Int.toNat_zero,Int.toNat_natCast];repeat first | refine q_Wk ?_ | intro _
          case' inr=>
           have eC:valC t=.own 99 1 3 0 t:=if_neg (by omega)
           have eB:valB t vb=⟨1,some ⟨((vb.take t).map rcan).map rC,3,true⟩⟩:=if_neg (by omega)
           have htk:(((vb.take t).map rcan).map rC).take t=((vb.take t).map rcan).map rC:=List.take_of_length_le (by rw [List.length_map,List.length_map,List.length_take];omega)
           have hlv:((vb.take t).map rcan).length=t:=by rw [List.length_map,List.length_take];omega
           rw [eC,eB];simp only [go_sem,htl,htl',Jad,hcc,he,e0,rQ,hy,lb,z18,htk,hlv,List.length_map,Yan,Int.toNat_zero,Int.toNat_natCast];repeat first | refine q_Wk ?_ | intro _
          all_goals
           refine⟨λe he=>by rw [List.mem_singleton.1 he];rfl,?_⟩
           repeat first | refine q_Wk ?_ | intro _
          case' inl=>refine⟨0+1,?_,by omega,by omega⟩
          case' inr=>refine⟨t+1,?_,by omega,by omega⟩
          all_goals
           refine za ?_ ⟨⟨⟨rfl,rfl⟩,.inr (by simp [bitvec_to_nat,valC,valB])⟩,vk,zp rfl,Q0 (λ_=>?_),zh _ _ (by simp [qa]) (by simp [qa])⟩
           .simp only [okS,yp,Nat.reduceEqDiff,if_false,if_true];refine z3 _ _ _ (by simp [qa]) (by simp [qa]) (by simp [qa]) (by simp [qa]) ?_
            simp [bitvec_to_nat]
           .rw [hvt];simp [qa,rC]
         .have eta:t=b:=by omega
          have htl' : ¬(t:Int)<(b:Int):=by omega
          have eC:valC t=.own 99 1 3 0 b:=by rw [eta];exact if_neg (by omega)
          have eB:valB t vb=⟨1,some ⟨(vb.map rcan).map rC,3,true⟩⟩:=by
           rw [eta];unfold valB;rw [if_neg (by omega),List.take_of_length_le (by omega)]
          rw [eC,eB];simp only [go_sem,htl'];repeat first | refine q_Wk ?_ | intro _
          refine Wal ⟨mkV [(9,s9),(10,s10),(7,.one (.slice ((rowsP pq).map plC))),(8,.one (.slice ((rowsP qq).map plC))),(12,.one (.ptr 12 1 0 0)),(13,.one (.ptr 13 1 0 0)),(63,.one (.lit (.int .i64 n))),(64,.one (.lit (.int .i64 k))),(71,.one (.full [[.slice ((rowsP pq).map plC)],[.slice ((rowsP qq).map plC)]])),(72,.one (.lit (.int .i64 2))),(73,.one (.lit (.int .i64 2)))],mkH ((13,⟨1,some ⟨[[.own 500 1 3 0 a,.own 99 1 3 0 b]],2,true⟩⟩)::(12,⟨1,some ⟨[[cb (rcan (k:Rat)),cn (rcan (k:Rat)),cd (rcan (k:Rat))]],3,true⟩⟩)::(500,⟨1,some ⟨(va.map rcan).map rC,3,true⟩⟩)::(99,⟨1,some ⟨(vb.map rcan).map rC,3,true⟩⟩)::Z)⟩ ?_ ?_
          .refine za ?_ ⟨⟨⟨rfl,rfl⟩,.inr (by simp [bitvec_to_nat])⟩,vk,zp rfl,zp rfl,zh _ _ (by simp [qa]) (by simp [qa])⟩
           simp only [okS,yp,Nat.reduceEqDiff,if_false,if_true];refine z3 _ _ _ (by simp [qa]) (by simp [qa]) (by simp [qa]) (by simp [qa]) ?_
           simp [bitvec_to_nat]
          .have va0:va≠[]:=λe=>by rw [e]at lva;simp at lva;omega
           have vb0:vb≠[]:=λe=>by rw [e]at lvb;simp at lvb;omega
           have rva:=jbI (k:=k) hD0 hDw hEw (by omega) canp bp
           have rvb:=jbI (k:=k) hD0 hDw hEw (by omega) canq bq
           rw [hva]at rva;rw [hvb]at rvb;have hab:va.length+vb.length<=10:=by omega
           have rva' : ∀x∈va,rz x<=1000:=λx hx=>Nat.le_trans (rva x hx) (by decide)
           have rvb' : ∀x∈vb,rz x<=1000:=λx hx=>Nat.le_trans (rvb x hx) (by decide)
           have hval:resQ va vb=valE pq qq k:=by rw [<-hva,<-hvb];rfl
           have tka:((va.map rcan).map rC).take a=(va.map rcan).map rC:=List.take_of_length_le (by rw [List.length_map,List.length_map];omega)
           have tkb:((vb.map rcan).map rC).take b=(vb.map rcan).map rC:=List.take_of_length_le (by rw [List.length_map,List.length_map];omega)
           have a3:a<=va.length:=by omega
           have b3:b<=vb.length:=by omega
           simp only [go_sem,Int.reduceLT,Int.reduceAdd,decide_false,hvl,e0,rQ,hval,tka,tkb,List.length_map,lva,lvb,z20,Int.toNat_zero,Int.toNat_natCast];repeat first | refine q_Wk ?_ | intro _
           clear z3 zh zv zno sw9;subst hs9 hs10 hZ;have xl:=Yal k;have yl:=Wa2 pq qq k;by_cases hk0:k=0
           .simp only [if_pos hk0];simp only [go_sem];have ex:((xsn 0++[((0:Nat):Rat)]).map rcan).map rC=[[cb (rcan ((0:Nat):Rat)),cn (rcan ((0:Nat):Rat)),cd (rcan ((0:Nat):Rat))]]:=rfl;have ey:((ysE pq qq 0++[valE pq qq 0]).map rcan).map rC=[[cb (rcan (valE pq qq 0)),cn (rcan (valE pq qq 0)),cd (rcan (valE pq qq 0))]]:=rfl;subst hk0;refine⟨λe he=>by rw [List.mem_singleton.1 he];rfl,λe he=>by rw [List.mem_singleton.1 he];rfl,by omega,?_⟩
            refine⟨0+1,?_,by omega,by omega⟩
            rw [if_neg (by omega),if_neg (by omega),if_neg (by omega),<-qaZ,<-Za9,ex,ey]
            refine za (by simp [bitvec_to_nat]) ⟨?_,?_,trivial⟩
            .rw [<-ex];exact zp (by rw [ex])
            .rw [<-ey];exact zp (by rw [ey])
           .simp only [if_neg hk0];have tkx:(((xsn k).map rcan).map rC).take k=((xsn k).map rcan).map rC:=List.take_of_length_le (by rw [List.length_map,List.length_map];omega)
            have tky:(((ysE pq qq k).map rcan).map rC).take k=((ysE pq qq k).map rcan).map rC:=List.take_of_length_le (by rw [List.length_map,List.length_map];omega)
            simp only [go_sem,List.length_map,xl,yl,tkx,tky,Yan];refine⟨λe he=>by rw [List.mem_singleton.1 he];rfl,by omega,λe he=>by rw [List.mem_singleton.1 he];rfl,by omega,by omega,?_⟩
            refine⟨k+1,?_,by omega,by omega⟩
            rw [if_neg (by omega),if_neg (by omega),if_neg (by omega),<-qaZ,<-Za9]
            exact za (by simp [bitvec_to_nat]) ⟨zp (by simp [qa]),zp (by simp [qa]),trivial⟩
   .have ekn:k=n:=by omega
    have hlt' : ¬(k:Int)<(n:Int):=by omega
    have hk0:¬k=0:=by omega
    clear z3 zh zv zno;subst hs9 hs10 hZ;have hh8:topY pq-1+(topY qq-1)<=8:=by rw [ha,hb];omega
    have hy10:=Wa2 pq qq k;have hsml:=kbo (n:=k) canp canq ⟨D,E,hD0,hDw,hEw,bp,bq⟩ hh8 (by omega)
    have hry:∀x∈ysE pq qq k,rz x<=10000:=λx hx=>by
     unfold ysE at hx;obtain⟨j,hj,rfl⟩:=List.mem_map.1 hx;have:=wbw (k:=j) canp canq ⟨D,E,hD0,hDw,hEw,bp,bq⟩ hh8 (by have:=List.mem_range.1 hj;omega)
     omega
    have hthr:thr (ysE pq qq k)=elL pq qq:=by
     rw [ekn,<-hn];have g1:=UA canp;have g2:=UA canq;have e1:(degB pq).toNat=dp:=by rw [<-hpq,<-ve,mcp,hdp];exact Int.toNat_natCast dp
     have e2:(degB qq).toNat=dq:=by rw [<-hqq,<-ve,mcq,hdq];exact Int.toNat_natCast dq
     rw [e1]at g1;rw [e2]at g2;exact Wbv canp.ins canq.ins g1 g2
    have xl:=Yal k;have k10:k<=10:=by omega
    have tkx:(((xsn k).map rcan).map rC).take k=((xsn k).map rcan).map rC:=List.take_of_length_le (by rw [List.length_map,List.length_map];omega)
    have tky:(((ysE pq qq k).map rcan).map rC).take k=((ysE pq qq k).map rcan).map rC:=List.take_of_length_le (by rw [List.length_map,List.length_map];omega)
    simp only [if_neg hk0];simp only [go_sem,hlt',List.length_map,xl,hy10,tkx,tky,ht,e0,hthr];repeat first | refine q_Wk ?_ | intro _
    exact hK
end Go.Abs
end
section
namespace Go.Num
open Go.Abs
def lowB(n d:Int)(x:R):Bool:=decide (x.2.1.length<2) && (decide (x.2.2.length<2) && ((decide (x.2.1.length=0) || decide ((x.2.1.getD 0 0:Int)<=n)) && (decide (x.2.2.length=0) || decide ((x.2.2.getD 0 0:Int)<=d))))
def lowR(x:R):Bool:=lowB 1000 60 x
def longM(p:List Mo):Bool:=decide (15<p.length) && decide (p.length<=325) || decide (400<p.length)
def shortM(p:List Mo):Bool:=!longM p && p.all λt=>lowR t.2.2
def vldM(p:List Mo):Bool:=shortM p && (decide (chkB p=0) && decide (degM p<=5))
end Go.Num
namespace Go.Abs
open Go.Num
variable {P:Program} {Γ:Nat->Spec}
theorem QH{α β:Type}{f:α->β}(hf:∀a b,f a=f b->a=b):∀{l m:List α},l.map f=m.map f->l=m
 | [],[],_=>rfl
 | [],_::_,h=>by simp at h
 | _::_,[],h=>by simp at h
 | x::l,y::m,h=>by
  simp only [List.map_cons,List.cons.injEq]at h;rw [hf x y h.1,QH hf h.2]
def mlA(L:List (List Mo)):AV:=.one (.slice (L.map λl=>[.slice (l.map mC)]))
theorem UbC{a b:List Mo}(h:ms a=ms b):a=b:=yan a b (by unfold msA;rw [h])
theorem Yai(x y:List (List Mo))(h:mlA x=mlA y):x=y:=by
 simp only [mlA,AV.one.injEq,C.slice.injEq]at h;exact QH (λa b h=>UbC (by simpa [ms] using h)) h
def onMl(k:List (List Mo)->Prop)(a:AV):Prop:=onE mlA (λL=>(∀l∈L,∀t∈l,WLM t)/\k L) a
@[congr] theorem xbY{k:List (List Mo)->Prop}{a a'}(h:a=a'):onMl k a=onMl k a':=by subst h;rfl
theorem kbi(k:List (List Mo)->Prop)(p:List Mo):onMl k (.one (.slice [[.slice (p.map mC)]]))=((∀l∈[p],∀t∈l,WLM t)/\k [p]):=Yg Yai _ [p]
theorem Wbg(k:List (List Mo)->Prop)(p q:List Mo):onMl k (.one (.slice [[.slice (p.map mC)],[.slice (q.map mC)]]))=((∀l∈[p,q],∀t∈l,WLM t)/\k [p,q]):=Yg Yai _ [p,q]
theorem Va3{β:Type}{T:List (List Mo)->(β->Prop)->Prop}(h:∀l,GoodT (T l)){a:AV}:GoodT λK=>onMl (λl=>T l K) a:=
 VD (e:=mlA) (T:=λL K=>(∀l∈L,∀t∈l,WLM t)/\T L K) Yai λL=>GoodT.and (c:=∀l∈L,∀t∈l,WLM t) (T:=T L) λ_=>h L
theorem xaY(K:List C->Prop)(L:List (List Mo))(i:Nat):getE K (L.map λl=>[.slice (l.map mC)]) i=(i<L.length/\K [.slice ((L.getD i []).map mC)]):=by
 simp only [getE,List.length_map,List.getElem?_map];refine propext ⟨λh=>⟨h.1,h.2 _ (by simp [h.1,List.getD_eq_getElem?_getD])⟩,λh=>⟨h.1,λe he=>?_⟩⟩
 simp [h.1]at he;subst he;have:=h.2;simpa [List.getD_eq_getElem?_getD,h.1] using this
theorem zao(L:List (List Mo)):Clean (.slice (L.map λl=>[.slice (l.map mC)]))=True:=eq_true (.slice _ λe he c hc=>by
 obtain⟨l,_,rfl⟩:=List.mem_map.1 he;rw [List.mem_singleton]at hc;subst hc;exact of_eq_true (yx _))
theorem Xbj(k:List R->Prop)(x:R):onRs k (.one (.slice [[cb x,cn x,cd x]]))=((∀y∈[x],WLR y)/\k [x]):=Vaz k [x]
theorem zbi(k:List R->Prop)(x y:R):onRs k (.one (.slice [[cb x,cn x,cd x],[cb y,cn y,cd y]]))=((∀z∈[x,y],WLR z)/\k [x,y]):=Vaz k [x,y]
attribute [go_sem,go_sem ↓] kbi Wbg xaY zao Xbj zbi
def Jx(l:List AV)(K:AV->Prop):Prop:=
 match l with
 | [a,b]=>onM (λx=>onM (λy=>inM x/\inM y/\K (.one (.lit (.bool (decide (kM x<kM y)))))) b) a
 | _=>False
theorem QaV:type_of% @Jx.eq_1:=q_E @Jx.eq_1
@[congr] theorem YbT{K}{l l'}(h:l=l'):Jx l K=Jx l' K:=h▸rfl
attribute [go_sem,go_sem ↓] QaV
theorem Ua0:Good Jx:=Ja λas=>by
 unfold Jx;split
 .exact(QT λ_=>(QT λ_=>(.and λ_=>(.and λ_=>(.ret _)))))
 .exact .of λK hk=>hk.elim
def qz(l:List AV)(K:AV->Prop):Prop:=
 match l with
 | [a]=>onM (λt=>K (.one (.lit (.int .i64 (if inM t then 0 else 3))))) a
 | _=>False
theorem qaU:type_of% @qz.eq_1:=q_E @qz.eq_1
@[congr] theorem UbS{K}{l l'}(h:l=l'):qz l K=qz l' K:=h▸rfl
attribute [go_sem,go_sem ↓] qaU
theorem xaN:Good qz:=Ja λas=>by
 unfold qz;split
 .exact(QT λ_=>(.ret _))
 .exact .of λK hk=>hk.elim
def Yl(l:List AV)(K:AV->Prop):Prop:=
 match l with
 | [a]=>onMs (λl=>(∀t∈l,rl t.2.2<=4294967296)/\K (.one (.lit (.int .i64 (chkB l:Nat))))) a
 | _=>False
theorem Qag:type_of% @Yl.eq_1:=q_E @Yl.eq_1
@[congr] theorem YbM{K}{l l'}(h:l=l'):Yl l K=Yl l' K:=h▸rfl
attribute [go_sem,go_sem ↓] Qag
theorem Zal:Good Yl:=Ja λas=>by
 unfold Yl;split
 .exact(xd λ_=>(.and λ_=>(.ret _)))
 .exact .of λK hk=>hk.elim
def jB(l:List AV)(K:AV->Prop):Prop:=
 match l with
 | [a]=>onMs (λl=>(∀t∈l,rl t.2.2<=4294967296)/\K (.tup [.one (.lit (.int .i64 (if chkB l=0 then degM l else 0))),.one (.lit (.int .i64 (chkB l:Nat)))])) a
 | _=>False
theorem jN:type_of% @jB.eq_1:=q_E @jB.eq_1
@[congr] theorem kby{K}{l l'}(h:l=l'):jB l K=jB l' K:=h▸rfl
attribute [go_sem,go_sem ↓] jN
def Jo(l:List AV)(K:AV->Prop):Prop:=
 match l with
 | [a]=>onM2 (λp q=>(∀t∈p,rl t.2.2<=4294967296)/\(∀t∈q,rl t.2.2<=4294967296)/\K (.one (.lit (.int .i64 (chk2 p q:Nat))))) a
 | _=>False
theorem Xaq:type_of% @Jo.eq_1:=q_E @Jo.eq_1
@[congr] theorem vbO{K}{l l'}(h:l=l'):Jo l K=Jo l' K:=h▸rfl
attribute [go_sem,go_sem ↓] Xaq
theorem QaL:Good Jo:=Ja λas=>by
 unfold Jo;split
 .exact(kat λ_ _=>(.and λ_=>(.and λ_=>(.ret _))))
 .exact .of λK hk=>hk.elim
def uk(l:List AV)(K:AV->Prop):Prop:=
 match l with
 | [a,b]=>onMs (λp=>onMs (λq=>(∀t∈p,rl t.2.2<=4294967296)/\p.length<=1000000/\K (.one (.lit (.bool (decide (p=q)))))) b) a
 | _=>False
theorem Wae:type_of% @uk.eq_1:=q_E @uk.eq_1
@[congr] theorem YbJ{K}{l l'}(h:l=l'):uk l K=uk l' K:=h▸rfl
attribute [go_sem,go_sem ↓] Wae
theorem xai:Good uk:=Ja λas=>by
 unfold uk;split
 .exact(xd λ_=>(xd λ_=>(.and λ_=>(.and λ_=>(.ret _)))))
 .exact .of λK hk=>hk.elim
def Qx(l:List AV)(K:AV->Prop):Prop:=
 match l with
 | [a,b,c]=>onR (λx=>asInt (λk n=>asInt (λk' d=>k=.u32/\k' = .u32/\rl x<=4294967296/\K (.one (.lit (.bool (lowB n d x))))) c) b) a
 | _=>False
theorem Wai:type_of% @Qx.eq_1:=q_E @Qx.eq_1
@[congr] theorem jbZ{K}{l l'}(h:l=l'):Qx l K=Qx l' K:=h▸rfl
attribute [go_sem,go_sem ↓] Wai
theorem yaN:Good Qx:=Ja λas=>by
 unfold Qx;split
 .repeat (first | exact .ret _ | exact .of (λK hk=>hk.elim) | (refine .and λ_=>?_) | (refine xe λ_=>?_) | (refine Va3 λ_=>?_) | (refine QT λ_=>?_) | (refine zo λ_=>?_) | (refine xd λ_=>?_) | (refine kat λ_=>?_) | (refine Va3 λ_=>?_) | (refine kaS λ_=>?_) | (refine vc (λ_ _=>?_) _) | (refine xF (λ_=>?_) _) | (refine VD ?_ ?_) | (intro _) | assumption)
 .exact .of λK hk=>hk.elim
def Zn(l:List AV)(K:AV->Prop):Prop:=
 match l with
 | [a]=>onRs (λl=>okRs 4294967296 l/\l.length<=1000000/\K (.one (.lit (.bool (l.all lowR))))) a
 | _=>False
theorem Yaa:type_of% @Zn.eq_1:=q_E @Zn.eq_1
@[congr] theorem Zbz{K}{l l'}(h:l=l'):Zn l K=Zn l' K:=h▸rfl
attribute [go_sem,go_sem ↓] Yaa
theorem kam:Good Zn:=Ja λas=>by
 unfold Zn;split
 .exact(kaS λ_=>(.and λ_=>(.and λ_=>(.ret _))))
 .exact .of λK hk=>hk.elim
def ui(l:List AV)(K:AV->Prop):Prop:=
 match l with
 | [a]=>onMl (λL=>(∀l∈L,l.length<=10000000/\∀t∈l,rl t.2.2<=4294967296)/\L.length<=1000000/\K (.one (.lit (.bool (L.all shortM))))) a
 | _=>False
theorem VQ:type_of% @ui.eq_1:=q_E @ui.eq_1
@[congr] theorem zby{K}{l l'}(h:l=l'):ui l K=ui l' K:=h▸rfl
attribute [go_sem,go_sem ↓] VQ
theorem V9:Good ui:=Ja λas=>by
 unfold ui;split
 .exact(Va3 λ_=>(.and λ_=>(.and λ_=>(.ret _))))
 .exact .of λK hk=>hk.elim
def uA(l:List AV)(K:AV->Prop):Prop:=
 match l with
 | [a]=>onM2 (λp q=>(p.length<=10000000/\∀t∈p,rl t.2.2<=4294967296)/\(q.length<=10000000/\∀t∈q,rl t.2.2<=4294967296)/\K (.one (.lit (.bool (vldM p && vldM q))))) a
 | _=>False
theorem QN:type_of% @uA.eq_1:=q_E @uA.eq_1
@[congr] theorem vby{K}{l l'}(h:l=l'):uA l K=uA l' K:=h▸rfl
attribute [go_sem,go_sem ↓] QN
def zd:AC:=(.o [.K 2 5 0,.K 3 5 1,.m 4 .fa] [2,3] (.f (.o [.A 5 0 2,.F 6 1 5,.A 7 1 2,.F 8 1 7,.B 9 .add 6 8,.A 10 0 3,.F 11 1 10,.A 12 1 3,.F 13 1 12,.B 14 .add 11 13,.B 15 .neq 9 14] [2,3,15] (.cond (.t 15) (.seq (.p [.A 16 0 2,.F 17 1 16,.A 18 1 2,.F 19 1 18,.B 20 .add 17 19,.A 21 0 3,.F 22 1 21,.A 23 1 3,.F 24 1 23,.B 25 .add 22 24,.B 26 .lss 20 25,.M 4 26]) .ret) .skip)) [2,3] (.seq (.p [.A 27 0 2,.F 28 1 27,.A 29 0 3,.F 30 1 29,.B 31 .lss 28 30,.M 4 31]) .ret)))
def qb:AC:=(.o [.K 1 5 0,.N 2 0] [1] (.f (.o [.A 3 0 1,.F 4 1 3,.I 5 .lss 4 0,.M 6 5,.T 7 6 false 1 1,.U 8 6 false 1 false 7,.w 9 6 false (.bin .lss (.t 8) (.i 0)),.Q 10 6 9,.M 11 10,.T 12 11 false 0 1,.U 13 11 false 1 false 12,.w 14 11 false (.bin .gtr (.t 13) (.i 24)),.Q 15 11 14,.M 16 15,.T 17 16 false 1 1,.U 18 16 false 1 false 17,.w 19 16 false (.bin .gtr (.t 18) (.i 24)),.Q 20 16 19,.M 21 20,.T 22 21 false 0 1,.U 23 21 false 1 false 22,.T 24 21 false 1 1,.U 25 21 false 1 false 24,.w 26 21 false (.bin .add (.t 23) (.t 25)),.w 27 21 false (.bin .gtr (.t 26) (.i 24)),.Q 28 21 27] [28] (.cond (.t 28) (.seq (.p [.N 2 3]) .ret) .skip)) [] (.seq (.p [.N 2 0]) .ret)))
def yd(f0 f1 f2 f3:Nat):AC:=(.o [.N 2 0] [0] (.f (.o [.M 6 0,.Z 7 6,.I 8 .gtr 7 325] [0,8] (.cond (.t 8) (.seq (.p [.N 2 4]) .ret) .skip)) [0] (.f (.o [.M 9 0,.Z 10 9,.N 11 0] [0,9,10,11] (.block 0 (.loop (.o [.B 12 .lss 11 10] [0,9,10,11,12] (.f (.cond (.t 12) .skip (.exit 0)) [0,9,10,11] (.f (.block 1 (.o [.M 13 11,.J 14 5 9 11,.L 15 5 14,.G 4 [(.lit (.int .i64 0)),(.lit (.int .i64 0)),.z,.emp,.emp],.M 3 13,.S 5 4 15] [0,3,4,9,10,11] (.f (.o [.L 16 5 4,.H 17 f0 16,.M 5 17] [0,3,4,5,9,10,11] (.o [.M 18 5,.I 19 .neq 18 0] [0,3,4,5,9,10,11,19] (.cond (.t 19) (.seq (.p [.M 20 5,.M 2 20]) .ret) .skip))) [0,3,4,9,10,11] (.f (.o [.A 21 2 4,.L 22 3 21,.H 23 f1 22,.u 24 (.un .not (.t 23))] [0,3,4,9,10,11,24] (.cond (.t 24) (.seq (.p [.N 2 2]) .ret) .skip)) [0,3,4,9,10,11] (.f (.o [.A 25 2 4,.L 26 3 25,.H 27 f2 26,.I 28 .eql 27 0] [0,3,4,9,10,11,28] (.cond (.t 28) (.seq (.p [.N 2 8]) .ret) .skip)) [0,3,4,9,10,11] (.f (.y [.M 29 3,.I 30 .gtr 29 0,.M 31 30,.V 32 31 true 0,.V 33 31 true 3,.w 34 31 true (.bin .sub (.t 33) (.i 1)),.w 35 31 true (.idx 5 (.t 32) (.t 34)),.U 36 31 true 5 true 35,.U 37 31 true 5 true 4,.Y 38 31 true f3 36 37,.w 39 31 true (.un .not (.t 38)),.P 40 31 39]) [0,9,10,11,40] (.cond (.t 40) (.seq (.p [.N 2 12]) .ret) .skip))))))) [0,9,10,11] (.p [.I 41 .add 11 1,.M 11 41]))))))) [] (.seq (.p [.N 2 0]) .ret))))
def Uc:AC:=(.o [.N 2 0] [0] (.f (.o [.M 4 0,.Z 5 4,.I 6 .eql 5 0] [0,6] (.cond (.t 6) (.seq (.p [.N 2 (-1)]) .ret) .skip)) [0] (.o [.M 7 0,.M 8 0,.Z 9 8,.I 10 .sub 9 1,.J 11 5 7 10,.L 12 5 11,.G 3 [(.lit (.int .i64 0)),(.lit (.int .i64 0)),.z,.emp,.emp],.S 5 3 12] [3] (.seq (.p [.A 13 0 3,.F 14 1 13,.A 15 1 3,.F 16 1 15,.B 17 .add 14 16,.M 2 17]) .ret))))
def Ug(f0:Nat):AC:=(.o [.N 2 0] [0] (.f (.o [.M 6 0,.Z 7 6,.N 8 0] [6,7,8] (.block 0 (.loop (.o [.B 9 .lss 8 7] [6,7,8,9] (.f (.cond (.t 9) .skip (.exit 0)) [6,7,8] (.f (.block 1 (.o [.J 10 1 6 8,.F 11 1 10,.M 4 11] [4,6,7,8] (.o [.M 12 4,.H 13 f0 12,.M 5 13] [5,6,7,8] (.o [.M 14 5,.I 15 .neq 14 0] [5,6,7,8,15] (.cond (.t 15) (.seq (.p [.M 16 5,.M 2 16]) .ret) .skip))))) [6,7,8] (.p [.I 17 .add 8 1,.M 8 17]))))))) [] (.seq (.p [.N 2 0]) .ret)))
def Vh(f0:Nat):AC:=(.o [.K 2 3 0,.K 3 3 1,.m 4 .fa] [2,3] (.seq (.p [.L 5 3 2,.L 6 3 3,.D 7 f0 5 6,.M 4 7]) .ret))
def wd(f0:Nat):AC:=(.o [.m 4 .fa] [0,1] (.f (.o [.M 6 0,.Z 7 6,.M 8 1,.Z 9 8,.B 10 .neq 7 9] [0,1,10] (.cond (.t 10) (.seq (.p [.m 4 .fa]) .ret) .skip)) [0,1] (.f (.o [.M 11 0,.Z 12 11,.N 13 0] [0,1,12,13] (.block 0 (.loop (.o [.B 14 .lss 13 12] [0,1,12,13,14] (.f (.cond (.t 14) .skip (.exit 0)) [0,1,12,13] (.f (.block 1 (.o [.M 15 13,.M 5 15] [0,1,5,12,13] (.f (.y [.M 16 0,.M 17 5,.J 18 5 16 17,.A 19 0 18,.F 20 1 19,.M 21 1,.M 22 5,.J 23 5 21 22,.A 24 0 23,.F 25 1 24,.B 26 .neq 20 25,.M 27 26,.V 28 27 false 0,.V 29 27 false 5,.w 30 27 false (.idx 5 (.t 28) (.t 29)),.T 31 27 false 1 30,.U 32 27 false 1 false 31,.V 33 27 false 1,.V 34 27 false 5,.w 35 27 false (.idx 5 (.t 33) (.t 34)),.T 36 27 false 1 35,.U 37 27 false 1 false 36,.w 38 27 false (.bin .neq (.t 32) (.t 37)),.Q 39 27 38,.M 40 39,.V 41 40 false 0,.V 42 40 false 5,.w 43 40 false (.idx 5 (.t 41) (.t 42)),.T 44 40 false 2 43,.U 45 40 false 3 true 44,.V 46 40 false 1,.V 47 40 false 5,.w 48 40 false (.idx 5 (.t 46) (.t 47)),.T 49 40 false 2 48,.U 50 40 false 3 true 49,.Y 51 40 false f0 45 50,.w 52 40 false (.un .not (.t 51)),.Q 53 40 52]) [0,1,12,13,53] (.cond (.t 53) (.seq (.p [.m 4 .fa]) .ret) .skip)))) [0,1,12,13] (.p [.I 54 .add 13 1,.M 13 54]))))))) [] (.seq (.p [.m 4 .tr]) .ret))))
def Xc:AC:=(.o [.K 3 3 0,.m 6 .fa] [1,2,3] (.seq (.p [.A 7 1 3,.F 8 1 7,.Z 9 8,.I 10 .lss 9 2,.M 11 10,.T 12 11 true 2 3,.U 13 11 true 1 false 12,.w 14 11 true (.len (.t 13)),.w 15 11 true (.bin .lss (.t 14) (.i 2)),.P 16 11 15,.M 17 16,.T 18 17 true 1 3,.U 19 17 true 1 false 18,.w 20 17 true (.len (.t 19)),.w 21 17 true (.bin .eql (.t 20) (.i 0)),.V 22 17 true 21,.T 23 22 false 1 3,.U 24 22 false 1 false 23,.w 25 22 false (.idx 1 (.t 24) (.i 0)),.U 26 22 false 1 false 25,.V 27 22 false 1,.w 28 22 false (.bin .leq (.t 26) (.t 27)),.w 29 17 true (.pick (.t 22) .tr (.t 28)),.P 30 17 29,.M 31 30,.T 32 31 true 2 3,.U 33 31 true 1 false 32,.w 34 31 true (.len (.t 33)),.w 35 31 true (.bin .eql (.t 34) (.i 0)),.V 36 31 true 35,.T 37 36 false 2 3,.U 38 36 false 1 false 37,.w 39 36 false (.idx 1 (.t 38) (.i 0)),.U 40 36 false 1 false 39,.V 41 36 false 2,.w 42 36 false (.bin .leq (.t 40) (.t 41)),.w 43 31 true (.pick (.t 36) .tr (.t 42)),.P 44 31 43,.M 6 44]) .ret))
def Vg(f0:Nat):AC:=(.o [.m 2 .fa] [0] (.f (.o [.M 5 0,.Z 6 5,.N 7 0] [5,6,7] (.block 0 (.loop (.o [.B 8 .lss 7 6] [5,6,7,8] (.f (.cond (.t 8) .skip (.exit 0)) [5,6,7] (.f (.block 1 (.o [.J 9 3 5 7,.L 10 3 9,.G 4 [.z,.emp,.emp],.S 3 4 10] [4,5,6,7] (.o [.L 11 3 4,.u 12 (.call f0 [(.t 11),(.c (.one (.lit (.int .u32 1000)))),(.c (.one (.lit (.int .u32 60))))]),.u 13 (.un .not (.t 12))] [5,6,7,13] (.cond (.t 13) (.seq (.p [.m 2 .fa]) .ret) .skip)))) [5,6,7] (.p [.I 14 .add 7 1,.M 7 14]))))))) [] (.seq (.p [.m 2 .tr]) .ret)))
def Jg(f0:Nat):AC:=(.o [.m 2 .fa] [0] (.f (.o [.M 7 0,.Z 8 7,.N 9 0] [7,8,9] (.block 0 (.loop (.o [.B 10 .lss 9 8] [7,8,9,10] (.f (.cond (.t 10) .skip (.exit 0)) [7,8,9] (.f (.block 1 (.o [.J 11 1 7 9,.F 12 1 11,.M 4 12] [4,7,8,9] (.f (.o [.M 13 4,.Z 14 13,.I 15 .gtr 14 15,.M 16 15,.V 17 16 true 4,.w 18 16 true (.len (.t 17)),.w 19 16 true (.bin .leq (.t 18) (.i 325)),.P 20 16 19,.M 21 20,.V 22 21 false 4,.w 23 21 false (.len (.t 22)),.w 24 21 false (.bin .gtr (.t 23) (.i 400)),.Q 25 21 24] [4,7,8,9,25] (.cond (.t 25) (.seq (.p [.m 2 .fa]) .ret) .skip)) [4,7,8,9] (.o [.M 26 4,.Z 27 26,.N 28 0] [7,8,9,26,27,28] (.block 2 (.loop (.o [.B 29 .lss 28 27] [7,8,9,26,27,28,29] (.f (.cond (.t 29) .skip (.exit 2)) [7,8,9,26,27,28] (.f (.block 3 (.o [.J 30 5 26 28,.L 31 5 30,.G 6 [(.lit (.int .i64 0)),(.lit (.int .i64 0)),.z,.emp,.emp],.S 5 6 31] [6,7,8,9,26,27,28] (.o [.A 32 2 6,.L 33 3 32,.u 34 (.call f0 [(.t 33),(.c (.one (.lit (.int .u32 1000)))),(.c (.one (.lit (.int .u32 60))))]),.u 35 (.un .not (.t 34))] [7,8,9,26,27,28,35] (.cond (.t 35) (.seq (.p [.m 2 .fa]) .ret) .skip)))) [7,8,9,26,27,28] (.p [.I 36 .add 28 1,.M 28 36])))))))))) [7,8,9] (.p [.I 37 .add 9 1,.M 9 37]))))))) [] (.seq (.p [.m 2 .tr]) .ret)))
theorem vaK(hΓ:Holds P Γ){f:Nat}(hc:check P f=some (32,zd.strip,[.tmp 4])):Sound P f (.dat false Jx):=by
 refine Qa hc Ua0 hΓ (λargs K hcl hfi hG=>?_);match args,hG with
 | [a,b],hG=>
  obtain⟨s,rfl,hws,t,rfl,hwt,hs,ht,hK⟩:=hG;refine⟨by simp,?_⟩
  have h1:=vaJ hs ht;obtain⟨s1,s2,s3⟩:=hs;obtain⟨t1,t2,t3⟩:=ht;by_cases e:s.1+s.2.1=t.1+t.2.1
  .simp only [go_sem,zd,mC,e];have h2:decide (kM s<kM t)=decide (s.1<t.1):=by rw [decide_eq_decide,h1];omega
   rw [h2]at hK;exact⟨⟨by omega,by omega⟩,⟨by omega,by omega⟩,hK⟩
  .simp only [go_sem,zd,mC,e];have h2:decide (kM s<kM t)=decide (s.1+s.2.1<t.1+t.2.1):=by rw [decide_eq_decide,h1];omega
   rw [h2]at hK;exact⟨⟨by omega,by omega⟩,⟨by omega,by omega⟩,⟨by omega,by omega⟩,⟨by omega,by omega⟩,hK⟩
theorem kaK(hΓ:Holds P Γ){f:Nat}(hc:check P f=some (29,qb.strip,[.tmp 2])):Sound P f (.dat true qz):=by
 refine Qa hc xaN hΓ (λargs K hcl hfi hG=>?_);match args,hG with
 | [a],hG=>
  obtain⟨t,rfl,⟨hw1,hw2,hw3⟩,hK⟩:=hG;refine⟨by simp,?_⟩
  unfold i64r at hw1 hw2;have no:¬inM t->K (.one (.lit (.int .i64 3))):=λh=>by rw [if_neg h]at hK;exact hK
  have yes:inM t->K (.one (.lit (.int .i64 0))):=λh=>by rw [if_pos h]at hK;exact hK
  by_cases a1:t.1<0
  .simp only [go_sem,qb,mC,a1];exact no λh=>by unfold inM at h;omega
  by_cases a2:t.2.1<0
  .simp only [go_sem,qb,mC,a1,a2];exact no λh=>by unfold inM at h;omega
  by_cases a3:24<t.1
  .simp only [go_sem,qb,mC,a1,a2,a3];exact no λh=>by unfold inM at h;omega
  by_cases a4:24<t.2.1
  .simp only [go_sem,qb,mC,a1,a2,a3,a4];exact no λh=>by unfold inM at h;omega
  simp only [go_sem,qb,mC,a1,a2,a3,a4];refine⟨⟨by omega,by omega⟩,λh=>no λh'=>?_,λh=>yes ?_⟩
  .unfold inM at h';omega
  .unfold inM;omega
theorem WaL(hΓ:Holds P Γ){f:Nat}(hc:check P f=some (18,Uc.strip,[.tmp 2])):Sound P f (.dat true xq):=by
 refine Qa hc Vaf hΓ (λargs K hcl hfi hG=>?_);match args,hG with
 | [a],hG=>
  obtain⟨l,rfl,hw,hin,hl,hK⟩:=hG;refine⟨by simp,?_⟩
  rcases hl0:l with _ | ⟨t,l0⟩
  .subst hl0;simp only [go_sem,Uc];simpa [degM] using hK
  .have hlen:l.length=l0.length+1:=by rw [hl0];rfl
   rw [<-hl0];obtain⟨y,hy⟩:∃y,l.getD l0.length mo0=y:=⟨_,rfl⟩;have hy0:=getDm (by omega) hy
   have hym:=List.mem_of_getElem? hy0;have hd:degM l=y.1+y.2.1:=by
    unfold degM;rw [List.getLast?_eq_getElem?,hlen,Nat.add_sub_cancel,hy0]
   rw [hd]at hK;obtain⟨i1,i2,i3⟩:=hin y hym;have hn1:((l0.length+1:Nat):Int)-1=(l0.length:Int):=by omega
   have hn0:¬((l0.length+1:Nat):Int)=0:=by omega
   simp only [go_sem,Uc,hlen,hn1,hn0,hy,mC];exact λ_ _=>⟨by omega,by omega,⟨by omega,by omega⟩,hK⟩
theorem yaj(hΓ:Holds P Γ){f fr:Nat}(hr:Γ fr=.dat true Ws)(hc:check P f=some (8,(Vh fr).strip,[.tmp 4])):Sound P f (.dat true Ws):=by
 refine Qa hc Q8 hΓ (λargs K hcl hfi hG=>?_);match args,hG with
 | [a,b],hG=>
  obtain⟨x,rfl,hx,y,rfl,hy,hxl,hK⟩:=hG;refine⟨by simp,?_⟩
  simp only [go_sem,Vh,hr];exact⟨hx,hy,hxl,hK⟩
theorem V7(hΓ:Holds P Γ){f fi fv fs fo:Nat}(hi:Γ fi=.dat true qz)(hv:Γ fv=.dat true Wd)(hs:Γ fs=.dat true jf)(ho:Γ fo=.dat false Jx)(hc:check P f=some (42,(yd fi fv fs fo).strip,[.tmp 2])):Sound P f (.dat false Yl):=by
 refine Qa hc Zal hΓ (λargs K hcl hfi hG=>?_);match args,hG with
 | [a],hG=>
  obtain⟨l,rfl,hw,hrl,hK⟩:=hG;refine⟨by simp,?_⟩
  by_cases h325:325<l.length
  .have e:chkB l=4:=if_pos h325;rw [e]at hK;have h325' : (325:Int)<(l.length:Int):=by omega
   simp only [go_sem,yd,h325'];exact λ_=>hK
  .have h325' : ¬(325:Int)<(l.length:Int):=by omega
   have e:chkB l=chkG none l:=if_neg h325;rw [e]at hK;simp only [go_sem,yd,h325'];intro _ _;refine ja (λk:Nat=>⟨mkV [(0,msA l),(9,msA l),(10,.one (.lit (.int .i64 l.length))),(11,.one (.lit (.int .i64 k)))],mkH []⟩) (λk=>k<=l.length/\chkG none l=chkG (lastO l k) (l.drop k)/\∀t∈l.take k,inM t) (λk=>l.length-k) 0 ?_ ?_ ?_
   .exact za (by simp [bitvec_to_nat,msA,ms]) trivial
   .exact⟨Nat.zero_le _,rfl,by simp⟩
   .rintro k ⟨hk,hch,hin⟩;by_cases hlt:k<l.length
    .obtain⟨x,hx⟩:∃x,l.getD k mo0=x:=⟨_,rfl⟩;have hx0:=getDm hlt hx;have hxm:=List.mem_of_getElem? hx0;have hwx:=hw x hxm;have hrx:=hrl x hxm;rw [xac _ hx0]at hch;by_cases a1:inM x
     .cases a2:vldR x.2.2 with
      | false=>
       have ec:chkT (lastO l k) x=2:=by unfold chkT;rw [if_neg (by simp [a1]),if_pos a2]
       rw [ec,if_pos (by decide)]at hch
       rw [hch]at hK;simp only [go_sem,hlt,hx,hi,hv,mC,a1,a2];exact⟨hwx,hwx.2.2,hrx,hK⟩
      | true=>
       by_cases a3:rv x.2.2=0
       .have ec:chkT (lastO l k) x=8:=by unfold chkT;rw [if_neg (by simp [a1]),if_neg (by simp [a2]),if_pos a3]
        rw [ec,if_pos (by decide)]at hch
        rw [hch]at hK;have a3' : ordQ (rv x.2.2) 0=0:=qj.2 a3;simp only [go_sem,hlt,hx,hi,hv,hs,mC,a1,a2,a3'];exact⟨hwx,hwx.2.2,hrx,hwx.2.2,hrx,hK⟩
       .have hin' : ∀t∈l.take (k+1),inM t:=λt ht=>by
         rw [List.take_add_one,hx0]at ht;rcases List.mem_append.1 ht with ht | ht
         .exact hin t ht
         .simp at ht;rw [ht];exact a1
        have a3' : ¬ordQ (rv x.2.2) 0=0:=λh=>a3 (qj.1 h);cases k with
        | zero=>
         simp only [go_sem,hlt,hx,hi,hv,hs,mC,a1,a2,a3',Int.lt_irrefl];have ec:chkT (lastO l 0) x=0:=by unfold chkT;rw [if_neg (by simp [a1]),if_neg (by simp [a2]),if_neg a3,if_neg (by simp [lastO,badO])]
         rw [ec,if_neg (by decide)]at hch
         have hl1:lastO l 1=some x:=congrArg some hx;exact⟨hwx,hwx.2.2,hrx,hwx.2.2,hrx,by omega,1,za (by simp [bitvec_to_nat,msA,ms]) trivial,⟨by omega,by rw [hl1];exact hch,hin'⟩,by omega⟩
        | succ j=>
         have hn1:((j+1:Nat):Int)-1=(j:Int):=by omega
         have hn2:(0:Int)<((j+1:Nat):Int):=by omega
         have hym:l.getD j mo0∈l:=by
          rw [List.getD_eq_getElem?_getD,List.getElem?_eq_getElem (by omega)];exact List.getElem_mem _
         have hyt:l.getD j mo0∈l.take (j+1):=by
          rw [List.getD_eq_getElem?_getD,List.getElem?_eq_getElem (by omega),Option.getD_some]
          exact List.mem_iff_getElem.2 ⟨j,by rw [List.length_take];omega,by simp⟩
         have hiy:=hin _ hyt;have hwy:=hw _ hym;have hlj:lastO l (j+1)=some (l.getD j mo0):=rfl;have hl1:lastO l (j+1+1)=some x:=congrArg some hx;by_cases h:kM (l.getD j mo0)<kM x
         .have ec:chkT (lastO l (j+1)) x=0:=by unfold chkT;rw [if_neg (by simp [a1]),if_neg (by simp [a2]),if_neg a3,if_neg (by rw [hlj];simpa [badO] using h)]
          rw [ec,if_neg (by decide)]at hch
          simp only [go_sem,hlt,hx,hi,hv,hs,ho,mC,a1,a2,a3',hn1,hn2,h];exact⟨hwx,hwx.2.2,hrx,hwx.2.2,hrx,by omega,by omega,hwy,hwx,hiy,by omega,j+1+1,za (by simp [bitvec_to_nat,msA,ms]) trivial,⟨by omega,by rw [hl1];exact hch,hin'⟩,by omega⟩
         .have ec:chkT (lastO l (j+1)) x=12:=by unfold chkT;rw [if_neg (by simp [a1]),if_neg (by simp [a2]),if_neg a3,if_pos (by rw [hlj];simpa [badO] using h)]
          rw [ec,if_pos (by decide)]at hch
          rw [hch]at hK;simp only [go_sem,hlt,hx,hi,hv,hs,ho,mC,a1,a2,a3',hn1,hn2,h];exact⟨hwx,hwx.2.2,hrx,hwx.2.2,hrx,by omega,by omega,hwy,hwx,hiy,hK⟩
     .have ec:chkT (lastO l k) x=3:=by unfold chkT;rw [if_pos a1]
      rw [ec,if_pos (by decide)]at hch
      rw [hch]at hK;have t30:¬(3:Int)=0:=by decide
      simp only [go_sem,hlt,hx,hi,mC,a1,t30];exact⟨hwx,hK⟩
    .rw [List.drop_of_length_le (by omega)]at hch
     have e0:chkG (lastO l k) []=0:=rfl;rw [hch,e0]at hK;simp only [go_sem,hlt];exact hK
theorem Wak(hΓ:Holds P Γ){f fk:Nat}(hk:Γ fk=.dat false Yl)(hc:check P f=some (18,(Ug fk).strip,[.tmp 2])):Sound P f (.dat false Jo):=by
 refine Qa hc QaL hΓ (λargs K hcl hfi hG=>?_);match args,hG with
 | [a],hG=>
  obtain⟨p,q,rfl,⟨hwp,hwq⟩,hp,hq,hK⟩:=hG;refine⟨by simp,?_⟩
  simp only [go_sem,Ug,ms];refine ja (λk:Nat=>⟨mkV [(6,.one (.slice [[ms p],[ms q]])),(7,.one (.lit (.int .i64 2))),(8,.one (.lit (.int .i64 k)))],mkH []⟩) (λk=>k<=2/\(0<k->chkB p=0)/\(1<k->chkB q=0)) (λk=>2-k) 0 ?_ ?_ ?_
  .exact za (by simp [bitvec_to_nat,ms]) trivial
  .exact⟨by decide,by omega,by omega⟩
  .rintro k ⟨hk2,h1,h2⟩;have hk3:k=0∨k=1∨k=2:=by omega
   unfold chk2 at hK;rcases hk3 with rfl | rfl | rfl
   .by_cases hx:chkB p=0
    .simp only [go_sem,c02,hk,ms];exact⟨hwp,hp,λ_=>⟨by decide,1,za (by simp [bitvec_to_nat,ms]) trivial,⟨by omega,by simp [hx],by omega⟩,by omega⟩,λh=>absurd hx h⟩
    .rw [if_pos hx]at hK;simp only [go_sem,c02,hk,ms,hx];exact⟨hwp,hp,hK⟩
   .have hx:=h1 (by omega)
    rw [if_neg (by simp [hx])]at hK
    by_cases hy:chkB q=0
    .simp only [go_sem,c12,kE,hk,ms];exact⟨hwq,hq,λ_=>⟨by decide,2,za (by simp [bitvec_to_nat,ms]) trivial,⟨by omega,by simp [hx],by simp [hy]⟩,by omega⟩,λh=>absurd hy h⟩
    .simp only [go_sem,c12,kE,hk,ms,hy];exact⟨hwq,hq,hK⟩
   .have hx:=h1 (by omega)
    have hy:=h2 (by omega)
    rw [if_neg (by simp [hx]),hy]at hK
    simp only [go_sem,c22];exact hK
theorem Xaf(hΓ:Holds P Γ){f fs:Nat}(hs:Γ fs=.dat true Ws)(hc:check P f=some (55,(wd fs).strip,[.tmp 4])):Sound P f (.dat false uk):=by
 refine Qa hc xai hΓ (λargs K hcl hfi hG=>?_);match args,hG with
 | [a,b],hG=>
  obtain⟨p,rfl,hwp,q,rfl,hwq,hrp,hl,hK⟩:=hG;refine⟨by simp,?_⟩
  by_cases hle:p.length=q.length
  case neg=>
   rw [decide_eq_false (λe=>hle (by rw [e]))]at hK
   have hle' : ¬(p.length:Int)=(q.length:Int):=by omega
   simp only [go_sem,wd,ms,hle'];repeat first | refine q_Wk ?_ | intro _
   exact hK
  have hle' : (p.length:Int)=(q.length:Int):=by omega
  simp only [go_sem,wd,ms,hle];repeat first | refine q_Wk ?_ | intro _
  refine ja (λk:Nat=>⟨mkV [(0,msA p),(1,msA q),(12,.one (.lit (.int .i64 q.length))),(13,.one (.lit (.int .i64 k)))],mkH []⟩) (λk=>k<=q.length/\p.take k=q.take k) (λk=>q.length-k) 0 ?_ ?_ ?_
  .exact za (by simp [bitvec_to_nat,msA,ms]) trivial
  .exact⟨Nat.zero_le _,rfl⟩
  .rintro k ⟨hk,htk⟩;by_cases hlt:k<q.length
   .obtain⟨x,hx⟩:∃x,p.getD k mo0=x:=⟨_,rfl⟩;obtain⟨y,hy⟩:∃y,q.getD k mo0=y:=⟨_,rfl⟩;have hltp:k<p.length:=by omega
    have hx0:=getDm hltp hx;have hy0:=getDm hlt hy;have hxm:=List.mem_of_getElem? hx0;have hym:=List.mem_of_getElem? hy0;have hwx:=hwp x hxm;have hwy:=hwq y hym;have hrx:=hrp x hxm;have ne:x≠y->K (.one (.lit (.bool false))):=λhne=>by
     rw [decide_eq_false (λe=>hne (by rw [e,hy0]at hx0;simpa using hx0.symm))]at hK
     exact hK
    by_cases e1:x.1=y.1
    case neg=>
     simp only [go_sem,hlt,hltp,hx,hy,mC,e1,hs];repeat first | refine q_Wk ?_ | intro _
     exact ne λe=>e1 (by rw [e])
    by_cases e2:x.2.1=y.2.1
    case neg=>
     simp only [go_sem,hlt,hltp,hx,hy,mC,e1,e2,hs];repeat first | refine q_Wk ?_ | intro _
     exact ne λe=>e2 (by rw [e])
    by_cases e3:x.2.2=y.2.2
    case neg=>
     simp only [go_sem,hlt,hltp,hx,hy,mC,e1,e2,e3,hs];repeat first | refine q_Wk ?_ | intro _
     refine⟨hwx.2.2,hwy.2.2,hrx,?_⟩;exact ne λe=>e3 (by rw [e])
    have exy:x=y:=by
     obtain⟨a1,a2,a3⟩:=x;obtain⟨b1,b2,b3⟩:=y;simp only at e1 e2 e3;rw [e1,e2,e3]
    simp only [go_sem,hlt,hltp,hx,hy,mC,e1,e2,e3,hs];repeat first | refine q_Wk ?_ | intro _
    refine⟨hwy.2.2,hwy.2.2,by rw [<-e3];exact hrx,by omega,k+1,za (by simp [bitvec_to_nat,msA,ms]) trivial,⟨by omega,by rw [List.take_add_one,List.take_add_one,htk,hx0,hy0,exy]⟩,by omega⟩
   .have e:p=q:=by
     rw [List.take_of_length_le (by omega),List.take_of_length_le (by omega)]at htk
     exact htk
    rw [decide_eq_true e]at hK;simp only [go_sem,hlt];exact hK
theorem vaL(hΓ:Holds P Γ){f:Nat}(hc:check P f=some (45,Xc.strip,[.tmp 6])):Sound P f (.dat true Qx):=by
 refine Qa hc yaN hΓ (λargs K hcl hfi hG=>?_);match args,hG with
 | [a,b,c],hG=>
  rw [Wai]at hG;obtain⟨x,rfl,hx,hG1⟩:=hG;obtain⟨k1,n,rfl,hG2⟩:=ua hG1;obtain⟨k2,d,rfl,rfl,rfl,hl,hK⟩:=ua hG2;clear hG1 hG2;refine⟨by simp,?_⟩
  have hl1:x.2.1.length<=4294967296:=Nat.le_trans (Nat.le_max_left _ _) hl;have hl2:x.2.2.length<=4294967296:=Nat.le_trans (Nat.le_max_right _ _) hl;unfold lowB at hK;by_cases a1:x.2.1.length<2
  case neg=>
   have a1' : ¬(x.2.1.length:Int)<2:=by omega
   rw [decide_eq_false a1]at hK;simp only [go_sem,Xc,WZ,qU,ZZ,a1'];repeat first | refine q_Wk ?_ | intro _
   exact hK
  by_cases a2:x.2.2.length<2
  case neg=>
   have a1' : (x.2.1.length:Int)<2:=by omega
   have a2' : ¬(x.2.2.length:Int)<2:=by omega
   rw [decide_eq_true a1,decide_eq_false a2]at hK;simp only [go_sem,Xc,WZ,qU,ZZ,a1',a2'];repeat first | refine q_Wk ?_ | intro _
   exact hK
  have a1' : (x.2.1.length:Int)<2:=by omega
  have a2' : (x.2.2.length:Int)<2:=by omega
  simp only [go_sem,Xc,WZ,qU,ZZ,a1',a2'];rw [decide_eq_true a1,decide_eq_true a2,Bool.true_and,Bool.true_and]at hK;refine λ_ _ _=>⟨λb1 _=>⟨λb2=>?_,λb2=>⟨by decide,by omega,?_⟩⟩,λb1=>⟨by decide,by omega,λc1 _=>⟨λb2=>?_,λb2=>⟨by decide,by omega,?_⟩⟩,λc1=>?_⟩⟩
  .rw [decide_eq_true b1,decide_eq_true b2]at hK;exact hK
  .rw [decide_eq_true b1,decide_eq_false b2]at hK;exact hK
  .rw [decide_eq_false b1,decide_eq_true c1,decide_eq_true b2]at hK;exact hK
  .rw [decide_eq_false b1,decide_eq_true c1,decide_eq_false b2]at hK;exact hK
  .rw [decide_eq_false b1,decide_eq_false c1]at hK;exact hK
theorem Xag(hΓ:Holds P Γ){f fl:Nat}(hl:Γ fl=.dat true Qx)(hc:check P f=some (15,(Vg fl).strip,[.tmp 2])):Sound P f (.dat false Zn):=by
 refine Qa hc kam hΓ (λargs K hcl hfi hG=>?_);match args,hG with
 | [a],hG=>
  obtain⟨l,rfl,hw,hok,hlen,hK⟩:=hG;refine⟨by simp,?_⟩
  simp only [go_sem,Vg,Wa9];intro _;refine ja (λk:Nat=>⟨mkV [(5,rsA l),(6,.one (.lit (.int .i64 l.length))),(7,.one (.lit (.int .i64 k)))],mkH []⟩) (λk=>k<=l.length/\(l.take k).all lowR=true) (λk=>l.length-k) 0 ?_ ?_ ?_
  .exact za (by simp [bitvec_to_nat,rsA]) trivial
  .exact⟨Nat.zero_le _,rfl⟩
  .rintro k ⟨hk,htk⟩;by_cases hlt:k<l.length
   .obtain⟨x,hx⟩:∃x,l.getD k (rcan 0)=x:=⟨_,rfl⟩;have hx0:l[k]?=some x:=by
     rw [List.getD_eq_getElem?_getD,List.getElem?_eq_getElem hlt]at hx;rw [List.getElem?_eq_getElem hlt];simpa using hx
    have hxm:=List.mem_of_getElem? hx0;have hwx:=hw x hxm;have hrx:=(hok x hxm).2;cases hb:lowB 1000 60 x with
    | false=>
     have e:l.all lowR=false:=by
      rw [Bool.eq_false_iff];intro h;have:=List.all_eq_true.1 h x hxm;unfold lowR at this;rw [hb]at this;simp at this
     rw [e]at hK;simp only [go_sem,hlt,hx,hl,hb,rC];repeat first | refine q_Wk ?_ | intro _
     exact hK
    | true=>
     simp only [go_sem,hlt,hx,hl,hb,rC];repeat first | refine q_Wk ?_ | intro _
     refine⟨k+1,za (by simp [bitvec_to_nat,rsA]) trivial,⟨by omega,?_⟩,by omega⟩
     rw [List.take_add_one,hx0,List.all_append,htk];simpa [lowR] using hb
   .rw [List.take_of_length_le (by omega)]at htk
    rw [htk]at hK;simp only [go_sem,hlt];exact hK
theorem getDl{L:List (List Mo)}{i:Nat}{x:List Mo}(hi:i<L.length)(h:L.getD i []=x):L[i]?=some x:=by
 rw [List.getD_eq_getElem?_getD,List.getElem?_eq_getElem hi]at h;rw [List.getElem?_eq_getElem hi];simpa using h
theorem wW(hΓ:Holds P Γ){f fl:Nat}(hl:Γ fl=.dat true Qx)(hc:check P f=some (38,(Jg fl).strip,[.tmp 2])):Sound P f (.dat false ui):=by
 refine Qa hc V9 hΓ (λargs K hcl hfi hG=>?_);match args,hG with
 | [a],hG=>
  obtain⟨L,rfl,hw,hok,hlen,hK⟩:=hG;refine⟨by simp,?_⟩
  simp only [go_sem,Jg,mlA];intro _;refine ja (λk:Nat=>⟨mkV [(7,mlA L),(8,.one (.lit (.int .i64 L.length))),(9,.one (.lit (.int .i64 k)))],mkH []⟩) (λk=>k<=L.length/\(L.take k).all shortM=true) (λk=>L.length-k) 0 ?_ ?_ ?_
  .exact za (by simp [bitvec_to_nat,mlA]) trivial
  .exact⟨Nat.zero_le _,rfl⟩
  .rintro k ⟨hk,htk⟩;by_cases hlt:k<L.length
   .obtain⟨p,hp⟩:∃p,L.getD k []=p:=⟨_,rfl⟩;have hp0:=getDl hlt hp;have hpm:=List.mem_of_getElem? hp0;have hwp:=hw p hpm;obtain⟨hlp,hrp⟩:=hok p hpm;have bad:shortM p=false->K (.one (.lit (.bool false))):=λh=>by
     have e:L.all shortM=false:=by
      rw [Bool.eq_false_iff];intro h';have:=List.all_eq_true.1 h' p hpm;rw [h]at this;simp at this
     rw [e]at hK;exact hK
    have good:(∀t∈p,lowR t.2.2=true)->longM p=false->((L.take (k+1)).all shortM=true):=λh1 h2=>by
     rw [List.take_add_one,hp0,List.all_append,htk];have:shortM p=true:=by
      unfold shortM;rw [h2,List.all_eq_true.2 h1];rfl
     simpa using this
    have nol:longM p=true->shortM p=false:=λh=>by unfold shortM;rw [h];rfl
    by_cases h15:(15:Int)<(p.length:Int)
    .by_cases h325:(p.length:Int)<=325
     .simp only [go_sem,hlt,hp,mlA,h15,h325];repeat first | refine q_Wk ?_ | intro _
      exact bad (nol (by unfold longM;rw [decide_eq_true (by omega),decide_eq_true (by omega)];rfl))
     .by_cases h400:(400:Int)<(p.length:Int)
      .simp only [go_sem,hlt,hp,mlA,h15,h325,h400];repeat first | refine q_Wk ?_ | intro _
       exact bad (nol (by unfold longM;rw [decide_eq_true (show 400<p.length by omega)];simp))
      have hnl:longM p=false:=by unfold longM;rw [decide_eq_false (show ¬400<p.length by omega),decide_eq_false (show ¬p.length<=325 by omega)];simp
      simp only [go_sem,hlt,hp,mlA,h15,h325,h400];repeat first | refine q_Wk ?_ | intro _
      refine ja (λj:Nat=>⟨mkV [(26,msA p),(27,.one (.lit (.int .i64 p.length))),(28,.one (.lit (.int .i64 j))),(7,.one (.slice (L.map λl=>[.slice (l.map mC)]))),(8,.one (.lit (.int .i64 L.length))),(9,.one (.lit (.int .i64 k)))],mkH []⟩) (λj=>j<=p.length/\∀t∈p.take j,lowR t.2.2=true) (λj=>p.length-j) 0 ?_ ?_ ?_
      .exact za (by simp [bitvec_to_nat,msA,ms]) trivial
      .exact⟨Nat.zero_le _,by simp⟩
      .rintro j ⟨hj,hall⟩;by_cases hlj:j<p.length
       .obtain⟨x,hx⟩:∃x,p.getD j mo0=x:=⟨_,rfl⟩;have hx0:=getDm hlj hx;have hxm:=List.mem_of_getElem? hx0;have hwx:=hwp x hxm;have hrx:=hrp x hxm;cases hb:lowB 1000 60 x.2.2 with
        | false=>
         have e:shortM p=false:=by
          unfold shortM;have:(p.all λt=>lowR t.2.2)=false:=by
           rw [Bool.eq_false_iff];intro h;have:=List.all_eq_true.1 h x hxm;unfold lowR at this;rw [hb]at this;simp at this
          rw [this,Bool.and_false]
         simp only [go_sem,hlj,hx,hl,hb,mC];repeat first | refine q_Wk ?_ | intro _
         exact⟨hwx.2.2,hrx,bad e⟩
        | true=>
         simp only [go_sem,hlj,hx,hl,hb,mC];repeat first | refine q_Wk ?_ | intro _
         refine⟨hwx.2.2,hrx,by omega,j+1,za (by simp [bitvec_to_nat,msA,ms]) trivial,⟨by omega,λt ht=>?_⟩,by omega⟩
         rw [List.take_add_one,hx0]at ht;rcases List.mem_append.1 ht with ht | ht
         .exact hall t ht
         .simp at ht;rw [ht];exact hb
       .rw [List.take_of_length_le (by omega)]at hall
        simp only [go_sem,hlj];exact⟨by omega,k+1,za (by simp [bitvec_to_nat,mlA]) trivial,⟨by omega,good hall hnl⟩,by omega⟩
    .have h400:¬(400:Int)<(p.length:Int):=by omega
     have hnl:longM p=false:=by unfold longM;rw [decide_eq_false (show ¬400<p.length by omega),decide_eq_false (show ¬15<p.length by omega)];simp
     simp only [go_sem,hlt,hp,mlA,h15,h400];repeat first | refine q_Wk ?_ | intro _
     refine ja (λj:Nat=>⟨mkV [(26,msA p),(27,.one (.lit (.int .i64 p.length))),(28,.one (.lit (.int .i64 j))),(7,.one (.slice (L.map λl=>[.slice (l.map mC)]))),(8,.one (.lit (.int .i64 L.length))),(9,.one (.lit (.int .i64 k)))],mkH []⟩) (λj=>j<=p.length/\∀t∈p.take j,lowR t.2.2=true) (λj=>p.length-j) 0 ?_ ?_ ?_
     .exact za (by simp [bitvec_to_nat,msA,ms]) trivial
     .exact⟨Nat.zero_le _,by simp⟩
     .rintro j ⟨hj,hall⟩;by_cases hlj:j<p.length
      .obtain⟨x,hx⟩:∃x,p.getD j mo0=x:=⟨_,rfl⟩;have hx0:=getDm hlj hx;have hxm:=List.mem_of_getElem? hx0;have hwx:=hwp x hxm;have hrx:=hrp x hxm;cases hb:lowB 1000 60 x.2.2 with
       | false=>
        have e:shortM p=false:=by
         unfold shortM;have:(p.all λt=>lowR t.2.2)=false:=by
          rw [Bool.eq_false_iff];intro h;have:=List.all_eq_true.1 h x hxm;unfold lowR at this;rw [hb]at this;simp at this
         rw [this,Bool.and_false]
        simp only [go_sem,hlj,hx,hl,hb,mC];repeat first | refine q_Wk ?_ | intro _
        exact⟨hwx.2.2,hrx,bad e⟩
       | true=>
        simp only [go_sem,hlj,hx,hl,hb,mC];repeat first | refine q_Wk ?_ | intro _
        refine⟨hwx.2.2,hrx,by omega,j+1,za (by simp [bitvec_to_nat,msA,ms]) trivial,⟨by omega,λt ht=>?_⟩,by omega⟩
        rw [List.take_add_one,hx0]at ht;rcases List.mem_append.1 ht with ht | ht
        .exact hall t ht
        .simp at ht;rw [ht];exact hb
      .rw [List.take_of_length_le (by omega)]at hall
       simp only [go_sem,hlj];exact⟨by omega,k+1,za (by simp [bitvec_to_nat,mlA]) trivial,⟨by omega,good hall hnl⟩,by omega⟩
   .rw [List.take_of_length_le (by omega)]at htk
    rw [htk]at hK;simp only [go_sem,hlt];exact hK
end Go.Abs
end
section
namespace Go.Num
open Go.Abs
def okT(n:Int):Prop:=n=1∨n=2∨n=4∨n=12
def tx(n:Int):ByteArray:=if n=12 then ⟨#[49,50]⟩ else if n=4 then ⟨#[52]⟩ else if n=2 then ⟨#[50]⟩ else ⟨#[49]⟩
def txR(q:Rat):ByteArray:=if q.den=1 then tx q.num else tx q.num++⟨#[47]⟩++tx (q.den:Nat)
theorem wbM{m:Nat}(h1:1<=m)(h2:m<=12):digs m=[m]:=by rw [Wp (by omega),show m / 4294967296=0 by omega,Zb,show m % 4294967296=m by omega]
end Go.Num
namespace Go.Abs
open Go.Num
variable {P:Program} {Γ:Nat->Spec}
theorem Qbn{h h' : Nat->HB}{z:Nat}{b:Bool}{w:W}:okB h h' (some ⟨[[zb w,zm w]],z,b⟩) (some ⟨[[zb w,zm w]],z,b⟩):=
 ⟨⟨rfl,rfl⟩,.inl ⟨rfl,λe he c hc=>by
  rw [List.mem_singleton.1 he]at hc;simp only [List.mem_cons,List.not_mem_nil,or_false]at hc;rcases hc with rfl | rfl
  .exact of_eq_true (QU _)
  .exact of_eq_true (WX _)⟩⟩
def eJ(s:ByteArray):AV:=.one (.slice [[.lit (.string s)]])
theorem ubz(x y:ByteArray)(h:eJ x=eJ y):x=y:=by
 simp only [eJ,AV.one.injEq,C.slice.injEq,List.cons.injEq,C.lit.injEq,Value.string.injEq,and_true]at h;exact h
def onJ(k:ByteArray->Prop)(a:AV):Prop:=onE eJ k a
@[congr] theorem kb1{k:ByteArray->Prop}{a a'}(h:a=a'):onJ k a=onJ k a':=by subst h;rfl
theorem xbD(k:ByteArray->Prop)(x:ByteArray):onJ k (.one (.slice [[.lit (.string x)]]))=k x:=Yg ubz k x
attribute [go_sem,go_sem ↓] xbD
def Qn(l:List AV)(K:AV->Prop):Prop:=
 match l with
 | [a]=>asInt (λk n=>k=.i64/\okT n/\K (.one (.lit (.string (tx n))))) a
 | _=>False
theorem Zah:type_of% @Qn.eq_1:=q_E @Qn.eq_1
@[congr] theorem wbz{K}{l l'}(h:l=l'):Qn l K=Qn l' K:=h▸rfl
attribute [go_sem,go_sem ↓] Zah
theorem Xak:Good Qn:=Ja λas=>by
 unfold Qn;split
 .exact(vc (λ_ _=>(.and λ_=>(.and λ_=>(.ret _)))) _)
 .exact .of λK hk=>hk.elim
def wt(l:List AV)(K:AV->Prop):Prop:=
 match l with
 | [a,b]=>asInt (λk n=>k=.i64/\okT n/\asInt (λk m=>k=.i64/\m=10/\K (.one (.lit (.string (tx n))))) b) a
 | _=>False
theorem jX:type_of% @wt.eq_1:=q_E @wt.eq_1
@[congr] theorem WbQ{K}{l l'}(h:l=l'):wt l K=wt l' K:=h▸rfl
attribute [go_sem,go_sem ↓] jX
theorem vaM:Good wt:=Ja λas=>by
 unfold wt;split
 .exact(vc (λ_ _=>(.and λ_=>(.and λ_=>(vc (λ_ _=>(.and λ_=>(.and λ_=>(.ret _)))) _)))) _)
 .exact .of λK hk=>hk.elim
def Uj(l:List AV)(K:AV->Prop):Prop:=
 match l with
 | [a]=>asInt (λk n=>k=.i64/\okT n/\K (.one (.lit (.string (tx n))))) a
 | _=>False
theorem yaC:type_of% @Uj.eq_1:=q_E @Uj.eq_1
@[congr] theorem XbN{K}{l l'}(h:l=l'):Uj l K=Uj l' K:=h▸rfl
attribute [go_sem,go_sem ↓] yaC
theorem vS:Good Uj:=Ja λas=>by
 unfold Uj;split
 .exact(vc (λ_ _=>(.and λ_=>(.and λ_=>(.ret _)))) _)
 .exact .of λK hk=>hk.elim
def VW(l:List AV)(K:AV->Prop):Prop:=
 match l with
 | [a,b]=>onJ (λs=>b=.one (.lit (.string ⟨#[]⟩))/\K (.one (.lit (.string s)))) a
 | _=>False
theorem xaE:type_of% @VW.eq_1:=q_E @VW.eq_1
@[congr] theorem vbP{K}{l l'}(h:l=l'):VW l K=VW l' K:=h▸rfl
attribute [go_sem,go_sem ↓] xaE
def wH(l:List AV)(K:AV->Prop):Prop:=
 match l with
 | [a]=>onW (λw=>okT (zv w)/\K (.one (.lit (.string (tx (zv w)))))) a
 | _=>False
theorem yab:type_of% @wH.eq_1:=q_E @wH.eq_1
@[congr] theorem WbM{K}{l l'}(h:l=l'):wH l K=wH l' K:=h▸rfl
attribute [go_sem,go_sem ↓] yab
def YG(l:List AV)(K:AV->Prop):Prop:=
 match l with
 | [a]=>onR (λx=>okT (rv x).num/\okT ((rv x).den:Nat)/\rl x<=4294967296/\K (.one (.lit (.string (txR (rv x)))))) a
 | _=>False
theorem Yah:type_of% @YG.eq_1:=q_E @YG.eq_1
@[congr] theorem jbF{K}{l l'}(h:l=l'):YG l K=YG l' K:=h▸rfl
attribute [go_sem,go_sem ↓] Yah
theorem kad(hΓ:Holds P Γ){f:Nat}(hc:check P f=some (15,(Jb).strip,[.tmp 2])):Sound P f (.dat false Qn):=by
 refine Qa hc Xak hΓ (λargs K hcl hfi hG=>?_);match args,hG with
 | [a],hG=>
  obtain⟨k,n,rfl,rfl,hn,hK⟩:=ua hG;refine⟨by simp,?_⟩
  rcases hn with rfl | rfl | rfl | rfl
  .simp only [go_sem,Jb];exact⟨λ_=>⟨by decide,⟨by decide,by decide,by decide⟩,hK⟩,λh=>absurd (by decide) h⟩
  .simp only [go_sem,Jb];exact⟨λ_=>⟨by decide,⟨by decide,by decide,by decide⟩,hK⟩,λh=>absurd (by decide) h⟩
  .simp only [go_sem,Jb];exact⟨λ_=>⟨by decide,⟨by decide,by decide,by decide⟩,hK⟩,λh=>absurd (by decide) h⟩
  .simp only [go_sem,Jb];exact⟨λh=>absurd h (by decide),λ_=>⟨by decide,by decide,by decide,⟨by decide,by decide,by decide⟩,hK⟩⟩
theorem xak(hΓ:Holds P Γ){f fs fn fb fi:Nat}(hs:Γ fs=.dat false Qn)(hc:check P f=some (54,(xc fs fn fb fi).strip,[.tmp 4])):Sound P f (.dat false wt):=by
 refine Qa hc vaM hΓ (λargs K hcl hfi hG=>?_);match args,hG with
 | [a,b],hG=>
  rw [jX]at hG;obtain⟨k,n,rfl,rfl,hn,hG'⟩:=ua hG;obtain⟨k',n',rfl,rfl,rfl,hK⟩:=ua hG';clear hG hG';refine⟨by simp,?_⟩
  have a1:(0:Int)<=n:=by rcases hn with rfl | rfl | rfl | rfl <;> decide
  have a2:n<100:=by rcases hn with rfl | rfl | rfl | rfl <;> decide
  simp only [go_sem,xc,hs,a1,a2,hn];exact hK
theorem jan(hΓ:Holds P Γ){f fs:Nat}(hs:Γ fs=.dat false wt)(hc:check P f=some (5,(ye fs).strip,[.tmp 2])):Sound P f (.dat false Uj):=by
 refine Qa hc vS hΓ (λargs K hcl hfi hG=>?_);match args,hG with
 | [a],hG=>
  obtain⟨k,n,rfl,rfl,hn,hK⟩:=ua hG;refine⟨by simp,?_⟩
  simp only [go_sem,ye,hs,hn];exact hK
theorem uah(hΓ:Holds P Γ){f fs:Nat}(hs:Γ fs=.dat false Uj)(hc:check P f=some (5,(uq fs).strip,[.tmp 2])):Sound P f (.dat false Uj):=by
 refine Qa hc vS hΓ (λargs K hcl hfi hG=>?_);match args,hG with
 | [a],hG=>
  obtain⟨k,n,rfl,rfl,hn,hK⟩:=ua hG;refine⟨by simp,?_⟩
  simp only [go_sem,uq,hs,hn];exact hK
end Go.Abs
end
section
namespace Go.Abs
open Go.Num
variable {P:Program} {Γ:Nat->Spec}
def eS(l:List ByteArray):AV:=.one (.slice (l.map λx=>[.lit (.string x)]))
theorem YaQ(x y:List ByteArray)(h:eS x=eS y):x=y:=by
 simp only [eS,AV.one.injEq,C.slice.injEq]at h;exact QH (λa b h=>by simpa using h) h
def onS(k:List ByteArray->Prop)(a:AV):Prop:=onE eS k a
@[congr] theorem kb2{k:List ByteArray->Prop}{a a'}(h:a=a'):onS k a=onS k a':=by subst h;rfl
theorem xbK(k:List ByteArray->Prop)(x:ByteArray):onS k (.one (.slice [[.lit (.string x)]]))=k [x]:=Yg YaQ k [x]
theorem ZbL(k:List ByteArray->Prop)(x y:ByteArray):onS k (.one (.slice [[.lit (.string x)],[.lit (.string y)]]))=k [x,y]:=Yg YaQ k [x,y]
theorem ubW{β:Type}{T:List ByteArray->(β->Prop)->Prop}(h:∀l,GoodT (T l)){a:AV}:GoodT λK=>onS (λl=>T l K) a:=
 VD (e:=eS) (T:=T) YaQ h
def eT(s:ByteArray):AV:=.one (.lit (.string s))
theorem Ybm(x y:ByteArray)(h:eT x=eT y):x=y:=by simpa [eT] using h
def onT1(k:ByteArray->Prop)(a:AV):Prop:=onE eT k a
@[congr] theorem kbR{k:ByteArray->Prop}{a a'}(h:a=a'):onT1 k a=onT1 k a':=by subst h;rfl
theorem Xbg(k:ByteArray->Prop)(x:ByteArray):onT1 k (.one (.lit (.string x)))=k x:=Yg Ybm k x
theorem ubA{β:Type}{T:ByteArray->(β->Prop)->Prop}(h:∀l,GoodT (T l)){a:AV}:GoodT λK=>onT1 (λl=>T l K) a:=
 VD (e:=eT) (T:=T) Ybm h
attribute [go_sem,go_sem ↓] xbK ZbL Xbg
def jS(l:List ByteArray)(sep:ByteArray):ByteArray:=⟨(Lib.join (l.map (·.data.toList)) sep.data.toList).toArray⟩
theorem jS_1(x s:ByteArray):jS [x] s=x:=by simp [jS,Lib.join]
def jq(l:List AV)(K:AV->Prop):Prop:=
 match l with
 | [a,b]=>onS (λl=>onT1 (λs=>l≠[]/\l.length<=100/\(jS l s).data.toList.length<=1000/\K (.one (.lit (.string (jS l s))))) b) a
 | _=>False
theorem Xax:type_of% @jq.eq_1:=q_E @jq.eq_1
@[congr] theorem ybN{K}{l l'}(h:l=l'):jq l K=jq l' K:=h▸rfl
attribute [go_sem,go_sem ↓] Xax
theorem YaI:Good jq:=Ja λas=>by
 unfold jq;split
 .exact(ubW λ_=>(ubA λ_=>(.and λ_=>(.and λ_=>(.and λ_=>(.ret _))))))
 .exact .of λK hk=>hk.elim
def VM(l:List AV)(K:AV->Prop):Prop:=
 match l with
 | [a]=>onW (λw=>(zv w=2∨zv w = -2)/\K (.one (.lit (.string (if zv w=2 then ⟨#[50]⟩ else ⟨#[45,50]⟩))))) a
 | _=>False
theorem ubk:type_of% @VM.eq_1:=q_E @VM.eq_1
@[congr] theorem vb1{K}{l l'}(h:l=l'):VM l K=VM l' K:=h▸rfl
attribute [go_sem,go_sem ↓] ubk
theorem Qbf:Good VM:=Ja λas=>by
 unfold VM;split
 .exact(Xn λ_=>(.and λ_=>(.ret _)))
 .exact .of λK hk=>hk.elim
def JM(l:List AV)(K:AV->Prop):Prop:=
 match l with
 | [a]=>onR (λx=>(rv x=2∨rv x = -2)/\rl x<=4294967296/\K (.one (.lit (.string (if rv x=2 then ⟨#[50]⟩ else ⟨#[45,50]⟩))))) a
 | _=>False
theorem zbl:type_of% @JM.eq_1:=q_E @JM.eq_1
@[congr] theorem Zb2{K}{l l'}(h:l=l'):JM l K=JM l' K:=h▸rfl
attribute [go_sem,go_sem ↓] zbl
theorem kbb:Good JM:=Ja λas=>by
 unfold JM;split
 .exact(zo λ_=>(.and λ_=>(.and λ_=>(.ret _))))
 .exact .of λK hk=>hk.elim
def Jn(tE:Nat)(l:List AV)(K:AV->Prop):Prop:=
 match l with
 | [a]=>onLq (λL=>L=[-2,0,2]/\K (.tup [.one (.lit (.string ⟨#[50,32,120,94,50,32,43,32,45,50]⟩)),errV tE 0])) a
 | _=>False
theorem W5:type_of% @Jn.eq_1:=q_E @Jn.eq_1
@[congr] theorem ZbJ tE{K}{l l'}(h:l=l'):Jn tE l K=Jn tE l' K:=by subst h;rfl
attribute [go_sem,go_sem ↓] W5
theorem qam(tE:Nat):Good (Jn tE):=Ja λas=>by
 unfold Jn;split
 .exact(Yw λ_=>(.and λ_=>(.ret _)))
 .exact .of λK hk=>hk.elim
def Zx(f0 f1 f2 f3 f4:Nat):AC:=(.o [.m 2 (.c (.one (.lit (.string ⟨#[]⟩)))),.m 3 (.c (.one (.lit .nilIface)))] [0] (.f (.o [.M 8 0,.H 9 f0 8,.M 4 9] [0,4] (.o [.M 10 4,.R 11 10] [0,4,11] (.cond (.t 11) (.seq (.p [.M 12 4,.m 2 (.c (.one (.lit (.string ⟨#[]⟩)))),.M 3 12]) .ret) .skip))) [0] (.f (.o [.M 13 0,.Z 14 13,.I 15 .eql 14 0] [0,15] (.cond (.t 15) (.seq (.p [.m 2 (.c (.one (.lit (.string ⟨#[48]⟩)))),.m 3 (.c (.one (.lit .nilIface)))]) .ret) .skip)) [0] (.o [.m 5 (.c (.one .emp))] [0,5] (.f (.o [.M 16 0,.Z 17 16,.I 18 .sub 17 1,.M 6 18] [0,5,6] (.block 0 (.loop (.f (.o [.M 19 6,.I 20 .geq 19 0] [0,5,6,20] (.cond (.t 20) .skip (.exit 0))) [0,5,6] (.f (.block 1 (.f (.o [.M 23 0,.M 24 6,.J 25 3 23 24,.L 26 3 25,.H 27 f1 26,.I 28 .eql 27 0] [0,5,6,28] (.cond (.t 28) (.exit 1) .skip)) [0,5,6] (.o [.M 29 0,.M 30 6,.J 31 3 29 30,.L 32 3 31,.H 33 f2 32,.M 7 33] [0,5,6,7] (.f (.o [.M 34 6,.I 35 .gtr 34 0] [0,5,6,7,35] (.cond (.t 35) (.p [.M 36 7,.u 37 (.sop 2 [(.t 36),(.c (.one (.lit (.string ⟨#[32,120]⟩))))]),.M 7 37]) .skip)) [0,5,6,7] (.f (.o [.M 38 6,.I 39 .gtr 38 1] [0,5,6,7,39] (.cond (.t 39) (.p [.M 40 7,.M 41 6,.H 42 f3 41,.u 43 (.sop 2 [(.c (.one (.lit (.string ⟨#[94]⟩)))),(.t 42)]),.u 44 (.sop 2 [(.t 40),(.t 43)]),.M 7 44]) .skip)) [0,5,6,7] (.p [.M 45 5,.M 46 7,.u 47 (.row 1 [[.x 1 (.t 46)]]),.u 48 (.app 1 (.t 45) (.t 47)),.M 5 48])))))) [0,5,6] (.p [.M 21 6,.I 22 .sub 21 1,.M 6 22])))))) [5] (.seq (.p [.M 49 5,.u 50 (.call f4 [(.t 49),(.c (.one (.lit (.string ⟨#[32,43,32]⟩))))]),.M 2 50,.m 3 (.c (.one (.lit .nilIface)))]) .ret))))))
theorem jak{f:FuncId}(hE:Enters P f)
  (hJ:∀(bk o c:Nat) (xs:List ByteArray) (sep:ByteArray) (w:World),(∀(j:Nat) x,xs[j]?=some x->w.cell? ⟨bk,o+j,none⟩=some (.string x))->bk<w.heap.size->xs.length<=140737488355328->xs.length<=c->(Lib.join (xs.map (·.data.toList)) sep.data.toList).length<=140737488355328->
   Calls P f #[.slice (some ⟨bk,o,none⟩) xs.length c,.string sep] w λe w'=>e=.returned (.string ⟨(Lib.join (xs.map (·.data.toList)) sep.data.toList).toArray⟩)/\Go.RowKit.Below w.heap.size w w'):Sound P f (.dat false jq):=by
 refine⟨hE,YaI,λargs vals w I K hI hr _ hG=>?_⟩;match args,hG with
 | [a,b],hG=>
  obtain⟨l,rfl,s,rfl,h0,h1,h2,hK⟩:=hG;match vals,hr.1 with
  | [v,u],_=>
   have hv:=hr.2 0 _ v rfl rfl;have hu:=hr.2 1 _ u rfl rfl;cases hu with
   | one c u hu=>
    cases hu with
    | lit u hu=>
     cases hv with
     | one c v hv=>
      obtain⟨es,hes⟩:∃es,es=l.map λx=>[C.lit (.string x)]:=⟨_,rfl⟩;have hv' : RC M0 I w.heap (.slice es) v:=by rw [hes];exact hv
      have hl:es.length=l.length:=by rw [hes,List.length_map]
      cases hv' with
      | snil a cap=>exact absurd (List.map_eq_nil_iff.1 hes.symm) h0
      | slice _ sz b off cap arr ty fz vs c0 c1 c2 c3 c4 c5 c6 c7=>
       have s1:sz=1:=by
        cases l with
        | nil=>exact absurd rfl h0
        | cons x l=>rw [<-c5 [C.lit (.string x)] (by rw [hes];simp)];rfl
       subst s1;rw [hl];rw [hl]at c2;refine(hJ b off cap l s w ?_ (hI b c3) (by omega) c2 (by simpa [jS] using Nat.le_trans h2 (by decide))).mono λe w' ⟨he,hb⟩=>?_
       .intro j x hj;have hlt:j<l.length:=(List.getElem?_eq_some_iff.1 hj).1;have q1:=c6 j 0 (by omega) (by decide)
        have q2:=c7 j 0 [C.lit (.string x)] (C.lit (.string x)) (by rw [hes,List.getElem?_map,hj];rfl) rfl
        generalize hvj:vs j 0=vj at q1 q2;cases q2
        have q3:=WV (w:=w) (b:=b) (off:=off) (j:=j) c4 (by simpa using q1)
        rwa [qt]at q3
       .exact⟨_,_,I,he,hK,.one _ _ (.lit _ rfl),.lit _,{ grow:=hb.size,keep:=λk hk=>hb.block k hk,sub:=λ_ h=>h,new:=λ_ h=>.inl h,imb:=λk hk=>Nat.lt_of_lt_of_le (hI k hk) hb.size,os:=hb.os,tape:=hb.tape,out:=hb.output }⟩
theorem VaT(hΓ:Holds P Γ){f fm fs fi fr fj fn:Nat}(hm:Γ fm=.dat false Qh)(hs:Γ fs=.dat false Qr)(hi:Γ fi=.dat false Uj)(hj:Γ fj=.dat false jq)(hn:Γ fn=.dat true ke)(hc:check P f=some (44,(Zr fm fs fi fr fj fn).strip,[.tmp 2])):Sound P f (.dat false VM):=by
 refine Qa hc Qbf hΓ (λargs K hcl hfi hG=>?_);match args,hG with
 | [a],hG=>
  obtain⟨w,rfl,hw,h1,hK⟩:=hG;refine⟨by simp,?_⟩
  have d1:digs 2=[2]:=wbM (by decide) (by decide)
  have d0:=Zb;have v1:val [2] / 1000000000=0:=by decide
  have v2:val [2] % 1000000000=2:=by decide
  have na:(zv w).natAbs=2:=by rcases h1 with h | h <;> rw [h] <;> rfl
  have w1:WL [2]:=ub.2 ⟨by decide,qc⟩
  have hok:okT ((2:Nat):Int):=.inr (.inl rfl);have jj:jS [tx ((2:Nat):Int)] ⟨#[]⟩=⟨#[50]⟩:=jS_1 _ _;have j2:(jS [tx ((2:Nat):Int)] ⟨#[]⟩).data.toList.length<=1000:=by rw [jj];decide
  simp only [go_sem,Zr,hm,hs,hi,hj,hn,hw,na,d1];refine ja (λk:Nat=>if k=0 then ⟨mkV [(1,.one (.ptr 1 1 0 0)),(3,wsA [2]),(4,.one .emp)],mkH [(1,⟨1,some ⟨[[zb w,zm w]],2,true⟩⟩)]⟩ else ⟨mkV [(1,.one (.ptr 1 1 0 0)),(3,wsA []),(4,.one (.full [[.lit (.string (tx ((2:Nat):Int)))]]))],mkH [(1,⟨1,some ⟨[[zb w,zm w]],2,true⟩⟩)]⟩) (λ_=>True) (λk=>1-k) 0 ?_ trivial ?_
  .rw [if_pos rfl];exact za (by simp [bitvec_to_nat,wc]) ⟨Qbn,trivial⟩
  .intro k _;by_cases hk:k=0
   .subst hk;rw [if_pos rfl];simp only [go_sem,hs,hi,v1,v2,d0];refine⟨w1,by decide,by decide,by omega,hok,λe he=>by simp at he,1,?_,by decide⟩
    rw [if_neg (by decide)]
    exact za (by simp [bitvec_to_nat,wc]) ⟨Qbn,trivial⟩
   .rw [if_neg hk];rcases h1 with h1 | h1
    .rw [if_pos h1]at hK;simp only [go_sem,hj,hn,hw,h1,jj,j2];exact⟨by simp,λh=>absurd h (by decide),λ_=>hK⟩
    .rw [if_neg (by rw [h1];decide)]at hK
     simp only [go_sem,hj,hn,hw,h1,jj,j2];exact⟨by simp,λ_=>⟨by decide,hK⟩,λh=>absurd (by decide) h⟩
theorem ZaO(hΓ:Holds P Γ){f fp fo fc ft:Nat}(hp:Γ fp=.dat false Zd)(ho:Γ fo=.dat false qm)(hc' : Γ fc=.dat true yw)(ht:Γ ft=.dat false VM)(hc:check P f=some (22,(Wj fp fo fc ft).strip,[.tmp 2])):Sound P f (.dat false JM):=by
 refine Qa hc kbb hΓ (λargs K hcl hfi hG=>?_);match args,hG with
 | [a],hG=>
  obtain⟨x,rfl,hx,h1,hl,hK⟩:=hG;refine⟨by simp,?_⟩
  have t2:¬(-2:Int)=2:=by decide
  rcases h1 with h1 | h1
  .have e1:ordI ((Rat.den 2:Nat):Int) 1=0:=by decide
   have e2:(Rat.num 2:Int)=2:=by decide
   rw [if_pos h1]at hK;simp only [go_sem,Wj,hp,ho,hc',ht,hx,h1,e1,e2];exact⟨hl,.inl trivial,hK⟩
  .have e1:ordI ((Rat.den (-2):Nat):Int) 1=0:=by decide
   have e2:(Rat.num (-2):Int) = -2:=by decide
   rw [if_neg (by rw [h1];decide)]at hK
   simp only [go_sem,Wj,hp,ho,hc',ht,hx,h1,e1,e2,t2];exact⟨hl,.inr trivial,hK⟩
theorem Uae(hΓ:Holds P Γ){f fk fs ft fi fj tE:Nat}(hk:Γ fk=.dat false (Wl tE))(hs:Γ fs=.dat true jf)(ht:Γ ft=.dat false JM)(hi:Γ fi=.dat false Uj)(hj:Γ fj=.dat false jq)(hc:check P f=some (51,(Zx fk fs ft fi fj).strip,[.tmp 2,.tmp 3])):Sound P f (.dat false (Jn tE)):=by
 refine Qa hc (qam tE) hΓ (λargs K hcl hfi hG=>?_);match args,hG with
 | [a],hG=>
  obtain⟨L,rfl,hL,hK⟩:=hG;refine⟨by simp,?_⟩
  have hc0:chkP L=0:=by rw [hL];decide +kernel
  have hr:∀x∈L,rz x<=4000000000:=by rw [hL];decide +kernel
  have hl:L.length=3:=by rw [hL];rfl
  have g0:L.getD 0 0 = -2:=by rw [hL];rfl
  have g1:L.getD 1 0=0:=by rw [hL];rfl
  have g2:L.getD 2 0=2:=by rw [hL];rfl
  have e0:=je tE;simp only [go_sem,Zx,hk,hc0,e0,hl];refine⟨hr,by omega,?_⟩
  have o2:ordQ 2 0=1:=by decide +kernel
  have om:ordQ (-2) 0 = -1:=by decide +kernel
  have o0:ordQ 0 0=0:=by decide +kernel
  have n31:((3:Nat):Int)-1=2:=rfl;have okt:okT 2:=.inr (.inl rfl);have r2:rl (rcan 2)<=4294967296:=by decide +kernel
  have rm:rl (rcan (-2))<=4294967296:=by decide +kernel
  have r0:rl (rcan 0)<=4294967296:=by decide +kernel
  have q1:¬(1:Int)=0:=by decide
  have q2:¬(-1:Int)=0:=by decide
  have q3:¬(-2:Rat)=2:=by decide
  have tx2:tx 2=⟨#[50]⟩:=rfl;have t0:(2:Int).toNat=2:=rfl;have t1:(1:Int).toNat=1:=rfl;have t00:(0:Int).toNat=0:=rfl;refine Jaq 3 ⟨mkV [(0,lqA L),(5,.one .emp),(6,.one (.lit (.int .i64 2)))],mkH []⟩ (za (by simp [bitvec_to_nat,lqA]) trivial) ?_
  simp only [go_sem,hs,ht,hi,hj,g2,qo,o2,q1,t0,tx2,Int.reduceLE,Int.reduceLT,Int.reduceSub];have z1:∀(s:ByteArray) (e:List C),e∈[[C.lit (.string s)]]->e.length=1:=λs e he=>by rw [List.mem_singleton.1 he];rfl
  refine⟨by omega,by decide +kernel,by omega,.inl trivial,by decide +kernel,by decide,okt,by decide,by decide,z1 _,?_⟩
  generalize hTA:(⟨#[50]⟩:ByteArray)++⟨#[32,120]⟩++(⟨#[94]⟩++⟨#[50]⟩)=TA;refine WaO [0,5,6] [48] (by simp [go_sem,-List.map_map]) ?_
  simp only [go_sem,hs,ht,hi,hj,g1,qo,o0,t1,Int.reduceLE,Int.reduceLT,Int.reduceSub];refine⟨by omega,by decide +kernel,?_⟩
  refine WaO [0,5,6] [48] (by simp [go_sem,-List.map_map]) ?_
  simp only [go_sem,hs,ht,hi,hj,g0,qo,om,q2,q3,t00,Int.reduceLE,Int.reduceLT,Int.reduceSub];refine⟨by omega,by decide +kernel,by omega,.inr trivial,by decide +kernel,z1 _,?_⟩
  refine WaO [0,5,6] [48] (by simp [go_sem,-List.map_map]) ?_
  have jj:jS [TA,⟨#[45,50]⟩] ⟨#[32,43,32]⟩=⟨#[50,32,120,94,50,32,43,32,45,50]⟩:=by rw [<-hTA];decide +kernel
  have j2:(jS [TA,⟨#[45,50]⟩] ⟨#[32,43,32]⟩).data.toList.length<=1000:=by rw [jj];decide
  rw [je]at hK;simp only [go_sem,hj,Int.reduceLE,jj,j2];exact⟨by simp,hK⟩
end Go.Abs
end
section
namespace Go.Num
open Go.Abs
def o3(l:List (Int×Int×Int)):BQ:=l.map λt=>(t.1,t.2.1,(t.2.2:Rat))
theorem JaP(l m:List (Int×Int×Int)):o3 (l++m)=o3 l++o3 m:=List.map_append
theorem qbj(l:List (Int×Int×Int)):(mcs (o3 l)).length=l.length:=by unfold mcs o3;rw [List.length_map,List.length_map]
theorem Ubu{l:List (Int×Int×Int)}{k:Nat}{x:Int×Int×Int}(h:l[k]?=some x):mcs (o3 (l.take (k+1)))=mcs (o3 (l.take k))++[(x.1,x.2.1,rcan (x.2.2:Rat))]:=by
 rw [List.take_add_one,h,JaP,Zq];rfl
def xmP:List (Int×Int×Int):=[(0,0,-2),(0,2,1),(2,0,1)]
def xmQ:List (Int×Int×Int):=[(0,1,1),(1,0,-1)]
def xmA:List (Int×Int×Int):=[(0,1,1),(1,0,1)]
def xmB:List (Int×Int×Int):=[(0,1,-1),(1,0,1)]
def xmC:List (Int×Int×Int):=[(0,2,-1),(2,0,1)]
theorem WbZ:elL (o3 xmP) (o3 xmQ)=[-2,0,2]:=by decide +kernel
theorem xbL:mulB (o3 xmA) (o3 xmB)=o3 xmC:=by decide +kernel
theorem zbK:erC (mcs (o3 xmP)) (mcs (o3 xmQ))=0:=by decide +kernel
theorem Qbw:mulC (mcs (o3 xmA)) (mcs (o3 xmB))=0:=by decide +kernel
theorem kbK:degM (mcs (o3 xmP))*degM (mcs (o3 xmQ))<=9:=by decide +kernel
end Go.Num
namespace Go.Abs
open Go.Num
variable {P:Program} {Γ:Nat->Spec}
def iC(t:Int×Int×Int):List C:=[.lit (.int .i64 t.1),.lit (.int .i64 t.2.1),.lit (.int .i64 t.2.2)]
def i3A(l:List (Int×Int×Int)):AV:=.one (.slice (l.map iC))
theorem vak(x y:List (Int×Int×Int))(h:i3A x=i3A y):x=y:=by
 simp only [i3A,AV.one.injEq,C.slice.injEq]at h;refine QH (λa b h=>?_) h;obtain⟨a1,a2,a3⟩:=a;obtain⟨b1,b2,b3⟩:=b;simpa [iC] using h
def onI3(k:List (Int×Int×Int)->Prop)(a:AV):Prop:=onE i3A k a
@[congr] theorem xbU{k:List (Int×Int×Int)->Prop}{a a'}(h:a=a'):onI3 k a=onI3 k a':=by subst h;rfl
theorem Jbo(k:List (Int×Int×Int)->Prop)(a b c d e f:Int):onI3 k (.one (.slice [[.lit (.int .i64 a),.lit (.int .i64 b),.lit (.int .i64 c)],[.lit (.int .i64 d),.lit (.int .i64 e),.lit (.int .i64 f)]]))=k [(a,b,c),(d,e,f)]:=Yg vak k [(a,b,c),(d,e,f)]
theorem Qbk(k:List (Int×Int×Int)->Prop)(a b c d e f g h i:Int):onI3 k (.one (.slice [[.lit (.int .i64 a),.lit (.int .i64 b),.lit (.int .i64 c)],[.lit (.int .i64 d),.lit (.int .i64 e),.lit (.int .i64 f)],[.lit (.int .i64 g),.lit (.int .i64 h),.lit (.int .i64 i)]]))=k [(a,b,c),(d,e,f),(g,h,i)]:=Yg vak k [(a,b,c),(d,e,f),(g,h,i)]
theorem ybM{β:Type}{T:List (Int×Int×Int)->(β->Prop)->Prop}(h:∀l,GoodT (T l)){a:AV}:GoodT λK=>onI3 (λl=>T l K) a:=
 VD (e:=i3A) (T:=T) vak h
theorem Va2(K:List C->Prop)(L:List (Int×Int×Int))(i:Nat):getE K (L.map iC) i=(i<L.length/\K (iC (L.getD i (0,0,0)))):=by
 simp only [getE,List.length_map,List.getElem?_map];refine propext ⟨λh=>⟨h.1,h.2 _ (by simp [h.1,List.getD_eq_getElem?_getD])⟩,λh=>⟨h.1,λe he=>?_⟩⟩
 simp [h.1]at he;subst he;have:=h.2;simpa [List.getD_eq_getElem?_getD,h.1] using this
theorem vay(L:List (Int×Int×Int)):Clean (.slice (L.map iC))=True:=eq_true (.slice _ λe he c hc=>by
 obtain⟨l,_,rfl⟩:=List.mem_map.1 he;simp only [iC,List.mem_cons,List.not_mem_nil,or_false]at hc;rcases hc with rfl | rfl | rfl <;> exact .lit _)
attribute [go_sem,go_sem ↓] Jbo Qbk Va2 vay
def vM(l:List AV)(K:AV->Prop):Prop:=
 match l with
 | [a]=>onI3 (λl=>(∀t∈l,-1000<=t.2.2/\t.2.2<=1000)/\l.length<=1000/\K (.one (.slice ((mcs (o3 l)).map mC)))) a
 | _=>False
theorem qbi:type_of% @vM.eq_1:=q_E @vM.eq_1
@[congr] theorem wb2{K}{l l'}(h:l=l'):vM l K=vM l' K:=h▸rfl
attribute [go_sem,go_sem ↓] qbi
theorem Ubd:Good vM:=Ja λas=>by
 unfold vM;split
 .exact(ybM λ_=>(.and λ_=>(.and λ_=>(.ret _))))
 .exact .of λK hk=>hk.elim
def qn(l:List AV)(K:AV->Prop):Prop:=
 match l with
 | []=>K (.one (.lit (.bool true)))
 | _=>False
theorem Xaa:type_of% @qn.eq_1:=q_E @qn.eq_1
@[congr] theorem VbI{K}{l l'}(h:l=l'):qn l K=qn l' K:=h▸rfl
attribute [go_sem,go_sem ↓] Xaa
theorem Xai:Good qn:=Ja λas=>by
 unfold qn;split
 .exact(.ret _)
 .exact .of λK hk=>hk.elim
def uj(f0:Nat):AC:=(.o [.m 2 (.c (.one .emp))] [0] (.o [.m 3 (.c (.one .emp))] [0,3] (.f (.o [.M 6 0,.Z 7 6,.N 8 0] [3,6,7,8] (.block 0 (.loop (.o [.B 9 .lss 8 7] [3,6,7,8,9] (.f (.cond (.t 9) .skip (.exit 0)) [3,6,7,8] (.f (.block 1 (.o [.J 10 3 6 8,.L 11 3 10,.G 5 [(.lit (.int .i64 0)),(.lit (.int .i64 0)),(.lit (.int .i64 0))],.S 3 5 11] [3,5,6,7,8] (.y [.M 12 3,.u 13 (.ai 1 3 (.t 5) (.i 0)),.F 14 1 13,.u 15 (.ai 1 3 (.t 5) (.i 1)),.F 16 1 15,.u 17 (.ai 1 3 (.t 5) (.i 2)),.F 18 1 17,.H 19 f0 18,.u 20 (.build [.x 1 (.t 14),.x 1 (.t 16),.x 3 (.t 19)]),.u 21 (.row 5 [[.x 5 (.t 20)]]),.u 22 (.app 5 (.t 12) (.t 21)),.M 3 22]))) [3,6,7,8] (.p [.I 23 .add 8 1,.M 8 23]))))))) [3] (.seq (.p [.M 24 3,.M 2 24]) .ret))))
def zg(f0 f1 f2 f3 f4:Nat):AC:=(.o [.m 0 .fa] [] (.o [.u 8 (.build [.x 1 (.i 0),.x 1 (.i 1),.x 1 (.i 1)]),.u 9 (.build [.x 1 (.i 1),.x 1 (.i 0),.x 1 (.i 1)]),.u 10 (.row 3 [[.x 3 (.t 8)],[.x 3 (.t 9)]]),.H 11 f0 10,.u 12 (.build [.x 1 (.i 0),.x 1 (.i 1),.x 1 (.i (-1))]),.u 13 (.build [.x 1 (.i 1),.x 1 (.i 0),.x 1 (.i 1)]),.u 14 (.row 3 [[.x 3 (.t 12)],[.x 3 (.t 13)]]),.H 15 f0 14,.D 16 f1 11 15,.M 7 16,.X 17 0 7,.X 18 1 7,.M 1 17,.M 2 18] [1,2] (.o [.u 20 (.build [.x 1 (.i 0),.x 1 (.i 0),.x 1 (.i (-2))]),.u 21 (.build [.x 1 (.i 0),.x 1 (.i 2),.x 1 (.i 1)]),.u 22 (.build [.x 1 (.i 2),.x 1 (.i 0),.x 1 (.i 1)]),.u 23 (.row 3 [[.x 3 (.t 20)],[.x 3 (.t 21)],[.x 3 (.t 22)]]),.H 24 f0 23,.u 25 (.build [.x 1 (.i 0),.x 1 (.i 1),.x 1 (.i 1)]),.u 26 (.build [.x 1 (.i 1),.x 1 (.i 0),.x 1 (.i (-1))]),.u 27 (.row 3 [[.x 3 (.t 25)],[.x 3 (.t 26)]]),.H 28 f0 27,.D 29 f2 24 28,.M 19 29,.X 30 0 19,.X 31 1 19,.M 3 30,.M 4 31] [1,2,3,4] (.f (.o [.M 32 2,.R 33 32,.M 34 33,.V 35 34 false 4,.w 36 34 false (.binn .neq (.t 35) (.c (.one (.lit .nilIface)))),.Q 37 34 36] [1,3,37] (.cond (.t 37) (.seq (.p [.m 0 .fa]) .ret) .skip)) [1,3] (.o [.M 39 3,.H 40 f3 39,.M 38 40,.X 41 0 38,.X 42 1 38,.M 5 41,.M 6 42] [1,5,6] (.seq (.p [.M 43 6,.u 44 (.binn .eql (.t 43) (.c (.one (.lit .nilIface)))),.M 45 44,.V 46 45 true 5,.w 47 45 true (.sop 1 [(.t 46),(.c (.one (.lit (.string ⟨#[50,32,120,94,50,32,43,32,45,50]⟩))))]),.P 48 45 47,.M 49 48,.V 50 49 true 1,.w 51 49 true (.build [.x 1 (.i 0),.x 1 (.i 2),.x 1 (.i (-1))]),.w 52 49 true (.build [.x 1 (.i 2),.x 1 (.i 0),.x 1 (.i 1)]),.w 53 49 true (.row 3 [[.x 3 (.t 51)],[.x 3 (.t 52)]]),.W 54 49 true f0 53,.Y 55 49 true f4 50 54,.P 56 49 55,.M 0 56]) .ret))))))
theorem Qa7(hΓ:Holds P Γ){f fo:Nat}(ho:Γ fo=.dat false Xw)(hc:check P f=some (25,(uj fo).strip,[.tmp 2])):Sound P f (.dat false vM):=by
 refine Qa hc Ubd hΓ (λargs K hcl hfi hG=>?_);match args,hG with
 | [a],hG=>
  obtain⟨l,rfl,hr,hl,hK⟩:=hG;refine⟨by simp,?_⟩
  simp only [go_sem,uj,i3A];intro _;refine ja (λk:Nat=>if k=0 then ⟨mkV [(3,.one .emp),(6,i3A l),(7,.one (.lit (.int .i64 l.length))),(8,.one (.lit (.int .i64 k)))],mkH []⟩
    else ⟨mkV [(3,.one (.own 22 1 5 0 k)),(6,i3A l),(7,.one (.lit (.int .i64 l.length))),(8,.one (.lit (.int .i64 k)))],mkH [(22,⟨1,some ⟨(mcs (o3 (l.take k))).map mC,5,true⟩⟩)]⟩) (λk=>k<=l.length) (λk=>l.length-k) 0 ?_ ?_ ?_
  .exact za (by simp [bitvec_to_nat,i3A]) trivial
  .exact Nat.zero_le _
  .intro k hk;by_cases hlt:k<l.length
   .obtain⟨y,hy⟩:∃y,l.getD k (0,0,0)=y:=⟨_,rfl⟩;have hy0:l[k]?=some y:=by
     rw [List.getD_eq_getElem?_getD,List.getElem?_eq_getElem hlt]at hy;rw [List.getElem?_eq_getElem hlt];simpa using hy
    have hry:=hr y (List.mem_of_getElem? hy0);have ht:=Ubu hy0;by_cases hk0:k=0
    .subst hk0;simp only [go_sem,hlt,hy,ho,iC,i3A];repeat first | refine q_Wk ?_ | intro _
     refine⟨λe he=>by rw [List.mem_singleton.1 he];rfl,by omega,1,?_,by omega,by omega⟩
     rw [if_neg (by decide)]
     exact za (by simp [bitvec_to_nat,i3A]) ⟨Xb (by rw [ht];rfl),trivial⟩
    .have hlk:(mcs (o3 (l.take k))).length=k:=by rw [qbj,List.length_take];omega
     simp only [go_sem,hlt,hy,ho,iC,i3A,hk0,hlk];repeat first | refine q_Wk ?_ | intro _
     refine⟨λe he=>by rw [List.mem_singleton.1 he];rfl,by omega,by omega,k+1,?_,by omega,by omega⟩
     rw [if_neg (by omega)]
     exact za (by simp [bitvec_to_nat,i3A]) ⟨Xb (by rw [ht];simp [mC]),trivial⟩
   .by_cases hk0:k=0
    .subst hk0;have hl0:l=[]:=List.length_eq_zero_iff.1 (by omega)
     subst hl0;simp only [go_sem,hlt,i3A];exact hK
    .have hlk:(mcs (o3 (l.take k))).length=k:=by rw [qbj,List.length_take];omega
     have et:l.take k=l:=List.take_of_length_le (by omega)
     simp only [go_sem,hlt,hk0,i3A];rw [if_pos (by omega),List.take_of_length_le (Nat.le_of_eq hlk),Xg _ (of_eq_true (Vd _)),et]
     exact hK
theorem WbV:SmE (o3 xmP) (o3 xmQ):=by
 have b1:∀(n:Int),n.natAbs<=2->Bd 1 2 (n:Rat):=λn h=>(Bd.int n).mono h;refine⟨1,2,by decide,by decide +kernel,by decide +kernel,λt ht=>?_,λt ht=>?_⟩
 .simp only [o3,xmP,List.map_cons,List.map_nil,List.mem_cons,List.not_mem_nil,or_false]at ht;rcases ht with rfl | rfl | rfl <;> exact b1 _ (by decide)
 .simp only [o3,xmQ,List.map_cons,List.map_nil,List.mem_cons,List.not_mem_nil,or_false]at ht;rcases ht with rfl | rfl <;> exact b1 _ (by decide)
theorem zaf(hΓ:Holds P Γ){f ff fm fe ft fq tE:Nat}(hf:Γ ff=.dat false vM)(hm:Γ fm=.dat false (qx tE))(he:Γ fe=.dat false (Ju tE))(ht:Γ ft=.dat false (Jn tE))(hq:Γ fq=.dat false uk)(hc:check P f=some (57,(zg ff fm fe ft fq).strip,[.tmp 0])):Sound P f (.dat false qn):=by
 refine Qa hc Xai hΓ (λargs K hcl hfi hG=>?_);match args,hG with
 | [],hK=>
  have hK:K (.one (.lit (.bool true))):=hK;refine⟨by simp,?_⟩
  obtain⟨A,hA⟩:∃A,mcs (o3 xmA)=A:=⟨_,rfl⟩;obtain⟨B,hB⟩:∃B,mcs (o3 xmB)=B:=⟨_,rfl⟩;obtain⟨C,hC⟩:∃C,mcs (o3 xmC)=C:=⟨_,rfl⟩;obtain⟨X,hX⟩:∃X,mcs (o3 xmP)=X:=⟨_,rfl⟩;obtain⟨Y,hY⟩:∃Y,mcs (o3 xmQ)=Y:=⟨_,rfl⟩;have wl:∀l:List (Int×Int×Int),InQ (o3 l)->∀t∈mcs (o3 l),WLM t:=λl h=>waj h;have s1:∀t∈xmA,-1000<=t.2.2/\t.2.2<=1000:=by decide
  have s2:∀t∈xmB,-1000<=t.2.2/\t.2.2<=1000:=by decide
  have s3:∀t∈xmC,-1000<=t.2.2/\t.2.2<=1000:=by decide
  have s4:∀t∈xmP,-1000<=t.2.2/\t.2.2<=1000:=by decide
  have s5:∀t∈xmQ,-1000<=t.2.2/\t.2.2<=1000:=by decide
  have m1:mulC A B=0:=by rw [<-hA,<-hB];exact Qbw
  have m2:mulB (A.map mv) (B.map mv)=o3 xmC:=by rw [<-hA,<-hB,vt,vt];exact xbL
  have e1:erC X Y=0:=by rw [<-hX,<-hY];exact zbK
  obtain⟨L,hL⟩:∃L:List Rat,L=[-2,0,2]:=⟨_,rfl⟩;have e2:elL (X.map mv) (Y.map mv)=L:=by rw [hL,<-hX,<-hY,vt,vt];exact WbZ
  have e3:degM X*degM Y<=9/\SmE (X.map mv) (Y.map mv):=by rw [<-hX,<-hY,vt,vt];exact⟨kbK,WbV⟩
  have r1:∀t∈A,rl t.2.2<=1000000:=by rw [<-hA];decide +kernel
  have r2:∀t∈B,rl t.2.2<=1000000:=by rw [<-hB];decide +kernel
  have r3:∀t∈C,rl t.2.2<=1000000:=by rw [<-hC];decide +kernel
  have r4:∀t∈X,rl t.2.2<=1000000:=by rw [<-hX];decide +kernel
  have r5:∀t∈Y,rl t.2.2<=1000000:=by rw [<-hY];decide +kernel
  have w1:∀t∈A,WLM t:=by rw [<-hA];exact wl _ (by unfold InQ inQ;decide +kernel)
  have w2:∀t∈B,WLM t:=by rw [<-hB];exact wl _ (by unfold InQ inQ;decide +kernel)
  have w3:∀t∈C,WLM t:=by rw [<-hC];exact wl _ (by unfold InQ inQ;decide +kernel)
  have w4:∀t∈X,WLM t:=by rw [<-hX];exact wl _ (by unfold InQ inQ;decide +kernel)
  have w5:∀t∈Y,WLM t:=by rw [<-hY];exact wl _ (by unfold InQ inQ;decide +kernel)
  have z1:sz (A.map mv)+sz (B.map mv)<=3000000:=by rw [<-hA,<-hB,vt,vt];decide +kernel
  have g1:(∀t∈A,rl t.2.2<=1000000000)/\(∀t∈B,rl t.2.2<=1000000000):=⟨λt ht=>Nat.le_trans (r1 t ht) (by decide),λt ht=>Nat.le_trans (r2 t ht) (by decide)⟩
  have g3:∀t∈C,rl t.2.2<=4294967296:=λt ht=>Nat.le_trans (r3 t ht) (by decide)
  have lC:C.length<=1000000:=by rw [<-hC];decide +kernel
  have e0:=je tE;have b0:=jz (o3 xmC);unfold xmA at hA s1;unfold xmB at hB s2;unfold xmP at hX s4;unfold xmQ at hY s5;have hC2:=hC;have s3':=s3;unfold xmC at hC2 s3';simp only [go_sem,zg,hf,hm,he,ht,hq,hA,hB,hX,hY,hC2,m1,m2,e1,e2,e0,b0,hC,s1,s2,s3',s4,s5];exact⟨s1,s2,w1,w2,g1.1,g1.2,z1,s4,s5,w4,w5,r4,r5,e3,hL,λ_=>⟨s3',w3,w3,g3,lC,hK⟩,λh=>absurd h (by simp)⟩
end Go.Abs
end
section
namespace Go.Num
open Go.Abs
theorem qbw(p:BQ):sclL ((1:Int):Rat) p=p:=by
 unfold sclL;have e:(λt:MQ=>((t.1,t.2.1,((1:Int):Rat)*t.2.2):MQ))=id:=funext λt=>by
  have:((1:Int):Rat)*t.2.2=t.2.2:=by rw [show((1:Int):Rat)=1 from rfl,Rat.one_mul]
  rw [this];rfl
 rw [e,List.map_id]
end Go.Num
namespace Go.Abs
open Go.Num
variable {P:Program} {Γ:Nat->Spec}
def Vf(l:List AV)(K:List (List C)->Prop):Prop:=
 match l with
 | [a,c]=>onMs (λl=>onR (λx=>(∀t∈l,rl t.2.2<=1000000000)/\rl x<=1000000000/\l.length<=1000000/\K ((sclM (rv x) l).map mC)) c) a
 | _=>False
theorem YP:type_of% @Vf.eq_1:=q_E @Vf.eq_1
@[congr] theorem Xbx{K}{l l'}(h:l=l'):Vf l K=Vf l' K:=h▸rfl
attribute [go_sem,go_sem ↓] YP
theorem kaa:Good Vf:=Ja λas=>by
 unfold Vf;split
 .exact(xd λ_=>(zo λ_=>(.and λ_=>(.and λ_=>(.and λ_=>(.ret _))))))
 .exact .of λK hk=>hk.elim
def Yn(l:List AV)(K:AV->Prop):Prop:=
 match l with
 | [a,c]=>onMs (λp=>onR (λx=>(∀t∈p,rl t.2.2<=1000000000)/\rl x<=1000000/\sz (p.map mv)<=100000000/\K (.tup [.one (.slice ((bres (chkB p) (sclB (rv x) (p.map mv))).map mC)),.one (.lit (.int .i64 (chkB p:Nat)))])) c) a
 | _=>False
theorem zai:type_of% @Yn.eq_1:=q_E @Yn.eq_1
@[congr] theorem zbE{K}{l l'}(h:l=l'):Yn l K=Yn l' K:=h▸rfl
attribute [go_sem,go_sem ↓] zai
theorem Yam:Good Yn:=Ja λas=>by
 unfold Yn;split
 .exact(xd λ_=>(zo λ_=>(.and λ_=>(.and λ_=>(.and λ_=>(.ret _))))))
 .exact .of λK hk=>hk.elim
def Vz(l:List AV)(K:AV->Prop):Prop:=
 match l with
 | [a,b]=>onMs (λp=>onMs (λq=>(∀t∈p,rl t.2.2<=1000000000)/\(∀t∈q,rl t.2.2<=1000000000)/\sz (p.map mv)+sz (q.map mv)<=100000000/\K (.tup [.one (.slice ((bres (chk2 p q) (addB (p.map mv) (q.map mv))).map mC)),.one (.lit (.int .i64 (chk2 p q:Nat)))])) b) a
 | _=>False
theorem Xa2:type_of% @Vz.eq_1:=q_E @Vz.eq_1
@[congr] theorem YbS{K}{l l'}(h:l=l'):Vz l K=Vz l' K:=h▸rfl
attribute [go_sem,go_sem ↓] Xa2
theorem XaO:Good Vz:=Ja λas=>by
 unfold Vz;split
 .exact(xd λ_=>(xd λ_=>(.and λ_=>(.and λ_=>(.and λ_=>(.ret _))))))
 .exact .of λK hk=>hk.elim
def Uz(l:List AV)(K:AV->Prop):Prop:=
 match l with
 | [a,b]=>onMs (λp=>onMs (λq=>(∀t∈p,rl t.2.2<=1000000000)/\(∀t∈q,rl t.2.2<=1000000000)/\sz (p.map mv)+sz (q.map mv)<=100000000/\K (.tup [.one (.slice ((bres (chk2 p q) (subB (p.map mv) (q.map mv))).map mC)),.one (.lit (.int .i64 (chk2 p q:Nat)))])) b) a
 | _=>False
theorem Za3:type_of% @Uz.eq_1:=q_E @Uz.eq_1
@[congr] theorem WbW{K}{l l'}(h:l=l'):Uz l K=Uz l' K:=h▸rfl
attribute [go_sem,go_sem ↓] Za3
theorem za0:Good Uz:=Ja λas=>by
 unfold Uz;split
 .exact(xd λ_=>(xd λ_=>(.and λ_=>(.and λ_=>(.and λ_=>(.ret _))))))
 .exact .of λK hk=>hk.elim
def Ue(f0:Nat):AC:=(.o [.K 3 3 1,.m 4 (.c (.one .emp))] [0,3] (.o [.m 5 (.c (.one .emp))] [0,3,5] (.f (.o [.M 8 0,.Z 9 8,.N 10 0] [3,5,8,9,10] (.block 0 (.loop (.o [.B 11 .lss 10 9] [3,5,8,9,10,11] (.f (.cond (.t 11) .skip (.exit 0)) [3,5,8,9,10] (.f (.block 1 (.o [.J 12 5 8 10,.L 13 5 12,.G 7 [(.lit (.int .i64 0)),(.lit (.int .i64 0)),.z,.emp,.emp],.S 5 7 13] [3,5,7,8,9,10] (.y [.M 14 5,.A 15 0 7,.F 16 1 15,.A 17 1 7,.F 18 1 17,.L 19 3 3,.A 20 2 7,.L 21 3 20,.D 22 f0 19 21,.u 23 (.build [.x 1 (.t 16),.x 1 (.t 18),.x 3 (.t 22)]),.u 24 (.row 5 [[.x 5 (.t 23)]]),.u 25 (.app 5 (.t 14) (.t 24)),.M 5 25]))) [3,5,8,9,10] (.p [.I 26 .add 10 1,.M 10 26]))))))) [5] (.seq (.p [.M 27 5,.M 4 27]) .ret))))
def vd(f0 f1 f2:Nat):AC:=(.o [.K 3 3 1,.m 4 (.c (.one .emp)),.N 5 0] [0,3] (.f (.o [.M 7 0,.H 8 f0 7,.M 6 8] [0,3,6] (.o [.M 9 6,.I 10 .neq 9 0] [0,3,6,10] (.cond (.t 10) (.seq (.p [.M 11 6,.m 4 (.c (.one .emp)),.M 5 11]) .ret) .skip))) [0,3] (.seq (.p [.M 12 0,.L 13 3 3,.u 14 (.callf f1 [(.t 12),(.t 13)]),.H 15 f2 14,.M 4 15,.N 5 0]) .ret)))
def Je(f0 f1 f2 f3:Nat):AC:=(.o [.m 4 (.c (.one .emp)),.N 5 0] [0,1] (.f (.o [.M 7 0,.M 8 1,.u 9 (.row 1 [[.x 1 (.t 7)],[.x 1 (.t 8)]]),.H 10 f0 9,.M 6 10] [0,1,6] (.o [.M 11 6,.I 12 .neq 11 0] [0,1,6,12] (.cond (.t 12) (.seq (.p [.M 13 6,.m 4 (.c (.one .emp)),.M 5 13]) .ret) .skip))) [0,1] (.seq (.p [.M 14 0,.u 15 (.call f1 [(.i 1)]),.u 16 (.callf f2 [(.t 14),(.t 15)]),.M 17 1,.u 18 (.app 5 (.t 16) (.t 17)),.H 19 f3 18,.M 4 19,.N 5 0]) .ret)))
def Ve(f0 f1 f2 f3:Nat):AC:=(.o [.m 4 (.c (.one .emp)),.N 5 0] [0,1] (.f (.o [.M 7 0,.M 8 1,.u 9 (.row 1 [[.x 1 (.t 7)],[.x 1 (.t 8)]]),.H 10 f0 9,.M 6 10] [0,1,6] (.o [.M 11 6,.I 12 .neq 11 0] [0,1,6,12] (.cond (.t 12) (.seq (.p [.M 13 6,.m 4 (.c (.one .emp)),.M 5 13]) .ret) .skip))) [0,1] (.seq (.p [.M 14 1,.u 15 (.call f1 [(.i (-1))]),.u 16 (.callf f2 [(.t 14),(.t 15)]),.M 17 0,.u 18 (.app 5 (.t 16) (.t 17)),.H 19 f3 18,.M 4 19,.N 5 0]) .ret)))
theorem YV(hΓ:Holds P Γ){f fm:Nat}(hm:Γ fm=.dat false Ql)(hc:check P f=some (28,(Ue fm).strip,[.tmp 4])):Sound P f (.fresh 5 Vf):=by
 refine Yj hc kaa hΓ (λargs K hcl hfi hG=>?_);match args,hG with
 | [a,c],hG=>
  obtain⟨l,rfl,hw,x,rfl,hwx,hrl,hrx,hl,hK⟩:=hG;refine⟨by simp,?_⟩
  simp only [go_sem,Ue,rA];intro _;refine ja (λk:Nat=>if k=0 then ⟨mkV [(3,.one (.ptr 3 1 0 0)),(5,.one .emp),(8,msA l),(9,.one (.lit (.int .i64 l.length))),(10,.one (.lit (.int .i64 k)))],mkH [(3,⟨1,some ⟨[[cb x,cn x,cd x]],3,true⟩⟩)]⟩
    else ⟨mkV [(3,.one (.ptr 3 1 0 0)),(5,.one (.own 25 1 5 0 k)),(8,msA l),(9,.one (.lit (.int .i64 l.length))),(10,.one (.lit (.int .i64 k)))],mkH [(3,⟨1,some ⟨[[cb x,cn x,cd x]],3,true⟩⟩),(25,⟨1,some ⟨(sclM (rv x) (l.take k)).map mC,5,true⟩⟩)]⟩) (λk=>k<=l.length) (λk=>l.length-k) 0 ?_ ?_ ?_
  .exact za (by simp [bitvec_to_nat,msA,ms]) ⟨vk,trivial⟩
  .exact Nat.zero_le _
  .intro k hk;by_cases hlt:k<l.length
   .obtain⟨y,hy⟩:∃y,l.getD k mo0=y:=⟨_,rfl⟩;have hy0:=getDm hlt hy;have hym:=List.mem_of_getElem? hy0;have hwy:=hw y hym;have hwy3:=hwy.2.2;have hry:=hrl y hym;have hry4:rl y.2.2<=4294967296:=by omega
    have hrx4:rl x<=4294967296:=by omega
    have ht:=Waa (c:=rv x) hy0;have hall:∀e∈[[C.lit (.int .i64 y.1),C.lit (.int .i64 y.2.1),cb (rcan (rv x*rv y.2.2)),cn (rcan (rv x*rv y.2.2)),cd (rcan (rv x*rv y.2.2))]],e.length=5:=λe he=>by rw [List.mem_singleton.1 he];rfl
    by_cases hk0:k=0
    .subst hk0;simp only [go_sem,hlt,hy,hm,mC];repeat first | refine q_Wk ?_ | intro _
     refine⟨1,?_,by omega,by omega⟩
     rw [if_neg (by decide)]
     exact za (by simp [bitvec_to_nat,msA,ms]) ⟨vk,Xb (by rw [ht];rfl),trivial⟩
    .have hlk:(sclM (rv x) (l.take k)).length=k:=by rw [kp,List.length_take];omega
     simp only [go_sem,hlt,hy,hm,mC,hk0,hlk];repeat first | refine q_Wk ?_ | intro _
     refine⟨k+1,?_,by omega,by omega⟩
     rw [if_neg (by omega)]
     exact za (by simp [bitvec_to_nat,msA,ms]) ⟨vk,Xb (by rw [ht];simp [mC]),trivial⟩
   .by_cases hk0:k=0
    .subst hk0;have hl0:l=[]:=List.length_eq_zero_iff.1 (by omega)
     subst hl0;simp only [go_sem,hlt];exact hK
    .have hlk:(sclM (rv x) (l.take k)).length=k:=by rw [kp,List.length_take];omega
     have et:l.take k=l:=List.take_of_length_le (by omega)
     rw [et]at hlk;simp only [go_sem,hlt,hk0,et];rw [List.take_of_length_le (Nat.le_of_eq hlk)];exact⟨Nat.le_of_eq hlk.symm,hK⟩
theorem U8(hΓ:Holds P Γ){f fk fl fs m:Nat}(hm:650<=m)(hk:Γ fk=.dat false Yl)(hl:Γ fl=.fresh 5 Vf)(hs:Γ fs=.dat false (Jk m))(hc:check P f=some (16,(vd fk fl fs).strip,[.tmp 4,.tmp 5])):Sound P f (.dat false Yn):=by
 refine Qa hc Yam hΓ (λargs K hcl hfi hG=>?_);match args,hG with
 | [a,b],hG=>
  obtain⟨p,rfl,hwp,x,rfl,hwx,hp,hx,hsz,hK⟩:=hG;refine⟨by simp,?_⟩
  have hp' : ∀t∈p,rl t.2.2<=4294967296:=λt ht=>Nat.le_trans (hp t ht) (by decide)
  by_cases h0:chkB p=0
  .rw [h0,jz]at hK;obtain⟨i1,j1,l1⟩:=kh h0 hwp;simp only [go_sem,vd,hk,hl,hs,h0,rA];have hrx:=ZA hwx;have ho1:=JK (c:=rv x) i1 hwp hp (by omega)
   have hsl:=kp (rv x) p;have hss:=uK (rv x) (p.map mv);refine⟨hwp,hp',hwp,hwx,hp,by omega,by omega,λu hu=>(ho1 u hu).1,λu hu=>(ho1 u hu).2,by omega,?_,?_⟩
   .rw [Wx];rw [List.length_map]at hss;have:=Nat.mul_le_mul l1 (show rz (rv x)+2<=1000002 by omega)
    omega
   .rw [Wx];exact hK
  .rw [uw h0]at hK;simp only [go_sem,vd,hk,hs,h0,rA];exact⟨hwp,hp',hK⟩
theorem VaL(hΓ:Holds P Γ){f fk fo fl fs m:Nat}(hm:650<=m)(hk:Γ fk=.dat false Jo)(ho:Γ fo=.dat false Xw)(hl:Γ fl=.fresh 5 Vf)(hs:Γ fs=.dat false (Jk m))(hc:check P f=some (20,(Je fk fo fl fs).strip,[.tmp 4,.tmp 5])):Sound P f (.dat false Vz):=by
 refine Qa hc XaO hΓ (λargs K hcl hfi hG=>?_);match args,hG with
 | [a,b],hG=>
  obtain⟨p,rfl,hwp,q,rfl,hwq,hp,hq,hsz,hK⟩:=hG;refine⟨by simp,?_⟩
  have hp' : ∀t∈p,rl t.2.2<=4294967296:=λt ht=>Nat.le_trans (hp t ht) (by decide)
  have hq' : ∀t∈q,rl t.2.2<=4294967296:=λt ht=>Nat.le_trans (hq t ht) (by decide)
  by_cases h0:chk2 p q=0
  .rw [h0,jz]at hK;obtain⟨k1,k2⟩:=Zz h0;obtain⟨i1,j1,l1⟩:=kh k1 hwp;obtain⟨i2,j2,l2⟩:=kh k2 hwq;have hr1:=Zay (1);have r1:rz ((1:Int):Rat)<=2:=by exact rz_1
   have ho1:=JK (c:=((1:Int):Rat)) i1 hwp hp (by omega)
   have hsl:=kp ((1:Int):Rat) p;have hss:=uK ((1:Int):Rat) (p.map mv);have hr:rl (rcan ((1:Int):Rat))<=1000000000:=by show rz _<=_;omega
   simp only [go_sem,Je,hk,ho,hl,hs,h0,ms];refine⟨⟨hwp,hwq⟩,hp',hq',by decide,by decide,hwp,hp,hr,by omega,by omega,?_⟩
   rw [if_pos (by simp),List.take_of_length_le (by simp),Xg _ (of_eq_true (Vd _)),UL]
   have hms:(sclM ((1:Int):Rat) p++q).map mv=sclL ((1:Int):Rat) (p.map mv)++q.map mv:=by rw [List.map_append,Wx]
   have hZ:nf ((sclM ((1:Int):Rat) p++q).map mv)=addB (p.map mv) (q.map mv):=by
    rw [hms];rw [qbw];rfl
   refine⟨λu hu=>?_,λu hu=>?_,by rw [List.length_append];omega,?_,by rw [hZ];exact hK⟩
   .rcases List.mem_append.1 hu with hu | hu
    .exact(ho1 u hu).1
    .exact hwq u hu
   .rcases List.mem_append.1 hu with hu | hu
    .exact(ho1 u hu).2
    .exact⟨i2 u hu,hq' u hu⟩
   .rw [hms,Jd];rw [List.length_map]at hss;have:=Nat.mul_le_mul l1 (show rz ((1:Int):Rat)+2<=4 by omega)
    omega
  .rw [uw h0]at hK;simp only [go_sem,Je,hk,hs,h0,ms];exact⟨⟨hwp,hwq⟩,hp',hq',hK⟩
theorem UaI(hΓ:Holds P Γ){f fk fo fl fs m:Nat}(hm:650<=m)(hk:Γ fk=.dat false Jo)(ho:Γ fo=.dat false Xw)(hl:Γ fl=.fresh 5 Vf)(hs:Γ fs=.dat false (Jk m))(hc:check P f=some (20,(Ve fk fo fl fs).strip,[.tmp 4,.tmp 5])):Sound P f (.dat false Uz):=by
 refine Qa hc za0 hΓ (λargs K hcl hfi hG=>?_);match args,hG with
 | [a,b],hG=>
  obtain⟨p,rfl,hwp,q,rfl,hwq,hp,hq,hsz,hK⟩:=hG;refine⟨by simp,?_⟩
  have hp' : ∀t∈p,rl t.2.2<=4294967296:=λt ht=>Nat.le_trans (hp t ht) (by decide)
  have hq' : ∀t∈q,rl t.2.2<=4294967296:=λt ht=>Nat.le_trans (hq t ht) (by decide)
  by_cases h0:chk2 p q=0
  .rw [h0,jz]at hK;obtain⟨k1,k2⟩:=Zz h0;obtain⟨i1,j1,l1⟩:=kh k1 hwp;obtain⟨i2,j2,l2⟩:=kh k2 hwq;have hr1:=Zay (-1);have r1:rz ((-1:Int):Rat)<=2:=by rw [show(((-1:Int)):Rat) = -1 from rfl,qD];exact rz_1
   have ho1:=JK (c:=((-1:Int):Rat)) i2 hwq hq (by omega)
   have hsl:=kp ((-1:Int):Rat) q;have hss:=uK ((-1:Int):Rat) (q.map mv);have hr:rl (rcan ((-1:Int):Rat))<=1000000000:=by show rz _<=_;omega
   simp only [go_sem,Ve,hk,ho,hl,hs,h0,ms];refine⟨⟨hwp,hwq⟩,hp',hq',by decide,by decide,hwq,hq,hr,by omega,by omega,?_⟩
   rw [if_pos (by simp),List.take_of_length_le (by simp),Xg _ (of_eq_true (Vd _)),UL]
   have hms:(sclM ((-1:Int):Rat) q++p).map mv=sclL ((-1:Int):Rat) (q.map mv)++p.map mv:=by rw [List.map_append,Wx]
   have hZ:nf ((sclM ((-1:Int):Rat) q++p).map mv)=subB (p.map mv) (q.map mv):=by
    rw [hms];exact Wa6 List.perm_append_comm (qi.2 ⟨UW j2,j1⟩)
   refine⟨λu hu=>?_,λu hu=>?_,by rw [List.length_append];omega,?_,by rw [hZ];exact hK⟩
   .rcases List.mem_append.1 hu with hu | hu
    .exact(ho1 u hu).1
    .exact hwp u hu
   .rcases List.mem_append.1 hu with hu | hu
    .exact(ho1 u hu).2
    .exact⟨i1 u hu,hp' u hu⟩
   .rw [hms,Jd];rw [List.length_map]at hss;have:=Nat.mul_le_mul l2 (show rz ((-1:Int):Rat)+2<=4 by omega)
    omega
  .rw [uw h0]at hK;simp only [go_sem,Ve,hk,hs,h0,ms];exact⟨⟨hwp,hwq⟩,hp',hq',hK⟩
end Go.Abs
end
section
namespace Go.Abs
open Go.Num
variable {P:Program} {Γ:Nat->Spec}
def Qz(l:List AV)(K:AV->Prop):Prop:=
 match l with
 | [a,b]=>onMs (λp=>onMs (λq=>(∀t∈p,rl t.2.2<=1000000000)/\(∀t∈q,rl t.2.2<=1000000000)/\sz (p.map mv)+sz (q.map mv)<=3000000/\K (.tup [.one (.slice ((bres (mulC p q) (mulB (p.map mv) (q.map mv))).map mC)),.one (.lit (.int .i64 (mulC p q:Nat)))])) b) a
 | _=>False
theorem VaR:type_of% @Qz.eq_1:=q_E @Qz.eq_1
@[congr] theorem ubR{K}{l l'}(h:l=l'):Qz l K=Qz l' K:=h▸rfl
attribute [go_sem,go_sem ↓] VaR
theorem YaO:Good Qz:=Ja λas=>by
 unfold Qz;split
 .exact(xd λ_=>(xd λ_=>(.and λ_=>(.and λ_=>(.and λ_=>(.ret _))))))
 .exact .of λK hk=>hk.elim
def uc(f0 f1 f2 f3:Nat):AC:=(.o [.m 4 (.c (.one .emp)),.N 5 0] [0,1] (.f (.o [.M 12 0,.M 13 1,.u 14 (.row 1 [[.x 1 (.t 12)],[.x 1 (.t 13)]]),.H 15 f0 14,.M 6 15] [0,1,6] (.o [.M 16 6,.I 17 .neq 16 0] [0,1,6,17] (.cond (.t 17) (.seq (.p [.M 18 6,.m 4 (.c (.one .emp)),.M 5 18]) .ret) .skip))) [0,1] (.f (.o [.M 19 0,.Z 20 19,.I 21 .gtr 20 0,.M 22 21,.V 23 22 true 1,.w 24 22 true (.len (.t 23)),.w 25 22 true (.bin .gtr (.t 24) (.i 0)),.P 26 22 25,.M 27 26,.V 28 27 true 0,.W 29 27 true f1 28,.V 30 27 true 1,.W 31 27 true f1 30,.w 32 27 true (.bin .add (.t 29) (.t 31)),.w 33 27 true (.bin .gtr (.t 32) (.i 24)),.P 34 27 33] [0,1,34] (.cond (.t 34) (.seq (.p [.m 4 (.c (.one .emp)),.N 5 4]) .ret) .skip)) [0,1] (.o [.m 7 (.c (.one .emp))] [0,1,7] (.f (.o [.M 35 0,.Z 36 35,.N 37 0] [1,7,35,36,37] (.block 0 (.loop (.o [.B 38 .lss 37 36] [1,7,35,36,37,38] (.f (.cond (.t 38) .skip (.exit 0)) [1,7,35,36,37] (.f (.block 1 (.o [.J 39 5 35 37,.L 40 5 39,.G 9 [(.lit (.int .i64 0)),(.lit (.int .i64 0)),.z,.emp,.emp],.S 5 9 40] [1,7,9,35,36,37] (.o [.M 41 1,.Z 42 41,.N 43 0] [1,7,9,35,36,37,41,42,43] (.block 2 (.loop (.o [.B 44 .lss 43 42] [1,7,9,35,36,37,41,42,43,44] (.f (.cond (.t 44) .skip (.exit 2)) [1,7,9,35,36,37,41,42,43] (.f (.block 3 (.o [.J 45 5 41 43,.L 46 5 45,.G 11 [(.lit (.int .i64 0)),(.lit (.int .i64 0)),.z,.emp,.emp],.S 5 11 46] [1,7,9,11,35,36,37,41,42,43] (.y [.M 47 7,.A 48 0 9,.F 49 1 48,.A 50 0 11,.F 51 1 50,.B 52 .add 49 51,.A 53 1 9,.F 54 1 53,.A 55 1 11,.F 56 1 55,.B 57 .add 54 56,.A 58 2 9,.L 59 3 58,.A 60 2 11,.L 61 3 60,.D 62 f2 59 61,.u 63 (.build [.x 1 (.t 52),.x 1 (.t 57),.x 3 (.t 62)]),.u 64 (.row 5 [[.x 5 (.t 63)]]),.u 65 (.app 5 (.t 47) (.t 64)),.M 7 65]))) [1,7,9,35,36,37,41,42,43] (.p [.I 66 .add 43 1,.M 43 66]))))))))) [1,7,35,36,37] (.p [.I 67 .add 37 1,.M 37 67]))))))) [7] (.seq (.p [.M 68 7,.H 69 f3 68,.M 4 69,.N 5 0]) .ret))))))
theorem xaL(hΓ:Holds P Γ){f fk fd fm fs m:Nat}(hm:10000<=m)(hk:Γ fk=.dat false Jo)(hd:Γ fd=.dat true xq)(hmu:Γ fm=.dat false Ql)(hs:Γ fs=.dat false (Jk m))(hc:check P f=some (70,(uc fk fd fm fs).strip,[.tmp 4,.tmp 5])):Sound P f (.dat false Qz):=by
 refine Qa hc YaO hΓ (λargs K hcl hfi hG=>?_);match args,hG with
 | [a,b],hG=>
  obtain⟨p,rfl,hwp,q,rfl,hwq,hp,hq,hsz,hK⟩:=hG;refine⟨by simp,?_⟩
  have hp' : ∀t∈p,rl t.2.2<=4294967296:=λt ht=>Nat.le_trans (hp t ht) (by decide)
  have hq' : ∀t∈q,rl t.2.2<=4294967296:=λt ht=>Nat.le_trans (hq t ht) (by decide)
  by_cases h0:chk2 p q=0
  rotate_left
  .have e1:mulC p q=chk2 p q:=if_pos h0;rw [e1,uw h0]at hK;simp only [go_sem,uc,hk,hs,h0];exact⟨⟨hwp,hwq⟩,hp',hq',hK⟩
  obtain⟨c1,c2⟩:=Zz h0;obtain⟨i1,j1,l1⟩:=kh c1 hwp;obtain⟨i2,j2,l2⟩:=kh c2 hwq;by_cases h1:p≠[]/\q≠[]/\24<degM p+degM q
  .have e1:mulC p q=4:=by unfold mulC;rw [if_neg (by simp [h0]),if_pos h1]
   rw [e1,uw (by decide)]at hK
   obtain⟨g1,g2,g3⟩:=h1;have n1:(0:Int)<(p.length:Int):=by have:=List.length_pos_iff.2 g1;omega
   have n2:(0:Int)<(q.length:Int):=by have:=List.length_pos_iff.2 g2;omega
   obtain⟨k1,e1⟩:=zf c1 hwp;obtain⟨k2,e2⟩:=zf c2 hwq;have d1:degM p=degB (p.map mv):=by rw [<-ve,e1]
   have d2:degM q=degB (q.map mv):=by rw [<-ve,e2]
   have b1:=Xt k1;have b2:=Xt k2;simp only [go_sem,uc,hk,hd,hs,h0,n1,n2,g3];exact⟨⟨hwp,hwq⟩,hp',hq',λ_ _=>⟨hwp,i1,by omega,hwq,i2,by omega,⟨by omega,by omega⟩,hK⟩⟩
  .have e1:mulC p q=0:=by unfold mulC;rw [if_neg (by simp [h0]),if_neg h1]
   rw [e1,jz]at hK;obtain⟨hin,hl⟩:=Zbw hwp hwq h0 h1;obtain⟨k1,q1⟩:=zf c1 hwp;obtain⟨k2,q2⟩:=zf c2 hwq;have d1:degM p=degB (p.map mv):=by rw [<-ve,q1]
   have d2:degM q=degB (q.map mv):=by rw [<-ve,q2]
   have b1:=Xt k1;have b2:=Xt k2;simp only [go_sem,uc,hk,hd,hs,h0];refine⟨⟨hwp,hwq⟩,hp',hq',λ_=>⟨λn1 _=>⟨λn2=>⟨hwp,i1,by omega,hwq,i2,by omega,⟨by omega,by omega⟩,λh=>?_,λ_ _=>?_⟩,λ_ _=>?_⟩,λ_ _=>?_⟩⟩
   .exact absurd ⟨List.length_pos_iff.1 (by omega),List.length_pos_iff.1 (by omega),h⟩ h1
   all_goals
    have hmb:mulB (p.map mv) (q.map mv)=nf ((prodM p q).map mv):=by unfold mulB;rw [xy]
    have hpo:=Xaz hwp hwq hp hq hin;have hpl:(prodM p q).length<=m:=by rw [QC];omega
    have hps:sz ((prodM p q).map mv)<=1000000000:=by
     rw [xy];have h1:=vV (p.map mv) (q.map mv);rw [List.length_map,List.length_map]at h1;have h2:=Nat.mul_le_mul l2 (Nat.le_refl (sz (p.map mv)));have h3:=Nat.mul_le_mul l1 (Nat.le_refl (sz (q.map mv)));omega
    rw [hmb]at hK;refine ja (λk:Nat=>if prodM (p.take k) q=[] then ⟨mkV [(1,msA q),(7,.one .emp),(35,msA p),(36,.one (.lit (.int .i64 p.length))),(37,.one (.lit (.int .i64 k)))],mkH []⟩
      else ⟨mkV [(1,msA q),(7,.one (.own 65 1 5 0 (prodM (p.take k) q).length)),(35,msA p),(36,.one (.lit (.int .i64 p.length))),(37,.one (.lit (.int .i64 k)))],mkH [(65,⟨1,some ⟨(prodM (p.take k) q).map mC,5,true⟩⟩)]⟩) (λk=>k<=p.length) (λk=>p.length-k) 0 ?_ ?_ ?_
    .have e00:prodM (p.take 0) q=[]:=rfl;rw [if_pos e00];exact za (by simp [bitvec_to_nat,msA,ms]) trivial
    .exact Nat.zero_le _
    .intro k hk2;by_cases hlt:k<p.length
     .obtain⟨x,hx⟩:∃x,p.getD k mo0=x:=⟨_,rfl⟩;have hx0:=getDm hlt hx;have hxm:=List.mem_of_getElem? hx0;have hpt:=wQ (q:=q) hx0;obtain⟨x1,x2,x3⟩:=i1 x hxm;have hwx:=(hwp x hxm).2.2;have hrx:=hp x hxm;obtain⟨A,hA⟩:∃A,prodM (p.take k) q=A:=⟨_,rfl⟩;rw [hA]at hpt;have hAl:A.length<=400000:=by
       rw [<-hA,QC,List.length_take];have:=Nat.mul_le_mul (show min k p.length<=325 by omega) l2
       omega
      by_cases hA0:A=[]
      .have hA':=hA;rw [hA0]at hA';simp only [go_sem,hlt,hx,hA',mC];intro _;refine ja (λj:Nat=>if A++(q.take j).map (λb=>prodT x b)=[] then ⟨mkV [(1,msA q),(7,.one .emp),(9,.one (.ptr 9 1 0 0)),(35,msA p),(36,.one (.lit (.int .i64 p.length))),(37,.one (.lit (.int .i64 k))),(41,msA q),(42,.one (.lit (.int .i64 q.length))),(43,.one (.lit (.int .i64 j)))],mkH [(9,⟨1,some ⟨[mC x],5,true⟩⟩)]⟩
         else ⟨mkV [(1,msA q),(7,.one (.own 65 1 5 0 (A++(q.take j).map (λb=>prodT x b)).length)),(9,.one (.ptr 9 1 0 0)),(35,msA p),(36,.one (.lit (.int .i64 p.length))),(37,.one (.lit (.int .i64 k))),(41,msA q),(42,.one (.lit (.int .i64 q.length))),(43,.one (.lit (.int .i64 j)))],mkH [(9,⟨1,some ⟨[mC x],5,true⟩⟩),(65,⟨1,some ⟨(A++(q.take j).map (λb=>prodT x b)).map mC,5,true⟩⟩)]⟩) (λj=>j<=q.length) (λj=>q.length-j) 0 ?_ ?_ ?_
       .have e0:A++(q.take 0).map (λb=>prodT x b)=A:=by simp
        rw [e0]
        first
         | (rw [if_pos hA0];exact za (by simp [bitvec_to_nat,msA,ms]) ⟨Xb (l':=[x]) rfl,trivial⟩)
         | (rw [if_neg hA0];exact za (by simp [bitvec_to_nat,msA,ms]) ⟨Xb (l':=[x]) rfl,Xb rfl,trivial⟩)
       .exact Nat.zero_le _
       .intro j hj2;by_cases hlj:j<q.length
        .obtain⟨y,hy⟩:∃y,q.getD j mo0=y:=⟨_,rfl⟩;have hy0:=getDm hlj hy;have hym:=List.mem_of_getElem? hy0;obtain⟨y1,y2,y3⟩:=i2 y hym;have hwy:=(hwq y hym).2.2;have hry:=hq y hym;have hqt:A++(q.take (j+1)).map (λb=>prodT x b)=A++(q.take j).map (λb=>prodT x b)++[prodT x y]:=by rw [List.take_add_one,hy0];simp
         obtain⟨B,hB⟩:∃B,A++(q.take j).map (λb=>prodT x b)=B:=⟨_,rfl⟩;rw [hB]at hqt;have hBl:B.length<=500000:=by
          rw [<-hB,List.length_append,List.length_map,List.length_take];omega
         by_cases hB0:B=[]
         .rw [hB0]at hB;simp only [go_sem,hlj,hy,hB,hmu,mC];refine⟨⟨by omega,by omega⟩,⟨by omega,by omega⟩,hwx,hwy,by omega,by omega,λe he=>by rw [List.mem_singleton.1 he];rfl,?_⟩
          repeat first | refine q_Wk ?_ | intro _
          refine⟨j+1,?_,by omega,by omega⟩
          rw [hqt,if_neg (by simp)]
          exact za (by simp [bitvec_to_nat,msA,ms,hB0]) ⟨Xb (l':=[x]) rfl,Xb (by rw [hB0];simp [mC,prodT]),trivial⟩
         .simp only [go_sem,hlj,hy,hB,hB0,hmu,mC];refine⟨⟨by omega,by omega⟩,⟨by omega,by omega⟩,hwx,hwy,by omega,by omega,λe he=>by rw [List.mem_singleton.1 he];rfl,?_⟩
          repeat first | refine q_Wk ?_ | intro _
          refine⟨j+1,?_,by omega,by omega⟩
          rw [hqt,if_neg (by simp)]
          exact za (by simp [bitvec_to_nat,msA,ms]) ⟨Xb (l':=[x]) rfl,Xb (by simp [mC,prodT]),trivial⟩
        .have ej:A++(q.take j).map (λb=>prodT x b)=prodM (p.take (k+1)) q:=by rw [hpt,List.take_of_length_le (by omega)]
         obtain⟨B,hB⟩:∃B,prodM (p.take (k+1)) q=B:=⟨_,rfl⟩;rw [hB]at ej;by_cases hB0:B=[]
         .rw [hB0]at ej;simp only [go_sem,hlj,ej,mC];repeat first | refine q_Wk ?_ | intro _
          refine⟨k+1,?_,by omega,by omega⟩
          rw [hB,if_pos hB0];exact za (by simp [bitvec_to_nat,msA,ms]) trivial
         .simp only [go_sem,hlj,ej,hB0,mC];repeat first | refine q_Wk ?_ | intro _
          refine⟨k+1,?_,by omega,by omega⟩
          rw [hB,if_neg hB0];exact za (by simp [bitvec_to_nat,msA,ms]) ⟨Xb rfl,trivial⟩
      .simp only [go_sem,hlt,hx,hA,hA0,mC];intro _;refine ja (λj:Nat=>if A++(q.take j).map (λb=>prodT x b)=[] then ⟨mkV [(1,msA q),(7,.one .emp),(9,.one (.ptr 9 1 0 0)),(35,msA p),(36,.one (.lit (.int .i64 p.length))),(37,.one (.lit (.int .i64 k))),(41,msA q),(42,.one (.lit (.int .i64 q.length))),(43,.one (.lit (.int .i64 j)))],mkH [(9,⟨1,some ⟨[mC x],5,true⟩⟩)]⟩
         else ⟨mkV [(1,msA q),(7,.one (.own 65 1 5 0 (A++(q.take j).map (λb=>prodT x b)).length)),(9,.one (.ptr 9 1 0 0)),(35,msA p),(36,.one (.lit (.int .i64 p.length))),(37,.one (.lit (.int .i64 k))),(41,msA q),(42,.one (.lit (.int .i64 q.length))),(43,.one (.lit (.int .i64 j)))],mkH [(9,⟨1,some ⟨[mC x],5,true⟩⟩),(65,⟨1,some ⟨(A++(q.take j).map (λb=>prodT x b)).map mC,5,true⟩⟩)]⟩) (λj=>j<=q.length) (λj=>q.length-j) 0 ?_ ?_ ?_
       .have e0:A++(q.take 0).map (λb=>prodT x b)=A:=by simp
        rw [e0]
        first
         | (rw [if_pos hA0];exact za (by simp [bitvec_to_nat,msA,ms]) ⟨Xb (l':=[x]) rfl,trivial⟩)
         | (rw [if_neg hA0];exact za (by simp [bitvec_to_nat,msA,ms]) ⟨Xb (l':=[x]) rfl,Xb rfl,trivial⟩)
       .exact Nat.zero_le _
       .intro j hj2;by_cases hlj:j<q.length
        .obtain⟨y,hy⟩:∃y,q.getD j mo0=y:=⟨_,rfl⟩;have hy0:=getDm hlj hy;have hym:=List.mem_of_getElem? hy0;obtain⟨y1,y2,y3⟩:=i2 y hym;have hwy:=(hwq y hym).2.2;have hry:=hq y hym;have hqt:A++(q.take (j+1)).map (λb=>prodT x b)=A++(q.take j).map (λb=>prodT x b)++[prodT x y]:=by rw [List.take_add_one,hy0];simp
         obtain⟨B,hB⟩:∃B,A++(q.take j).map (λb=>prodT x b)=B:=⟨_,rfl⟩;rw [hB]at hqt;have hBl:B.length<=500000:=by
          rw [<-hB,List.length_append,List.length_map,List.length_take];omega
         by_cases hB0:B=[]
         .rw [hB0]at hB;simp only [go_sem,hlj,hy,hB,hmu,mC];refine⟨⟨by omega,by omega⟩,⟨by omega,by omega⟩,hwx,hwy,by omega,by omega,λe he=>by rw [List.mem_singleton.1 he];rfl,?_⟩
          repeat first | refine q_Wk ?_ | intro _
          refine⟨j+1,?_,by omega,by omega⟩
          rw [hqt,if_neg (by simp)]
          exact za (by simp [bitvec_to_nat,msA,ms,hB0]) ⟨Xb (l':=[x]) rfl,Xb (by rw [hB0];simp [mC,prodT]),trivial⟩
         .simp only [go_sem,hlj,hy,hB,hB0,hmu,mC];refine⟨⟨by omega,by omega⟩,⟨by omega,by omega⟩,hwx,hwy,by omega,by omega,λe he=>by rw [List.mem_singleton.1 he];rfl,?_⟩
          repeat first | refine q_Wk ?_ | intro _
          refine⟨j+1,?_,by omega,by omega⟩
          rw [hqt,if_neg (by simp)]
          exact za (by simp [bitvec_to_nat,msA,ms]) ⟨Xb (l':=[x]) rfl,Xb (by simp [mC,prodT]),trivial⟩
        .have ej:A++(q.take j).map (λb=>prodT x b)=prodM (p.take (k+1)) q:=by rw [hpt,List.take_of_length_le (by omega)]
         obtain⟨B,hB⟩:∃B,prodM (p.take (k+1)) q=B:=⟨_,rfl⟩;rw [hB]at ej;by_cases hB0:B=[]
         .rw [hB0]at ej;simp only [go_sem,hlj,ej,mC];repeat first | refine q_Wk ?_ | intro _
          refine⟨k+1,?_,by omega,by omega⟩
          rw [hB,if_pos hB0];exact za (by simp [bitvec_to_nat,msA,ms]) trivial
         .simp only [go_sem,hlj,ej,hB0,mC];repeat first | refine q_Wk ?_ | intro _
          refine⟨k+1,?_,by omega,by omega⟩
          rw [hB,if_neg hB0];exact za (by simp [bitvec_to_nat,msA,ms]) ⟨Xb rfl,trivial⟩
     .have ek:p.take k=p:=List.take_of_length_le (by omega)
      by_cases hA0:prodM p q=[]
      .rw [hA0]at hK;simp only [go_sem,hlt,ek,hA0,hs];exact⟨by simp,by omega,by simp [sz],hK⟩
      .simp only [go_sem,hlt,ek,hA0,hs];exact⟨λt ht=>(hpo t ht).1,λt ht=>(hpo t ht).2,hpl,hps,hK⟩
end Go.Abs
end
section
namespace Go.Num
open Go.Abs
theorem wbC{b:Nat}:∀{l:BQ},(∀t∈l,rz t.2.2<=b)->sz l<=l.length*(b+2)
 | [],_=>by simp [sz]
 | t::l,h=>by
  have h1:=h t (by simp)
  have h2:=wbC (l:=l) λu hu=>h u (by simp [hu])
  simp only [sz,List.length_cons,Nat.add_mul,Nat.one_mul];omega
theorem Xal{x:R}(h:lowR x=true):rl x<=1:=by
 unfold lowR lowB at h;simp only [Bool.and_eq_true,decide_eq_true_eq]at h;unfold rl;omega
theorem PB.wl{d s:Nat}{p:BQ}(h:PB d s p):∀t∈mcs p,WLM t:=waj h.canon.ins
theorem PB.rl{d s:Nat}{p:BQ}(h:PB d s p):∀t∈mcs p,rl t.2.2<=s:=λt ht=>by
 obtain⟨u,hu,rfl⟩:=List.mem_map.1 ht;have h1:rz u.2.2<=sz p:=Vaj hu;have h2:=h.size;show rz u.2.2<=s;omega
theorem PB.chk{d s d' s' : Nat}{p q:BQ}(h:PB d s p)(k:PB d' s' q):chk2 (mcs p) (mcs q)=0:=Uaw h.canon k.canon
theorem PB.mulC{d s d' s' : Nat}{p q:BQ}(h:PB d s p)(k:PB d' s' q)(hd:d+d'<=24):mulC (mcs p) (mcs q)=0:=ybc h.canon k.canon (by
 have h1:=ZaY h.canon h.deg;have h2:=ZaY k.canon k.deg;omega)
theorem PB.ev{d s m n:Nat}{p:BQ}(h:PB d s p)(hl:p.length<=m){x y:Rat}(hx:rz x<=n)(hy:rz y<=n):rz (ev p x y)<=s+m*(48*(n+2)+8):=by
 have h1:=WbY h.canon.ins x y;have h2:=h.size;have h3:=Nat.mul_le_mul hl (show 24*(rz x+2)+24*(rz y+2)+8<=48*(n+2)+8 by omega)
 omega
end Go.Num
namespace Go.Abs
open Go.Num
variable {P:Program} {Γ:Nat->Spec}
def kU(l:List AV)(K:AV->Prop):Prop:=
 match l with
 | [a,b,c]=>onMs (λp=>onMs (λq=>onA (λx=>(p.length<=1048576/\∀t∈p,rl t.2.2<=1048576)/\(q.length<=1048576/\∀t∈q,rl t.2.2<=1048576)/\al x<=1048576/\K (.one (.lit (.bool true)))) c) b) a
 | _=>False
theorem ZaA:type_of% @kU.eq_1:=q_E @kU.eq_1
@[congr] theorem jbQ{K}{l l'}(h:l=l'):kU l K=kU l' K:=h▸rfl
attribute [go_sem,go_sem ↓] ZaA
end Go.Abs
end
section
namespace Go.Num
open Go.Abs
theorem YaA{p:List Mo}(h:shortM p=true)(hw:∀t∈p,WLM t):p.length<=400/\(∀t∈p,rl t.2.2<=1)/\sz (p.map mv)<=1200:=by
 unfold shortM at h;simp only [Bool.and_eq_true,Bool.not_eq_true',List.all_eq_true]at h;obtain⟨h1,h4⟩:=h;unfold longM at h1;simp only [Bool.or_eq_false_iff,Bool.and_eq_false_iff,decide_eq_false_iff_not]at h1;have hl:p.length<=400:=by omega
 refine⟨hl,λt ht=>Xal (h4 t ht),?_⟩;have:=wbC (b:=1) (l:=p.map mv) λt ht=>by
  obtain⟨u,hu,rfl⟩:=List.mem_map.1 ht;exact Nat.le_trans (ZA (hw u hu).2.2) (Xal (h4 u hu))
 rw [List.length_map]at this;omega
theorem VU{c:Nat}{X:BQ}{n:Nat}(h:c=0->InQ X/\sz X<=n):(∀t∈bres c X,WLM t)/\(∀t∈bres c X,rl t.2.2<=n)/\(bres c X).length<=n:=by
 by_cases hc:c=0
 .obtain⟨h1,h2⟩:=h hc;rw [hc,jz];refine⟨waj h1,λt ht=>?_,?_⟩
  .obtain⟨u,hu,rfl⟩:=List.mem_map.1 ht;have:rz u.2.2<=sz X:=Vaj hu;show rz u.2.2<=n;omega
  .have:=YbE X;unfold mcs;rw [List.length_map];omega
 .rw [uw hc];exact⟨λt ht=>by simp at ht,λt ht=>by simp at ht,Nat.zero_le _⟩
end Go.Num
namespace Go.Abs
open Go.Num
variable {P:Program} {Γ:Nat->Spec}
def Vu(l:List AV)(K:AV->Prop):Prop:=
 match l with
 | [a,b,c]=>onMs (λp=>onMs (λq=>onR (λu=>(p.length<=1048576/\∀t∈p,rl t.2.2<=1048576)/\(q.length<=1048576/\∀t∈q,rl t.2.2<=1048576)/\rl u<=1048576/\K (.one (.lit (.bool true)))) c) b) a
 | _=>False
theorem Vay:type_of% @Vu.eq_1:=q_E @Vu.eq_1
@[congr] theorem zbN{K}{l l'}(h:l=l'):Vu l K=Vu l' K:=h▸rfl
attribute [go_sem,go_sem ↓] Vay
theorem ZaL:Good Vu:=Ja λas=>by
 unfold Vu;split
 .exact(xd λ_=>(xd λ_=>(zo λ_=>(.and λ_=>(.and λ_=>(.and λ_=>(.ret _)))))))
 .exact .of λK hk=>hk.elim
def Qb(f0 f1 f2 f3 f4 f5 f6 f7 f8 f9 f10 f11 f12:Nat):AC:=(.o [.K 5 3 2,.m 6 .fa] [0,1,5] (.f (.o [.M 23 0,.M 24 1,.u 25 (.row 1 [[.x 1 (.t 23)],[.x 1 (.t 24)]]),.H 26 f0 25,.u 27 (.un .not (.t 26)),.M 28 27,.U 29 28 false 3 true 5,.w 30 28 false (.row 3 [[.x 3 (.t 29)]]),.W 31 28 false f1 30,.w 32 28 false (.un .not (.t 31)),.Q 33 28 32,.M 34 33,.w 35 34 false (.call f2 []),.w 36 34 false (.un .not (.t 35)),.Q 37 34 36] [0,1,5,37] (.cond (.t 37) (.seq (.p [.u 38 (.call f2 []),.M 6 38]) .ret) .skip)) [0,1,5] (.o [.M 40 0,.M 41 1,.D 42 f3 40 41,.M 39 42,.X 43 0 39,.X 44 1 39,.M 7 43,.M 8 44] [0,1,5,7,8] (.o [.M 46 0,.M 47 1,.D 48 f4 46 47,.M 45 48,.X 49 0 45,.X 50 1 45,.M 9 49,.M 10 50] [0,1,5,7,8,9,10] (.o [.M 52 0,.M 53 1,.D 54 f5 52 53,.M 51 54,.X 55 0 51,.X 56 1 51,.M 11 55,.M 12 56] [0,1,5,7,8,9,10,11,12] (.o [.M 58 0,.L 59 3 5,.D 60 f6 58 59,.M 57 60,.X 61 0 57,.X 62 1 57,.M 13 61,.M 14 62] [0,1,5,7,8,9,10,11,12,13,14] (.o [.M 64 0,.M 65 1,.D 66 f7 64 65,.M 63 66,.X 67 0 63,.X 68 1 63,.M 15 67,.M 16 68] [0,1,5,7,8,9,10,11,12,13,14,15,16] (.o [.M 70 0,.M 71 1,.D 72 f8 70 71,.M 69 72,.X 73 0 69,.X 74 1 69,.M 17 73,.M 18 74] [0,1,5,7,8,9,10,11,12,13,14,15,16,17,18] (.o [.M 76 0,.M 77 1,.D 78 f9 76 77,.M 75 78,.X 79 0 75,.X 80 1 75,.M 19 79,.M 20 80] [0,5,7,8,9,10,11,12,13,14,15,16,17,18,19,20] (.o [.M 82 0,.L 83 3 5,.D 84 f10 82 83,.M 81 84,.X 85 0 81,.X 86 1 81,.M 21 85,.M 22 86] [7,8,9,10,11,12,13,14,15,16,17,18,19,20,21,22] (.seq (.p [.M 87 8,.H 88 f11 87,.M 89 16,.B 90 .eql 88 89,.M 91 90,.V 92 91 true 7,.V 93 91 true 15,.Y 94 91 true f12 92 93,.P 95 91 94,.M 96 95,.V 97 96 true 10,.W 98 96 true f11 97,.V 99 96 true 18,.w 100 96 true (.bin .eql (.t 98) (.t 99)),.P 101 96 100,.M 102 101,.V 103 102 true 9,.V 104 102 true 17,.Y 105 102 true f12 103 104,.P 106 102 105,.M 107 106,.V 108 107 true 12,.W 109 107 true f11 108,.V 110 107 true 20,.w 111 107 true (.bin .eql (.t 109) (.t 110)),.P 112 107 111,.M 113 112,.V 114 113 true 11,.V 115 113 true 19,.Y 116 113 true f12 114 115,.P 117 113 116,.M 118 117,.V 119 118 true 14,.W 120 118 true f11 119,.V 121 118 true 22,.w 122 118 true (.bin .eql (.t 120) (.t 121)),.P 123 118 122,.M 124 123,.V 125 124 true 13,.V 126 124 true 21,.Y 127 124 true f12 125 126,.P 128 124 127,.M 6 128]) .ret)))))))))))
theorem uam(hΓ:Holds P Γ){f fv fb fw f1 f2 f3 f4 g1 g2 g3 g4 fn fq tE:Nat}(hv:Γ fv=.dat false ui)(hb:Γ fb=.dat false Zn)(hw:Γ fw=.dat false qn)(h1' : Γ f1=.dat false (xz tE))(h2' : Γ f2=.dat false (yz tE))(h3' : Γ f3=.dat false (qx tE))(h4' : Γ f4=.dat false (jn tE))
  (r1' : Γ g1=.dat false Vz) (r2' : Γ g2=.dat false Uz) (r3' : Γ g3=.dat false Qz) (r4' : Γ g4=.dat false Yn) (hn:Γ fn=.dat true (wz tE)) (hq:Γ fq=.dat false uk)
  (hc:check P f=some (129,(Qb fv fb fw f1 f2 f3 f4 g1 g2 g3 g4 fn fq).strip,[.tmp 6])):Sound P f (.dat true Vu):=by
 refine Qa hc ZaL hΓ (λargs K hcl hfi hG=>?_);match args,hG with
 | [a,b,c],hG=>
  obtain⟨p,rfl,hwp,q,rfl,hwq,u,rfl,hwu,⟨hlp,hrp⟩,⟨hlq,hrq⟩,hru,hK⟩:=hG;refine⟨by simp,?_⟩
  have g1:∀l∈[p,q],l.length<=10000000/\∀t∈l,rl t.2.2<=4294967296:=λl hl=>by
   simp only [List.mem_cons,List.not_mem_nil,or_false]at hl;rcases hl with rfl | rfl
   .exact⟨by omega,λt ht=>Nat.le_trans (hrp t ht) (by decide)⟩
   .exact⟨by omega,λt ht=>Nat.le_trans (hrq t ht) (by decide)⟩
  have g2:∀l∈[p,q],∀t∈l,WLM t:=λl hl=>by
   simp only [List.mem_cons,List.not_mem_nil,or_false]at hl;rcases hl with rfl | rfl <;> assumption
  have g3:∀y∈[u],WLR y:=λy hy=>by rw [List.mem_singleton.1 hy];exact hwu
  have g4:okRs 4294967296 [u]:=λy hy=>⟨g3 y hy,by rw [List.mem_singleton.1 hy];omega⟩
  cases h1:[p,q].all shortM with
  | false=>
   simp only [go_sem,Qb,hv,hw,ms,rA,h1];exact⟨g2,g1,hK⟩
  | true=>
  cases h2:[u].all lowR with
  | false=>
   simp only [go_sem,Qb,hv,hb,hw,ms,rA,h1,h2];refine⟨g2,g1,?_⟩;repeat refine q_Wr ?_
   exact hK
  | true=>
  obtain⟨lp,rp,sp⟩:=YaA (List.all_eq_true.1 h1 p (by simp)) hwp
  obtain⟨lq,rq,sq⟩:=YaA (List.all_eq_true.1 h1 q (by simp)) hwq
  have ru:rl u<=1:=Xal (List.all_eq_true.1 h2 u (by simp))
  have zu:=ZA hwu;obtain⟨X1,hX1⟩:∃X,bres (chk2 p q) (addB (p.map mv) (q.map mv))=X:=⟨_,rfl⟩;obtain⟨X2,hX2⟩:∃X,bres (chk2 p q) (subB (p.map mv) (q.map mv))=X:=⟨_,rfl⟩;obtain⟨X3,hX3⟩:∃X,bres (mulC p q) (mulB (p.map mv) (q.map mv))=X:=⟨_,rfl⟩;obtain⟨X4,hX4⟩:∃X,bres (chkB p) (sclB (rv u) (p.map mv))=X:=⟨_,rfl⟩;have o1:=VU (c:=chk2 p q) (X:=addB (p.map mv) (q.map mv)) (n:=1000000) λh=>by
   obtain⟨c1,c2⟩:=Zz h;refine⟨(Jl (qi.2 ⟨(zf c1 hwp).1.ins,(zf c2 hwq).1.ins⟩)).ins,?_⟩;have:=jU (p.map mv++q.map mv);rw [Jd]at this;unfold addB;omega
  have o2:=VU (c:=chk2 p q) (X:=subB (p.map mv) (q.map mv)) (n:=1000000) λh=>by
   obtain⟨c1,c2⟩:=Zz h;refine⟨(Jl (qi.2 ⟨(zf c1 hwp).1.ins,UW (zf c2 hwq).1.ins⟩)).ins,?_⟩;have:=jU (p.map mv++sclL (-1) (q.map mv));rw [Jd,YD]at this;unfold subB;omega
  have o3:=VU (c:=mulC p q) (X:=mulB (p.map mv) (q.map mv)) (n:=1000000) λh=>by
   have h0:chk2 p q=0:=by
    unfold mulC at h;split at h
    .rename_i h5;exact absurd h h5
    .rename_i h5;simpa using h5
   have h5:¬(p≠[]/\q≠[]/\24<degM p+degM q):=λh5=>by
    unfold mulC at h;rw [if_neg (by simp [h0]),if_pos h5]at h;simp at h
   refine⟨(Jl (Zbw hwp hwq h0 h5).1).ins,?_⟩;have h6:=jU (mulL (p.map mv) (q.map mv));have h7:=vV (p.map mv) (q.map mv);rw [List.length_map,List.length_map]at h7;have h8:=Nat.mul_le_mul lq sp;have h9:=Nat.mul_le_mul lp sq;unfold mulB;omega
  have o4:=VU (c:=chkB p) (X:=sclB (rv u) (p.map mv)) (n:=1000000) λh=>by
   refine⟨(Jl (UW (zf h hwp).1.ins)).ins,?_⟩;have h6:=jU (sclL (rv u) (p.map mv));have h7:=uK (rv u) (p.map mv);rw [List.length_map]at h7;have h8:=Nat.mul_le_mul lp (show rz (rv u)+2<=3 by omega)
   unfold sclB;omega
  rw [hX1]at o1;rw [hX2]at o2;rw [hX3]at o3;rw [hX4]at o4;obtain⟨w1,y1,l1⟩:=o1;obtain⟨w2,y2,l2⟩:=o2;obtain⟨w3,y3,l3⟩:=o3;obtain⟨w4,y4,l4⟩:=o4;have y1' : ∀t∈X1,rl t.2.2<=4294967296:=λt ht=>Nat.le_trans (y1 t ht) (by decide)
  have y2' : ∀t∈X2,rl t.2.2<=4294967296:=λt ht=>Nat.le_trans (y2 t ht) (by decide)
  have y3' : ∀t∈X3,rl t.2.2<=4294967296:=λt ht=>Nat.le_trans (y3 t ht) (by decide)
  have y4' : ∀t∈X4,rl t.2.2<=4294967296:=λt ht=>Nat.le_trans (y4 t ht) (by decide)
  have p9:∀t∈p,rl t.2.2<=1000000000:=λt ht=>Nat.le_trans (rp t ht) (by decide)
  have q9:∀t∈q,rl t.2.2<=1000000000:=λt ht=>Nat.le_trans (rq t ht) (by decide)
  have p4:∀t∈p,rl t.2.2<=4294967296:=λt ht=>Nat.le_trans (rp t ht) (by decide)
  have q4:∀t∈q,rl t.2.2<=4294967296:=λt ht=>Nat.le_trans (rq t ht) (by decide)
  have spq:sz (p.map mv)+sz (q.map mv)<=3000000:=by omega
  have sp9:sz (p.map mv)<=100000000:=by omega
  have ru6:rl u<=1000000:=by omega
  simp only [go_sem,Qb,hv,hb,hw,h1',h2',h3',h4',r1',r2',r3',r4',hn,hq,ms,rA,h1,h2,hX1,hX2,hX3,hX4];refine⟨g2,g1,?_⟩;repeat refine q_Wr ?_
  exact hK
end Go.Abs
end
