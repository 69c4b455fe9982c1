/-
  Parts of the proof, merged: BiqN.
-/
import Derived.Test.YthoibmokhnoccaaGreatDoorM13
set_option linter.unusedVariables false
set_option linter.unusedSimpArgs false
set_option maxRecDepth 100000
section
namespace Go.Num
open Go.Abs
theorem UaC{p:List Mo}(h:shortM p=true):∀t∈p,lowR t.2.2=true:=by
 unfold shortM at h;simp only [Bool.and_eq_true,List.all_eq_true]at h;exact h.2
theorem jbb:lcm60<=w22/\1000*lcm60<=w22/\0<lcm60:=by decide +kernel
theorem WaW{p q:List Mo}(hp:shortM p=true)(hq:shortM q=true):SmE (p.map mv) (q.map mv):=by
 obtain⟨n1,n2,n3⟩:=jbb;have g:∀{p:List Mo},shortM p=true->BdB lcm60 (1000*lcm60) (p.map mv):=λ{p} hp t ht=>by
  obtain⟨u,hu,rfl⟩:=List.mem_map.1 ht;exact Wbh (UaC hp u hu)
 exact⟨lcm60,1000*lcm60,n3,n1,n2,g hp,g hq⟩
theorem Ybn{p q:List Mo}(h:dnsM p q=false)(wp:∀t∈p,WLM t)(wq:∀t∈q,WLM t)(he:erC p q=0):degM p*degM q<=9/\topY (p.map mv)-1+(topY (q.map mv)-1)<=8:=by
 have h0:chk2 p q=0:=by
  unfold erC at he;split at he
  .rename_i h1;exact absurd he h1
  .rename_i h1;simpa using h1
 obtain⟨c1,c2⟩:=ZQ h0;unfold erC at he;rw [if_neg (by simp [h0])]at he
 split at he
 .simp at he
 .rename_i hne;split at he
  .simp at he
  .rename_i h8;have hp0:p≠[]:=λe=>hne (.inl e);have hq0:q≠[]:=λe=>hne (.inr e);obtain⟨k1,m1⟩:=We c1 wp;obtain⟨k2,m2⟩:=We c2 wq;have d3:=vv k1 (by simpa using hp0)
   have d4:=vv k2 (by simpa using hq0)
   rw [<-yd,m1]at d3;rw [<-yd,m2]at d4;have t3:=jv (p:=p.map mv) (by simpa using hp0)
   have t4:=jv (p:=q.map mv) (by simpa using hq0)
   refine⟨?_,by omega⟩
   unfold dnsM at h;simp only [c1,c2,decide_true,Bool.true_and,Bool.and_eq_false_iff,decide_eq_false_iff_not]at h;rcases h with h | h | h
   .have:degM p=0:=by omega
    rw [this,Int.zero_mul];decide
   .have:degM q=0:=by omega
    rw [this,Int.mul_zero];decide
   .omega
end Go.Num
namespace Go.Abs
open Go.Num
variable {P:Program} {Γ:Nat->Spec}
def Zh(f0:Nat):AC:=(.o [.m 4 .fa] [0,1] (.seq (.p [.M 5 0,.M 6 1,.D 7 f0 5 6,.M 4 7]) .ret))
theorem Jac(hΓ:Holds P Γ){f fr:Nat}(hr:Γ fr=.dat true Vr)(hc:check P f=some (8,(Zh fr).strip,[.tmp 4])):Sound P f (.dat true Vr):=by
 refine Qa hc QQ hΓ (λargs K hcl hfi hG=>?_);match args,hG with
 | [a,b],hG=>
  obtain⟨l,rfl,hl,m,rfl,hm,hok,hK⟩:=hG;refine⟨by simp,?_⟩
  simp only [go_sem,Zh,hr,rsA];exact⟨hl,hm,hok,hK⟩
def jO:q_T:=q_c3 λa b c K=>onMs (λp=>onMs (λq=>onA (λx=>(p.length<=1048576/\∀t∈p,rl t.2.2<=1048576)/\(q.length<=1048576/\∀t∈q,rl t.2.2<=1048576)/\al x<=1048576/\K (.one (.lit (.bool true)))) c) b) a
theorem jaM:Good jO:=q_g3 λ_ _ _=>(Ve λ_=>(Ve λ_=>(ybv λ_=>(.and λ_=>(.and λ_=>(.and λ_=>(.ret _)))))))
attribute [go_sem] jO
def jb(f0 f1 f2 f3 f4 f5 f6 f7 f8 f9 f10 f11 f12 f13 f14 f15:Nat):AC:=(.o [.K 5 6 2,.m 6 .fa] [0,1,5] (.f (.o [.M 31 0,.M 32 1,.u 33 (.row 1 [[.x 1 (.t 31)],[.x 1 (.t 32)]]),.H 34 f0 33,.u 35 (.un .not (.t 34)),.M 36 35,.w 37 36 false (.ai 3 2 (.t 5) (.i 0)),.U 38 36 false 3 true 37,.w 39 36 false (.ai 3 2 (.t 5) (.i 1)),.U 40 36 false 3 true 39,.w 41 36 false (.row 3 [[.x 3 (.t 38)],[.x 3 (.t 40)]]),.W 42 36 false f1 41,.w 43 36 false (.un .not (.t 42)),.Q 44 36 43,.M 45 44,.w 46 45 false (.call f2 []),.w 47 45 false (.un .not (.t 46)),.Q 48 45 47] [0,1,5,48] (.cond (.t 48) (.seq (.p [.u 49 (.call f2 []),.M 6 49]) .ret) .skip)) [0,1,5] (.o [.M 51 0,.u 52 (.ai 3 2 (.t 5) (.i 0)),.L 53 3 52,.u 54 (.ai 3 2 (.t 5) (.i 1)),.L 55 3 54,.E 56 f3 51 53 55,.M 50 56,.X 57 0 50,.X 58 1 50,.G 7 [.z,.emp,.emp],.S 3 7 57,.M 8 58] [0,1,5,7,8] (.o [.M 60 0,.u 61 (.call f4 [(.t 60),.fa]),.M 59 61,.X 62 0 59,.X 63 1 59,.M 9 62,.M 10 63] [0,1,5,7,8,9,10] (.o [.M 65 0,.u 66 (.call f4 [(.t 65),.tr]),.M 64 66,.X 67 0 64,.X 68 1 64,.M 11 67,.M 12 68] [0,1,5,7,8,9,10,11,12] (.o [.M 70 0,.u 71 (.ai 3 2 (.t 5) (.i 0)),.L 72 3 71,.u 73 (.call f5 [(.t 70),.fa,(.t 72)]),.M 69 73,.X 74 0 69,.X 75 1 69,.M 13 74,.M 14 75] [0,1,5,7,8,9,10,11,12,13,14] (.o [.M 77 0,.u 78 (.ai 3 2 (.t 5) (.i 1)),.L 79 3 78,.u 80 (.call f5 [(.t 77),.tr,(.t 79)]),.M 76 80,.X 81 0 76,.X 82 1 76,.M 15 81,.M 16 82] [0,1,5,7,8,9,10,11,12,13,14,15,16] (.o [.M 84 0,.u 85 (.ai 3 2 (.t 5) (.i 0)),.L 86 3 85,.u 87 (.ai 3 2 (.t 5) (.i 1)),.L 88 3 87,.E 89 f6 84 86 88,.M 83 89,.X 90 0 83,.X 91 1 83,.G 17 [.z,.emp,.emp],.S 3 17 90,.M 18 91] [0,1,5,7,8,9,10,11,12,13,14,15,16,17,18] (.o [.M 93 0,.u 94 (.call f7 [(.t 93),.fa]),.M 92 94,.X 95 0 92,.X 96 1 92,.M 19 95,.M 20 96] [0,1,5,7,8,9,10,11,12,13,14,15,16,17,18,19,20] (.o [.M 98 0,.u 99 (.call f7 [(.t 98),.tr]),.M 97 99,.X 100 0 97,.X 101 1 97,.M 21 100,.M 22 101] [0,1,5,7,8,9,10,11,12,13,14,15,16,17,18,19,20,21,22] (.o [.M 103 0,.u 104 (.ai 3 2 (.t 5) (.i 0)),.L 105 3 104,.u 106 (.call f8 [(.t 103),.fa,(.t 105)]),.M 102 106,.X 107 0 102,.X 108 1 102,.M 23 107,.M 24 108] [0,1,5,7,8,9,10,11,12,13,14,15,16,17,18,19,20,21,22,23,24] (.o [.M 110 0,.u 111 (.ai 3 2 (.t 5) (.i 1)),.L 112 3 111,.u 113 (.call f8 [(.t 110),.tr,(.t 112)]),.M 109 113,.X 114 0 109,.X 115 1 109,.M 25 114,.M 26 115] [0,1,7,8,9,10,11,12,13,14,15,16,17,18,19,20,21,22,23,24,25,26] (.f (.o [.M 116 8,.H 117 f9 116,.M 118 18,.B 119 .neq 117 118,.M 120 119,.U 121 120 false 3 true 7,.U 122 120 false 3 true 17,.Y 123 120 false f10 121 122,.w 124 120 false (.un .not (.t 123)),.Q 125 120 124,.M 126 125,.V 127 126 false 10,.W 128 126 false f9 127,.V 129 126 false 20,.w 130 126 false (.bin .neq (.t 128) (.t 129)),.Q 131 126 130,.M 132 131,.V 133 132 false 9,.V 134 132 false 19,.Y 135 132 false f11 133 134,.w 136 132 false (.un .not (.t 135)),.Q 137 132 136,.M 138 137,.V 139 138 false 12,.W 140 138 false f9 139,.V 141 138 false 22,.w 142 138 false (.bin .neq (.t 140) (.t 141)),.Q 143 138 142,.M 144 143,.V 145 144 false 11,.V 146 144 false 21,.Y 147 144 false f11 145 146,.w 148 144 false (.un .not (.t 147)),.Q 149 144 148,.M 150 149,.V 151 150 false 14,.W 152 150 false f9 151,.V 153 150 false 24,.w 154 150 false (.bin .neq (.t 152) (.t 153)),.Q 155 150 154,.M 156 155,.V 157 156 false 13,.V 158 156 false 23,.Y 159 156 false f12 157 158,.w 160 156 false (.un .not (.t 159)),.Q 161 156 160,.M 162 161,.V 163 162 false 16,.W 164 162 false f9 163,.V 165 162 false 26,.w 166 162 false (.bin .neq (.t 164) (.t 165)),.Q 167 162 166,.M 168 167,.V 169 168 false 15,.V 170 168 false 25,.Y 171 168 false f12 169 170,.w 172 168 false (.un .not (.t 171)),.Q 173 168 172] [0,1,173] (.cond (.t 173) (.seq (.p [.m 6 .fa]) .ret) .skip)) [0,1] (.f (.o [.M 174 0,.M 175 1,.D 176 f13 174 175] [0,1,176] (.cond (.t 176) (.seq (.p [.m 6 .tr]) .ret) .skip)) [0,1] (.o [.M 178 0,.M 179 1,.D 180 f14 178 179,.M 177 180,.X 181 0 177,.X 182 1 177,.M 27 181,.M 28 182] [0,1,27,28] (.o [.M 184 0,.M 185 1,.D 186 f15 184 185,.M 183 186,.X 187 0 183,.X 188 1 183,.M 29 187,.M 30 188] [27,28,29,30] (.seq (.p [.M 189 28,.H 190 f9 189,.M 191 30,.B 192 .eql 190 191,.M 193 192,.V 194 193 true 27,.V 195 193 true 29,.Y 196 193 true f12 194 195,.P 197 193 196,.M 6 197]) .ret)))))))))))))))))
set_option maxHeartbeats 4000000 in
theorem kax(hΓ:Holds P Γ){f fv fb fw b1 b2 b3 g1 g2 g3 fn s2 fq s5 fd be ge tE:Nat}(hv:Γ fv=.dat false yt)(hb:Γ fb=.dat false wy)(hw:Γ fw=.dat false vy)(h1' : Γ b1=.dat false (XD tE))(h2' : Γ b2=.dat false (ZD tE))(h3' : Γ b3=.dat false (uN tE))(r1' : Γ g1=.dat false qD)(r2' : Γ g2=.dat false JD)(r3' : Γ g3=.dat false XO)(hn:Γ fn=.dat true (kL tE))(hs2:Γ s2=.dat true Xv)(hq:Γ fq=.dat false uu)(hs5:Γ s5=.dat true Vr)(hd:Γ fd=.dat false Jx)(hbe:Γ be=.dat false (yz tE))(hge:Γ ge=.dat false VD)
  (hc:check P f=some (198,(jb fv fb fw b1 b2 b3 g1 g2 g3 fn s2 fq s5 fd be ge).strip,[.tmp 6])):Sound P f (.dat true jO):=by
 refine Qa hc jaM hΓ (λargs K hcl hfi hG=>?_);match args,hG with
 | [a,b,c],hG=>
  obtain⟨p,rfl,hwp,q,rfl,hwq,x,rfl,hwx,⟨hlp,hrp⟩,⟨hlq,hrq⟩,hax,hK⟩:=hG;refine⟨by simp,?_⟩
  obtain⟨u,v⟩:=x;have hwu:WLR u:=hwx.1;have hwv:WLR v:=hwx.2;have hru:rl u<=1048576:=Nat.le_trans (Nat.le_max_left _ _) hax;have hrv:rl v<=1048576:=Nat.le_trans (Nat.le_max_right _ _) hax;have g1:∀l∈[p,q],l.length<=10000000/\∀t∈l,rl t.2.2<=4294967296:=λl hl=>by
   simp only [List.mem_cons,List.not_mem_nil,or_false]at hl;rcases hl with rfl | rfl
   .exact⟨by omega,λt ht=>Nat.le_trans (hrp t ht) (by decide)⟩
   .exact⟨by omega,λt ht=>Nat.le_trans (hrq t ht) (by decide)⟩
  have g2:∀l∈[p,q],∀t∈l,WLM t:=λl hl=>by
   simp only [List.mem_cons,List.not_mem_nil,or_false]at hl;rcases hl with rfl | rfl <;> assumption
  have g3:∀y∈[u,v],WLR y:=λy hy=>by
   simp only [List.mem_cons,List.not_mem_nil,or_false]at hy;rcases hy with rfl | rfl <;> assumption
  have g4:okRs 4294967296 [u,v]:=λy hy=>⟨g3 y hy,by
   simp only [List.mem_cons,List.not_mem_nil,or_false]at hy;rcases hy with rfl | rfl <;> omega⟩
  cases h1:[p,q].all shortM with
  | false=>
   simp only [go_sem,jb,hv,hw,ms,aA,aC,h1];exact⟨g2,g1,hK⟩
  | true=>
  cases h2:[u,v].all lowR with
  | false=>
   simp only [go_sem,jb,hv,hb,hw,ms,aA,aC,h1,h2];refine⟨g2,g1,?_⟩;repeat refine q_Wr ?_
   exact hK
  | true=>
  have hp1:=List.all_eq_true.1 h1 p (by simp)
  have hq1:=List.all_eq_true.1 h1 q (by simp)
  obtain⟨lp,rp,sp⟩:=qan hp1 hwp;obtain⟨lq,rq,sq⟩:=qan hq1 hwq;have ru:rl u<=1:=UR (List.all_eq_true.1 h2 u (by simp))
  have rv1:rl v<=1:=UR (List.all_eq_true.1 h2 v (by simp))
  have zu:=qm hwu;have zv:=qm hwv;have ru4:rl u<=10000:=by omega
  have rv4:rl v<=10000:=by omega
  have p9:∀t∈p,rl t.2.2<=1000000000:=λt ht=>Nat.le_trans (rp t ht) (by decide)
  have q9:∀t∈q,rl t.2.2<=1000000000:=λt ht=>Nat.le_trans (rq t ht) (by decide)
  have p6:∀t∈p,rl t.2.2<=1000000:=λt ht=>Nat.le_trans (rp t ht) (by decide)
  have q6:∀t∈q,rl t.2.2<=1000000:=λt ht=>Nat.le_trans (rq t ht) (by decide)
  have p4:∀t∈p,rl t.2.2<=4294967296:=λt ht=>Nat.le_trans (rp t ht) (by decide)
  have q4:∀t∈q,rl t.2.2<=4294967296:=λt ht=>Nat.le_trans (rq t ht) (by decide)
  have sp9:sz (p.map mv)<=100000000:=by omega
  have hsm:=WaW hp1 hq1;have hinp:chkB p=0->InQ (p.map mv):=λh=>(We h hwp).1.ins;obtain⟨V,hV⟩:∃V,(if chkB p=0 then ev (p.map mv) (rv u) (rv v) else 0)=V:=⟨_,rfl⟩
  have bV:rz V<=4294967296:=by
   rw [<-hV];have z0:=rz_0;split
   .rename_i h;have w1:=zaX (hinp h) (rv u) (rv v);rw [List.length_map]at w1;have w3:=Nat.mul_le_mul lp (show 24*(rz (rv u)+2)+24*(rz (rv v)+2)+8<=24*10002+24*10002+8 by omega)
    omega
   .omega
  have oA:=λb=>qbb (c:=chkB p) (X:=dvB b (p.map mv)) (n:=1000000) λh=>by
   refine⟨(Zr (Uas (hinp h))).ins,?_⟩;have e1:=Uax (dvL b (p.map mv));have e2:=xZ (b:=b) (hinp h);unfold dvB;omega
  obtain⟨A1,hA1⟩:∃X,bres (chkB p) (dvB false (p.map mv))=X:=⟨_,rfl⟩;obtain⟨A2,hA2⟩:∃X,bres (chkB p) (dvB true (p.map mv))=X:=⟨_,rfl⟩;obtain⟨w1,y1,l1⟩:=oA false;obtain⟨w2,y2,l2⟩:=oA true;rw [hA1]at w1 y1 l1;rw [hA2]at w2 y2 l2;have y1' : ∀t∈A1,rl t.2.2<=4294967296:=λt ht=>Nat.le_trans (y1 t ht) (by decide)
  have y2' : ∀t∈A2,rl t.2.2<=4294967296:=λt ht=>Nat.le_trans (y2 t ht) (by decide)
  have oF:∀(b:Bool) (c:R),WLR c->rl c<=10000->okRs 4294967296 (if chkB p=0 then (trimL (fixL b (rv c) (p.map mv))).map rcan else []):=λb c wc lc=>by
   split
   .rename_i h;intro x hx;obtain⟨y,hy,rfl⟩:=List.mem_map.1 hx;refine⟨xj _,?_⟩;obtain⟨i,hi⟩:=List.getElem?_of_mem hy;have h3:(trimL (fixL b (rv c) (p.map mv))).getD i 0=y:=by rw [List.getD_eq_getElem?_getD,hi];rfl
    rw [XG]at h3;have zc:=qm wc;have h4:∀j,rz (fxB b (rv c) j (p.map mv))<=1000000000:=λj=>by
     have w1:=qaV b (rv c) j (hinp h);rw [List.length_map]at w1;have w3:=Nat.mul_le_mul lp (show 24*(rz (rv c)+2)+8<=24*10002+8 by omega)
     omega
    have h5:rz y<=1000000000:=by
     rw [<-h3];unfold fixL;by_cases hi25:i<25
     .rw [uf _ _ hi25];exact h4 i
     .rw [List.getD_eq_getElem?_getD,List.getElem?_eq_none (by rw [List.length_map,List.length_range];omega)]
      have:=rz_0;show rz 0<=_;omega
    exact Nat.le_trans h5 (by decide)
   .intro x hx;simp at hx
  obtain⟨F1,hF1⟩:∃X,(if chkB p=0 then (trimL (fixL false (rv u) (p.map mv))).map rcan else [])=X:=⟨_,rfl⟩
  obtain⟨F2,hF2⟩:∃X,(if chkB p=0 then (trimL (fixL true (rv v) (p.map mv))).map rcan else [])=X:=⟨_,rfl⟩
  have f1:=oF false u hwu ru4;have f2:=oF true v hwv rv4;rw [hF1]at f1;rw [hF2]at f2;have f1' : ∀x∈F1,WLR x:=λx hx=>(f1 x hx).1;have f2' : ∀x∈F2,WLR x:=λx hx=>(f2 x hx).1;obtain⟨E,hE⟩:∃E,(if erC p q=0 then elL (p.map mv) (q.map mv) else [])=E:=⟨_,rfl⟩
  simp (maxSteps:=2000000) only [go_sem,jb,hv,hb,hw,h1',h2',h3',r1',r2',r3',hn,hs2,hq,hs5,hd,hbe,hge,ms,aA,aC,h1,h2,hV,hA1,hA2,hF1,hF2,hE];refine⟨g2,g1,?_⟩;repeat refine q_Wr ?_
  refine⟨λ_=>hK,λhdn=>?_⟩;have hns:=λh=>Ybn hdn hwp hwq h;refine⟨hwp,hwq,p6,q6,λh=>⟨(hns h).1,hsm⟩,hwp,hwq,p6,q6,λ_=>hsm,λx hx=>?_,hK⟩;rw [<-hE]at hx;split at hx
  .rename_i h;have h0:chk2 p q=0:=by
    unfold erC at h;split at h
    .rename_i h9;exact absurd h h9
    .rename_i h9;simpa using h9
   obtain⟨c1,c2⟩:=ZQ h0;exact Nat.le_trans (Wbv (We c1 hwp).1 (We c2 hwq).1 hsm (hns h).2 x hx) (by decide)
  .simp at hx
end Go.Abs
end
