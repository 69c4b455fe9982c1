/-
  Parts of the proof, merged: GridB, GridC, GridT, GridD, GridE, GridF, GridG, GridH, CogL, IntC, IntD, IntE, IntF, IntG, IntH, IntK.
-/
import Derived.Test.YtjggkdaangghfaaGreatDoorM11
import Derived.Lib.BitFns
set_option linter.unusedVariables false
set_option linter.unusedSimpArgs false
set_option maxRecDepth 100000
section
namespace Go.Num
theorem kbg{g:Gr}(hg:g.length=49){i:Nat}(hi:i<7){j:Nat}(hj:j<=7):rzN (λl=>gat g i l) j<=gz g:=by
 have h1:=W2 (λl=>gat g i l) hj;have h2:rrN g 7 (i+1)<=rrN g 7 7:=YE g 7 (by omega)
 have h3:rrN g 7 (i+1)=rrN g 7 i+rzN (λl=>gat g i l) 7:=rfl;rw [vU hg]at h2;omega
theorem jbp{a b:Gr}(ha:a.length=49)(hb:b.length=49){i j k l:Nat}(hi:i<7)(hj:j<7)(hk:k<=7)(hk' : k<7∨l=0)(hl:l<=7):gz (plG a b i j k (pkG a b i j (pjG a b i (piG a b i) j) k) l)<=200*(gz a+gz b)+20000:=by
 have h1:=Wbu a b i;have h2:=xbp a b i (piG a b i) j;have h3:=ubo a b i j (pjG a b i (piG a b i) j) k;have h4:=vbr a b i j k (pkG a b i j (pjG a b i (piG a b i) j) k) l;have r1:rrN a 7 i<=gz a:=by rw [<-vU ha];exact YE a 7 (by omega)
 have r2:rrN b 7 k<=gz b:=by rw [<-vU hb];exact YE b 7 hk
 rw [vU hb]at h1 h2;have r3:=kbg ha hi (by omega:j<=7)
 have r4:rzN (λm=>gat b k m) l<=gz b:=by
  rcases hk' with h|h
  .exact kbg hb h hl
  .subst h;show 0<=_;omega
 have q:=xP a i j;have m1:i*(7*(196+gz b))<=7*(7*(196+gz b)):=Nat.mul_le_mul_right _ (by omega)
 have m2:j*(196+gz b)<=7*(196+gz b):=Nat.mul_le_mul_right _ (by omega)
 have m3:k*(7*(rz (gat a i j)+4))<=7*(7*(rz (gat a i j)+4)):=Nat.mul_le_mul_right _ hk;have m4:l*(rz (gat a i j)+4)<=7*(rz (gat a i j)+4):=Nat.mul_le_mul_right _ hl;omega
end Go.Num
namespace Go.Abs
open Go.Num
variable {P:Program} {Γ:Nat->Spec}
theorem YbF(h h' : Nat->HB):∀n,okL h h' (zrs n) (gC (List.replicate n 0))
 | 0=>trivial
 | n+1=>by
  rw [List.replicate_succ,vA,Qd];exact⟨rfl,rfl,rfl,YbF h h' n⟩
theorem Qbs{h h' : Nat->HB}{z:Nat}{b:Bool}:okB h h' (some ⟨[zrs 49],z,b⟩) (some ⟨[gC zG],z,b⟩):=
 ⟨⟨rfl,rfl⟩,.inr ⟨YbF h h' 49,trivial⟩⟩
def Ut(l:List AV)(K:AV->Prop):Prop:=
 match l with
 | [a,b]=>onG (λa=>onG (λb=>gz a+gz b<=20000000/\K (gA (prodG a b))) b) a
 | _=>False
theorem qau(a b:AV)(K:AV->Prop):Ut [a,b] K=(onG (λa=>onG (λb=>gz a+gz b<=20000000/\K (gA (prodG a b))) b) a):=propext Iff.rfl
@[congr] theorem qbO {K:AV->Prop} {l l' : List AV} (h:l=l'):Ut l K=Ut l' K:=by subst h;rfl
attribute [go_sem,go_sem ↓] qau
theorem YaG:Good Ut:=Wa λas=>by
 unfold Ut;split
 .exact(wa0 λ_=>(wa0 λ_=>(.and λ_=>(.ret _))))
 .exact .of λK hk=>hk.elim
def vf(f0 f1 f2:Nat):AC:=(.seq (.ops false [.u 2 (.box 147 (.t 0)),.u 3 (.box 147 (.t 1)),.u 4 (.alloc (zrs 49))])
 (.fg [2,3,4] (.seq (.ops false [.u 5 (.alloc (zrs 49))])
 (.fg [2,3,4,5] (.seq (.seq (.ops false [.m 10 (.i 0)])
 (.fg [2,3,4,5,10] (.block 0 (.loop (.seq (.ops false [.u 11 (.bin .lss (.t 10) (.i 7))])
 (.fg [2,3,4,5,10,11] (.seq (.cond (.t 11) .skip (.exit 0))
 (.fg [2,3,4,5,10] (.seq (.block 1 (.seq (.ops false [.m 12 (.t 10),.m 6 (.t 12)])
 (.fg [2,3,4,5,6,10] (.seq (.ops false [.m 13 (.i 0)])
 (.fg [2,3,4,5,6,10,13] (.block 2 (.loop (.seq (.ops false [.u 14 (.bin .lss (.t 13) (.i 7))])
 (.fg [2,3,4,5,6,10,13,14] (.seq (.cond (.t 14) .skip (.exit 2))
 (.fg [2,3,4,5,6,10,13] (.seq (.block 3 (.seq (.ops false [.m 15 (.t 13),.m 7 (.t 15)])
 (.fg [2,3,4,5,6,7,10,13] (.seq (.seq (.ops false [.m 16 (.t 6),.m 17 (.t 7),.u 18 (.ai 21 7 (.t 2) (.t 16)),.u 19 (.ai 3 7 (.t 18) (.t 17)),.u 20 (.ld none 3 true (.t 19)),.u 21 (.call f0 [(.t 20)])])
 (.fg [2,3,4,5,6,7,10,13,21] (.cond (.t 21) (.exit 3) .skip)))
 (.fg [2,3,4,5,6,7,10,13] (.seq (.ops false [.m 22 (.t 6),.u 23 (.bin .sub (.i 7) (.t 22)),.m 24 (.i 0)])
 (.fg [2,3,4,5,6,7,10,13,23,24] (.block 4 (.loop (.seq (.ops false [.u 25 (.bin .lss (.t 24) (.t 23))])
 (.fg [2,3,4,5,6,7,10,13,23,24,25] (.seq (.cond (.t 25) .skip (.exit 4))
 (.fg [2,3,4,5,6,7,10,13,23,24] (.seq (.block 5 (.seq (.ops false [.m 26 (.t 24),.m 8 (.t 26)])
 (.fg [2,3,4,5,6,7,8,10,13,23,24] (.seq (.ops false [.m 27 (.t 7),.u 28 (.bin .sub (.i 7) (.t 27)),.m 29 (.i 0)])
 (.fg [2,3,4,5,6,7,8,10,13,23,24,28,29] (.block 6 (.loop (.seq (.ops false [.u 30 (.bin .lss (.t 29) (.t 28))])
 (.fg [2,3,4,5,6,7,8,10,13,23,24,28,29,30] (.seq (.cond (.t 30) .skip (.exit 6))
 (.fg [2,3,4,5,6,7,8,10,13,23,24,28,29] (.seq (.block 7 (.seq (.ops false [.m 31 (.t 29),.m 9 (.t 31)])
 (.fg [2,3,4,5,6,7,8,9,10,13,23,24,28,29] (.ops true [.m 32 (.t 6),.m 33 (.t 8),.u 34 (.bin .add (.t 32) (.t 33)),.m 35 (.t 7),.m 36 (.t 9),.u 37 (.bin .add (.t 35) (.t 36)),.m 38 (.t 6),.m 39 (.t 8),.u 40 (.bin .add (.t 38) (.t 39)),.m 41 (.t 7),.m 42 (.t 9),.u 43 (.bin .add (.t 41) (.t 42)),.u 44 (.ai 21 7 (.t 5) (.t 40)),.u 45 (.ai 3 7 (.t 44) (.t 43)),.u 46 (.ld none 3 true (.t 45)),.m 47 (.t 6),.m 48 (.t 7),.u 49 (.ai 21 7 (.t 2) (.t 47)),.u 50 (.ai 3 7 (.t 49) (.t 48)),.u 51 (.ld none 3 true (.t 50)),.m 52 (.t 8),.m 53 (.t 9),.u 54 (.ai 21 7 (.t 3) (.t 52)),.u 55 (.ai 3 7 (.t 54) (.t 53)),.u 56 (.ld none 3 true (.t 55)),.u 57 (.call f1 [(.t 51),(.t 56)]),.u 58 (.call f2 [(.t 46),(.t 57)]),.u 59 (.ai 21 7 (.t 5) (.t 34)),.u 60 (.ai 3 7 (.t 59) (.t 37)),.n (.st none 3 (.t 60) (.t 58))]))))
 (.fg [2,3,4,5,6,7,8,10,13,23,24,28,29] (.ops false [.u 61 (.bin .add (.t 29) (.i 1)),.m 29 (.t 61)]))))))))))))))
 (.fg [2,3,4,5,6,7,10,13,23,24] (.ops false [.u 62 (.bin .add (.t 24) (.i 1)),.m 24 (.t 62)]))))))))))))))))
 (.fg [2,3,4,5,6,10,13] (.ops false [.u 63 (.bin .add (.t 13) (.i 1)),.m 13 (.t 63)]))))))))))))))
 (.fg [2,3,4,5,10] (.ops false [.u 64 (.bin .add (.t 10) (.i 1)),.m 10 (.t 64)])))))))))))
 (.fg [4,5] (.seq (.ops false [.u 65 (.ld none 147 true (.t 5)),.n (.st none 147 (.t 4) (.t 65))])
 .ret)))))))
set_option maxHeartbeats 1000000 in
theorem qao(hΓ:Holds P Γ){f fz fm fa:Nat}(hz' : Γ fz=.dat true jx)(hm:Γ fm=.dat false kj)(ha' : Γ fa=.dat false Zn)(hc:check P f=some (66,(vf fz fm fa).strip,[.cell 4 147 true])):Sound P f (.dat false Ut):=by
 refine ka hc YaG hΓ (λargs K hcl hfi hG=>?_);match args,hG with
 | [u,w],hG=>
  obtain⟨a,rfl,ha,b,rfl,hb,hz,hK⟩:=hG;refine⟨by simp,?_⟩
  have la:(gC a).length=147:=by rw [Uc,ha]
  have lb:(gC b).length=147:=by rw [Uc,hb]
  simp only [go_sem,vf,la,lb];refine Ya (λi:Nat=>⟨mkV [(2,.one (.ptr 2 1 0 0)),(3,.one (.ptr 3 1 0 0)),(4,.one (.ptr 4 1 0 0)),(5,.one (.ptr 5 1 0 0)),(10,.one (.lit (.int .i64 i)))],mkH [(2,⟨1,some ⟨[gC a],147,true⟩⟩),(3,⟨1,some ⟨[gC b],147,true⟩⟩),(4,⟨1,some ⟨[zrs 49],147,true⟩⟩),(5,⟨1,some ⟨[gC (piG a b i)],147,true⟩⟩)]⟩) (λi=>i<=7) (λi=>7-i) 0 ?_ ?_ ?_
  .exact Qa (by simp [okS,okV,okC,okL,okH,okB,okE,Za,Va,za,Ja,wsA,ws]) ⟨Ub (Ua _),Ub (Ua _),Ub (kk _),Qbs,trivial⟩
  .exact Nat.zero_le _
  .intro i hi;by_cases hlt:i<7
   .have hlt' : ((i:Nat):Int)<7:=by omega
    simp only [go_sem,hlt'];refine Ya (λj:Nat=>⟨mkV [(2,.one (.ptr 2 1 0 0)),(3,.one (.ptr 3 1 0 0)),(4,.one (.ptr 4 1 0 0)),(5,.one (.ptr 5 1 0 0)),(6,.one (.lit (.int .i64 i))),(10,.one (.lit (.int .i64 i))),(13,.one (.lit (.int .i64 j)))],mkH [(2,⟨1,some ⟨[gC a],147,true⟩⟩),(3,⟨1,some ⟨[gC b],147,true⟩⟩),(4,⟨1,some ⟨[zrs 49],147,true⟩⟩),(5,⟨1,some ⟨[gC (pjG a b i (piG a b i) j)],147,true⟩⟩)]⟩) (λj=>j<=7) (λj=>7-j) 0 ?_ ?_ ?_
    .exact Qa (by simp [okS,okV,okC,okL,okH,okB,okE,Za,Va,za,Ja,wsA,ws]) ⟨Ub (Ua _),Ub (Ua _),Ub (kk _),Ub (Ua _),trivial⟩
    .exact Nat.zero_le _
    .intro j hj;by_cases hlt2:j<7
     .have hlt2' : ((j:Nat):Int)<7:=by omega
      have hii:(i<7)=True:=eq_true hlt;have hjj:(j<7)=True:=eq_true hlt2;have ho:i*21+j*3=3*(i*7+j):=by omega
      obtain⟨q,hq⟩:∃q,gat a i j=q:=⟨_,rfl⟩;have g2:List.take 3 (List.drop (i*21+j*3) (gC a))=[cb (rcan q),cn (rcan q),cd (rcan q)]:=by rw [ho,zM (by omega)];unfold gat at hq;rw [hq];rfl
      have l2:(3<=(List.drop (i*21+j*3) (gC a)).length)=True:=eq_true (by rw [List.length_drop,Uc,ha];omega)
      have zq' : rz q<=20000000:=by rw [<-hq];have:=xP a i j;omega
      by_cases h0:q=0
      .have e0:decide (q=0)=true:=decide_eq_true h0;have ep:pjG a b i (piG a b i) (j+1)=pjG a b i (piG a b i) j:=by show(if gat a i j=0 then _ else _)=_;rw [hq,if_pos h0]
       simp only [go_sem,hlt',hlt2',hz',g2,l2,hii,hjj,Wb,e0];repeat first|refine ja (by with_reducible assumption) ?_|refine ja (Nat.le_trans (by with_reducible assumption) (by decide)) ?_|refine ja (by decide) ?_
       refine⟨by omega,j+1,Qa (by simp [okS,okV,okC,okL,okH,okB,okE,Za,Va,za,Ja,wsA,ws]) ⟨Ub (Ua _),Ub (Ua _),Ub (kk _),?_,trivial⟩,by omega,by omega⟩
       rw [ep];exact Ub (Ua _)
      .have e0:decide (q=0)=false:=decide_eq_false h0;simp only [go_sem,hlt',hlt2',hz',g2,l2,hii,hjj,Wb,e0];repeat first|refine ja (by with_reducible assumption) ?_|refine ja (Nat.le_trans (by with_reducible assumption) (by decide)) ?_|refine ja (by decide) ?_
       refine⟨⟨by omega,by omega⟩,?_⟩
       obtain⟨o,ho1⟩:∃o,pjG a b i (piG a b i) j=o:=⟨_,rfl⟩;have hol:o.length=49:=by rw [<-ho1];exact wH (qN i) j
       have ep:pjG a b i (piG a b i) (j+1)=pkG a b i j o (7-i):=by show(if gat a i j=0 then _ else _)=_;rw [hq,if_neg h0,ho1]
       refine Ya (λk:Nat=>⟨mkV [(2,.one (.ptr 2 1 0 0)),(3,.one (.ptr 3 1 0 0)),(4,.one (.ptr 4 1 0 0)),(5,.one (.ptr 5 1 0 0)),(6,.one (.lit (.int .i64 i))),(7,.one (.lit (.int .i64 j))),(10,.one (.lit (.int .i64 i))),(13,.one (.lit (.int .i64 j))),(23,.one (.lit (.int .i64 (7-(i:Int))))),(24,.one (.lit (.int .i64 k)))],mkH [(2,⟨1,some ⟨[gC a],147,true⟩⟩),(3,⟨1,some ⟨[gC b],147,true⟩⟩),(4,⟨1,some ⟨[zrs 49],147,true⟩⟩),(5,⟨1,some ⟨[gC (pkG a b i j o k)],147,true⟩⟩)]⟩) (λk=>k<=7-i) (λk=>7-i-k) 0 ?_ ?_ ?_
       .refine Qa (by simp [okS,okV,okC,okL,okH,okB,okE,Za,Va,za,Ja,wsA,ws]) ⟨Ub (Ua _),Ub (Ua _),Ub (kk _),?_,trivial⟩
        rw [ho1];exact Ub (Ua _)
       .exact Nat.zero_le _
       .intro k hk;by_cases hlt3:k<7-i
        .have hlt3' : ((k:Nat):Int)<7-(i:Int):=by omega
         simp only [go_sem,hlt3'];refine⟨⟨by omega,by omega⟩,?_⟩
         refine Ya (λl:Nat=>⟨mkV [(2,.one (.ptr 2 1 0 0)),(3,.one (.ptr 3 1 0 0)),(4,.one (.ptr 4 1 0 0)),(5,.one (.ptr 5 1 0 0)),(6,.one (.lit (.int .i64 i))),(7,.one (.lit (.int .i64 j))),(8,.one (.lit (.int .i64 k))),(10,.one (.lit (.int .i64 i))),(13,.one (.lit (.int .i64 j))),(23,.one (.lit (.int .i64 (7-(i:Int))))),(24,.one (.lit (.int .i64 k))),(28,.one (.lit (.int .i64 (7-(j:Int))))),(29,.one (.lit (.int .i64 l)))],mkH [(2,⟨1,some ⟨[gC a],147,true⟩⟩),(3,⟨1,some ⟨[gC b],147,true⟩⟩),(4,⟨1,some ⟨[zrs 49],147,true⟩⟩),(5,⟨1,some ⟨[gC (plG a b i j k (pkG a b i j o k) l)],147,true⟩⟩)]⟩) (λl=>l<=7-j) (λl=>7-j-l) 0 ?_ ?_ ?_
         .exact Qa (by simp [okS,okV,okC,okL,okH,okB,okE,Za,Va,za,Ja,wsA,ws]) ⟨Ub (Ua _),Ub (Ua _),Ub (kk _),Ub (Ua _),trivial⟩
         .exact Nat.zero_le _
         .intro l hl;by_cases hlt4:l<7-j
          .have hlt4' : ((l:Nat):Int)<7-(j:Int):=by omega
           have o1:((i:Int)+(k:Int)).toNat=i+k:=by omega
           have o2:((j:Int)+(l:Int)).toNat=j+l:=by omega
           have ho2:(i+k)*21+(j+l)*3=3*((i+k)*7+(j+l)):=by omega
           have ho3:k*21+l*3=3*(k*7+l):=by omega
           have hsz:=jbp ha hb (i:=i) (j:=j) (k:=k) (l:=l) hlt hlt2 (by omega) (.inl (by omega)) (by omega)
           rw [ho1]at hsz;obtain⟨A,hA⟩:∃A,plG a b i j k (pkG a b i j o k) l=A:=⟨_,rfl⟩;have hAl:A.length=49:=by rw [<-hA];exact vL (kK hol k) l
           obtain⟨p,hp⟩:∃p,gat A (i+k) (j+l)=p:=⟨_,rfl⟩;obtain⟨r,hr⟩:∃r,gat b k l=r:=⟨_,rfl⟩;rw [hA]at hsz;have g3:List.take 3 (List.drop ((i+k)*21+(j+l)*3) (gC A))=[cb (rcan p),cn (rcan p),cd (rcan p)]:=by rw [ho2,zM (by omega)];unfold gat at hp;rw [hp];rfl
           have g4:List.take 3 (List.drop (k*21+l*3) (gC b))=[cb (rcan r),cn (rcan r),cd (rcan r)]:=by rw [ho3,zM (by omega)];unfold gat at hr;rw [hr];rfl
           have l3:(3<=(List.drop ((i+k)*21+(j+l)*3) (gC A)).length)=True:=eq_true (by rw [List.length_drop,Uc,hAl];omega)
           have l4:(3<=(List.drop (k*21+l*3) (gC b)).length)=True:=eq_true (by rw [List.length_drop,Uc,hb];omega)
           have l5:((i+k)*21+(j+l)*3+3<=(gC A).length)=True:=eq_true (by rw [Uc,hAl];omega)
           have s1:List.take ((i+k)*21+(j+l)*3) (gC A)++([cb (rcan (p+q*r)),cn (rcan (p+q*r)),cd (rcan (p+q*r))]++List.drop ((i+k)*21+(j+l)*3+3) (gC A))=gC (plG a b i j k (pkG a b i j o k) (l+1)):=by
            have e:=Zbj (g:=A) (k:=(i+k)*7+(j+l)) (by omega) (p+q*r)
            rw [QJ,<-ho2]at e;have e2:plG a b i j k (pkG a b i j o k) (l+1)=addG A (i+k) (j+l) (q*r):=by
             show addG (plG a b i j k (pkG a b i j o k) l) (i+k) (j+l) (gat a i j*gat b k l)=_;rw [hA,hq,hr]
            rw [e2];unfold addG;rw [hp,<-e];rfl
           have z1:rz p<=gz A:=by rw [<-hp];exact xP A _ _
           have z2:rz r<=gz b:=by rw [<-hr];exact xP b _ _
           have z4:=jc q r;have y1:rz q<=4294967296:=by omega
           have y2:rz r<=4294967296:=by omega
           have y3:rz p<=4294967296:=by omega
           have y4:rz (q*r)<=4294967296:=by omega
           have hkk:(k<7)=True:=eq_true (by omega)
           have hll:(l<7)=True:=eq_true (by omega)
           simp only [go_sem,hlt4',hm,ha',hA,g2,g3,g4,l2,l3,l4,l5,o1,o2,Wb,hii,hjj,hkk,hll];refine⟨by omega,by omega,by omega,by omega,by omega,by omega,y1,y2,y3,y4,by omega,by omega,by omega,l+1,Qa (by simp [okS,okV,okC,okL,okH,okB,okE,Za,Va,za,Ja,wsA,ws]) ⟨Ub (Ua _),Ub (Ua _),Ub (kk _),?_,trivial⟩,by omega,by omega⟩
           rw [<-s1];exact Ub (λe he=>by rw [List.mem_singleton.1 he];exact s1▸wY _)
          .have hl7:l=7-j:=by omega
           subst hl7;have e77:(((7-j:Nat):Int)<7-(j:Int))=False:=eq_false (by omega)
           simp only [go_sem,e77];exact⟨by omega,k+1,Qa (by simp [okS,okV,okC,okL,okH,okB,okE,Za,Va,za,Ja,wsA,ws]) ⟨Ub (Ua _),Ub (Ua _),Ub (kk _),Ub (Ua _),trivial⟩,by omega,by omega⟩
        .have hk7:k=7-i:=by omega
         subst hk7;have e77:(((7-i:Nat):Int)<7-(i:Int))=False:=eq_false (by omega)
         simp only [go_sem,e77];refine⟨by omega,j+1,Qa (by simp [okS,okV,okC,okL,okH,okB,okE,Za,Va,za,Ja,wsA,ws]) ⟨Ub (Ua _),Ub (Ua _),Ub (kk _),?_,trivial⟩,by omega,by omega⟩
         rw [ep];exact Ub (Ua _)
     .have hj7:j=7:=by omega
      subst hj7;have e77:(((7:Nat):Int)<7)=False:=eq_false (by decide)
      simp only [go_sem,e77];exact⟨by omega,i+1,Qa (by simp [okS,okV,okC,okL,okH,okB,okE,Za,Va,za,Ja,wsA,ws]) ⟨Ub (Ua _),Ub (Ua _),Ub (kk _),Ub (Ua _),trivial⟩,by omega,by omega⟩
   .have hi7:i=7:=by omega
    subst hi7;have e77:(((7:Nat):Int)<7)=False:=eq_false (by decide)
    have hpl:piG a b 7=prodG a b:=rfl;have hlen:(prodG a b).length=49:=Qb a b;have hgl:(gC (prodG a b)).length=147:=by rw [Uc,hlen]
    have htk:=Vf hlen;simp only [go_sem,e77,hpl,hgl,htk];exact hK
end Go.Abs
end
section
namespace Go.Num
open Go.Abs
theorem U0(g:Gr)(s:Nat)(o:BQ):∀n,(lsI g s o n).length<=o.length+n
 | 0=>Nat.le_refl _
 | n+1=>by
  have:=U0 g s o n;simp only [lsI];split
  .omega
  .rw [List.length_append];simp only [List.length_cons,List.length_nil];omega
theorem J0(g:Gr):∀n,(lsS g n).length<=7*n
 | 0=>Nat.le_refl _
 | n+1=>by
  have h1:=J0 g n;have h2:=U0 g n (lsS g n) 7;show(lsI g n (lsS g n) 7).length<=_;omega
theorem za8(a b:BQ):mcs (a++b)=mcs a++mcs b:=List.map_append
end Go.Num
namespace Go.Abs
open Go.Num
variable {P:Program} {Γ:Nat->Spec}
def Uy(l:List AV)(K:AV->Prop):Prop:=
 match l with
 | [a]=>onG (λa=>gz a<=4294967296/\K (.one (.slice ((mcs (lsG a)).map mC)))) a
 | _=>False
theorem Yap(a:AV)(K:AV->Prop):Uy [a] K=(onG (λa=>gz a<=4294967296/\K (.one (.slice ((mcs (lsG a)).map mC)))) a):=propext Iff.rfl
@[congr] theorem WbP {K:AV->Prop} {l l' : List AV} (h:l=l'):Uy l K=Uy l' K:=by subst h;rfl
attribute [go_sem,go_sem ↓] Yap
theorem XaG:Good Uy:=Wa λas=>by
 unfold Uy;split
 .exact(wa0 λ_=>(.and λ_=>(.ret _)))
 .exact .of λK hk=>hk.elim
def jj(f0:Nat):AC:=(.seq (.ops false [.u 1 (.box 147 (.t 0)),.m 2 (.c (.one .emp))])
 (.fg [1] (.seq (.ops false [.m 3 (.c (.one .emp))])
 (.fg [1,3] (.seq (.seq (.ops false [.m 7 (.i 0)])
 (.fg [1,3,7] (.block 0 (.loop (.seq (.ops false [.u 8 (.bin .lss (.t 7) (.i 13))])
 (.fg [1,3,7,8] (.seq (.cond (.t 8) .skip (.exit 0))
 (.fg [1,3,7] (.seq (.block 1 (.seq (.ops false [.m 9 (.t 7),.m 4 (.t 9)])
 (.fg [1,3,4,7] (.seq (.ops false [.m 10 (.i 0)])
 (.fg [1,3,4,7,10] (.block 2 (.loop (.seq (.ops false [.u 11 (.bin .lss (.t 10) (.i 7))])
 (.fg [1,3,4,7,10,11] (.seq (.cond (.t 11) .skip (.exit 2))
 (.fg [1,3,4,7,10] (.seq (.block 3 (.seq (.ops false [.m 12 (.t 10),.m 5 (.t 12)])
 (.fg [1,3,4,5,7,10] (.seq (.ops false [.m 13 (.t 4),.m 14 (.t 5),.u 15 (.bin .sub (.t 13) (.t 14)),.m 6 (.t 15)])
 (.fg [1,3,4,5,6,7,10] (.seq (.seq (.ops false [.m 16 (.t 6),.u 17 (.bin .lss (.t 16) (.i 0)),.m 18 (.t 17),.w 19 18 false (.mv (.t 6)),.w 20 18 false (.bin .gtr (.t 19) (.i 6)),.u 21 (.pick (.t 18) .tr (.t 20)),.m 22 (.t 21),.w 23 22 false (.mv (.t 5)),.w 24 22 false (.mv (.t 6)),.w 25 22 false (.ai 21 7 (.t 1) (.t 23)),.w 26 22 false (.ai 3 7 (.t 25) (.t 24)),.w 27 22 false (.ld none 3 true (.t 26)),.w 28 22 false (.call f0 [(.t 27)]),.u 29 (.pick (.t 22) .tr (.t 28))])
 (.fg [1,3,4,5,6,7,10,29] (.cond (.t 29) (.exit 3) .skip)))
 (.fg [1,3,4,5,6,7,10] (.ops false [.m 30 (.t 3),.m 31 (.t 5),.m 32 (.t 6),.m 33 (.t 5),.m 34 (.t 6),.u 35 (.ai 21 7 (.t 1) (.t 33)),.u 36 (.ai 3 7 (.t 35) (.t 34)),.u 37 (.ld none 3 true (.t 36)),.u 38 (.build [.x 1 (.t 31),.x 1 (.t 32),.x 3 (.t 37)]),.u 39 (.row 5 [[.x 5 (.t 38)]]),.u 40 (.app 5 (.t 30) (.t 39)),.m 3 (.t 40)]))))))))
 (.fg [1,3,4,7,10] (.ops false [.u 41 (.bin .add (.t 10) (.i 1)),.m 10 (.t 41)]))))))))))))))
 (.fg [1,3,7] (.ops false [.u 42 (.bin .add (.t 7) (.i 1)),.m 7 (.t 42)])))))))))))
 (.fg [3] (.seq (.ops false [.m 43 (.t 3),.m 2 (.t 43)])
 .ret)))))))
set_option maxHeartbeats 1000000 in
theorem kao(hΓ:Holds P Γ){f fz:Nat}(hz' : Γ fz=.dat true jx)(hc:check P f=some (44,(jj fz).strip,[.tmp 2])):Sound P f (.dat false Uy):=by
 refine ka hc XaG hΓ (λargs K hcl hfi hG=>?_);match args,hG with
 | [u],hG=>
  obtain⟨a,rfl,ha,hz,hK⟩:=hG;refine⟨by simp,?_⟩
  have la:(gC a).length=147:=by rw [Uc,ha]
  simp only [go_sem,jj,la];refine Ya (λs:Nat=>if lsS a s=[] then ⟨mkV [(1,.one (.ptr 1 1 0 0)),(3,.one .emp),(7,.one (.lit (.int .i64 s)))],mkH [(1,⟨1,some ⟨[gC a],147,true⟩⟩)]⟩
   else ⟨mkV [(1,.one (.ptr 1 1 0 0)),(3,.one (.own 40 1 5 0 (lsS a s).length)),(7,.one (.lit (.int .i64 s)))],mkH [(1,⟨1,some ⟨[gC a],147,true⟩⟩),(40,⟨1,some ⟨(mcs (lsS a s)).map mC,5,true⟩⟩)]⟩) (λs=>s<=13) (λs=>13-s) 0 ?_ ?_ ?_
  .rw [if_pos (show lsS a 0=[] from rfl)];exact Qa (by simp [okS,okV,okC,okL,okH,okB,okE,Za,Va,za,Ja,wsA,ws]) ⟨Ub (Ua _),trivial⟩
  .exact Nat.zero_le _
  .intro s hs;by_cases hlt:s<13
   .have hlt' : ((s:Nat):Int)<13:=by omega
    by_cases hS:lsS a s=[]
    .rw [if_pos hS];simp only [go_sem,hlt'];refine Ya (λi:Nat=>if lsI a s (lsS a s) i=[] then ⟨mkV [(1,.one (.ptr 1 1 0 0)),(3,.one .emp),(4,.one (.lit (.int .i64 s))),(7,.one (.lit (.int .i64 s))),(10,.one (.lit (.int .i64 i)))],mkH [(1,⟨1,some ⟨[gC a],147,true⟩⟩)]⟩
      else ⟨mkV [(1,.one (.ptr 1 1 0 0)),(3,.one (.own 40 1 5 0 (lsI a s (lsS a s) i).length)),(4,.one (.lit (.int .i64 s))),(7,.one (.lit (.int .i64 s))),(10,.one (.lit (.int .i64 i)))],mkH [(1,⟨1,some ⟨[gC a],147,true⟩⟩),(40,⟨1,some ⟨(mcs (lsI a s (lsS a s) i)).map mC,5,true⟩⟩)]⟩) (λi=>i<=7) (λi=>7-i) 0 ?_ ?_ ?_
     .rw [if_pos (show lsI a s (lsS a s) 0=[] from hS)];exact Qa (by simp [okS,okV,okC,okL,okH,okB,okE,Za,Va,za,Ja,wsA,ws]) ⟨Ub (Ua _),trivial⟩
     .exact Nat.zero_le _
     .skip
      intro i hi;by_cases hlt2:i<7
      .have hlt2' : ((i:Nat):Int)<7:=by omega
       have hii:(i<7)=True:=eq_true hlt2;have hol:=U0 a s (lsS a s) i;have hsl:=J0 a s;by_cases hc1:s<i
       .have est:lsI a s (lsS a s) (i+1)=lsI a s (lsS a s) i:=if_pos (.inl hc1);have j0:((s:Int)-(i:Int)<0)=True:=eq_true (by omega)
        by_cases hO:lsI a s (lsS a s) i=[]
        .rw [if_pos hO];simp only [go_sem,hlt',hlt2',hii,j0];repeat first|refine ja (by omega) ?_|refine ja (by assumption) ?_|refine ja rfl ?_|refine ja ⟨rfl,by omega⟩ ?_|refine ja ⟨rfl,by omega,by omega⟩ ?_|intro _
         refine⟨i+1,?_,by omega,by omega⟩
         rw [if_pos (by rw [est];exact hO)]
         exact Qa (by simp [okS,okV,okC,okL,okH,okB,okE,Za,Va,za,Ja,wsA,ws]) ⟨Ub (Ua _),trivial⟩
        .rw [if_neg hO];simp only [go_sem,hlt',hlt2',hii,j0];repeat first|refine ja (by omega) ?_|refine ja (by assumption) ?_|refine ja rfl ?_|refine ja ⟨rfl,by omega⟩ ?_|refine ja ⟨rfl,by omega,by omega⟩ ?_|intro _
         refine⟨i+1,?_,by omega,by omega⟩
         rw [if_neg (by rw [est];exact hO)]
         exact Qa (by simp [okS,okV,okC,okL,okH,okB,okE,Za,Va,za,Ja,wsA,ws,est]) ⟨Ub (Ua _),qf (by rw [est]),trivial⟩
       .have j0:((s:Int)-(i:Int)<0)=False:=eq_false (by omega)
        by_cases hc2:6<s-i
        .have est:lsI a s (lsS a s) (i+1)=lsI a s (lsS a s) i:=if_pos (.inr (.inl hc2));have j6:(6<(s:Int)-(i:Int))=True:=eq_true (by omega)
         by_cases hO:lsI a s (lsS a s) i=[]
         .rw [if_pos hO];simp only [go_sem,hlt',hlt2',hii,j0,j6];repeat first|refine ja (by omega) ?_|refine ja (by assumption) ?_|refine ja rfl ?_|refine ja ⟨rfl,by omega⟩ ?_|refine ja ⟨rfl,by omega,by omega⟩ ?_|intro _
          refine⟨i+1,?_,by omega,by omega⟩
          rw [if_pos (by rw [est];exact hO)]
          exact Qa (by simp [okS,okV,okC,okL,okH,okB,okE,Za,Va,za,Ja,wsA,ws]) ⟨Ub (Ua _),trivial⟩
         .rw [if_neg hO];simp only [go_sem,hlt',hlt2',hii,j0,j6];repeat first|refine ja (by omega) ?_|refine ja (by assumption) ?_|refine ja rfl ?_|refine ja ⟨rfl,by omega⟩ ?_|refine ja ⟨rfl,by omega,by omega⟩ ?_|intro _
          refine⟨i+1,?_,by omega,by omega⟩
          rw [if_neg (by rw [est];exact hO)]
          exact Qa (by simp [okS,okV,okC,okL,okH,okB,okE,Za,Va,za,Ja,wsA,ws,est]) ⟨Ub (Ua _),qf (by rw [est]),trivial⟩
        .have j6:(6<(s:Int)-(i:Int))=False:=eq_false (by omega)
         have o2:((s:Int)-(i:Int)).toNat=s-i:=by omega
         have ho:i*21+(s-i)*3=3*(i*7+(s-i)):=by omega
         have hsi:(s-i<7)=True:=eq_true (by omega)
         have hsi2:((s:Int)-(i:Int)<7)=True:=eq_true (by omega)
         have hsi3:(0<=(s:Int)-(i:Int))=True:=eq_true (by omega)
         obtain⟨p,hp⟩:∃p,gat a i (s-i)=p:=⟨_,rfl⟩;have g1:List.take 3 (List.drop (i*21+(s-i)*3) (gC a))=[cb (rcan p),cn (rcan p),cd (rcan p)]:=by rw [ho,zM (by omega)];unfold gat at hp;rw [hp];rfl
         have l1:(3<=(List.drop (i*21+(s-i)*3) (gC a)).length)=True:=eq_true (by rw [List.length_drop,Uc,ha];omega)
         have zp:rz p<=4294967296:=by rw [<-hp];exact Nat.le_trans (xP a _ _) hz
         by_cases h0:p=0
         .have est:lsI a s (lsS a s) (i+1)=lsI a s (lsS a s) i:=if_pos (.inr (.inr (by rw [hp];exact h0)))
          have e0:decide (p=0)=true:=decide_eq_true h0;by_cases hO:lsI a s (lsS a s) i=[]
          .rw [if_pos hO];simp only [go_sem,hlt',hlt2',hii,j0,j6,o2,hsi,hsi2,hsi3,g1,l1,hz',Wb,e0];repeat first|refine ja (by omega) ?_|refine ja (by assumption) ?_|refine ja rfl ?_|refine ja ⟨rfl,by omega⟩ ?_|refine ja ⟨rfl,by omega,by omega⟩ ?_|intro _
           refine⟨i+1,?_,by omega,by omega⟩
           rw [if_pos (by rw [est];exact hO)]
           exact Qa (by simp [okS,okV,okC,okL,okH,okB,okE,Za,Va,za,Ja,wsA,ws]) ⟨Ub (Ua _),trivial⟩
          .rw [if_neg hO];simp only [go_sem,hlt',hlt2',hii,j0,j6,o2,hsi,hsi2,hsi3,g1,l1,hz',Wb,e0];repeat first|refine ja (by omega) ?_|refine ja (by assumption) ?_|refine ja rfl ?_|refine ja ⟨rfl,by omega⟩ ?_|refine ja ⟨rfl,by omega,by omega⟩ ?_|intro _
           refine⟨i+1,?_,by omega,by omega⟩
           rw [if_neg (by rw [est];exact hO)]
           exact Qa (by simp [okS,okV,okC,okL,okH,okB,okE,Za,Va,za,Ja,wsA,ws,est]) ⟨Ub (Ua _),qf (by rw [est]),trivial⟩
         .have e0:decide (p=0)=false:=decide_eq_false h0;have est:lsI a s (lsS a s) (i+1)=lsI a s (lsS a s) i++[lsT a s i]:=if_neg (by rw [hp];simp [hc1,hc2,h0])
          have hmt:mC (mcan (lsT a s i))=[.lit (.int .i64 (i:Int)),.lit (.int .i64 ((s:Int)-(i:Int))),cb (rcan p),cn (rcan p),cd (rcan p)]:=by unfold mcan lsT;rw [hp];rfl
          have hne:¬lsI a s (lsS a s) (i+1)=[]:=by rw [est];simp
          by_cases hO:lsI a s (lsS a s) i=[]
          .rw [if_pos hO];simp only [go_sem,hlt',hlt2',hii,j0,j6,o2,hsi,hsi2,hsi3,g1,l1,hz',Wb,e0];repeat first|refine ja (by omega) ?_|refine ja (by assumption) ?_|refine ja rfl ?_|refine ja ⟨rfl,by omega⟩ ?_|refine ja ⟨rfl,by omega,by omega⟩ ?_|intro _
           refine⟨λe he=>by rw [List.mem_singleton.1 he];rfl,by omega,i+1,?_,by omega,by omega⟩
           rw [if_neg hne];exact Qa (by simp [okS,okV,okC,okL,okH,okB,okE,Za,Va,za,Ja,wsA,ws,est,hO]) ⟨Ub (Ua _),qf (by rw [est,hO];show _=[mC (mcan (lsT a s i))];rw [hmt]),trivial⟩
          .rw [if_neg hO];have hml:(mcs (lsI a s (lsS a s) i)).length=(lsI a s (lsS a s) i).length:=List.length_map _;simp only [go_sem,hlt',hlt2',hii,j0,j6,o2,hsi,hsi2,hsi3,g1,l1,hz',Wb,e0,hml];repeat first|refine ja (by omega) ?_|refine ja (by assumption) ?_|refine ja rfl ?_|refine ja ⟨rfl,by omega⟩ ?_|refine ja ⟨rfl,by omega,by omega⟩ ?_|intro _
           refine⟨λe he=>by rw [List.mem_singleton.1 he];rfl,by omega,by omega,i+1,?_,by omega,by omega⟩
           rw [if_neg hne];exact Qa (by simp [okS,okV,okC,okL,okH,okB,okE,Za,Va,za,Ja,wsA,ws,est]) ⟨Ub (Ua _),qf (by rw [est,za8,List.map_append];show _=_++[mC (mcan (lsT a s i))];rw [hmt]),trivial⟩
      .have hi7:i=7:=by omega
       subst hi7;have e77:(((7:Nat):Int)<7)=False:=eq_false (by decide)
       have hfin:lsI a s (lsS a s) 7=lsS a (s+1):=rfl;by_cases hO:lsI a s (lsS a s) 7=[]
       .rw [if_pos hO];simp only [go_sem,e77];refine⟨by omega,s+1,?_,by omega,by omega⟩
        rw [if_pos (show lsS a (s+1)=[] from hO)];exact Qa (by simp [okS,okV,okC,okL,okH,okB,okE,Za,Va,za,Ja,wsA,ws]) ⟨Ub (Ua _),trivial⟩
       .rw [if_neg hO];simp only [go_sem,e77];refine⟨by omega,s+1,?_,by omega,by omega⟩
        rw [if_neg (show ¬lsS a (s+1)=[] from hO)];exact Qa (by simp [okS,okV,okC,okL,okH,okB,okE,Za,Va,za,Ja,wsA,ws,hfin]) ⟨Ub (Ua _),qf rfl,trivial⟩
    .rw [if_neg hS];simp only [go_sem,hlt'];refine Ya (λi:Nat=>if lsI a s (lsS a s) i=[] then ⟨mkV [(1,.one (.ptr 1 1 0 0)),(3,.one .emp),(4,.one (.lit (.int .i64 s))),(7,.one (.lit (.int .i64 s))),(10,.one (.lit (.int .i64 i)))],mkH [(1,⟨1,some ⟨[gC a],147,true⟩⟩)]⟩
      else ⟨mkV [(1,.one (.ptr 1 1 0 0)),(3,.one (.own 40 1 5 0 (lsI a s (lsS a s) i).length)),(4,.one (.lit (.int .i64 s))),(7,.one (.lit (.int .i64 s))),(10,.one (.lit (.int .i64 i)))],mkH [(1,⟨1,some ⟨[gC a],147,true⟩⟩),(40,⟨1,some ⟨(mcs (lsI a s (lsS a s) i)).map mC,5,true⟩⟩)]⟩) (λi=>i<=7) (λi=>7-i) 0 ?_ ?_ ?_
     .rw [if_neg (show ¬lsI a s (lsS a s) 0=[] from hS)];exact Qa (by simp [okS,okV,okC,okL,okH,okB,okE,Za,Va,za,Ja,wsA,ws,lsI]) ⟨Ub (Ua _),qf rfl,trivial⟩
     .exact Nat.zero_le _
     .skip
      intro i hi;by_cases hlt2:i<7
      .have hlt2' : ((i:Nat):Int)<7:=by omega
       have hii:(i<7)=True:=eq_true hlt2;have hol:=U0 a s (lsS a s) i;have hsl:=J0 a s;by_cases hc1:s<i
       .have est:lsI a s (lsS a s) (i+1)=lsI a s (lsS a s) i:=if_pos (.inl hc1);have j0:((s:Int)-(i:Int)<0)=True:=eq_true (by omega)
        by_cases hO:lsI a s (lsS a s) i=[]
        .rw [if_pos hO];simp only [go_sem,hlt',hlt2',hii,j0];repeat first|refine ja (by omega) ?_|refine ja (by assumption) ?_|refine ja rfl ?_|refine ja ⟨rfl,by omega⟩ ?_|refine ja ⟨rfl,by omega,by omega⟩ ?_|intro _
         refine⟨i+1,?_,by omega,by omega⟩
         rw [if_pos (by rw [est];exact hO)]
         exact Qa (by simp [okS,okV,okC,okL,okH,okB,okE,Za,Va,za,Ja,wsA,ws]) ⟨Ub (Ua _),trivial⟩
        .rw [if_neg hO];simp only [go_sem,hlt',hlt2',hii,j0];repeat first|refine ja (by omega) ?_|refine ja (by assumption) ?_|refine ja rfl ?_|refine ja ⟨rfl,by omega⟩ ?_|refine ja ⟨rfl,by omega,by omega⟩ ?_|intro _
         refine⟨i+1,?_,by omega,by omega⟩
         rw [if_neg (by rw [est];exact hO)]
         exact Qa (by simp [okS,okV,okC,okL,okH,okB,okE,Za,Va,za,Ja,wsA,ws,est]) ⟨Ub (Ua _),qf (by rw [est]),trivial⟩
       .have j0:((s:Int)-(i:Int)<0)=False:=eq_false (by omega)
        by_cases hc2:6<s-i
        .have est:lsI a s (lsS a s) (i+1)=lsI a s (lsS a s) i:=if_pos (.inr (.inl hc2));have j6:(6<(s:Int)-(i:Int))=True:=eq_true (by omega)
         by_cases hO:lsI a s (lsS a s) i=[]
         .rw [if_pos hO];simp only [go_sem,hlt',hlt2',hii,j0,j6];repeat first|refine ja (by omega) ?_|refine ja (by assumption) ?_|refine ja rfl ?_|refine ja ⟨rfl,by omega⟩ ?_|refine ja ⟨rfl,by omega,by omega⟩ ?_|intro _
          refine⟨i+1,?_,by omega,by omega⟩
          rw [if_pos (by rw [est];exact hO)]
          exact Qa (by simp [okS,okV,okC,okL,okH,okB,okE,Za,Va,za,Ja,wsA,ws]) ⟨Ub (Ua _),trivial⟩
         .rw [if_neg hO];simp only [go_sem,hlt',hlt2',hii,j0,j6];repeat first|refine ja (by omega) ?_|refine ja (by assumption) ?_|refine ja rfl ?_|refine ja ⟨rfl,by omega⟩ ?_|refine ja ⟨rfl,by omega,by omega⟩ ?_|intro _
          refine⟨i+1,?_,by omega,by omega⟩
          rw [if_neg (by rw [est];exact hO)]
          exact Qa (by simp [okS,okV,okC,okL,okH,okB,okE,Za,Va,za,Ja,wsA,ws,est]) ⟨Ub (Ua _),qf (by rw [est]),trivial⟩
        .have j6:(6<(s:Int)-(i:Int))=False:=eq_false (by omega)
         have o2:((s:Int)-(i:Int)).toNat=s-i:=by omega
         have ho:i*21+(s-i)*3=3*(i*7+(s-i)):=by omega
         have hsi:(s-i<7)=True:=eq_true (by omega)
         have hsi2:((s:Int)-(i:Int)<7)=True:=eq_true (by omega)
         have hsi3:(0<=(s:Int)-(i:Int))=True:=eq_true (by omega)
         obtain⟨p,hp⟩:∃p,gat a i (s-i)=p:=⟨_,rfl⟩;have g1:List.take 3 (List.drop (i*21+(s-i)*3) (gC a))=[cb (rcan p),cn (rcan p),cd (rcan p)]:=by rw [ho,zM (by omega)];unfold gat at hp;rw [hp];rfl
         have l1:(3<=(List.drop (i*21+(s-i)*3) (gC a)).length)=True:=eq_true (by rw [List.length_drop,Uc,ha];omega)
         have zp:rz p<=4294967296:=by rw [<-hp];exact Nat.le_trans (xP a _ _) hz
         by_cases h0:p=0
         .have est:lsI a s (lsS a s) (i+1)=lsI a s (lsS a s) i:=if_pos (.inr (.inr (by rw [hp];exact h0)))
          have e0:decide (p=0)=true:=decide_eq_true h0;by_cases hO:lsI a s (lsS a s) i=[]
          .rw [if_pos hO];simp only [go_sem,hlt',hlt2',hii,j0,j6,o2,hsi,hsi2,hsi3,g1,l1,hz',Wb,e0];repeat first|refine ja (by omega) ?_|refine ja (by assumption) ?_|refine ja rfl ?_|refine ja ⟨rfl,by omega⟩ ?_|refine ja ⟨rfl,by omega,by omega⟩ ?_|intro _
           refine⟨i+1,?_,by omega,by omega⟩
           rw [if_pos (by rw [est];exact hO)]
           exact Qa (by simp [okS,okV,okC,okL,okH,okB,okE,Za,Va,za,Ja,wsA,ws]) ⟨Ub (Ua _),trivial⟩
          .rw [if_neg hO];simp only [go_sem,hlt',hlt2',hii,j0,j6,o2,hsi,hsi2,hsi3,g1,l1,hz',Wb,e0];repeat first|refine ja (by omega) ?_|refine ja (by assumption) ?_|refine ja rfl ?_|refine ja ⟨rfl,by omega⟩ ?_|refine ja ⟨rfl,by omega,by omega⟩ ?_|intro _
           refine⟨i+1,?_,by omega,by omega⟩
           rw [if_neg (by rw [est];exact hO)]
           exact Qa (by simp [okS,okV,okC,okL,okH,okB,okE,Za,Va,za,Ja,wsA,ws,est]) ⟨Ub (Ua _),qf (by rw [est]),trivial⟩
         .have e0:decide (p=0)=false:=decide_eq_false h0;have est:lsI a s (lsS a s) (i+1)=lsI a s (lsS a s) i++[lsT a s i]:=if_neg (by rw [hp];simp [hc1,hc2,h0])
          have hmt:mC (mcan (lsT a s i))=[.lit (.int .i64 (i:Int)),.lit (.int .i64 ((s:Int)-(i:Int))),cb (rcan p),cn (rcan p),cd (rcan p)]:=by unfold mcan lsT;rw [hp];rfl
          have hne:¬lsI a s (lsS a s) (i+1)=[]:=by rw [est];simp
          by_cases hO:lsI a s (lsS a s) i=[]
          .rw [if_pos hO];simp only [go_sem,hlt',hlt2',hii,j0,j6,o2,hsi,hsi2,hsi3,g1,l1,hz',Wb,e0];repeat first|refine ja (by omega) ?_|refine ja (by assumption) ?_|refine ja rfl ?_|refine ja ⟨rfl,by omega⟩ ?_|refine ja ⟨rfl,by omega,by omega⟩ ?_|intro _
           refine⟨λe he=>by rw [List.mem_singleton.1 he];rfl,by omega,i+1,?_,by omega,by omega⟩
           rw [if_neg hne];exact Qa (by simp [okS,okV,okC,okL,okH,okB,okE,Za,Va,za,Ja,wsA,ws,est,hO]) ⟨Ub (Ua _),qf (by rw [est,hO];show _=[mC (mcan (lsT a s i))];rw [hmt]),trivial⟩
          .rw [if_neg hO];have hml:(mcs (lsI a s (lsS a s) i)).length=(lsI a s (lsS a s) i).length:=List.length_map _;simp only [go_sem,hlt',hlt2',hii,j0,j6,o2,hsi,hsi2,hsi3,g1,l1,hz',Wb,e0,hml];repeat first|refine ja (by omega) ?_|refine ja (by assumption) ?_|refine ja rfl ?_|refine ja ⟨rfl,by omega⟩ ?_|refine ja ⟨rfl,by omega,by omega⟩ ?_|intro _
           refine⟨λe he=>by rw [List.mem_singleton.1 he];rfl,by omega,by omega,i+1,?_,by omega,by omega⟩
           rw [if_neg hne];exact Qa (by simp [okS,okV,okC,okL,okH,okB,okE,Za,Va,za,Ja,wsA,ws,est]) ⟨Ub (Ua _),qf (by rw [est,za8,List.map_append];show _=_++[mC (mcan (lsT a s i))];rw [hmt]),trivial⟩
      .have hi7:i=7:=by omega
       subst hi7;have e77:(((7:Nat):Int)<7)=False:=eq_false (by decide)
       have hfin:lsI a s (lsS a s) 7=lsS a (s+1):=rfl;by_cases hO:lsI a s (lsS a s) 7=[]
       .rw [if_pos hO];simp only [go_sem,e77];refine⟨by omega,s+1,?_,by omega,by omega⟩
        rw [if_pos (show lsS a (s+1)=[] from hO)];exact Qa (by simp [okS,okV,okC,okL,okH,okB,okE,Za,Va,za,Ja,wsA,ws]) ⟨Ub (Ua _),trivial⟩
       .rw [if_neg hO];simp only [go_sem,e77];refine⟨by omega,s+1,?_,by omega,by omega⟩
        rw [if_neg (show ¬lsS a (s+1)=[] from hO)];exact Qa (by simp [okS,okV,okC,okL,okH,okB,okE,Za,Va,za,Ja,wsA,ws,hfin]) ⟨Ub (Ua _),qf rfl,trivial⟩
   .have hs13:s=13:=by omega
    subst hs13;have e13:(((13:Nat):Int)<13)=False:=eq_false (by decide)
    have hl:=J0 a 13;have hg:lsS a 13=lsG a:=rfl;by_cases hS:lsS a 13=[]
    .rw [if_pos hS];simp only [go_sem,e13];rw [<-hg,hS]at hK;exact hK
    .rw [if_neg hS];have hml:(mcs (lsS a 13)).length=(lsS a 13).length:=List.length_map _;have htk:(mcs (lsS a 13)).take (lsS a 13).length=mcs (lsS a 13):=List.take_of_length_le (by omega)
     simp only [go_sem,e13,hml,htk];exact hK
end Go.Abs
end
section
namespace Go.Num
def vecG(o k:V2):Gr×Gr:=(linG (timesQ (subQ (0,0) o) k).1 k.1 (-k.2),linG (timesQ (subQ (0,0) o) k).2 k.2 k.1)
def sqG(o:V2)(n:Rat):Gr:=plusG (plusG (conG n) 1 (prodG (vecG o (1,0)).1 (vecG o (1,0)).1)) 1 (prodG (vecG o (1,0)).2 (vecG o (1,0)).2)
def paA(c:CpR):Gr×Gr:=vecG c.1 (barQ (cW c))
def paB(c:CpR):Gr×Gr:=vecG c.2.1 (barQ (reQ c))
def paE(c:CpR):Gr:=sqG c.1 (sqQ (cW c)*c.2.2.2.1-c.2.2.1)
def paF(c:CpR):Gr:=sqG c.2.1 (sqQ (reQ c)*c.2.2.2.1-c.2.2.2.2.1)
def paX(c:CpR):Gr:=plusG (prodG (paE c) (paB c).2) 1 (prodG (paF c) (paA c).2)
def paY(c:CpR):Gr:=plusG (prodG (plusG zG (-1) (paF c)) (paA c).1) (-1) (prodG (paE c) (paB c).1)
def paM(c:CpR):Gr:=plusG (prodG (paA c).1 (paB c).2) (-1) (prodG (paA c).2 (paB c).1)
def paC(c:CpR):Gr:=plusG (plusG (prodG (paX c) (paX c)) 1 (prodG (paY c) (paY c))) (-(4*c.2.2.2.1)) (prodG (paM c) (paM c))
theorem VH(o k:V2):(vecG o k).1.length=49/\(vecG o k).2.length=49:=⟨JJ _ _ _,JJ _ _ _⟩
theorem yh(o k:V2):DG 1 (vecG o k).1/\DG 1 (vecG o k).2:=⟨Jbo _ _ _,Jbo _ _ _⟩
theorem ZT(o k p:V2):evG (vecG o k).1 p.1 p.2=(timesQ (subQ p o) k).1/\evG (vecG o k).2 p.1 p.2=(timesQ (subQ p o) k).2:=by
 unfold vecG;simp only [ubw];unfold timesQ subQ;simp only;exact⟨by grind,by grind⟩
theorem YaP(o:V2)(n:Rat):(sqG o n).length=49:=yd (yd (ZC n) (Qb _ _) 1) (Qb _ _) 1
theorem YT(o:V2)(n:Rat):DG 2 (sqG o n):=
 xH (yd (ZC n) (Qb _ _) 1) (Qb _ _) (xH (ZC n) (Qb _ _) (kbr (xbC n) (by decide)) (wA (yh o _).1 (yh o _).1) 1) (wA (yh o _).2 (yh o _).2) 1
theorem zbN(o:V2)(n:Rat)(p:V2):evG (sqG o n) p.1 p.2=sqQ (subQ p o)+n:=by
 unfold sqG;rw [yv (yd (ZC n) (Qb _ _) 1) (Qb _ _),yv (ZC n) (Qb _ _),jbx,Qo (yh o _).1 (yh o _).1 (by decide),Qo (yh o _).2 (yh o _).2 (by decide),(ZT o _ p).1,(ZT o _ p).2]
 unfold timesQ sqQ;simp only;grind
theorem jaw(c:CpR)(p:V2):evG (paA c).1 p.1 p.2=(wAl c p).1/\evG (paA c).2 p.1 p.2=(wAl c p).2:=by
 unfold paA;rw [(ZT _ _ p).1,(ZT _ _ p).2,ybd];exact⟨rfl,rfl⟩
theorem Uaz(c:CpR)(p:V2):evG (paB c).1 p.1 p.2=(wBe c p).1/\evG (paB c).2 p.1 p.2=(wBe c p).2:=by
 unfold paB;rw [(ZT _ _ p).1,(ZT _ _ p).2,Wbd];exact⟨rfl,rfl⟩
theorem jbl(c:CpR)(p:V2):evG (paE c) p.1 p.2=wE c p:=by
 unfold paE;rw [zbN,<-e_at];grind
theorem zbi(c:CpR)(p:V2):evG (paF c) p.1 p.2 = -wF c p:=by
 unfold paF;rw [zbN,<-f_at];grind
theorem VV(c:CpR):DG 1 (paA c).1/\DG 1 (paA c).2:=yh _ _
theorem yW(c:CpR):DG 1 (paB c).1/\DG 1 (paB c).2:=yh _ _
theorem qaM(c:CpR):DG 2 (paE c):=YT _ _
theorem xbv(c:CpR):DG 2 (paF c):=YT _ _
theorem kN(c:CpR):(paF c).length=49:=YaP _ _
theorem qW(c:CpR):(paX c).length=49:=yd (Qb _ _) (Qb _ _) _
theorem ZX(c:CpR):(paY c).length=49:=yd (Qb _ _) (Qb _ _) _
theorem UX(c:CpR):(paM c).length=49:=yd (Qb _ _) (Qb _ _) _
theorem va1(c:CpR):DG 3 (paX c):=xH (Qb _ _) (Qb _ _) (wA (YT _ _) (yh _ _).2) (wA (YT _ _) (yh _ _).2) _
theorem waV(c:CpR):DG 2 (plusG zG (-1) (paF c)):=xH jr (YaP _ _) (DG_z 2) (YT _ _) _
theorem qaS(c:CpR):DG 3 (paY c):=xH (Qb _ _) (Qb _ _) (wA (waV c) (yh _ _).1) (wA (YT _ _) (yh _ _).1) _
theorem zaW(c:CpR):DG 2 (paM c):=xH (Qb _ _) (Qb _ _) (wA (yh _ _).1 (yh _ _).2) (wA (yh _ _).2 (yh _ _).1) _
theorem zbJ(c:CpR)(p:V2):evG (paX c) p.1 p.2=(wN c p).1:=by
 unfold paX;rw [yv (Qb _ _) (Qb _ _),Qo (qaM c) (yW c).2 (by decide),Qo (xbv c) (VV c).2 (by decide),jbl,zbi,(jaw c p).2,(Uaz c p).2]
 unfold wN;simp only;grind
theorem ZbK(c:CpR)(p:V2):evG (paY c) p.1 p.2=(wN c p).2:=by
 unfold paY;rw [yv (Qb _ _) (Qb _ _),Qo (waV c) (VV c).1 (by decide),Qo (qaM c) (yW c).1 (by decide),yv jr (kN c),zbb,jbl,zbi,(jaw c p).1,(Uaz c p).1]
 unfold wN;simp only;grind
theorem JbC(c:CpR)(p:V2):evG (paM c) p.1 p.2=wM c p:=by
 unfold paM;rw [yv (Qb _ _) (Qb _ _),Qo (VV c).1 (yW c).2 (by decide),Qo (VV c).2 (yW c).1 (by decide),(jaw c p).1,(jaw c p).2,(Uaz c p).1,(Uaz c p).2]
 unfold wM;grind
theorem wbx(c:CpR):(paC c).length=49:=yd (yd (Qb _ _) (Qb _ _) _) (Qb _ _) _
theorem qbA(c:CpR)(p:V2):evG (paC c) p.1 p.2=wV c p:=by
 unfold paC;rw [yv (yd (Qb _ _) (Qb _ _) _) (Qb _ _),yv (Qb _ _) (Qb _ _),Qo (va1 c) (va1 c) (by decide),Qo (qaS c) (qaS c) (by decide),Qo (zaW c) (zaW c) (by decide),zbJ,ZbK,JbC]
 unfold wV sqQ;grind
theorem wbe{c:CpR}(h:CB c):lsG (paC c)=cCur c:=
 qbH (VM h).canon λx y=>by rw [qbA c (x,y)];exact VaP h (x,y)
end Go.Num
end
section
namespace Go.Num
open Go.Abs
theorem gz_s(g:Gr)(m:Nat)(v:Rat):gz (g.set m v)<=gz g+rz v:=by have:=Ya3 g m v;omega
theorem Xbn(a b c:Rat):gz (linG a b c)<=rz a+rz b+rz c:=by
 unfold linG;have h1:=gz_s zG 0 a;have h2:=gz_s (zG.set 0 a) 7 b;have h3:=gz_s ((zG.set 0 a).set 7 b) 1 c;rw [gz_z]at h1;omega
theorem zbj(a:Rat):gz (conG a)<=rz a:=by
 unfold conG;have h1:=gz_s zG 0 a;rw [gz_z]at h1;omega
theorem ZbB:zq (0,0)=0:=by unfold zq;rw [rz_0];rfl
theorem vaS(o k:V2):gz (vecG o k).1<=2*zq o+4*zq k+10/\gz (vecG o k).2<=2*zq o+4*zq k+10:=by
 have h0:=xQ (0,0) o;rw [ZbB]at h0;have h1:=Jbe (subQ (0,0) o) k;have h2:=zq_1 (timesQ (subQ (0,0) o) k);have h3:=zq_2 (timesQ (subQ (0,0) o) k);have h4:=zq_1 k;have h5:=zq_2 k;have h6:=Vv k.2;have g1:=Xbn (timesQ (subQ (0,0) o) k).1 k.1 (-k.2);have g2:=Xbn (timesQ (subQ (0,0) o) k).2 k.2 k.1;exact⟨by unfold vecG;simp only;omega,by unfold vecG;simp only;omega⟩
end Go.Num
namespace Go.Abs
open Go.Num
variable {P:Program} {Γ:Nat->Spec}
def xC(l:List AV)(K:AV->Prop):Prop:=
 match l with
 | [o,k]=>onA (λo=>onA (λk=>al o<=1000/\al k<=1000/\avld k=true/\K (.tup [gA (vecG (av o) (av k)).1,gA (vecG (av o) (av k)).2])) k) o
 | _=>False
theorem UaQ(o k:AV)(K:AV->Prop):xC [o,k] K=(onA (λo=>onA (λk=>al o<=1000/\al k<=1000/\avld k=true/\K (.tup [gA (vecG (av o) (av k)).1,gA (vecG (av o) (av k)).2])) k) o):=propext Iff.rfl
@[congr] theorem QbV {K:AV->Prop} {l l' : List AV} (h:l=l'):xC l K=xC l' K:=by subst h;rfl
attribute [go_sem,go_sem ↓] UaQ
theorem QaQ:Good xC:=Wa λas=>by
 unfold xC;split
 .exact(Jz λ_=>(Jz λ_=>(.and λ_=>(.and λ_=>(.and λ_=>(.ret _))))))
 .exact .of λK hk=>hk.elim
def xf(f0 f1 f2 f3:Nat):AC:=(.seq (.ops false [.u 2 (.box 6 (.t 0)),.u 3 (.box 6 (.t 1)),.u 4 (.alloc (zrs 49)),.u 5 (.alloc (zrs 49))])
 (.fg [2,3,4,5] (.seq (.ops true [.u 7 (.build [.z [(.lit (.bool false)),.emp,.emp,(.lit (.bool false)),.emp,.emp]]),.u 8 (.ld none 6 true (.t 2)),.u 9 (.call f0 [(.t 7),(.t 8)]),.u 10 (.ld none 6 true (.t 3)),.u 11 (.call f1 [(.t 9),(.t 10)]),.u 6 (.alloc [(.lit (.bool false)),.emp,.emp,(.lit (.bool false)),.emp,.emp]),.n (.st none 6 (.t 6) (.t 11))])
 (.fg [3,4,5,6] (.seq (.ops true [.u 12 (.fa 0 (.t 6)),.u 13 (.ld none 3 true (.t 12)),.u 14 (.fa 0 (.t 3)),.u 15 (.ld none 3 true (.t 14)),.u 16 (.fa 3 (.t 3)),.u 17 (.ld none 3 true (.t 16)),.u 18 (.call f2 [(.t 17)]),.u 19 (.call f3 [(.t 13),(.t 15),(.t 18)]),.u 20 (.fa 3 (.t 6)),.u 21 (.ld none 3 true (.t 20)),.u 22 (.fa 3 (.t 3)),.u 23 (.ld none 3 true (.t 22)),.u 24 (.fa 0 (.t 3)),.u 25 (.ld none 3 true (.t 24)),.u 26 (.call f3 [(.t 21),(.t 23),(.t 25)]),.n (.st none 147 (.t 4) (.t 19)),.n (.st none 147 (.t 5) (.t 26))])
 .ret)))))
theorem zaI(hΓ:Holds P Γ){f fs ft fn fl:Nat}(hs:Γ fs=.dat false ko)(ht:Γ ft=.dat false Jk)(hn:Γ fn=.dat false Xp)(hl:Γ fl=.dat false kG)(hc:check P f=some (27,(xf fs ft fn fl).strip,[.cell 4 147 true,.cell 5 147 true])):Sound P f (.dat false xC):=by
 refine ka hc QaQ hΓ (λargs K hcl hfi hG=>?_);match args,hG with
 | [u,w],hG=>
  obtain⟨o,rfl,wo,k,rfl,wk,lo,lk,hv,hK⟩:=hG;refine⟨by simp,?_⟩
  have lo1:al o<=100000000:=Nat.le_trans lo (by decide)
  have lk1:al k<=100000000:=Nat.le_trans lk (by decide)
  have hv2:=hv;unfold avld at hv2;simp only [Bool.and_eq_true]at hv2;obtain⟨v1,v2⟩:=hv2;have w1:=wk.1;have w2:=wk.2;have l1:=(Nat.max_le.1 lk).1;have l2:=(Nat.max_le.1 lk).2;have wz:WLA (rcan 0,rcan 0):=qB (0,0);have az:av (rcan 0,rcan 0)=(0,0):=qP (0,0);have lz:al (rcan 0,rcan 0)<=0:=by rw [uP,rz_0];decide
  have a1:=QO wo;have a2:=QO wk;have h0:=xQ (0,0) (av o);rw [ZbB]at h0;have y1:al (rcan (subQ (0,0) (av o)).1,rcan (subQ (0,0) (av o)).2)<=10000:=by rw [uP];change zq _<=_;omega
  have h1:(vecG (av o) (av k)).1.length=49:=JJ _ _ _;have h2:(vecG (av o) (av k)).2.length=49:=JJ _ _ _;have c1:=Uc (vecG (av o) (av k)).1;have c2:=Uc (vecG (av o) (av k)).2;rw [h1]at c1;rw [h2]at c2;have t1:=Vf h1;have t2:=Vf h2;obtain⟨T,hT⟩:∃T,timesQ (subQ (0,0) (av o)) (av k)=T:=⟨_,rfl⟩;obtain⟨G1,hG1⟩:∃G,linG T.1 (rv k.1) (-rv k.2)=G:=⟨_,rfl⟩;obtain⟨G2,hG2⟩:∃G,linG T.2 (rv k.2) (rv k.1)=G:=⟨_,rfl⟩;have e1:(vecG (av o) (av k)).1=G1:=by rw [<-hG1,<-hT];rfl
  have e2:(vecG (av o) (av k)).2=G2:=by rw [<-hG2,<-hT];rfl
  rw [e1]at c1 t1 hK;rw [e2]at c2 t2 hK;have q1:3*49=147:=rfl;rw [q1]at c1 c2;simp only [go_sem,xf,hs,ht,hn,hl,Zw,vd,az,qP,Wb,uc,hT,hG1,hG2,c1,c2,t1,t2];repeat first|refine ja (by with_reducible assumption) ?_|refine ja (Nat.le_trans (by with_reducible assumption) (by decide)) ?_|refine ja (by decide) ?_
  exact hK
end Go.Abs
end
section
namespace Go.Num
open Go.Abs
theorem Vai:zq (1,0)=1:=by decide +kernel
theorem XaZ(o:V2):gz (vecG o (1,0)).1<=2*zq o+14/\gz (vecG o (1,0)).2<=2*zq o+14:=by
 have h:=vaS o (1,0);rw [Vai]at h;omega
theorem zbM(o:V2)(n:Rat):gz (sqG o n)<=400*zq o+rz n+30000:=by
 have h:=XaZ o;have l1:=(VH o (1,0)).1;have l2:=(VH o (1,0)).2;have p1:=Wo l1 l1;have p2:=Wo l2 l2;have c0:=zbj n;have r1:rz (1:Rat)=1:=by decide +kernel
 have s1:=Jw (conG n) (prodG (vecG o (1,0)).1 (vecG o (1,0)).1) 1;have s2:=Jw (plusG (conG n) 1 (prodG (vecG o (1,0)).1 (vecG o (1,0)).1)) (prodG (vecG o (1,0)).2 (vecG o (1,0)).2) 1;rw [r1,Qb]at s1 s2;unfold sqG;omega
end Go.Num
namespace Go.Abs
open Go.Num
variable {P:Program} {Γ:Nat->Spec}
def xY(l:List AV)(K:AV->Prop):Prop:=
 match l with
 | [o,n]=>onA (λo=>onR (λn=>al o<=1000/\rl n<=1000000/\vldR n=true/\K (gA (sqG (av o) (rv n)))) n) o
 | _=>False
theorem Vbn(o n:AV)(K:AV->Prop):xY [o,n] K=(onA (λo=>onR (λn=>al o<=1000/\rl n<=1000000/\vldR n=true/\K (gA (sqG (av o) (rv n)))) n) o):=propext Iff.rfl
@[congr] theorem wb3 {K:AV->Prop} {l l' : List AV} (h:l=l'):xY l K=xY l' K:=by subst h;rfl
attribute [go_sem,go_sem ↓] Vbn
theorem Jbc:Good xY:=Wa λas=>by
 unfold xY;split
 .exact(Jz λ_=>(yg λ_=>(.and λ_=>(.and λ_=>(.and λ_=>(.ret _))))))
 .exact .of λK hk=>hk.elim
def Wg(f0 f1 f2 f3 f4:Nat):AC:=(.seq (.ops false [.u 2 (.box 6 (.t 0)),.u 3 (.box 3 (.t 1)),.u 4 (.alloc (zrs 49))])
 (.fg [2,3,4] (.seq (.ops true [.u 8 (.ld none 6 true (.t 2)),.u 9 (.call f0 [(.i 1)]),.u 10 (.build [.x 3 (.t 9),.z [(.lit (.bool false)),.emp,.emp]]),.u 11 (.call f1 [(.t 8),(.t 10)]),.m 7 (.t 11),.u 12 (.ext 0 (.t 7)),.u 13 (.ext 1 (.t 7)),.u 5 (.alloc (zrs 49)),.u 6 (.alloc (zrs 49)),.n (.st none 147 (.t 5) (.t 12)),.n (.st none 147 (.t 6) (.t 13))])
 (.fg [3,4,5,6] (.seq (.ops true [.u 14 (.ld none 3 true (.t 3)),.u 15 (.call f2 [(.t 14)]),.u 16 (.call f0 [(.i 1)]),.u 17 (.ld none 147 true (.t 5)),.u 18 (.ld none 147 true (.t 5)),.u 19 (.call f3 [(.t 17),(.t 18)]),.u 20 (.call f4 [(.t 15),(.t 16),(.t 19)]),.u 21 (.call f0 [(.i 1)]),.u 22 (.ld none 147 true (.t 6)),.u 23 (.ld none 147 true (.t 6)),.u 24 (.call f3 [(.t 22),(.t 23)]),.u 25 (.call f4 [(.t 20),(.t 21),(.t 24)]),.n (.st none 147 (.t 4) (.t 25))])
 .ret)))))
theorem JaN(hΓ:Holds P Γ){f fo fv fc fm fp:Nat}(ho:Γ fo=.dat false Wx)(hv:Γ fv=.dat false xC)(hcn:Γ fc=.dat false UE)(hm:Γ fm=.dat false Ut)(hp:Γ fp=.dat false Wu)(hc:check P f=some (26,(Wg fo fv fc fm fp).strip,[.cell 4 147 true])):Sound P f (.dat false xY):=by
 refine ka hc Jbc hΓ (λargs K hcl hfi hG=>?_);match args,hG with
 | [u,w],hG=>
  obtain⟨o,rfl,wo,n,rfl,wn,lo,ln,hvn,hK⟩:=hG;refine⟨by simp,?_⟩
  have a1:=QO wo;have hz1:=XaZ (av o);have l1:=(VH (av o) (1,0)).1;have l2:=(VH (av o) (1,0)).2;obtain⟨G1,hG1⟩:∃G,(vecG (av o) (1,0)).1=G:=⟨_,rfl⟩;obtain⟨G2,hG2⟩:∃G,(vecG (av o) (1,0)).2=G:=⟨_,rfl⟩;have e1:sqG (av o) (rv n)=plusG (plusG (conG (rv n)) 1 (prodG G1 G1)) 1 (prodG G2 G2):=by rw [<-hG1,<-hG2];rfl
  rw [e1]at hK;rw [hG1,hG2]at hz1;have b1:gz G1<=4000:=by omega
  have b2:gz G2<=4000:=by omega
  rw [hG1]at l1;rw [hG2]at l2;have h10:av (rcan 1,rcan 0)=(1,0):=qP (1,0);have h1r:((1:Int):Rat)=1:=rfl;have c1:(gC G1).length=147:=by rw [Uc,l1]
  have c2:(gC G2).length=147:=by rw [Uc,l2]
  have t1:=Vf l1;have t2:=Vf l2;have lp1:(prodG G1 G1).length=49:=Qb _ _;have lp2:(prodG G2 G2).length=49:=Qb _ _;have lcn:(conG (rv n)).length=49:=ZC _;have ls:=yd lcn lp1 1;have q1:=Wo l1 l1;have q2:=Wo l2 l2;have q0:=zbj (rv n);have r1:rz (1:Rat)=1:=by decide +kernel
  have s1:=Jw (conG (rv n)) (prodG G1 G1) 1;rw [r1,lp1]at s1;have y1:gz G1+gz G1<=20000000:=by omega
  have y2:gz G2+gz G2<=20000000:=by omega
  have wr:=Ze wn;have y3:gz (conG (rv n))+gz (prodG G1 G1)<=2000000000:=by omega
  have y4:gz (plusG (conG (rv n)) 1 (prodG G1 G1))+gz (prodG G2 G2)<=2000000000:=by omega
  have y5:rz (1:Rat)<=1000000:=by omega
  obtain⟨R,hR⟩:∃R,plusG (plusG (conG (rv n)) 1 (prodG G1 G1)) 1 (prodG G2 G2)=R:=⟨_,rfl⟩;have lR:R.length=49:=by rw [<-hR];exact yd ls lp2 1
  have cR:(gC R).length=147:=by rw [Uc,lR]
  have tR:=Vf lR;have w10:WLA (rcan 1,rcan 0):=qB (1,0);have al10:al (rcan 1,rcan 0)<=1000:=by rw [uP];change zq (1,0)<=_;rw [Vai];decide
  have av10:avld (rcan 1,rcan 0)=true:=by unfold avld;rw [uc,uc];rfl
  rw [hR]at hK;simp only [go_sem,Wg,hR,cR,tR,h10,h1r,c1,c2,t1,t2,l1,l2,lp1,lp2,lcn,ls,ho,hv,hcn,hm,hp,Zw,vd,qP,Wb,uc,hG1,hG2];repeat first|refine ja (by with_reducible assumption) ?_|refine ja (Nat.le_trans (by with_reducible assumption) (by decide)) ?_|refine ja (by decide) ?_
  exact hK
end Go.Abs
end
section
namespace Go.Num
open Go.Abs
structure C20 (c:CpR):Prop where
 o:zq c.1<=20
 q:zq c.2.1<=20
 a:rz c.2.2.1<=20
 b:rz c.2.2.2.1<=20
 d:rz c.2.2.2.2.1<=20
 w:zq (cW c)<=20
theorem Jaj(c:CpR):(paE c).length=49:=YaP _ _
theorem yO(c:CpR):(paA c).1.length=49/\(paA c).2.length=49:=VH _ _
theorem YO(c:CpR):(paB c).1.length=49/\(paB c).2.length=49:=VH _ _
theorem vbx{c:CpR}(h:zq (cW c)<=20):zq (reQ c)<=24:=by
 have:=xQ (1,0) (cW c);have e:zq (1,0)<=1:=Nat.le_of_eq Vai;unfold reQ;omega
theorem Zas{c:CpR}(h:C20 c):gz (paA c).1<=130/\gz (paA c).2<=130:=by
 have h1:=vaS c.1 (barQ (cW c));rw [qaB]at h1;have:=h.o;have:=h.w;unfold paA;omega
theorem Qau{c:CpR}(h:C20 c):gz (paB c).1<=146/\gz (paB c).2<=146:=by
 have h1:=vaS c.2.1 (barQ (reQ c));rw [qaB]at h1;have:=h.q;have:=vbx h.w;unfold paB;omega
theorem Qa1{c:CpR}(h:C20 c):gz (paE c)<=40000:=by
 have h1:=zbM c.1 (sqQ (cW c)*c.2.2.2.1-c.2.2.1);have h2:=zw (sqQ (cW c)*c.2.2.2.1) c.2.2.1;have h3:=jc (sqQ (cW c)) c.2.2.2.1;have h4:=jI (cW c);have:=h.o;have:=h.w;have:=h.a;have:=h.b;unfold paE;omega
theorem qaN{c:CpR}(h:C20 c):gz (paF c)<=40000:=by
 have h1:=zbM c.2.1 (sqQ (reQ c)*c.2.2.2.1-c.2.2.2.2.1);have h2:=zw (sqQ (reQ c)*c.2.2.2.1) c.2.2.2.2.1;have h3:=jc (sqQ (reQ c)) c.2.2.2.1;have h4:=jI (reQ c);have:=h.q;have:=vbx h.w;have:=h.d;have:=h.b;unfold paF;omega
theorem ubc:rz (-1:Rat)=1:=by decide +kernel
theorem Xbd:rz (1:Rat)=1:=by decide +kernel
theorem ubj{c:CpR}(h:C20 c):gz (plusG zG (-1) (paF c))<=41000:=by
 have h1:=Jw zG (paF c) (-1);have:=qaN h;rw [gz_z,kN,ubc]at h1;omega
theorem Zbi{c:CpR}(h:C20 c):gz (prodG (paE c) (paB c).2)<=2000000/\gz (prodG (paF c) (paA c).2)<=2000000:=by
 have h1:=Wo (Jaj c) (YO c).2;have h2:=Wo (kN c) (yO c).2;have:=Qa1 h;have:=qaN h;have:=Zas h;have:=Qau h;omega
theorem zbn{c:CpR}(h:C20 c):gz (prodG (plusG zG (-1) (paF c)) (paA c).1)<=2100000/\gz (prodG (paE c) (paB c).1)<=2000000:=by
 have h1:=Wo (yd jr (kN c) (-1)) (yO c).1;have h2:=Wo (Jaj c) (YO c).1;have:=Qa1 h;have:=ubj h;have:=Zas h;have:=Qau h;omega
theorem Jbm{c:CpR}(h:C20 c):gz (prodG (paA c).1 (paB c).2)<=24000/\gz (prodG (paA c).2 (paB c).1)<=24000:=by
 have h1:=Wo (yO c).1 (YO c).2;have h2:=Wo (yO c).2 (YO c).1;have:=Zas h;have:=Qau h;omega
theorem jbi{c:CpR}(h:C20 c):gz (paX c)<=4100000:=by
 have h1:=Jw (prodG (paE c) (paB c).2) (prodG (paF c) (paA c).2) 1;rw [Qb,Xbd]at h1;have:=Zbi h;unfold paX;omega
theorem Jbj{c:CpR}(h:C20 c):gz (paY c)<=4200000:=by
 have h1:=Jw (prodG (plusG zG (-1) (paF c)) (paA c).1) (prodG (paE c) (paB c).1) (-1);rw [Qb,ubc]at h1;have:=zbn h;unfold paY;omega
theorem ubg{c:CpR}(h:C20 c):gz (paM c)<=49000:=by
 have h1:=Jw (prodG (paA c).1 (paB c).2) (prodG (paA c).2 (paB c).1) (-1);rw [Qb,ubc]at h1;have:=Jbm h;unfold paM;omega
theorem WbD{c:CpR}(h:C20 c):gz (prodG (paX c) (paX c))<=450000000/\gz (prodG (paY c) (paY c))<=450000000/\gz (prodG (paM c) (paM c))<=5000000/\gz (plusG (prodG (paX c) (paX c)) 1 (prodG (paY c) (paY c)))<=901000000/\gz (paC c)<=1000000000:=by
 have h1:=Wo (qW c) (qW c);have h2:=Wo (ZX c) (ZX c);have h3:=Wo (UX c) (UX c);have:=jbi h;have:=Jbj h;have:=ubg h;have s1:=Jw (prodG (paX c) (paX c)) (prodG (paY c) (paY c)) 1;have s2:=Jw (plusG (prodG (paX c) (paX c)) 1 (prodG (paY c) (paY c))) (prodG (paM c) (paM c)) (-(4*c.2.2.2.1));rw [Qb,Xbd]at s1;have b:=h.b;have r4:rz (4:Rat)=1:=by decide +kernel
 have h4:=jc 4 c.2.2.2.1;have h5:=Vv (4*c.2.2.2.1);rw [Qb]at s2;refine⟨by omega,by omega,by omega,by omega,?_⟩
 unfold paC;omega
end Go.Num
end
section
namespace Go.Abs
open Go.Num
variable {P:Program} {Γ:Nat->Spec}
def Ur(l:List AV)(K:AV->Prop):Prop:=
 match l with
 | [c]=>onCp (λc=>cl c<=20/\cchk c=0/\K (.tup [gA (paX (cpv c)),gA (paY (cpv c)),gA (paM (cpv c))])) c
 | _=>False
theorem W4(c:AV)(K:AV->Prop):Ur [c] K=(onCp (λc=>cl c<=20/\cchk c=0/\K (.tup [gA (paX (cpv c)),gA (paY (cpv c)),gA (paM (cpv c))])) c):=propext Iff.rfl
@[congr] theorem UbJ {K:AV->Prop} {l l' : List AV} (h:l=l'):Ur l K=Ur l' K:=by subst h;rfl
attribute [go_sem,go_sem ↓] W4
theorem Qak:Good Ur:=Wa λas=>by
 unfold Ur;split
 .exact(Ym λ_=>(.and λ_=>(.and λ_=>(.ret _))))
 .exact .of λK hk=>hk.elim
theorem ua6:∀n,(zrs n).flatMap ownC=[]
 | 0=>rfl
 | n+1=>by
  show ownC _++(ownC _++(ownC _++(zrs n).flatMap ownC))=[];rw [ua6 n];rfl
theorem rep49:List.replicate 49 (0:Rat)=zG:=rfl
theorem Vbj{c:Cp}(hw:WLC c)(h:cl c<=20):C20 (cpv c):=by
 obtain⟨wo,wQ,w1,w2,w3,w4,w5⟩:=hw;unfold cl at h;simp only [Nat.max_le]at h;obtain⟨l1,l2,l3,l4,l5,l6,l7⟩:=h;refine⟨Nat.le_trans (QO wo) l1,Nat.le_trans (QO wQ) l2,Nat.le_trans (Ze w1) l3,Nat.le_trans (Ze w2) l4,Nat.le_trans (Ze w3) l5,?_⟩;exact Nat.max_le.2 ⟨Nat.le_trans (Ze w4) l6,Nat.le_trans (Ze w5) l7⟩
def vh(f0 f1 f2 f3 f4 f5 f6 f7 f8 f9 f10:Nat):AC:=(.seq (.ops false [.u 1 (.box 27 (.t 0)),.u 2 (.alloc (zrs 49)),.u 3 (.alloc (zrs 49)),.u 4 (.alloc (zrs 49))])
 (.fg [1,2,3,4] (.seq (.ops false [.u 16 (.call f0 [(.i 1)]),.u 17 (.call f0 [(.i (-1))]),.u 5 (.alloc [(.lit (.bool false)),.emp,.emp]),.u 6 (.alloc [(.lit (.bool false)),.emp,.emp]),.n (.st none 3 (.t 5) (.t 16)),.n (.st none 3 (.t 6) (.t 17))])
 (.fg [1,2,3,4,5,6] (.seq (.ops true [.u 19 (.fa 0 (.t 1)),.u 20 (.ld none 6 true (.t 19)),.u 21 (.ld none 27 true (.t 1)),.u 22 (.call f1 [(.t 21)]),.u 23 (.call f2 [(.t 22)]),.u 24 (.call f3 [(.t 20),(.t 23)]),.m 18 (.t 24),.u 25 (.ext 0 (.t 18)),.u 26 (.ext 1 (.t 18)),.u 7 (.alloc (zrs 49)),.u 8 (.alloc (zrs 49)),.n (.st none 147 (.t 7) (.t 25)),.n (.st none 147 (.t 8) (.t 26))])
 (.fg [1,2,3,4,5,6,7,8] (.seq (.ops true [.u 28 (.fa 6 (.t 1)),.u 29 (.ld none 6 true (.t 28)),.u 30 (.ld none 27 true (.t 1)),.u 31 (.call f4 [(.t 30)]),.u 32 (.call f2 [(.t 31)]),.u 33 (.call f3 [(.t 29),(.t 32)]),.m 27 (.t 33),.u 34 (.ext 0 (.t 27)),.u 35 (.ext 1 (.t 27)),.u 9 (.alloc (zrs 49)),.u 10 (.alloc (zrs 49)),.n (.st none 147 (.t 9) (.t 34)),.n (.st none 147 (.t 10) (.t 35))])
 (.fg [1,2,3,4,5,6,7,8,9,10] (.seq (.ops true [.u 36 (.fa 0 (.t 1)),.u 37 (.ld none 6 true (.t 36)),.u 38 (.ld none 27 true (.t 1)),.u 39 (.call f1 [(.t 38)]),.u 40 (.call f5 [(.t 39)]),.u 41 (.fa 15 (.t 1)),.u 42 (.ld none 3 true (.t 41)),.u 43 (.call f6 [(.t 40),(.t 42)]),.u 44 (.fa 12 (.t 1)),.u 45 (.ld none 3 true (.t 44)),.u 46 (.call f7 [(.t 43),(.t 45)]),.u 47 (.call f8 [(.t 37),(.t 46)]),.u 11 (.alloc (zrs 49)),.n (.st none 147 (.t 11) (.t 47))])
 (.fg [1,2,3,4,5,6,7,8,9,10,11] (.seq (.ops true [.u 48 (.fa 6 (.t 1)),.u 49 (.ld none 6 true (.t 48)),.u 50 (.ld none 27 true (.t 1)),.u 51 (.call f4 [(.t 50)]),.u 52 (.call f5 [(.t 51)]),.u 53 (.fa 15 (.t 1)),.u 54 (.ld none 3 true (.t 53)),.u 55 (.call f6 [(.t 52),(.t 54)]),.u 56 (.fa 18 (.t 1)),.u 57 (.ld none 3 true (.t 56)),.u 58 (.call f7 [(.t 55),(.t 57)]),.u 59 (.call f8 [(.t 49),(.t 58)]),.u 12 (.alloc (zrs 49)),.n (.st none 147 (.t 12) (.t 59))])
 (.fg [2,3,4,5,6,7,8,9,10,11,12] (.seq (.ops true [.u 60 (.ld none 147 true (.t 11)),.u 61 (.ld none 147 true (.t 10)),.u 62 (.call f9 [(.t 60),(.t 61)]),.u 63 (.ld none 3 true (.t 5)),.u 64 (.ld none 147 true (.t 12)),.u 65 (.ld none 147 true (.t 8)),.u 66 (.call f9 [(.t 64),(.t 65)]),.u 67 (.call f10 [(.t 62),(.t 63),(.t 66)]),.u 13 (.alloc (zrs 49)),.n (.st none 147 (.t 13) (.t 67))])
 (.fg [2,3,4,6,7,8,9,10,11,12,13] (.seq (.ops true [.u 68 (.build [.z (zrs 49)]),.u 69 (.ld none 3 true (.t 6)),.u 70 (.ld none 147 true (.t 12)),.u 71 (.call f10 [(.t 68),(.t 69),(.t 70)]),.u 72 (.ld none 147 true (.t 7)),.u 73 (.call f9 [(.t 71),(.t 72)]),.u 74 (.ld none 3 true (.t 6)),.u 75 (.ld none 147 true (.t 11)),.u 76 (.ld none 147 true (.t 9)),.u 77 (.call f9 [(.t 75),(.t 76)]),.u 78 (.call f10 [(.t 73),(.t 74),(.t 77)]),.u 14 (.alloc (zrs 49)),.n (.st none 147 (.t 14) (.t 78))])
 (.fg [2,3,4,6,7,8,9,10,13,14] (.seq (.ops true [.u 79 (.ld none 147 true (.t 7)),.u 80 (.ld none 147 true (.t 10)),.u 81 (.call f9 [(.t 79),(.t 80)]),.u 82 (.ld none 3 true (.t 6)),.u 83 (.ld none 147 true (.t 8)),.u 84 (.ld none 147 true (.t 9)),.u 85 (.call f9 [(.t 83),(.t 84)]),.u 86 (.call f10 [(.t 81),(.t 82),(.t 85)]),.u 15 (.alloc (zrs 49)),.n (.st none 147 (.t 15) (.t 86))])
 (.fg [2,3,4,13,14,15] (.seq (.ops true [.u 87 (.ld (some 13) 147 true (.t 13)),.u 88 (.ld (some 14) 147 true (.t 14)),.u 89 (.ld (some 15) 147 true (.t 15)),.n (.st (some 2) 147 (.t 2) (.t 87)),.n (.st (some 3) 147 (.t 3) (.t 88)),.n (.st (some 4) 147 (.t 4) (.t 89))])
 .ret)))))))))))))))))))
set_option maxHeartbeats 2000000 in
theorem X7(hΓ:Holds P Γ){f fo fw fb fv fr fq fm fs fg fp fa:Nat}(ho:Γ fo=.dat false Wx)(hw' : Γ fw=.dat false ZE)(hb:Γ fb=.dat false xE)(hv:Γ fv=.dat false xC)(hr:Γ fr=.dat false qG)(hq' : Γ fq=.dat false kH)(hm:Γ fm=.dat false kj)(hs:Γ fs=.dat false vr)(hg:Γ fg=.dat false xY)(hp:Γ fp=.dat false Ut)(ha:Γ fa=.dat false Wu)(hc:check P f=some (90,(vh fo fw fb fv fr fq fm fs fg fp fa).strip,[.cell 2 147 true,.cell 3 147 true,.cell 4 147 true])):Sound P f (.dat false Ur):=by
 refine ka hc Qak hΓ (λargs K hcl hfi hG=>?_);match args,hG with
 | [a],hG=>
  obtain⟨c,rfl,hw,hl,h0,hK⟩:=hG;refine⟨by simp,?_⟩
  obtain⟨wo,wQ,w1,w2,w3,w4,w5⟩:=id hw;obtain⟨v1,v2,v3,v4,v5⟩:=qbK h0;have h20:=Vbj hw hl;have hl0:=hl;unfold cl at hl0;simp only [Nat.max_le]at hl0;obtain⟨l1,l2,l3,l4,l5,l6,l7⟩:=hl0;have l1' : al c.1<=1000:=Nat.le_trans l1 (by decide)
  have l2' : al c.2.1<=1000:=Nat.le_trans l2 (by decide)
  have hl2:cl c<=100000000:=Nat.le_trans hl (by decide)
  have wW:WLA c.2.2.2.2.2:=⟨w4,w5⟩;have aW:av c.2.2.2.2.2=cW (cpv c):=rfl;have lW:al c.2.2.2.2.2<=100000000:=Nat.max_le.2 ⟨Nat.le_trans l6 (by decide),Nat.le_trans l7 (by decide)⟩
  obtain⟨RE,hRE⟩:∃x,reQ (cpv c)=x:=⟨_,rfl⟩;have zR:=vbx h20.w;rw [hRE]at zR;have i1:((1:Int):Rat)=1:=rfl;have im1:((-1:Int):Rat) = -1:=rfl;obtain⟨A1,hA1⟩:∃G,(vecG (av c.1) (barQ (cW (cpv c)))).1=G:=⟨_,rfl⟩;obtain⟨A2,hA2⟩:∃G,(vecG (av c.1) (barQ (cW (cpv c)))).2=G:=⟨_,rfl⟩;obtain⟨B1,hB1⟩:∃G,(vecG (av c.2.1) (barQ RE)).1=G:=⟨_,rfl⟩;obtain⟨B2,hB2⟩:∃G,(vecG (av c.2.1) (barQ RE)).2=G:=⟨_,rfl⟩;obtain⟨E,hE⟩:∃G,sqG (av c.1) (sqQ (cW (cpv c))*rv c.2.2.2.1-rv c.2.2.1)=G:=⟨_,rfl⟩;obtain⟨F,hF⟩:∃G,sqG (av c.2.1) (sqQ RE*rv c.2.2.2.1-rv c.2.2.2.2.1)=G:=⟨_,rfl⟩;have eA:paA (cpv c)=(A1,A2):=by rw [<-hA1,<-hA2];rfl
  have eB:paB (cpv c)=(B1,B2):=by rw [<-hB1,<-hB2,<-hRE];rfl
  have eE:paE (cpv c)=E:=hE;have eF:paF (cpv c)=F:=by rw [<-hF,<-hRE];rfl
  have gA':=Zas h20;have gB':=Qau h20;have gE':=Qa1 h20;have gF':=qaN h20;have gN':=ubj h20;have g1:=Zbi h20;have g2:=zbn h20;have g3:=Jbm h20;have lA:=yO (cpv c);have lB:=YO (cpv c);have lE:=Jaj (cpv c);have lF:=kN (cpv c);have lX:=qW (cpv c);have lY:=ZX (cpv c);have lM:=UX (cpv c);have eX:paX (cpv c)=plusG (prodG E B2) 1 (prodG F A2):=by unfold paX;rw [eA,eB,eE,eF]
  have eY:paY (cpv c)=plusG (prodG (plusG zG (-1) F) A1) (-1) (prodG E B1):=by unfold paY;rw [eA,eB,eE,eF]
  have eM:paM (cpv c)=plusG (prodG A1 B2) (-1) (prodG A2 B1):=by unfold paM;rw [eA,eB]
  rw [eX]at lX hK;rw [eY]at lY hK;rw [eM]at lM hK;rw [eA]at gA' g1 g2 g3 lA;rw [eB]at gB' g1 g2 g3 lB;rw [eE]at gE' g1 g2 lE;rw [eF]at gF' gN' g1 g2 lF;simp only at gA' gB' g1 g2 g3 lA lB;clear eX eY eM eA eB eE eF;obtain⟨lA1,lA2⟩:=lA;obtain⟨lB1,lB2⟩:=lB;have lN:=yd jr lF (-1);obtain⟨N,hN⟩:∃G,plusG zG (-1) F=G:=⟨_,rfl⟩;obtain⟨P1,hP1⟩:∃G,prodG E B2=G:=⟨_,rfl⟩;obtain⟨P2,hP2⟩:∃G,prodG F A2=G:=⟨_,rfl⟩;rw [hN]at lN gN' g2 hK lY;obtain⟨P3,hP3⟩:∃G,prodG N A1=G:=⟨_,rfl⟩;obtain⟨P4,hP4⟩:∃G,prodG E B1=G:=⟨_,rfl⟩;obtain⟨P5,hP5⟩:∃G,prodG A1 B2=G:=⟨_,rfl⟩;obtain⟨P6,hP6⟩:∃G,prodG A2 B1=G:=⟨_,rfl⟩;rw [hP1,hP2]at g1 hK lX;rw [hP3,hP4]at g2 hK lY;rw [hP5,hP6]at g3 hK lM;obtain⟨X,hX⟩:∃G,plusG P1 1 P2=G:=⟨_,rfl⟩;obtain⟨Y,hY⟩:∃G,plusG P3 (-1) P4=G:=⟨_,rfl⟩;obtain⟨M,hM⟩:∃G,plusG P5 (-1) P6=G:=⟨_,rfl⟩;rw [hX]at lX hK;rw [hY]at lY hK;rw [hM]at lM hK;have lP1:P1.length=49:=by rw [<-hP1];exact Qb _ _
  have lP2:P2.length=49:=by rw [<-hP2];exact Qb _ _
  have lP3:P3.length=49:=by rw [<-hP3];exact Qb _ _
  have lP4:P4.length=49:=by rw [<-hP4];exact Qb _ _
  have lP5:P5.length=49:=by rw [<-hP5];exact Qb _ _
  have lP6:P6.length=49:=by rw [<-hP6];exact Qb _ _
  have cA1:(gC A1).length=147:=by rw [Uc,lA1]
  have tA1:=Vf lA1;have cA2:(gC A2).length=147:=by rw [Uc,lA2]
  have tA2:=Vf lA2;have cB1:(gC B1).length=147:=by rw [Uc,lB1]
  have tB1:=Vf lB1;have cB2:(gC B2).length=147:=by rw [Uc,lB2]
  have tB2:=Vf lB2;have cE:(gC E).length=147:=by rw [Uc,lE]
  have tE:=Vf lE;have cF:(gC F).length=147:=by rw [Uc,lF]
  have tF:=Vf lF;have cX:(gC X).length=147:=by rw [Uc,lX]
  have tX:=Vf lX;have cY:(gC Y).length=147:=by rw [Uc,lY]
  have tY:=Vf lY;have cM:(gC M).length=147:=by rw [Uc,lM]
  have tM:=Vf lM;have zg:gz zG=0:=gz_z;have u1:gz E+gz B2<=20000000:=by omega
  have u2:gz F+gz A2<=20000000:=by omega
  have u3:gz N+gz A1<=20000000:=by omega
  have u4:gz E+gz B1<=20000000:=by omega
  have u5:gz A1+gz B2<=20000000:=by omega
  have u6:gz A2+gz B1<=20000000:=by omega
  have y1:gz P1+gz P2<=2000000000:=by omega
  have y2:gz P3+gz P4<=2000000000:=by omega
  have y3:gz P5+gz P6<=2000000000:=by omega
  have y4:gz zG+gz F<=2000000000:=by omega
  have k1:rz (1:Rat)<=1000000:=by rw [Xbd];decide
  have k2:rz (-1:Rat)<=1000000:=by rw [ubc];decide
  have zB1:al (rcan (barQ (cW (cpv c))).1,rcan (barQ (cW (cpv c))).2)<=1000:=by rw [uP];change zq (barQ _)<=_;rw [qaB];have:=h20.w;omega
  have zB2:al (rcan (barQ RE).1,rcan (barQ RE).2)<=1000:=by rw [uP];change zq (barQ _)<=_;rw [qaB];omega
  have zRE:al (rcan RE.1,rcan RE.2)<=100000000:=by rw [uP];change zq RE<=_;omega
  have vB1:avld (rcan (barQ (cW (cpv c))).1,rcan (barQ (cW (cpv c))).2)=true:=by unfold avld;rw [uc,uc];rfl
  have vB2:avld (rcan (barQ RE).1,rcan (barQ RE).2)=true:=by unfold avld;rw [uc,uc];rfl
  have m0:zq (cW (cpv c))<=20:=h20.w;have r2:=Ze w2;have r1:=Ze w1;have r3:=Ze w3;have m1:=Nat.le_trans (jI (cW (cpv c))) (by omega:_<=1000)
  have m2:=Nat.le_trans (jI RE) (by omega:_<=1000)
  have m3:=Nat.le_trans (jc (sqQ (cW (cpv c))) (rv c.2.2.2.1)) (by omega:_<=2000)
  have m4:=Nat.le_trans (jc (sqQ RE) (rv c.2.2.2.1)) (by omega:_<=2000)
  have m5:=Nat.le_trans (zw (sqQ (cW (cpv c))*rv c.2.2.2.1) (rv c.2.2.1)) (by omega:_<=4000)
  have m6:=Nat.le_trans (zw (sqQ RE*rv c.2.2.2.1) (rv c.2.2.2.2.1)) (by omega:_<=4000)
  simp only [go_sem,vh,ho,hw',hb,hv,hr,hq',hm,hs,hg,hp,ha,cpA,cpC,vd,Zw,qP,Wb,aW,i1,im1,hRE,hA1,hA2,hB1,hB2,hE,hF,hN,hX,hY,hM,hP1,hP2,hP3,hP4,hP5,hP6,cA1,tA1,lA1,cA2,tA2,lA2,cB1,tB1,lB1,cB2,tB2,lB2,cE,tE,lE,cF,tF,lF,cX,tX,lX,cY,tY,lY,cM,tM,lM,lN,jr,lP1,lP2,lP3,lP4,lP5,lP6,jK,ua6,rep49,uc,v4];repeat first|refine ja (by with_reducible assumption) ?_|refine ja (Nat.le_trans (by with_reducible assumption) (by decide)) ?_|refine ja (by decide) ?_
  exact hK
end Go.Abs
end
section
namespace Go.Abs
open Go.Num
variable {P:Program} {Γ:Nat->Spec}
def Qs(l:List AV)(K:AV->Prop):Prop:=
 match l with
 | [c]=>onCp (λc=>cl c<=20/\cchk c=0/\K (.one (.slice ((mcs (cCur (cpv c))).map mC)))) c
 | _=>False
theorem Z4(c:AV)(K:AV->Prop):Qs [c] K=(onCp (λc=>cl c<=20/\cchk c=0/\K (.one (.slice ((mcs (cCur (cpv c))).map mC)))) c):=propext Iff.rfl
@[congr] theorem QbN {K:AV->Prop} {l l' : List AV} (h:l=l'):Qs l K=Qs l' K:=by subst h;rfl
attribute [go_sem,go_sem ↓] Z4
theorem zak:Good Qs:=Wa λas=>by
 unfold Qs;split
 .exact(Ym λ_=>(.and λ_=>(.and λ_=>(.ret _))))
 .exact .of λK hk=>hk.elim
def yN(l:List AV)(K:AV->Prop):Prop:=
 match l with
 | [c]=>onCp (λc=>cl c<=20/\cchk c=0/\K (.one (.slice ((mcs (cM (cpv c))).map mC)))) c
 | _=>False
theorem QQ(c:AV)(K:AV->Prop):yN [c] K=(onCp (λc=>cl c<=20/\cchk c=0/\K (.one (.slice ((mcs (cM (cpv c))).map mC)))) c):=propext Iff.rfl
@[congr] theorem Wby {K:AV->Prop} {l l' : List AV} (h:l=l'):yN l K=yN l' K:=by subst h;rfl
attribute [go_sem,go_sem ↓] QQ
def xh(f0 f1 f2 f3 f4 f5 f6:Nat):AC:=(.seq (.ops false [.u 1 (.box 27 (.t 0)),.m 2 (.c (.one .emp))])
 (.fg [1] (.seq (.ops false [.u 8 (.ld none 27 true (.t 1)),.u 9 (.call f0 [(.t 8)]),.m 7 (.t 9),.u 10 (.ext 0 (.t 7)),.u 11 (.ext 1 (.t 7)),.u 12 (.ext 2 (.t 7)),.u 3 (.alloc (zrs 49)),.u 4 (.alloc (zrs 49)),.u 5 (.alloc (zrs 49)),.n (.st none 147 (.t 3) (.t 10)),.n (.st none 147 (.t 4) (.t 11)),.n (.st none 147 (.t 5) (.t 12))])
 (.fg [1,3,4,5] (.seq (.ops true [.u 13 (.ld none 147 true (.t 3)),.u 14 (.ld none 147 true (.t 3)),.u 15 (.call f1 [(.t 13),(.t 14)]),.u 16 (.call f2 [(.i 1)]),.u 17 (.ld none 147 true (.t 4)),.u 18 (.ld none 147 true (.t 4)),.u 19 (.call f1 [(.t 17),(.t 18)]),.u 20 (.call f3 [(.t 15),(.t 16),(.t 19)]),.u 6 (.alloc (zrs 49)),.n (.st none 147 (.t 6) (.t 20))])
 (.fg [1,5,6] (.seq (.ops true [.u 21 (.ld none 147 true (.t 6)),.u 22 (.call f2 [(.i 4)]),.u 23 (.fa 15 (.t 1)),.u 24 (.ld none 3 true (.t 23)),.u 25 (.call f4 [(.t 22),(.t 24)]),.u 26 (.call f5 [(.t 25)]),.u 27 (.ld none 147 true (.t 5)),.u 28 (.ld none 147 true (.t 5)),.u 29 (.call f1 [(.t 27),(.t 28)]),.u 30 (.call f3 [(.t 21),(.t 26),(.t 29)]),.u 31 (.call f6 [(.t 30)]),.m 2 (.t 31)])
 .ret)))))))
theorem Y7(hΓ:Holds P Γ){f fp fr fo fa fm fn fl:Nat}(hp:Γ fp=.dat false Ur)(hr:Γ fr=.dat false Ut)(ho:Γ fo=.dat false Wx)(ha:Γ fa=.dat false Wu)(hm:Γ fm=.dat false kj)(hn:Γ fn=.dat false Xp)(hl' : Γ fl=.dat false Uy)(hc:check P f=some (32,(xh fp fr fo fa fm fn fl).strip,[.tmp 2])):Sound P f (.dat false Qs):=by
 refine ka hc zak hΓ (λargs K hcl hfi hG=>?_);match args,hG with
 | [a],hG=>
  obtain⟨c,rfl,hw,hl,h0,hK⟩:=hG;refine⟨by simp,?_⟩
  have h20:=Vbj hw hl;have e:=wbe (YL hw (Nat.le_trans hl (by decide)))
  rw [<-e]at hK;have lX:=qW (cpv c);have lY:=ZX (cpv c);have lM:=UX (cpv c);have lC:=wbx (cpv c);have gX:=jbi h20;have gY:=Jbj h20;have gM:=ubg h20;obtain⟨s1,s2,s3,s4,s5⟩:=WbD h20;have w2:=hw.2.2.2.1;have l2:rl c.2.2.2.1<=4294967296:=by unfold cl at hl;omega
  have b:=h20.b;have r4:rz (4:Rat)<=1:=by decide +kernel
  have m4:=Nat.le_trans (jc 4 (cpv c).2.2.2.1) (by omega:_<=1000)
  have m5:rz (-(4*(cpv c).2.2.2.1))<=1000000:=by rw [Vv];omega
  have k1:rz (1:Rat)<=1000000:=by rw [Xbd];decide
  have i1:((1:Int):Rat)=1:=rfl;have i4:((4:Int):Rat)=4:=rfl;have eB:(cpv c).2.2.2.1=rv c.2.2.2.1:=rfl;unfold paC at lC s5 hK;obtain⟨X,hX⟩:∃G,paX (cpv c)=G:=⟨_,rfl⟩;obtain⟨Y,hY⟩:∃G,paY (cpv c)=G:=⟨_,rfl⟩;obtain⟨M,hM⟩:∃G,paM (cpv c)=G:=⟨_,rfl⟩;rw [hX]at lX gX s1 s4 s5 lC hK;rw [hY]at lY gY s2 s4 s5 lC hK;rw [hM]at lM gM s3 s5 lC hK;rw [eB]at m4 m5 s5 lC hK;have lPX:(prodG X X).length=49:=Qb _ _;have lPY:(prodG Y Y).length=49:=Qb _ _;have lPM:(prodG M M).length=49:=Qb _ _;have lS:=yd lPX lPY 1;have y1:gz X+gz X<=20000000:=by omega
  have y2:gz Y+gz Y<=20000000:=by omega
  have y3:gz M+gz M<=20000000:=by omega
  have y4:gz (prodG X X)+gz (prodG Y Y)<=2000000000:=by omega
  have y5:gz (plusG (prodG X X) 1 (prodG Y Y))+gz (prodG M M)<=2000000000:=by omega
  have s5':=Nat.le_trans s5 (by decide:_<=4294967296)
  obtain⟨S,hS⟩:∃G,plusG (prodG X X) 1 (prodG Y Y)=G:=⟨_,rfl⟩;rw [hS]at lS y5 s5' lC hK;obtain⟨T,hT⟩:∃G,plusG S (-(4*rv c.2.2.2.1)) (prodG M M)=G:=⟨_,rfl⟩;rw [hT]at s5' lC hK;have m6:rz (4*rv c.2.2.2.1)<=4294967296:=Nat.le_trans m4 (by decide)
  have cX:(gC X).length=147:=by rw [Uc,lX]
  have cY:(gC Y).length=147:=by rw [Uc,lY]
  have cM:(gC M).length=147:=by rw [Uc,lM]
  have cS:(gC S).length=147:=by rw [Uc,lS]
  have tX:=Vf lX;have tY:=Vf lY;have tM:=Vf lM;have tS:=Vf lS;have r41:rz (4:Rat)<=4294967296:=Nat.le_trans r4 (by decide)
  simp only [go_sem,xh,hp,hr,ho,ha,hm,hn,hl',cpA,cpC,vd,hX,hY,hM,hS,hT,i1,i4,Wb,cX,cY,cM,cS,tX,tY,tM,tS,lX,lY,lM,lS,lPX,lPY,lPM,lC];repeat first|refine ja (by with_reducible assumption) ?_|refine ja (Nat.le_trans (by with_reducible assumption) (by decide)) ?_|refine ja (by decide) ?_
  exact hK
end Go.Abs
end
section
namespace Go.Abs
open Go.Num
variable {P:Program} {Γ:Nat->Spec}
def xy(l:List AV)(K:AV->Prop):Prop:=
 match l with
 | [c,d]=>onCp (λc=>onCp (λd=>cl c<=20/\cl d<=20/\cchk c=0/\cchk d=0/\K (.one (.lit (.bool (decide (cCur (cpv c)=cCur (cpv d))))))) d) c
 | _=>False
theorem Wau(c d:AV)(K:AV->Prop):xy [c,d] K=(onCp (λc=>onCp (λd=>cl c<=20/\cl d<=20/\cchk c=0/\cchk d=0/\K (.one (.lit (.bool (decide (cCur (cpv c)=cCur (cpv d))))))) d) c):=propext Iff.rfl
@[congr] theorem wbP {K:AV->Prop} {l l' : List AV} (h:l=l'):xy l K=xy l' K:=by subst h;rfl
attribute [go_sem,go_sem ↓] Wau
theorem vaJ:Good xy:=Wa λas=>by
 unfold xy;split
 .exact(Ym λ_=>(Ym λ_=>(.and λ_=>(.and λ_=>(.and λ_=>(.and λ_=>(.ret _)))))))
 .exact .of λK hk=>hk.elim
def zo(l:List AV)(K:AV->Prop):Prop:=
 match l with
 | [c,d]=>onCp (λc=>onCp (λd=>cl c<=1048576/\cl d<=1048576/\K (.one (.lit (.bool true)))) d) c
 | _=>False
theorem YQ(c d:AV)(K:AV->Prop):zo [c,d] K=(onCp (λc=>onCp (λd=>cl c<=1048576/\cl d<=1048576/\K (.one (.lit (.bool true)))) d) c):=propext Iff.rfl
@[congr] theorem kbz {K:AV->Prop} {l l' : List AV} (h:l=l'):zo l K=zo l' K:=by subst h;rfl
attribute [go_sem,go_sem ↓] YQ
theorem zac:Good zo:=Wa λas=>by
 unfold zo;split
 .exact(Ym λ_=>(Ym λ_=>(.and λ_=>(.and λ_=>(.ret _)))))
 .exact .of λK hk=>hk.elim
def Jj(f0 f1:Nat):AC:=(.seq (.ops false [.u 2 (.box 27 (.t 0)),.u 3 (.box 27 (.t 1)),.m 4 .fa])
 (.fg [2,3] (.seq (.ops true [.u 8 (.ld none 27 true (.t 2)),.u 9 (.call f0 [(.t 8)]),.u 10 (.ld none 27 true (.t 3)),.u 11 (.call f0 [(.t 10)]),.m 5 (.t 9),.m 6 (.t 11)])
 (.fg [5,6] (.seq (.seq (.ops false [.m 12 (.t 5),.u 13 (.len (.t 12)),.m 14 (.t 6),.u 15 (.len (.t 14)),.u 16 (.bin .neq (.t 13) (.t 15))])
 (.fg [5,6,16] (.cond (.t 16) (.seq (.ops false [.m 4 .fa])
 .ret) .skip)))
 (.fg [5,6] (.seq (.seq (.ops false [.m 17 (.t 5),.u 18 (.len (.t 17)),.m 19 (.i 0)])
 (.fg [5,6,18,19] (.block 0 (.loop (.seq (.ops false [.u 20 (.bin .lss (.t 19) (.t 18))])
 (.fg [5,6,18,19,20] (.seq (.cond (.t 20) .skip (.exit 0))
 (.fg [5,6,18,19] (.seq (.block 1 (.seq (.ops false [.m 21 (.t 19),.m 7 (.t 21)])
 (.fg [5,6,7,18,19] (.seq (.ops true [.m 22 (.t 5),.m 23 (.t 7),.u 24 (.idx 5 (.t 22) (.t 23)),.u 25 (.fa 0 (.t 24)),.u 26 (.ld none 1 false (.t 25)),.m 27 (.t 6),.m 28 (.t 7),.u 29 (.idx 5 (.t 27) (.t 28)),.u 30 (.fa 0 (.t 29)),.u 31 (.ld none 1 false (.t 30)),.u 32 (.bin .neq (.t 26) (.t 31)),.m 33 (.t 32),.w 34 33 false (.mv (.t 5)),.w 35 33 false (.mv (.t 7)),.w 36 33 false (.idx 5 (.t 34) (.t 35)),.w 37 33 false (.fa 1 (.t 36)),.w 38 33 false (.ld none 1 false (.t 37)),.w 39 33 false (.mv (.t 6)),.w 40 33 false (.mv (.t 7)),.w 41 33 false (.idx 5 (.t 39) (.t 40)),.w 42 33 false (.fa 1 (.t 41)),.w 43 33 false (.ld none 1 false (.t 42)),.w 44 33 false (.bin .neq (.t 38) (.t 43)),.u 45 (.pick (.t 33) .tr (.t 44)),.m 46 (.t 45),.w 47 46 false (.mv (.t 5)),.w 48 46 false (.mv (.t 7)),.w 49 46 false (.idx 5 (.t 47) (.t 48)),.w 50 46 false (.fa 2 (.t 49)),.w 51 46 false (.ld none 3 true (.t 50)),.w 52 46 false (.mv (.t 6)),.w 53 46 false (.mv (.t 7)),.w 54 46 false (.idx 5 (.t 52) (.t 53)),.w 55 46 false (.fa 2 (.t 54)),.w 56 46 false (.ld none 3 true (.t 55)),.w 57 46 false (.call f1 [(.t 51),(.t 56)]),.w 58 46 false (.bin .neq (.t 57) (.i 0)),.u 59 (.pick (.t 46) .tr (.t 58))])
 (.fg [5,6,18,19,59] (.cond (.t 59) (.seq (.ops false [.m 4 .fa])
 .ret) .skip))))))
 (.fg [5,6,18,19] (.ops false [.u 60 (.bin .add (.t 19) (.i 1)),.m 19 (.t 60)])))))))))))
 (.fg [] (.seq (.ops false [.m 4 .tr])
 .ret)))))))))
def Jb(f0 f1 f2 f3 f4 f5:Nat):AC:=(.seq (.ops false [.u 2 (.box 27 (.t 0)),.u 3 (.box 27 (.t 1)),.m 4 .fa])
 (.fg [2,3] (.seq (.seq (.ops false [.u 8 (.call f0 []),.u 9 (.un .not (.t 8)),.m 10 (.t 9),.w 11 10 false (.ld none 27 true (.t 2)),.w 12 10 false (.call f1 [(.t 11)]),.w 13 10 false (.un .not (.t 12)),.u 14 (.pick (.t 10) .tr (.t 13)),.m 15 (.t 14),.w 16 15 false (.ld none 27 true (.t 3)),.w 17 15 false (.call f1 [(.t 16)]),.w 18 15 false (.un .not (.t 17)),.u 19 (.pick (.t 15) .tr (.t 18))])
 (.fg [2,3,19] (.cond (.t 19) (.seq (.ops false [.u 20 (.call f0 []),.m 4 (.t 20)])
 .ret) .skip)))
 (.fg [2,3] (.seq (.ops false [.u 22 (.ld none 27 true (.t 2)),.u 23 (.ld none 27 true (.t 3)),.u 24 (.call f2 [(.t 22),(.t 23)]),.m 21 (.t 24),.u 25 (.ext 0 (.t 21)),.u 26 (.ext 1 (.t 21)),.m 5 (.t 25),.m 6 (.t 26)])
 (.fg [2,3,5,6] (.seq (.ops false [.u 27 (.ld none 27 true (.t 2)),.u 28 (.call f3 [(.t 27)]),.m 7 (.t 28)])
 (.fg [2,3,5,6,7] (.seq (.seq (.ops false [.m 29 (.t 7),.u 30 (.bin .eql (.t 29) (.i 0))])
 (.fg [2,3,5,6,7,30] (.cond (.t 30) (.ops false [.u 31 (.ld none 27 true (.t 3)),.u 32 (.call f3 [(.t 31)]),.m 7 (.t 32)]) .skip)))
 (.fg [2,3,5,6,7] (.seq (.seq (.ops false [.m 33 (.t 7),.u 34 (.bin .neq (.t 33) (.i 0))])
 (.fg [2,3,5,6,7,34] (.cond (.t 34) (.seq (.ops false [.m 35 (.t 5),.u 36 (.un .not (.t 35)),.m 37 (.t 36),.w 38 37 true (.mv (.t 6)),.w 39 37 true (.call f4 [(.t 38)]),.w 40 37 true (.mv (.t 7)),.w 41 37 true (.bin .eql (.t 39) (.t 40)),.u 42 (.pick (.t 37) (.t 41) .fa),.m 4 (.t 42)])
 .ret) .skip)))
 (.fg [2,3,5,6] (.seq (.ops false [.m 43 (.t 6),.u 44 (.binn .eql (.t 43) (.c (.one (.lit .nilIface)))),.m 45 (.t 44),.w 46 45 true (.mv (.t 5)),.w 47 45 true (.ld none 27 true (.t 2)),.w 48 45 true (.ld none 27 true (.t 3)),.w 49 45 true (.call f5 [(.t 47),(.t 48)]),.w 50 45 true (.binb .eql (.t 46) (.t 49)),.u 51 (.pick (.t 45) (.t 50) .fa),.m 4 (.t 51)])
 .ret)))))))))))))
set_option maxHeartbeats 1000000 in
theorem qan(hΓ:Holds P Γ){f fv fq:Nat}(hv:Γ fv=.dat false Qs)(hq:Γ fq=.dat true jg)(hc:check P f=some (61,(Jj fv fq).strip,[.tmp 4])):Sound P f (.dat false xy):=by
 refine ka hc vaJ hΓ (λargs K hcl hfi hG=>?_);match args,hG with
 | [x,y],hG=>
  obtain⟨c,rfl,hw,d,rfl,hw2,hl,hl2,h0,h1,hK⟩:=hG;refine⟨by simp,?_⟩
  have pc:=VM (YL hw (Nat.le_trans hl (by decide)))
  have i0:=ku pc.canon.ins;have pd:=VM (YL hw2 (Nat.le_trans hl2 (by decide)))
  have j0:=ku pd.canon.ins;have lc:=jB pc.canon;have ld:=jB pd.canon;have sc:=pc.size;have sd:=pd.size;obtain⟨p,hp⟩:∃p,cCur (cpv c)=p:=⟨_,rfl⟩;obtain⟨q,hq0⟩:∃q,cCur (cpv d)=q:=⟨_,rfl⟩;rw [hp]at i0 lc sc hK;rw [hq0]at j0 ld sd hK;have lp:=uX p;have lq:=uX q;simp only [go_sem,Jj,hv,vd,hp,hq0];repeat first|refine ja (by with_reducible assumption) ?_|refine ja (Nat.le_trans (by with_reducible assumption) (by decide)) ?_|refine ja (by decide) ?_
  intro _ _;refine⟨λhlen _=>?_,λhlen=>?_⟩
  case refine_2=>
   rw [decide_eq_false (λe=>hlen (by rw [e]))]at hK
   exact hK
  rw [lp,lq]at hlen;refine Ya (λk:Nat=>⟨mkV [(5,.one (.slice ((mcs p).map mC))),(6,.one (.slice ((mcs q).map mC))),(18,.one (.lit (.int .i64 ((mcs p).length:Nat)))),(19,.one (.lit (.int .i64 k)))],mkH []⟩) (λk=>k<=p.length/\p.take k=q.take k) (λk=>p.length-k) 0 ?_ ?_ ?_
  .exact Qa (by simp [okS,okV,okC,okL,okH,okB,okE,Za,Va,za,Ja,wsA,ws]) trivial
  .exact⟨Nat.zero_le _,rfl⟩
  .rintro k ⟨hk,htk⟩;rw [lp];by_cases hlt:k<p.length
   .obtain⟨⟨u1,u2,u3⟩,hu,hu2,hum⟩:=getM hlt;obtain⟨⟨v1,v2,v3⟩,hv1,hv2,hvm⟩:=getM (by omega:k<q.length)
    have hlp:k<(mcs p).length:=by omega
    have hlq:k<(mcs q).length:=by omega
    have r1:=Nat.le_trans (Ua9 hum sc) (by decide:_<=1073741824)
    have r2:=Nat.le_trans (Ua9 hvm sd) (by decide:_<=1073741824)
    simp only at r1 r2;have ts:=XaN hu hv1;have bad:¬((u1,u2,u3)=(v1,v2,v3))->K (.one (.lit (.bool false))):=λh=>by
     rw [decide_eq_false (λe=>h (by rw [e,hv1]at hu;simpa using hu.symm))]at hK
     exact hK
    simp only [go_sem,hlt,hlp,hlq,hq,hu2,hv2,mC,mcan,Wb];refine⟨λh1=>⟨λh2=>⟨r1,r2,λh3=>⟨by omega,k+1,Qa (by simp [okS,okV,okC,okL,okH,okB,okE,Za,Va,za,Ja,wsA,ws,lp]) trivial,⟨by omega,ts.2 ⟨htk,?_⟩⟩,by omega⟩,λh3=>bad λe=>h3 ?_⟩,λh2=>bad λe=>h2 ?_⟩,λh1=>bad λe=>h1 ?_⟩
    .rw [h1,h2,Zf.1 h3]
    .simp only [Prod.mk.injEq]at e;exact Zf.2 e.2.2
    .simp only [Prod.mk.injEq]at e;exact e.2.1
    .simp only [Prod.mk.injEq]at e;exact e.1
   .have ek:k=p.length:=by omega
    rw [ek,List.take_length,hlen,List.take_length]at htk;rw [decide_eq_true htk]at hK;simp only [go_sem,hlt];exact hK
set_option maxHeartbeats 2000000 in
theorem xZ(hΓ:Holds P Γ){f fw fs fm fk fn fg tE:Nat}(hw:Γ fw=.dat true uy)(hs:Γ fs=.dat true vG)(hm:Γ fm=.dat false (kC tE))(hk:Γ fk=.dat true UF)(hn:Γ fn=.dat true (jF tE))(hg:Γ fg=.dat false xy)(hc:check P f=some (52,(Jb fw fs fm fk fn fg).strip,[.tmp 4])):Sound P f (.dat true zo):=by
 refine ka hc zac hΓ (λargs K hcl hfi hG=>?_);match args,hG with
 | [x,y],hG=>
  obtain⟨c,rfl,hwc,d,rfl,hwd,hlc,hld,hK⟩:=hG;refine⟨by simp,?_⟩
  have hlc1:cl c<=4294967296:=by omega
  have hlc2:cl c<=100000000:=by omega
  have hld1:cl d<=4294967296:=by omega
  have hld2:cl d<=100000000:=by omega
  cases hsc:sC c with
  | false=>
   simp only [go_sem,Jb,hw,hs,hsc,vd];repeat first|refine ja (by with_reducible assumption) ?_|refine ja (Nat.le_trans (by with_reducible assumption) (by decide)) ?_|refine ja (by decide) ?_
   exact hK
  | true=>
  cases hsd:sC d with
  | false=>
   simp only [go_sem,Jb,hw,hs,hsc,hsd,vd];repeat first|refine ja (by with_reducible assumption) ?_|refine ja (Nat.le_trans (by with_reducible assumption) (by decide)) ?_|refine ja (by decide) ?_
   exact hK
  | true=>
  have c2:=QbM hsc;have d2:=QbM hsd;have lc3:cl c<=1000:=by omega
  have ld3:cl d<=1000:=by omega
  have lc4:cl c<=20:=by omega
  have ld4:cl d<=20:=by omega
  have e0:=Jd tE;have d0:decide (0=0)=true:=rfl;have dn:∀n:Int,decide (n=n)=true:=λn=>decide_eq_true rfl;have bb:∀b:Bool,(b == b)=true:=λb=>beq_self_eq_true b;have i0:((0:Nat):Int)=0:=rfl;have oE:∀(n:Nat) (e:Value) k,errV tE n=.one (.lit e)->onErr tE k (.one (.lit e))=k n:=λn e k h=>by rw [<-h];exact yZ tE k n
  obtain⟨n,hn0⟩:∃n,smC c d=n:=⟨_,rfl⟩;obtain⟨E,hE⟩:∃e,errV tE n=.one (.lit e):=⟨_,rfl⟩;have o1:=λk=>oE n E k hE;by_cases h0:cchk c=0
  .by_cases h1:cchk d=0
   .have hn1:n=0:=by rw [<-hn0];unfold smC;rw [if_neg (by omega),h1]
    subst hn1;rw [e0]at hE;simp only [AV.one.injEq,C.lit.injEq]at hE;subst hE;simp only [go_sem,Jb,hw,hs,hm,hk,hg,hsc,hsd,vd,h0,h1,hn0,e0,i0,d0,Bool.true_and,bb];repeat first|refine ja (by with_reducible assumption) ?_|refine ja (Nat.le_trans (by with_reducible assumption) (by decide)) ?_|refine ja (by decide) ?_
    exact hK
   .have hn1:n=cchk d:=by rw [<-hn0];unfold smC;rw [if_neg (by omega)]
    have hn2:¬n=0:=by omega
    have nz:(((n:Nat):Int)=0)=False:=eq_false (by omega)
    have dz:=decide_eq_false hn2;simp only [go_sem,Jb,hw,hs,hm,hk,hn,hsc,hsd,vd,h0,<-hn1,hn0,i0,hE,o1,dz,nz,Bool.false_and,dn];repeat first|refine ja (by with_reducible assumption) ?_|refine ja (Nat.le_trans (by with_reducible assumption) (by decide)) ?_|refine ja (by decide) ?_
    exact hK
  .have hn1:n=cchk c:=by rw [<-hn0];unfold smC;rw [if_pos h0]
   have hn2:¬n=0:=by omega
   have nz:(((n:Nat):Int)=0)=False:=eq_false (by omega)
   have dz:=decide_eq_false hn2;simp only [go_sem,Jb,hw,hs,hm,hk,hn,hsc,hsd,vd,<-hn1,hn0,i0,hE,o1,dz,nz,Bool.false_and,dn];repeat first|refine ja (by with_reducible assumption) ?_|refine ja (Nat.le_trans (by with_reducible assumption) (by decide)) ?_|refine ja (by decide) ?_
   exact hK
end Go.Abs
end
section
namespace Go.Abs
open Go.Num
variable {P:Program} {Γ:Nat->Spec}
def Zv:AC:=(.seq (.ops false [.m 2 (.c (.one .emp))])
 (.fg [0] (.seq (.ops false [.m 4 (.t 0),.u 5 (.len (.t 4)),.m 3 (.t 5)])
 (.fg [0,3] (.seq (.block 0 (.loop (.seq (.seq (.ops false [.m 6 (.t 3),.u 7 (.bin .gtr (.t 6) (.i 0)),.m 8 (.t 7),.w 9 8 true (.mv (.t 0)),.w 10 8 true (.mv (.t 3)),.w 11 8 true (.bin .sub (.t 10) (.i 1)),.w 12 8 true (.idx 1 (.t 9) (.t 11)),.w 13 8 true (.ld none 1 false (.t 12)),.w 14 8 true (.bin .eql (.t 13) (.c (.one (.lit (.int .u32 0))))),.u 15 (.pick (.t 8) (.t 14) .fa)])
 (.fg [0,3,15] (.cond (.t 15) .skip (.exit 0))))
 (.fg [0,3] (.block 1 (.ops false [.m 16 (.t 3),.u 17 (.bin .sub (.t 16) (.i 1)),.m 3 (.t 17)]))))))
 (.fg [0,3] (.seq (.seq (.ops false [.m 18 (.t 3),.u 19 (.bin .eql (.t 18) (.i 0))])
 (.fg [0,3,19] (.cond (.t 19) (.seq (.ops false [.m 2 (.c (.one .emp))])
 .ret) .skip)))
 (.fg [0,3] (.seq (.ops false [.m 20 (.c (.one .emp)),.m 21 (.t 0),.m 22 (.t 3),.u 23 (.sl 1 (.t 21) none (some (.t 22))),.u 24 (.app0 1 (.t 20) (.t 23)),.m 2 (.t 24)])
 .ret)))))))))
def Wn:AC:=(.seq (.ops false [.m 4 (.c (.one (.lit (.int .u64 0))))])
 (.fg [0,1] (.seq (.seq (.ops false [.m 5 (.t 1),.m 6 (.t 0),.u 7 (.len (.t 6)),.u 8 (.bin .lss (.t 5) (.t 7))])
 (.fg [0,1,8] (.cond (.t 8) (.seq (.ops false [.m 9 (.t 0),.m 10 (.t 1),.u 11 (.idx 1 (.t 9) (.t 10)),.u 12 (.ld none 1 false (.t 11)),.u 13 (.conv .u64 (.t 12)),.m 4 (.t 13)])
 .ret) .skip)))
 (.fg [] (.seq (.ops false [.m 4 (.c (.one (.lit (.int .u64 0))))])
 .ret)))))
def xu(f0 f1:Nat):AC:=(.seq (.ops false [.m 4 (.c (.one .emp))])
 (.fg [0,1] (.seq (.ops false [.m 8 (.t 0),.u 9 (.len (.t 8)),.m 10 (.t 1),.u 11 (.len (.t 10)),.u 12 (.max [(.t 9),(.t 11)]),.u 13 (.bin .add (.t 12) (.i 1)),.u 14 (.mk 1 [(.lit (.int .u32 0))] (.t 13) (.t 13)),.m 5 (.t 14)])
 (.fg [0,1,5] (.seq (.ops false [.m 6 (.c (.one (.lit (.int .u64 0))))])
 (.fg [0,1,5,6] (.seq (.seq (.ops false [.m 15 (.t 5),.u 16 (.len (.t 15)),.m 17 (.i 0)])
 (.fg [0,1,5,6,16,17] (.block 0 (.loop (.seq (.ops false [.u 18 (.bin .lss (.t 17) (.t 16))])
 (.fg [0,1,5,6,16,17,18] (.seq (.cond (.t 18) .skip (.exit 0))
 (.fg [0,1,5,6,16,17] (.seq (.block 1 (.seq (.ops false [.m 19 (.t 17),.m 7 (.t 19)])
 (.fg [0,1,5,6,7,16,17] (.seq (.ops false [.m 20 (.t 6),.m 21 (.t 0),.m 22 (.t 7),.u 23 (.call f0 [(.t 21),(.t 22)]),.m 24 (.t 1),.m 25 (.t 7),.u 26 (.call f0 [(.t 24),(.t 25)]),.u 27 (.bin .add (.t 23) (.t 26)),.u 28 (.bin .add (.t 20) (.t 27)),.m 6 (.t 28)])
 (.fg [0,1,5,6,7,16,17] (.seq (.ops false [.m 29 (.t 5),.m 30 (.t 7),.m 31 (.t 6),.u 32 (.conv .u32 (.t 31)),.u 33 (.idx 1 (.t 29) (.t 30)),.n (.st none 1 (.t 33) (.t 32))])
 (.fg [0,1,5,6,16,17] (.ops false [.m 34 (.t 6),.u 35 (.bin .shr (.t 34) (.c (.one (.lit (.int .u64 32))))),.m 6 (.t 35)]))))))))
 (.fg [0,1,5,6,16,17] (.ops false [.u 36 (.bin .add (.t 17) (.i 1)),.m 17 (.t 36)])))))))))))
 (.fg [5] (.seq (.ops false [.m 37 (.t 5),.u 38 (.call f1 [(.t 37)]),.m 4 (.t 38)])
 .ret)))))))))
theorem xaF(hΓ:Holds P Γ){f:Nat}(hc:check P f=some (25,Zv.strip,[.tmp 2])):Sound P f (.dat false Qv):=by
 refine ka hc yaT hΓ (λargs K hcl hfi hG=>?_);match args,hG with
 | [a],hG=>
  obtain⟨l,rfl,hl,hlen,hK⟩:=hG;refine⟨by simp,?_⟩
  simp only [go_sem,Zv];intro hmax;refine Ya (λn:Nat=>⟨mkV [(0,wsA l),(3,.one (.lit (.int .i64 n)))],mkH []⟩) (λn=>n<=l.length/\val (l.take n)=val l) id l.length ?_ ?_ ?_
  .exact Qa (by simp [okS,okV,okC,okL,okH,okB,okE,Za,Va,za,Ja,wsA,ws]) trivial
  .simp
  .rintro n ⟨hn,ht⟩;simp only [go_sem];refine⟨λh=>⟨by omega,by omega,by omega,λh0=>⟨by omega,n-1,Qa (by simp [okS,okV,okC,okL,okH,okB,okE,Za,Va,za,Ja,wsA,ws];omega) trivial,⟨by omega,?_⟩,?_⟩,λh0=>⟨λh1=>by omega,λ_=>⟨by omega,by simp;omega,?_⟩⟩⟩,λh=>⟨λh1=>?_,λh1=>by omega⟩⟩
   .rw [show((n:Int)-1).toNat=n-1 by omega]at h0
    have:=zc l (n-1);rw [show n-1+1=n by omega,h0,Nat.mul_zero,Nat.add_zero]at this
    rw [<-this];exact ht
   .simp only [id];omega
   .rw [show((n:Int)-1).toNat=n-1 by omega]at h0
    have:=Je (uz hl n) (ZL h hn h0);rw [<-this,ht];exact hK
   .subst h1;have:val l=0:=by rw [<-ht];simp [val]
    rw [this,Yb]at hK;exact hK
theorem VR(hΓ:Holds P Γ){f:Nat}(hc:check P f=some (14,Wn.strip,[.tmp 4])):Sound P f (.dat true Xm):=by
 refine ka hc VaX hΓ (λargs K hcl hfi hG=>?_);match args,hG with
 | [a,b],hG=>
  obtain⟨l,rfl,hl,hG⟩:=hG;obtain⟨k,i,rfl,rfl,hi,hK⟩:=Vb hG;refine⟨by simp,?_⟩
  simp only [go_sem,Wn];intro hmax;refine⟨λh=>⟨hi,by omega,?_⟩,λh=>?_⟩
  .have:=Xb hl i.toNat;rw [Nat.mod_eq_of_lt (by omega)];exact hK
  .rw [List.getD_eq_getElem?_getD,List.getElem?_eq_none (by omega)]at hK;exact hK
theorem UaE(hΓ:Holds P Γ){f fw ft:Nat}(hw:Γ fw=.dat true Xm)(ht:Γ ft=.dat false Qv)(hc:check P f=some (39,(xu fw ft).strip,[.tmp 4])):Sound P f (.dat false Jr):=by
 refine ka hc xae hΓ (λargs K hcl hfi hG=>?_);match args,hG with
 | [a,b],hG=>
  obtain⟨x,rfl,hx,y,rfl,hy,hxl,hyl,hK⟩:=hG;refine⟨by simp,?_⟩
  simp only [go_sem,xu,hw,ht];intro h1 h2;refine⟨by omega,by omega,λhN=>?_⟩
  generalize hNN:max x.length y.length+1=N at hN;refine Ya (λp:List Nat×Nat=>⟨mkV [(0,wsA x),(1,wsA y),(5,.one (.own 14 1 1 0 N)),(6,.one (.lit (.int .u64 p.2))),(16,.one (.lit (.int .i64 N))),(17,.one (.lit (.int .i64 p.1.length)))],mkH [(14,⟨1,some ⟨(p.1++List.replicate (N-p.1.length) 0).map wc,1,true⟩⟩)]⟩)
   (λp=>p.1.length<=N/\WL p.1/\p.2<=1/\val p.1+4294967296 ^ p.1.length*p.2=val (x.take p.1.length)+val (y.take p.1.length)) (λp=>N-p.1.length) ([],0) ?_ ?_ ?_
  .exact Qa (by simp [okS,okV,okC,okL,okH,okB,okE,Za,Va,za,Ja,wsA,ws]) (Xg (by simp))
  .simp [Wc,val]
  .rintro⟨o,c⟩ ⟨hoN,ho,hc1,hval⟩;simp only at hoN ho hc1 hval;have hlen:(o++List.replicate (N-o.length) 0).length=N:=by simp;omega
   simp only [go_sem,hw,ht,hlen];refine⟨λhlt=>⟨hx,hy,hlt,hlt,by omega,by omega,?_⟩,λhge=>?_⟩
   .have g1:=Xb hx o.length;have g2:=Xb hy o.length;rw [Nat.mod_eq_of_lt (show x.getD o.length 0+y.getD o.length 0<18446744073709551616 by omega),Nat.mod_eq_of_lt (show c+(x.getD o.length 0+y.getD o.length 0)<18446744073709551616 by omega)]
    generalize hs:c+(x.getD o.length 0+y.getD o.length 0)=s;refine⟨(o++[s % 4294967296],s / 4294967296),Qa (by simp [okS,okV,okC,okL,okH,okB,okE,Za,Va,za,Ja,wsA,ws]) (Xg ?_),⟨by simp;omega,ye.2 ⟨ho,Jc.2 ⟨Nat.mod_lt _ (by omega),Wc⟩⟩,by simp only;omega,?_⟩,by simp;omega⟩
    .rw [show N-o.length=N-(o.length+1)+1 by omega,qaj];simp
    .simp only [List.length_append,List.length_cons,List.length_nil,Nat.zero_add,zc,Qc,Zk,Jo,Nat.mul_zero,Nat.add_zero,Nat.pow_succ];rw [Nat.mul_assoc,Nat.add_assoc,<-Nat.mul_add,Nat.mod_add_div,<-hs,Nat.mul_add,<-Nat.add_assoc,hval,Nat.mul_add];omega
   .have e:o.length=N:=by omega
    simp only [e,Nat.sub_self,List.replicate_zero,List.append_nil,Nat.le_refl,if_true,UH];have hv:val o=val x+val y:=by
     rw [e,vk (by omega),vk (by omega)]at hval
     exact WaD hx hy (by omega) (by omega) (by omega) hval
    refine⟨ho,by omega,?_⟩
    rw [hv];exact hK
end Go.Abs
end
section
namespace Go.Abs
open Go.Num
variable {P:Program} {Γ:Nat->Spec}
def uu(f0 f1:Nat):AC:=(.seq (.ops false [.m 4 (.c (.one .emp))])
 (.fg [0,1] (.seq (.ops false [.m 9 (.t 0),.u 10 (.len (.t 9)),.u 11 (.mk 1 [(.lit (.int .u32 0))] (.t 10) (.t 10)),.m 5 (.t 11)])
 (.fg [0,1,5] (.seq (.ops false [.m 6 (.c (.one (.lit (.int .u64 0))))])
 (.fg [0,1,5,6] (.seq (.seq (.ops false [.m 12 (.t 5),.u 13 (.len (.t 12)),.m 14 (.i 0)])
 (.fg [0,1,5,6,13,14] (.block 0 (.loop (.seq (.ops false [.u 15 (.bin .lss (.t 14) (.t 13))])
 (.fg [0,1,5,6,13,14,15] (.seq (.cond (.t 15) .skip (.exit 0))
 (.fg [0,1,5,6,13,14] (.seq (.block 1 (.seq (.ops false [.m 16 (.t 14),.m 7 (.t 16)])
 (.fg [0,1,5,6,7,13,14] (.seq (.ops true [.m 17 (.t 0),.m 18 (.t 7),.u 19 (.idx 1 (.t 17) (.t 18)),.u 20 (.ld none 1 false (.t 19)),.u 21 (.conv .u64 (.t 20)),.m 22 (.t 1),.m 23 (.t 7),.u 24 (.call f0 [(.t 22),(.t 23)]),.u 25 (.bin .sub (.t 21) (.t 24)),.m 26 (.t 6),.u 27 (.bin .sub (.t 25) (.t 26)),.m 8 (.t 27)])
 (.fg [0,1,5,7,8,13,14] (.seq (.ops false [.m 28 (.t 5),.m 29 (.t 7),.m 30 (.t 8),.u 31 (.conv .u32 (.t 30)),.u 32 (.idx 1 (.t 28) (.t 29)),.n (.st none 1 (.t 32) (.t 31))])
 (.fg [0,1,5,8,13,14] (.ops false [.m 33 (.t 8),.u 34 (.bin .shr (.t 33) (.c (.one (.lit (.int .u64 63))))),.m 6 (.t 34)]))))))))
 (.fg [0,1,5,6,13,14] (.ops false [.u 35 (.bin .add (.t 14) (.i 1)),.m 14 (.t 35)])))))))))))
 (.fg [5] (.seq (.ops false [.m 36 (.t 5),.u 37 (.call f1 [(.t 36)]),.m 4 (.t 37)])
 .ret)))))))))
def Yn:AC:=(.seq (.ops false [.m 4 (.i 0)])
 (.fg [0,1] (.seq (.seq (.ops false [.m 6 (.t 0),.u 7 (.len (.t 6)),.m 8 (.t 1),.u 9 (.len (.t 8)),.u 10 (.bin .neq (.t 7) (.t 9))])
 (.fg [0,1,10] (.cond (.t 10) (.seq (.seq (.ops false [.m 11 (.t 0),.u 12 (.len (.t 11)),.m 13 (.t 1),.u 14 (.len (.t 13)),.u 15 (.bin .lss (.t 12) (.t 14))])
 (.fg [15] (.cond (.t 15) (.seq (.ops false [.m 4 (.i (-1))])
 .ret) .skip)))
 (.fg [] (.seq (.ops false [.m 4 (.i 1)])
 .ret))) .skip)))
 (.fg [0,1] (.seq (.seq (.ops false [.m 16 (.t 0),.u 17 (.len (.t 16)),.u 18 (.bin .sub (.t 17) (.i 1)),.m 5 (.t 18)])
 (.fg [0,1,5] (.block 0 (.loop (.seq (.seq (.ops false [.m 19 (.t 5),.u 20 (.bin .geq (.t 19) (.i 0))])
 (.fg [0,1,5,20] (.cond (.t 20) .skip (.exit 0))))
 (.fg [0,1,5] (.seq (.block 1 (.seq (.ops true [.m 23 (.t 0),.m 24 (.t 5),.u 25 (.idx 1 (.t 23) (.t 24)),.u 26 (.ld none 1 false (.t 25)),.m 27 (.t 1),.m 28 (.t 5),.u 29 (.idx 1 (.t 27) (.t 28)),.u 30 (.ld none 1 false (.t 29)),.u 31 (.bin .neq (.t 26) (.t 30))])
 (.fg [0,1,5,31] (.cond (.t 31) (.seq (.seq (.ops true [.m 32 (.t 0),.m 33 (.t 5),.u 34 (.idx 1 (.t 32) (.t 33)),.u 35 (.ld none 1 false (.t 34)),.m 36 (.t 1),.m 37 (.t 5),.u 38 (.idx 1 (.t 36) (.t 37)),.u 39 (.ld none 1 false (.t 38)),.u 40 (.bin .lss (.t 35) (.t 39))])
 (.fg [40] (.cond (.t 40) (.seq (.ops false [.m 4 (.i (-1))])
 .ret) .skip)))
 (.fg [] (.seq (.ops false [.m 4 (.i 1)])
 .ret))) .skip))))
 (.fg [0,1,5] (.ops false [.m 21 (.t 5),.u 22 (.bin .sub (.t 21) (.i 1)),.m 5 (.t 22)])))))))))
 (.fg [] (.seq (.ops false [.m 4 (.i 0)])
 .ret)))))))
def Vq(f0:Nat):AC:=(.seq (.ops false [.m 4 (.c (.one .emp)),.m 5 (.c (.one (.lit (.int .u32 0))))])
 (.fg [0,1] (.seq (.ops false [.m 9 (.t 0),.u 10 (.len (.t 9)),.u 11 (.mk 1 [(.lit (.int .u32 0))] (.t 10) (.t 10)),.m 6 (.t 11)])
 (.fg [0,1,6] (.seq (.ops false [.m 7 (.c (.one (.lit (.int .u64 0))))])
 (.fg [0,1,6,7] (.seq (.seq (.ops false [.m 12 (.t 0),.u 13 (.len (.t 12)),.u 14 (.bin .sub (.t 13) (.i 1)),.m 8 (.t 14)])
 (.fg [0,1,6,7,8] (.block 0 (.loop (.seq (.seq (.ops false [.m 15 (.t 8),.u 16 (.bin .geq (.t 15) (.i 0))])
 (.fg [0,1,6,7,8,16] (.cond (.t 16) .skip (.exit 0))))
 (.fg [0,1,6,7,8] (.seq (.block 1 (.seq (.ops false [.m 19 (.t 7),.u 20 (.bin .shl (.t 19) (.c (.one (.lit (.int .u64 32))))),.m 21 (.t 0),.m 22 (.t 8),.u 23 (.idx 1 (.t 21) (.t 22)),.u 24 (.ld none 1 false (.t 23)),.u 25 (.conv .u64 (.t 24)),.u 26 (.bin .or (.t 20) (.t 25)),.m 7 (.t 26)])
 (.fg [0,1,6,7,8] (.seq (.ops false [.m 27 (.t 6),.m 28 (.t 8),.m 29 (.t 7),.m 30 (.t 1),.u 31 (.conv .u64 (.t 30)),.u 32 (.bin .quo (.t 29) (.t 31)),.u 33 (.conv .u32 (.t 32)),.u 34 (.idx 1 (.t 27) (.t 28)),.n (.st none 1 (.t 34) (.t 33))])
 (.fg [0,1,6,7,8] (.ops false [.m 35 (.t 7),.m 36 (.t 1),.u 37 (.conv .u64 (.t 36)),.u 38 (.bin .rem (.t 35) (.t 37)),.m 7 (.t 38)]))))))
 (.fg [0,1,6,7,8] (.ops false [.m 17 (.t 8),.u 18 (.bin .sub (.t 17) (.i 1)),.m 8 (.t 18)])))))))))
 (.fg [6,7] (.seq (.ops false [.m 39 (.t 6),.u 40 (.call f0 [(.t 39)]),.m 41 (.t 7),.u 42 (.conv .u32 (.t 41)),.m 4 (.t 40),.m 5 (.t 42)])
 .ret)))))))))
theorem kaH(hΓ:Holds P Γ){f fw ft:Nat}(hw:Γ fw=.dat true Xm)(ht:Γ ft=.dat false Qv)(hc:check P f=some (38,(uu fw ft).strip,[.tmp 4])):Sound P f (.dat false yt):=by
 refine ka hc uag hΓ (λargs K hcl hfi hG=>?_);match args,hG with
 | [a,b],hG=>
  obtain⟨x,rfl,hx,y,rfl,hy,hxl,hle,hK⟩:=hG;refine⟨by simp,?_⟩
  simp only [go_sem,uu,hw,ht];intro h1;refine⟨by omega,λ_=>?_⟩
  generalize hN:x.length=N at h1 hxl;refine Ya (λp:List Nat×Nat=>⟨mkV [(0,wsA x),(1,wsA y),(5,.one (.own 11 1 1 0 N)),(6,.one (.lit (.int .u64 p.2))),(13,.one (.lit (.int .i64 N))),(14,.one (.lit (.int .i64 p.1.length)))],mkH [(11,⟨1,some ⟨(p.1++List.replicate (N-p.1.length) 0).map wc,1,true⟩⟩)]⟩)
   (λp=>p.1.length<=N/\WL p.1/\p.2<=1/\val p.1+val (y.take p.1.length)=val (x.take p.1.length)+4294967296 ^ p.1.length*p.2) (λp=>N-p.1.length) ([],0) ?_ ?_ ?_
  .exact Qa (by simp [okS,okV,okC,okL,okH,okB,okE,Za,Va,za,Ja,wsA,ws]) (Xg (by simp))
  .simp [Wc,val]
  .rintro⟨o,c⟩ ⟨hoN,ho,hc1,hval⟩;simp only at hoN ho hc1 hval;have hlen:(o++List.replicate (N-o.length) 0).length=N:=by simp;omega
   simp only [go_sem,hw,ht,hlen];refine⟨λhlt=>⟨by omega,hy,hlt,hlt,by omega,by omega,?_⟩,λhge=>?_⟩
   .have g1:=Xb hx o.length;have g2:=Xb hy o.length;rw [Nat.mod_eq_of_lt (show x.getD o.length 0<18446744073709551616 by omega)]
    obtain⟨s1,s2⟩:=Waz g1 g2 hc1;generalize sub64 (sub64 (x.getD o.length 0) (y.getD o.length 0)) c=s at s1 s2;refine⟨(o++[s % 4294967296],s / 9223372036854775808),Qa (by simp [okS,okV,okC,okL,okH,okB,okE,Za,Va,za,Ja,wsA,ws]) (Xg ?_),⟨by simp;omega,ye.2 ⟨ho,Jc.2 ⟨Nat.mod_lt _ (by omega),Wc⟩⟩,s2,?_⟩,by simp;omega⟩
    .rw [show N-o.length=N-(o.length+1)+1 by omega,qaj];simp
    .simp only [List.length_append,List.length_cons,List.length_nil,Nat.zero_add,zc,Qc,Zk,Jo,Nat.mul_zero,Nat.add_zero,Nat.pow_succ];exact YI hval s1
   .have e:o.length=N:=by omega
    have hv:=XI ho hx (by omega) hle hval
    simp only [e,Nat.sub_self,List.replicate_zero,List.append_nil];refine⟨ho,by omega,?_⟩
    rw [hv];exact hK
theorem JX(hΓ:Holds P Γ){f:Nat}(hc:check P f=some (41,Yn.strip,[.tmp 4])):Sound P f (.dat false Xj):=by
 refine ka hc Wac hΓ (λargs K hcl hfi hG=>?_);match args,hG with
 | [a,b],hG=>
  obtain⟨x,rfl,hx,y,rfl,hy,hzx,hzy,hK⟩:=hG;refine⟨by simp,?_⟩
  simp only [go_sem,Yn];intro h1 h2;refine⟨λhl _=>⟨by omega,?_⟩,λhne _ _=>⟨λhlt=>?_,λhge=>?_⟩⟩
  rotate_left
  .rw [xW (QL hx hzy hlt)]at hK;exact hK
  .rw [Zam (QL hy hzx (by omega))]at hK;exact hK
  refine Ya (λn:Nat=>⟨mkV [(0,wsA x),(1,wsA y),(5,.one (.lit (.int .i64 ((n:Int)-1))))],mkH []⟩) (λn=>n<=x.length/\x.drop n=y.drop n) id x.length ?_ ?_ ?_
  .exact Qa (by simp [okS,okV,okC,okL,okH,okB,okE,Za,Va,za,Ja,wsA,ws]) trivial
  .simp [hl]
  .rintro n ⟨hn,hd⟩;simp only [go_sem];refine⟨λh=>⟨by omega,by omega,by omega,by omega,λhe=>⟨by omega,n-1,Qa (by simp [okS,okV,okC,okL,okH,okB,okE,Za,Va,za,Ja,wsA,ws];omega) trivial,⟨by omega,?_⟩,by simp only [id];omega⟩,λhne=>?_⟩,λh=>?_⟩
   .rw [show((n:Int)-1).toNat=n-1 by omega]at he
    rw [List.getD_eq_getElem?_getD,List.getD_eq_getElem?_getD,List.getElem?_eq_getElem (by omega),List.getElem?_eq_getElem (by omega)]at he
    have e1:=List.getElem_cons_drop (as:=x) (i:=n-1) (by omega)
    have e2:=List.getElem_cons_drop (as:=y) (i:=n-1) (by omega)
    rw [show n-1+1=n by omega]at e1 e2
    rw [<-e1,<-e2,hd];simp only [Option.getD_some]at he;rw [he]
   .rw [show((n:Int)-1).toNat=n-1 by omega]at hne ⊢
    refine⟨by omega,by omega,by omega,by omega,λhlt=>?_,λhge=>?_⟩
    .rw [xW (jbk (i:=n-1) hx hl (by omega) (by rw [show n-1+1=n by omega];exact hd) hlt)]at hK;exact hK
    .rw [Zam (jbk (i:=n-1) hy hl.symm (by omega) (by rw [show n-1+1=n by omega];exact hd.symm) (by omega))]at hK;exact hK
   .have:n=0:=by omega
    subst this;simp only [List.drop_zero]at hd;rw [hd,waR]at hK;exact hK
theorem Uao(hΓ:Holds P Γ){f ft:Nat}(ht:Γ ft=.dat false Qv)(hc:check P f=some (43,(Vq ft).strip,[.tmp 4,.tmp 5])):Sound P f (.dat false Uw):=by
 refine ka hc JaI hΓ (λargs K hcl hfi hG=>?_);match args,hG with
 | [a,b],hG=>
  obtain⟨x,rfl,hx,hG⟩:=hG;obtain⟨k,m,rfl,rfl,hm,hmB,hxl,hK⟩:=Vb hG;obtain⟨m,rfl⟩:∃n:Nat,m=n:=⟨m.toNat,by omega⟩
  simp only [Int.toNat_natCast]at hK;refine⟨by simp,?_⟩
  simp only [go_sem,Vq,ht];intro h1;refine⟨hxl,λ_=>⟨by omega,?_⟩⟩
  refine Ya (λp:List Nat×Nat=>⟨mkV [(0,wsA x),(1,.one (.lit (.int .u32 m))),(6,.one (.own 11 1 1 0 x.length)),(7,.one (.lit (.int .u64 p.2))),(8,.one (.lit (.int .i64 ((x.length:Int)-p.1.length-1))))],mkH [(11,⟨1,some ⟨(List.replicate (x.length-p.1.length) 0++p.1).map wc,1,true⟩⟩)]⟩)
   (λp=>p.1.length<=x.length/\WL p.1/\p.2<m/\val p.1*m+p.2=val (x.drop (x.length-p.1.length))) (λp=>x.length-p.1.length) ([],0) ?_ ?_ ?_
  .exact Qa (by simp [okS,okV,okC,okL,okH,okB,okE,Za,Va,za,Ja,wsA,ws]) (Xg (by simp))
  .simp [Wc,val];omega
  .rintro⟨q,r⟩ ⟨hq,hqw,hr,hval⟩;simp only at hq hqw hr hval;have hlen:(List.replicate (x.length-q.length) 0++q).length=x.length:=by simp;omega
   simp only [go_sem,ht,hlen];refine⟨λh=>?_,λh=>?_⟩
   .obtain⟨n,hn⟩:∃n,n=x.length-q.length:=⟨_,rfl⟩;have hn0:0<n:=by omega
    have hi:((x.length:Int)-q.length-1).toNat=n-1:=by omega
    have g1:=Xb hx (n-1);have hd:=WO x hn0 (by omega)
    obtain⟨s1,s2⟩:=Qbd (by omega) hr g1
    have s3:=XaX (B:=4294967296) (a:=x.getD (n-1) 0) (by omega) (hn▸hval)
    have e1:r*4294967296 % 18446744073709551616=r*4294967296:=by omega
    have e2:x.getD (n-1) 0 % 18446744073709551616=x.getD (n-1) 0:=by omega
    have e3:m % 18446744073709551616=m:=by omega
    rw [hi,<-hn,e1,e2,e3,or32 _ _ g1];generalize hs:r*4294967296+x.getD (n-1) 0=s at s1 s2 s3;rw [Nat.mod_eq_of_lt (show s / m<18446744073709551616 by omega),Nat.mod_eq_of_lt s1]
    have hm0:s % m<m:=Nat.mod_lt _ (by omega)
    refine⟨⟨rfl,by omega⟩,by omega,by omega,⟨rfl,by omega,by omega⟩,by omega,⟨by omega,by omega⟩,by omega,by omega,by omega,(s / m::q,s % m),Qa (by simp [okS,okV,okC,okL,okH,okB,okE,Za,Va,za,Ja,wsA,ws];omega) (Xg ?_),⟨by simp;omega,Jc.2 ⟨s1,hqw⟩,hm0,?_⟩,by simp;omega⟩
    .simp only [List.length_cons];rw [Xu q _ hn0,show x.length-(q.length+1)=n-1 by omega]
    .rw [Zk,List.length_cons,show x.length-(q.length+1)=n-1 by omega,hd];exact s3
   .have e:x.length-q.length=0:=by omega
    simp only [e,List.replicate_zero,List.nil_append,List.drop_zero]at hval ⊢;have h1:=Nat.div_mod_unique (show 0<m by omega) (a:=val x) (c:=r) (d:=val q)
    obtain⟨h2,h3⟩:=h1.2 ⟨by rw [<-hval,Nat.mul_comm m,Nat.add_comm],hr⟩
    rw [h2,h3]at hK;refine⟨hqw,by omega,?_⟩
    rw [Nat.mod_eq_of_lt (by omega)];exact hK
end Go.Abs
end
section
namespace Go.Abs
open Go.Num
variable {P:Program} {Γ:Nat->Spec}
def Qz:AC:=(.seq (.ops false [.m 4 (.c (.one .emp))])
 (.fg [0,1] (.seq (.ops false [.m 9 (.t 0),.u 10 (.len (.t 9)),.u 11 (.bin .add (.t 10) (.i 1)),.u 12 (.mk 1 [(.lit (.int .u32 0))] (.t 11) (.t 11)),.m 5 (.t 12)])
 (.fg [0,1,5] (.seq (.seq (.ops false [.m 13 (.t 0),.u 14 (.len (.t 13)),.m 15 (.i 0)])
 (.fg [1,5,13,14,15] (.block 0 (.loop (.seq (.ops false [.u 16 (.bin .lss (.t 15) (.t 14))])
 (.fg [1,5,13,14,15,16] (.seq (.cond (.t 16) .skip (.exit 0))
 (.fg [1,5,13,14,15] (.seq (.block 1 (.seq (.ops false [.m 17 (.t 15),.u 18 (.idx 1 (.t 13) (.t 15)),.u 19 (.ld none 1 false (.t 18)),.m 6 (.t 17),.m 7 (.t 19)])
 (.fg [1,5,6,7,13,14,15] (.seq (.ops false [.m 20 (.t 7),.u 21 (.conv .u64 (.t 20)),.m 22 (.t 1),.u 23 (.bin .shl (.t 21) (.t 22)),.m 8 (.t 23)])
 (.fg [1,5,6,8,13,14,15] (.seq (.ops false [.m 24 (.t 5),.m 25 (.t 6),.u 26 (.idx 1 (.t 24) (.t 25)),.u 27 (.ld none 1 false (.t 26)),.m 28 (.t 8),.u 29 (.conv .u32 (.t 28)),.u 30 (.bin .or (.t 27) (.t 29)),.u 31 (.idx 1 (.t 24) (.t 25)),.n (.st none 1 (.t 31) (.t 30))])
 (.fg [1,5,6,8,13,14,15] (.ops false [.m 32 (.t 5),.m 33 (.t 6),.u 34 (.bin .add (.t 33) (.i 1)),.m 35 (.t 8),.u 36 (.bin .shr (.t 35) (.c (.one (.lit (.int .u64 32))))),.u 37 (.conv .u32 (.t 36)),.u 38 (.idx 1 (.t 32) (.t 34)),.n (.st none 1 (.t 38) (.t 37))]))))))))
 (.fg [1,5,13,14,15] (.ops false [.u 39 (.bin .add (.t 15) (.i 1)),.m 15 (.t 39)])))))))))))
 (.fg [5] (.seq (.ops false [.m 40 (.t 5),.m 4 (.t 40)])
 .ret)))))))
def Ju(f0 f1:Nat):AC:=(.seq (.ops false [.m 4 (.c (.one .emp))])
 (.fg [0,1] (.seq (.ops false [.m 7 (.t 0),.u 8 (.len (.t 7)),.u 9 (.mk 1 [(.lit (.int .u32 0))] (.t 8) (.t 8)),.m 5 (.t 9)])
 (.fg [0,1,5] (.seq (.seq (.ops false [.m 10 (.t 0),.u 11 (.len (.t 10)),.m 12 (.i 0)])
 (.fg [0,1,5,11,12] (.block 0 (.loop (.seq (.ops false [.u 13 (.bin .lss (.t 12) (.t 11))])
 (.fg [0,1,5,11,12,13] (.seq (.cond (.t 13) .skip (.exit 0))
 (.fg [0,1,5,11,12] (.seq (.block 1 (.seq (.ops false [.m 14 (.t 12),.m 6 (.t 14)])
 (.fg [0,1,5,6,11,12] (.ops true [.m 15 (.t 5),.m 16 (.t 6),.m 17 (.t 0),.m 18 (.t 6),.u 19 (.idx 1 (.t 17) (.t 18)),.u 20 (.ld none 1 false (.t 19)),.u 21 (.conv .u64 (.t 20)),.m 22 (.t 0),.m 23 (.t 6),.u 24 (.bin .add (.t 23) (.i 1)),.u 25 (.call f0 [(.t 22),(.t 24)]),.u 26 (.bin .shl (.t 25) (.c (.one (.lit (.int .u64 32))))),.u 27 (.bin .or (.t 21) (.t 26)),.m 28 (.t 1),.u 29 (.bin .shr (.t 27) (.t 28)),.u 30 (.conv .u32 (.t 29)),.u 31 (.idx 1 (.t 15) (.t 16)),.n (.st none 1 (.t 31) (.t 30))]))))
 (.fg [0,1,5,11,12] (.ops false [.u 32 (.bin .add (.t 12) (.i 1)),.m 12 (.t 32)])))))))))))
 (.fg [5] (.seq (.ops false [.m 33 (.t 5),.u 34 (.call f1 [(.t 33)]),.m 4 (.t 34)])
 .ret)))))))
def Xq(f0:Nat):AC:=(.seq (.ops false [.m 4 (.c (.one .emp))])
 (.fg [0,1] (.seq (.ops false [.m 11 (.t 0),.u 12 (.len (.t 11)),.m 13 (.t 1),.u 14 (.len (.t 13)),.u 15 (.bin .add (.t 12) (.t 14)),.u 16 (.mk 1 [(.lit (.int .u32 0))] (.t 15) (.t 15)),.m 5 (.t 16)])
 (.fg [0,1,5] (.seq (.seq (.ops false [.m 17 (.t 0),.u 18 (.len (.t 17)),.m 19 (.i 0)])
 (.fg [1,5,17,18,19] (.block 0 (.loop (.seq (.ops false [.u 20 (.bin .lss (.t 19) (.t 18))])
 (.fg [1,5,17,18,19,20] (.seq (.cond (.t 20) .skip (.exit 0))
 (.fg [1,5,17,18,19] (.seq (.block 1 (.seq (.ops false [.m 21 (.t 19),.u 22 (.idx 1 (.t 17) (.t 19)),.u 23 (.ld none 1 false (.t 22)),.m 6 (.t 21),.m 7 (.t 23)])
 (.fg [1,5,6,7,17,18,19] (.seq (.ops false [.m 8 (.c (.one (.lit (.int .u64 0))))])
 (.fg [1,5,6,7,8,17,18,19] (.seq (.seq (.ops false [.m 24 (.t 1),.u 25 (.len (.t 24)),.m 26 (.i 0)])
 (.fg [1,5,6,7,8,17,18,19,24,25,26] (.block 2 (.loop (.seq (.ops false [.u 27 (.bin .lss (.t 26) (.t 25))])
 (.fg [1,5,6,7,8,17,18,19,24,25,26,27] (.seq (.cond (.t 27) .skip (.exit 2))
 (.fg [1,5,6,7,8,17,18,19,24,25,26] (.seq (.block 3 (.seq (.ops false [.m 28 (.t 26),.u 29 (.idx 1 (.t 24) (.t 26)),.u 30 (.ld none 1 false (.t 29)),.m 9 (.t 28),.m 10 (.t 30)])
 (.fg [1,5,6,7,8,9,10,17,18,19,24,25,26] (.seq (.ops false [.m 31 (.t 8),.m 32 (.t 7),.u 33 (.conv .u64 (.t 32)),.m 34 (.t 10),.u 35 (.conv .u64 (.t 34)),.u 36 (.bin .mul (.t 33) (.t 35)),.m 37 (.t 5),.m 38 (.t 6),.m 39 (.t 9),.u 40 (.bin .add (.t 38) (.t 39)),.u 41 (.idx 1 (.t 37) (.t 40)),.u 42 (.ld none 1 false (.t 41)),.u 43 (.conv .u64 (.t 42)),.u 44 (.bin .add (.t 36) (.t 43)),.u 45 (.bin .add (.t 31) (.t 44)),.m 8 (.t 45)])
 (.fg [1,5,6,7,8,9,17,18,19,24,25,26] (.seq (.ops false [.m 46 (.t 5),.m 47 (.t 6),.m 48 (.t 9),.u 49 (.bin .add (.t 47) (.t 48)),.m 50 (.t 8),.u 51 (.conv .u32 (.t 50)),.u 52 (.idx 1 (.t 46) (.t 49)),.n (.st none 1 (.t 52) (.t 51))])
 (.fg [1,5,6,7,8,17,18,19,24,25,26] (.ops false [.m 53 (.t 8),.u 54 (.bin .shr (.t 53) (.c (.one (.lit (.int .u64 32))))),.m 8 (.t 54)]))))))))
 (.fg [1,5,6,7,8,17,18,19,24,25,26] (.ops false [.u 55 (.bin .add (.t 26) (.i 1)),.m 26 (.t 55)])))))))))))
 (.fg [1,5,6,8,17,18,19] (.ops false [.m 56 (.t 5),.m 57 (.t 6),.m 58 (.t 1),.u 59 (.len (.t 58)),.u 60 (.bin .add (.t 57) (.t 59)),.m 61 (.t 8),.u 62 (.conv .u32 (.t 61)),.u 63 (.idx 1 (.t 56) (.t 60)),.n (.st none 1 (.t 63) (.t 62))]))))))))
 (.fg [1,5,17,18,19] (.ops false [.u 64 (.bin .add (.t 19) (.i 1)),.m 19 (.t 64)])))))))))))
 (.fg [5] (.seq (.ops false [.m 65 (.t 5),.u 66 (.call f0 [(.t 65)]),.m 4 (.t 66)])
 .ret)))))))
theorem qbe(hΓ:Holds P Γ){f:Nat}(hc:check P f=some (41,Qz.strip,[.tmp 4])):Sound P f (.fresh 1 up_G):=by
 refine vu hc Qbw hΓ (λargs K hcl hfi hG=>?_);match args,hG with
 | [a,b],hG=>
  obtain⟨x,rfl,hx,hG⟩:=hG;obtain⟨k,m,rfl,rfl,hm,hmB,hxl,hK⟩:=Vb hG;obtain⟨m,rfl⟩:∃n:Nat,m=n:=⟨m.toNat,by omega⟩
  simp only [Int.toNat_natCast]at hK;refine⟨by simp,?_⟩
  simp only [go_sem,Qz];intro h1;refine⟨by omega,by omega,λ_=>?_⟩
  refine Ya (λp:List Nat×Nat=>⟨mkV [(1,.one (.lit (.int .i64 m))),(5,.one (.own 12 1 1 0 (x.length+1))),(13,wsA x),(14,.one (.lit (.int .i64 x.length))),(15,.one (.lit (.int .i64 p.1.length)))],mkH [(12,⟨1,some ⟨(p.1++p.2::List.replicate (x.length-p.1.length) 0).map wc,1,true⟩⟩)]⟩)
   (λp=>p.1.length<=x.length/\WL p.1/\p.2<2 ^ m/\val p.1+4294967296 ^ p.1.length*p.2=val (x.take p.1.length)*2 ^ m) (λp=>x.length-p.1.length) ([],0) ?_ ?_ ?_
  .exact Qa (by simp [okS,okV,okC,okL,okH,okB,okE,Za,Va,za,Ja,wsA,ws]) (Xg (by simp [List.replicate_succ]))
  .simp [Wc,val];exact Nat.pow_pos (by omega)
  .rintro⟨o,c⟩ ⟨hoN,ho,hc1,hval⟩;simp only at hoN ho hc1 hval;have hlen:(o++c::List.replicate (x.length-o.length) 0).length=x.length+1:=by simp;omega
   simp only [go_sem,hlen,List.length_set];refine⟨λhlt=>?_,λhge=>?_⟩
   .have g1:=Xb hx o.length;obtain⟨s1,s2,s3,s4⟩:=kbp (by omega) hc1 g1
    have e1:x.getD o.length 0 % 18446744073709551616=x.getD o.length 0:=by omega
    have hp:=qY (show m<32 by omega)
    rw [ubL,e1,Nat.mod_eq_of_lt s1,s2,xbD];generalize hy:x.getD o.length 0*2 ^ m=y at s1 s2 s3 s4;rw [Nat.mod_eq_of_lt (show y / 4294967296<4294967296 by omega)]
    refine⟨hlt,⟨rfl,by omega⟩,by omega,by omega,⟨rfl,by omega,by omega⟩,by omega,by omega,by omega,by omega,by omega,by omega,by omega,(o++[y % 4294967296+c],y / 4294967296),Qa (by simp [okS,okV,okC,okL,okH,okB,okE,Za,Va,za,Ja,wsA,ws]) (Xg ?_),⟨by simp;omega,ye.2 ⟨ho,Jc.2 ⟨s3,Wc⟩⟩,s4,?_⟩,by simp;omega⟩
    .rw [show x.length-o.length=(x.length-(o.length+1))+1 by omega,List.replicate_succ,ybv];simp
    .simp only [List.length_append,List.length_cons,List.length_nil,Nat.zero_add,zc,Qc,Zk,Jo,Nat.mul_zero,Nat.add_zero,Nat.pow_succ];rw [XbI (B:=4294967296) (x:=y) hval rfl,Nat.add_mul,<-hy,Nat.mul_assoc]
   .have e:o.length=x.length:=by omega
    have hcB:c<4294967296:=by have:=qY (show m<32 by omega);omega
    rw [e,vk (Nat.le_refl _)]at hval;simp only [e,Nat.sub_self,List.replicate_zero];have hw:WL (o++[c]):=ye.2 ⟨ho,Jc.2 ⟨hcB,Wc⟩⟩;have hv:val (o++[c])=val x*2 ^ m:=by rw [Qc,e];simpa [val] using hval
    have:=UC hw;rw [hv,List.length_append,List.length_singleton,e]at this;rw [<-this];exact hK
theorem ZaK(hΓ:Holds P Γ){f fw ft:Nat}(hw:Γ fw=.dat true Xm)(ht:Γ ft=.dat false Qv)(hc:check P f=some (35,(Ju fw ft).strip,[.tmp 4])):Sound P f (.dat false YG):=by
 refine ka hc Ja4 hΓ (λargs K hcl hfi hG=>?_);match args,hG with
 | [a,b],hG=>
  obtain⟨x,rfl,hx,hG⟩:=hG;obtain⟨k,m,rfl,rfl,hm,hmB,hxl,hK⟩:=Vb hG;obtain⟨m,rfl⟩:∃n:Nat,m=n:=⟨m.toNat,by omega⟩
  simp only [Int.toNat_natCast]at hK;refine⟨by simp,?_⟩
  simp only [go_sem,Ju,hw,ht];intro h1;refine⟨by omega,λ_=>?_⟩
  refine Ya (λo:List Nat=>⟨mkV [(0,wsA x),(1,.one (.lit (.int .i64 m))),(5,.one (.own 9 1 1 0 x.length)),(11,.one (.lit (.int .i64 x.length))),(12,.one (.lit (.int .i64 o.length)))],mkH [(9,⟨1,some ⟨(o++List.replicate (x.length-o.length) 0).map wc,1,true⟩⟩)]⟩)
   (λo=>o.length<=x.length/\WL o/\val o=val x / 2 ^ m % 4294967296 ^ o.length) (λo=>x.length-o.length) [] ?_ ?_ ?_
  .exact Qa (by simp [okS,okV,okC,okL,okH,okB,okE,Za,Va,za,Ja,wsA,ws]) (Xg (by simp))
  .simp [Wc,val,Nat.mod_one]
  .rintro o ⟨hoN,ho,hval⟩;have hlen:(o++List.replicate (x.length-o.length) 0).length=x.length:=by simp;omega
   simp only [go_sem,hw,ht,hlen];refine⟨λhlt=>⟨hlt,by omega,hx,⟨rfl,by omega⟩,⟨rfl,by omega,by omega⟩,by omega,hlt,hlt,by omega,?_⟩,λhge=>?_⟩
   .have g1:=Xb hx o.length;have g2:=Xb hx (o.length+1);have e1:x.getD o.length 0 % 18446744073709551616=x.getD o.length 0:=by omega
    have e2:x.getD (o.length+1) 0*4294967296 % 18446744073709551616=x.getD (o.length+1) 0*4294967296:=by omega
    rw [e1,e2,or32' _ _ g1,show x.getD (o.length+1) 0*4294967296+x.getD o.length 0=x.getD o.length 0+4294967296*x.getD (o.length+1) 0 by omega,qaf hx (by omega)]
    generalize hv:val x / 2 ^ m / 4294967296 ^ o.length % 4294967296=v;have hvB:v<4294967296:=by rw [<-hv];exact Nat.mod_lt _ (by omega)
    refine⟨o++[v],Qa (by simp [okS,okV,okC,okL,okH,okB,okE,Za,Va,za,Ja,wsA,ws]) (Xg ?_),⟨by simp;omega,ye.2 ⟨ho,Jc.2 ⟨hvB,Wc⟩⟩,?_⟩,by simp;omega⟩
    .rw [show x.length-o.length=x.length-(o.length+1)+1 by omega,qaj];simp
    .rw [Qc,List.length_append,List.length_singleton,ZI,hv,<-hval];simp [val]
   .have e:o.length=x.length:=by omega
    have hlt:val x / 2 ^ m<4294967296 ^ x.length:=Nat.lt_of_le_of_lt (Nat.div_le_self _ _) (Vn hx);rw [e,Nat.mod_eq_of_lt hlt]at hval;simp only [e,Nat.sub_self,List.replicate_zero,List.append_nil];refine⟨ho,by omega,?_⟩
    rw [hval];exact hK
theorem Xan(hΓ:Holds P Γ){f ft:Nat}(ht:Γ ft=.dat false Qv)(hc:check P f=some (67,(Xq ft).strip,[.tmp 4])):Sound P f (.dat false Jq):=by
 refine ka hc YS hΓ (λargs K hcl hfi hG=>?_);match args,hG with
 | [a,b],hG=>
  obtain⟨x,rfl,hx,y,rfl,hy,hxl,hyl,hK⟩:=hG;refine⟨by simp,?_⟩
  simp only [go_sem,Xq,ht];intro h1 h2;refine⟨by omega,by omega,λ_=>?_⟩
  generalize hN:x.length+y.length=N;refine Ya (λp:Nat×List Nat=>⟨mkV [(1,wsA y),(5,.one (.own 16 1 1 0 N)),(17,wsA x),(18,.one (.lit (.int .i64 x.length))),(19,.one (.lit (.int .i64 p.1)))],mkH [(16,⟨1,some ⟨p.2.map wc,1,true⟩⟩)]⟩)
   (λp=>p.1<=x.length/\WL p.2/\p.2.length=N/\val p.2=val (x.take p.1)*val y/\∀j,p.1+y.length<=j->p.2.getD j 0=0) (λp=>x.length-p.1) (0,List.replicate N 0) ?_ ?_ ?_
  .exact Qa (by simp [okS,okV,okC,okL,okH,okB,okE,Za,Va,za,Ja,wsA,ws]) (Xg (by simp))
  .simp [qaY,val,Z2];intro j _;rw [List.getElem?_replicate];split <;> rfl
  .rintro⟨i,o⟩ ⟨hi,ho,hoN,hval,hz⟩;simp only at hi ho hoN hval hz;simp only [go_sem,ht,hoN];refine⟨λhlt=>⟨hlt,λ_=>?_⟩,λhge=>?_⟩
   .have g1:=Xb hx i;refine Ya (λp:Nat×Nat×List Nat=>⟨mkV [(1,wsA y),(5,.one (.own 16 1 1 0 N)),(6,.one (.lit (.int .i64 i))),(7,.one (.lit (.int .u32 (x.getD i 0:Nat)))),(8,.one (.lit (.int .u64 p.2.1))),(17,wsA x),(18,.one (.lit (.int .i64 x.length))),(19,.one (.lit (.int .i64 i))),(24,wsA y),(25,.one (.lit (.int .i64 y.length))),(26,.one (.lit (.int .i64 p.1)))],mkH [(16,⟨1,some ⟨p.2.2.map wc,1,true⟩⟩)]⟩)
     (λp=>p.1<=y.length/\p.2.1<4294967296/\WL p.2.2/\p.2.2.length=N/\val p.2.2+4294967296 ^ i*4294967296 ^ p.1*p.2.1=val (x.take i)*val y+4294967296 ^ i*x.getD i 0*val (y.take p.1)/\∀j,i+y.length<=j->p.2.2.getD j 0=0) (λp=>y.length-p.1) (0,0,o) ?_ ?_ ?_
    .exact Qa (by simp [okS,okV,okC,okL,okH,okB,okE,Za,Va,za,Ja,wsA,ws]) (Xg rfl)
    .exact⟨Nat.zero_le _,by simp,ho,hoN,by simp [val,hval],hz⟩
    .rintro⟨k,c,o⟩ ⟨hk,hc,ho,hoN,hval,hz⟩;simp only at hk hc ho hoN hval hz;simp only [go_sem,ht,hoN];refine⟨λhlt2=>?_,λhge2=>?_⟩
     .have g2:=Xb hy k;have g3:=Xb ho (i+k);have s1:=ZW g1 g2 hc g3;have e1:x.getD i 0 % 18446744073709551616=x.getD i 0:=by omega
      have e2:y.getD k 0 % 18446744073709551616=y.getD k 0:=by omega
      have e3:o.getD (i+k) 0 % 18446744073709551616=o.getD (i+k) 0:=by omega
      have hstep:=XS hval (by omega) rfl
      rw [e1,e2,e3,Nat.mod_eq_of_lt (show x.getD i 0*y.getD k 0<18446744073709551616 by omega),Nat.mod_eq_of_lt (show x.getD i 0*y.getD k 0+o.getD (i+k) 0<18446744073709551616 by omega),Nat.mod_eq_of_lt s1]
      generalize hs:c+(x.getD i 0*y.getD k 0+o.getD (i+k) 0)=s at s1 hstep;refine⟨hlt2,by omega,by omega,by omega,by omega,by omega,by omega,by omega,by omega,(k+1,s / 4294967296,o.set (i+k) (s % 4294967296)),Qa (by simp [okS,okV,okC,okL,okH,okB,okE,Za,Va,za,Ja,wsA,ws]) (Xg rfl),⟨by simp only;omega,by simp only;omega,Zaa ho _ (Nat.mod_lt _ (by omega)),by simp [hoN],hstep,?_⟩,by simp only;omega⟩
      intro j hj;simp only;rw [Num.getD_set_ne (by omega)];exact hz j hj
     .have e:k=y.length:=by omega
      subst e;have hend:=Q7 hval (by omega) (hz _ (Nat.le_refl _))
      rw [Nat.mod_eq_of_lt hc];refine λ_=>⟨by omega,by omega,by omega,by omega,(i+1,o.set (i+y.length) c),Qa (by simp [okS,okV,okC,okL,okH,okB,okE,Za,Va,za,Ja,wsA,ws]) (Xg rfl),⟨by simp only;omega,Zaa ho _ hc,by simp [hoN],hend,?_⟩,by simp only;omega⟩
      intro j hj;simp only at hj ⊢;rw [Num.getD_set_ne (by omega)];exact hz j (by omega)
   .have e:i=x.length:=by omega
    subst e;rw [vk (Nat.le_refl _)]at hval;refine⟨ho,by omega,?_⟩
    rw [hval];exact hK
end Go.Abs
end
section
namespace Go.Abs
open Go.Num
variable {P:Program} {Γ:Nat->Spec}
def Uo(f0:Nat):AC:=(.seq (.ops false [.m 6 .fa])
 (.fg [0,1,2] (.seq (.ops false [.m 7 (.c (.one (.lit (.int .u64 0)))),.m 8 (.c (.one (.lit (.int .u64 0))))])
 (.fg [0,1,2,7,8] (.seq (.seq (.ops false [.m 11 (.t 0),.u 12 (.len (.t 11)),.m 13 (.i 0)])
 (.fg [0,1,2,7,8,12,13] (.block 0 (.loop (.seq (.ops false [.u 14 (.bin .lss (.t 13) (.t 12))])
 (.fg [0,1,2,7,8,12,13,14] (.seq (.cond (.t 14) .skip (.exit 0))
 (.fg [0,1,2,7,8,12,13] (.seq (.block 1 (.seq (.ops false [.m 15 (.t 13),.m 9 (.t 15)])
 (.fg [0,1,2,7,8,9,12,13] (.seq (.ops false [.m 16 (.t 7),.m 17 (.t 2),.m 18 (.t 1),.m 19 (.t 9),.u 20 (.call f0 [(.t 18),(.t 19)]),.u 21 (.bin .mul (.t 17) (.t 20)),.u 22 (.bin .add (.t 16) (.t 21)),.m 7 (.t 22)])
 (.fg [0,1,2,7,8,9,12,13] (.seq (.ops false [.m 23 (.t 0),.m 24 (.t 9),.u 25 (.idx 1 (.t 23) (.t 24)),.u 26 (.ld none 1 false (.t 25)),.u 27 (.conv .u64 (.t 26)),.m 28 (.t 7),.u 29 (.conv .u32 (.t 28)),.u 30 (.conv .u64 (.t 29)),.u 31 (.bin .sub (.t 27) (.t 30)),.m 32 (.t 8),.u 33 (.bin .sub (.t 31) (.t 32)),.m 10 (.t 33)])
 (.fg [0,1,2,7,9,10,12,13] (.seq (.ops false [.m 34 (.t 0),.m 35 (.t 9),.m 36 (.t 10),.u 37 (.conv .u32 (.t 36)),.u 38 (.idx 1 (.t 34) (.t 35)),.n (.st none 1 (.t 38) (.t 37))])
 (.fg [0,1,2,7,10,12,13] (.seq (.ops false [.m 39 (.t 10),.u 40 (.bin .shr (.t 39) (.c (.one (.lit (.int .u64 63))))),.m 8 (.t 40)])
 (.fg [0,1,2,7,8,12,13] (.ops false [.m 41 (.t 7),.u 42 (.bin .shr (.t 41) (.c (.one (.lit (.int .u64 32))))),.m 7 (.t 42)]))))))))))))
 (.fg [0,1,2,7,8,12,13] (.ops false [.u 43 (.bin .add (.t 13) (.i 1)),.m 13 (.t 43)])))))))))))
 (.fg [8] (.seq (.ops false [.m 44 (.t 8),.u 45 (.bin .eql (.t 44) (.c (.one (.lit (.int .u64 1))))),.m 6 (.t 45)])
 .ret)))))))
def Yu(f0:Nat):AC:=(.seq (.ops false [.m 4 (.c (.one (.lit (.int .u64 0))))])
 (.fg [0,1,4] (.seq (.ops false [.m 6 (.t 0),.u 7 (.len (.t 6)),.m 8 (.i 0)])
 (.fg [0,1,4,7,8] (.block 0 (.loop (.seq (.ops false [.u 9 (.bin .lss (.t 8) (.t 7))])
 (.fg [0,1,4,7,8,9] (.seq (.cond (.t 9) .skip (.exit 0))
 (.fg [0,1,4,7,8] (.seq (.block 1 (.seq (.ops false [.m 10 (.t 8),.m 5 (.t 10)])
 (.fg [0,1,4,5,7,8] (.seq (.ops true [.m 11 (.t 4),.m 12 (.t 0),.m 13 (.t 5),.u 14 (.idx 1 (.t 12) (.t 13)),.u 15 (.ld none 1 false (.t 14)),.u 16 (.conv .u64 (.t 15)),.m 17 (.t 1),.m 18 (.t 5),.u 19 (.call f0 [(.t 17),(.t 18)]),.u 20 (.bin .add (.t 16) (.t 19)),.u 21 (.bin .add (.t 11) (.t 20)),.m 4 (.t 21)])
 (.fg [0,1,4,5,7,8] (.seq (.ops false [.m 22 (.t 0),.m 23 (.t 5),.m 24 (.t 4),.u 25 (.conv .u32 (.t 24)),.u 26 (.idx 1 (.t 22) (.t 23)),.n (.st none 1 (.t 26) (.t 25))])
 (.fg [0,1,4,7,8] (.ops false [.m 27 (.t 4),.u 28 (.bin .shr (.t 27) (.c (.one (.lit (.int .u64 32))))),.m 4 (.t 28)]))))))))
 (.fg [0,1,4,7,8] (.ops false [.u 29 (.bin .add (.t 8) (.i 1)),.m 8 (.t 29)])))))))))))))
theorem Waa(hΓ:Holds P Γ){f fw:Nat}(hw:Γ fw=.dat true Xm)(hc:check P f=some (46,(Uo fw).strip,[.tmp 6])):Sound P f (.own qt):=by
 refine xg hc hΓ (λd args h K hG=>?_);unfold qt at hG;split at hG
 case h_2=>exact hG.elim
 rename_i r ver off len b n;obtain⟨v,rfl,hv,pre,seg,post,m,rfl,rfl,rfl,hr,hseg,hm,hvl,hlt,hsl,hK⟩:=hG;refine⟨[r],[⟨(pre++seg++post).map wc,1,true⟩],[.one (.own 1048576 ver 1 pre.length seg.length),wsA v,.one (.lit (.int .u64 m))],by simp,rfl,?_,?_,?_,λhfi=>⟨by simp,?_⟩⟩
 .intro i r' b h1 h2;cases i with
  | zero=>simp only [List.getElem?_cons_zero,Option.some.injEq]at h1 h2;subst h1 h2;exact⟨by rw [hr],rfl,of_eq_true (ve _)⟩
  | succ i=>simp at h1
 .simp [exA,exC,exB,nameOf,pinA,wsA,ws]
 .intro a ha;simp only [List.mem_cons,List.not_mem_nil,or_false]at ha;rcases ha with rfl|rfl|rfl
  .simp [pasA,pasC,pasB,nameOf,pinA]
  .exact .slice _ (of_eq_true (ve _))
  .exact .lit _
 simp only [go_sem,Uo,hw,hr];intro h1;refine Ya (λp:List Nat×Nat×Nat×Nat=>⟨mkV [(0,.one (.own 1048576 ver 1 pre.length seg.length)),(1,wsA v),(2,.one (.lit (.int .u64 m))),(7,.one (.lit (.int .u64 p.2.1))),(8,.one (.lit (.int .u64 p.2.2.1))),(12,.one (.lit (.int .i64 seg.length))),(13,.one (.lit (.int .i64 p.1.length)))],
   mkH [(1048576,⟨ver,some ⟨(pre++(p.1++seg.drop p.1.length)++post).map wc,1,true⟩⟩)]⟩)
  (λp=>p.1.length<=seg.length/\WL p.1/\(p.2.1=0∨p.2.1<m)/\p.2.2.1<=1/\p.2.2.2+4294967296 ^ p.1.length*p.2.1=m*val (v.take p.1.length)/\val p.1+p.2.2.2=val (seg.take p.1.length)+4294967296 ^ p.1.length*p.2.2.1) (λp=>seg.length-p.1.length) ([],0,0,0) ?_ ?_ ?_
 .exact Qa (by simp [okS,okV,okC,okL,okH,okB,okE,Za,Va,za,Ja,wsA,ws]) (Xg (by simp))
 .simp [Wc,val]
 .rintro⟨o,c,bw,p⟩ ⟨hoN,ho,hc1,hb1,hp1,hp2⟩;simp only at hoN ho hc1 hb1 hp1 hp2;have hlen:(pre++(o++seg.drop o.length)++post).length=pre.length+seg.length+post.length:=by simp;omega
  simp only [go_sem,hw,hr,hlen];refine⟨λhlt2=>?_,λhge=>?_⟩
  .have g1:=Xb hseg o.length;have g2:=Xb hv o.length;obtain⟨s1,s2⟩:=Ja9 hm g2 hc1;have a1:=Qbe (B:=4294967296) (v:=v.getD o.length 0) hp1;have e1:m*v.getD o.length 0 % 18446744073709551616=m*v.getD o.length 0:=Nat.mod_eq_of_lt (by omega)
   have e2:seg.getD o.length 0 % 18446744073709551616=seg.getD o.length 0:=by omega
   rw [qaZ _ _ _ _ hlt2,e1,e2,Nat.mod_eq_of_lt s1,jan _ _ _ _ _ hlt2];generalize hs:c+m*v.getD o.length 0=s at s1 s2 a1;have e3:s % 4294967296 % 18446744073709551616=s % 4294967296:=by omega
   rw [e3];obtain⟨t1,t2⟩:=Waz (b:=s % 4294967296) g1 (by omega) hb1
   generalize sub64 (sub64 (seg.getD o.length 0) (s % 4294967296)) bw=d at t1 t2;have a2:=ube hp2 t1;refine⟨hv,hlt2,by omega,hlt2,by omega,by omega,by omega,by omega,(o++[d % 4294967296],s / 4294967296,d / 9223372036854775808,p+4294967296 ^ o.length*(s % 4294967296)),Qa (by simp [okS,okV,okC,okL,okH,okB,okE,Za,Va,za,Ja,wsA,ws]) (Xg rfl),⟨by simp;omega,ye.2 ⟨ho,Jc.2 ⟨Nat.mod_lt _ (by omega),Wc⟩⟩,s2,t2,?_,?_⟩,by simp;omega⟩
   .simp only [List.length_append,List.length_cons,List.length_nil,Nat.zero_add,zc,Nat.pow_succ];exact a1
   .simp only [List.length_append,List.length_cons,List.length_nil,Nat.zero_add,zc,Qc,Zk,Jo,Nat.mul_zero,Nat.add_zero,Nat.pow_succ];exact a2
  .have e:o.length=seg.length:=by omega
   rw [e]at hp1 hp2;rw [vk hvl]at hp1;rw [vk (Nat.le_refl _)]at hp2;obtain⟨t1,t2⟩:=Ybt ho e hp1 hlt hp2 hb1;rw [List.drop_of_length_le (by omega),List.append_nil]
   rw [<-t1]at hK;have:(decide ((bw:Int)=1))=decide (val seg<m*val v):=by
    rw [decide_eq_decide,<-t2];omega
   rw [this];exact hK
theorem zaK(hΓ:Holds P Γ){f fw:Nat}(hw:Γ fw=.dat true Xm)(hc:check P f=some (30,(Yu fw).strip,[])):Sound P f (.own WF):=by
 refine xg hc hΓ (λd args h K hG=>?_);unfold WF at hG;split at hG
 case h_2=>exact hG.elim
 rename_i r ver off len b;obtain⟨v,rfl,hv,pre,seg,post,rfl,rfl,hr,hseg,hvl,hsl,hK⟩:=hG;refine⟨[r],[⟨(pre++seg++post).map wc,1,true⟩],[.one (.own 1048576 ver 1 pre.length seg.length),wsA v],by simp,rfl,?_,?_,?_,λhfi=>⟨by simp,?_⟩⟩
 .intro i r' b h1 h2;cases i with
  | zero=>simp only [List.getElem?_cons_zero,Option.some.injEq]at h1 h2;subst h1 h2;exact⟨by rw [hr],rfl,of_eq_true (ve _)⟩
  | succ i=>simp at h1
 .simp [exA,exC,exB,nameOf,pinA,wsA,ws]
 .intro a ha;simp only [List.mem_cons,List.not_mem_nil,or_false]at ha;rcases ha with rfl|rfl
  .simp [pasA,pasC,pasB,nameOf,pinA]
  .exact .slice _ (of_eq_true (ve _))
 simp only [go_sem,Yu,hw,hr];intro h1;refine Ya (λp:List Nat×Nat=>⟨mkV [(0,.one (.own 1048576 ver 1 pre.length seg.length)),(1,wsA v),(4,.one (.lit (.int .u64 p.2))),(7,.one (.lit (.int .i64 seg.length))),(8,.one (.lit (.int .i64 p.1.length)))],
   mkH [(1048576,⟨ver,some ⟨(pre++(p.1++seg.drop p.1.length)++post).map wc,1,true⟩⟩)]⟩)
  (λp=>p.1.length<=seg.length/\WL p.1/\p.2<=1/\val p.1+4294967296 ^ p.1.length*p.2=val (seg.take p.1.length)+val (v.take p.1.length)) (λp=>seg.length-p.1.length) ([],0) ?_ ?_ ?_
 .exact Qa (by simp [okS,okV,okC,okL,okH,okB,okE,Za,Va,za,Ja,wsA,ws]) (Xg (by simp))
 .simp [Wc,val]
 .rintro⟨o,c⟩ ⟨hoN,ho,hc1,hp1⟩;simp only at hoN ho hc1 hp1;have hlen:(pre++(o++seg.drop o.length)++post).length=pre.length+seg.length+post.length:=by simp;omega
  simp only [go_sem,hw,hr,hlen];refine⟨λhlt2=>?_,λhge=>?_⟩
  .have g1:=Xb hseg o.length;have g2:=Xb hv o.length;have e2:seg.getD o.length 0 % 18446744073709551616=seg.getD o.length 0:=by omega
   rw [qaZ _ _ _ _ hlt2,e2,Nat.mod_eq_of_lt (show seg.getD o.length 0+v.getD o.length 0<18446744073709551616 by omega),Nat.mod_eq_of_lt (show c+(seg.getD o.length 0+v.getD o.length 0)<18446744073709551616 by omega),jan _ _ _ _ _ hlt2]
   have a1:=vbf (B:=4294967296) (a:=seg.getD o.length 0) (b:=v.getD o.length 0) hp1 rfl;generalize hs:c+(seg.getD o.length 0+v.getD o.length 0)=s at a1;refine⟨hlt2,by omega,hv,hlt2,by omega,by omega,by omega,(o++[s % 4294967296],s / 4294967296),Qa (by simp [okS,okV,okC,okL,okH,okB,okE,Za,Va,za,Ja,wsA,ws]) (Xg rfl),⟨by simp;omega,ye.2 ⟨ho,Jc.2 ⟨Nat.mod_lt _ (by omega),Wc⟩⟩,by simp only;omega,?_⟩,by simp;omega⟩
   simp only [List.length_append,List.length_cons,List.length_nil,Nat.zero_add,zc,Qc,Zk,Jo,Nat.mul_zero,Nat.add_zero,Nat.pow_succ];exact a1
  .have e:o.length=seg.length:=by omega
   rw [e,vk hvl,vk (Nat.le_refl _)]at hp1;have t1:=Jba ho e hp1;rw [List.drop_of_length_le (by omega),List.append_nil]
   rw [<-t1]at hK;exact hK
end Go.Abs
end
section
namespace Go.Num
theorem QC:∀(a b X:Nat),dig (a+b) X=dig a X++dig b (X / 4294967296 ^ a)
 | 0,b,X=>by simp [dig]
 | a+1,b,X=>by
  rw [show a+1+b=(a+b)+1 by omega,dig,dig,QC a b,Nat.div_div_eq_div_mul,Nat.pow_succ,Nat.mul_comm 4294967296];simp
theorem WaA:∀k,dig k 0=List.replicate k 0
 | 0=>rfl
 | k+1=>by rw [dig,Nat.zero_mod,Nat.zero_div,WaA k,List.replicate_succ]
theorem QV:∀(k i X:Nat),i<k->(dig k X).getD i 0=X / 4294967296 ^ i % 4294967296
 | k+1,0,X,_=>by simp [dig]
 | k+1,i+1,X,h=>by
  rw [dig,List.getD_cons_succ,QV k i _ (by omega),Nat.div_div_eq_div_mul,Nat.pow_succ,Nat.mul_comm 4294967296]
theorem kV:∀(k X:Nat),dig k (X % 4294967296 ^ k)=dig k X:=by
 intro k X;refine yal (vn _ _) (vn _ _) (by rw [Zb,Zb]) ?_
 rw [wm,wm,Nat.mod_mod]
theorem zbv{j X Y:Nat}:dig j (X % 4294967296 ^ j+4294967296 ^ j*Y)=dig j X:=by
 rw [<-kV,Nat.add_mul_mod_self_left,Nat.mod_mod,kV]
theorem vN{L j n X:Nat}(h:j+(n+1)<=L)(hX:X / 4294967296 ^ j<4294967296 ^ (n+1)) :
  dig L X=dig j X++dig (n+1) (X / 4294967296 ^ j)++List.replicate (L-(j+(n+1))) 0:=by
 conv=>lhs;rw [show L=j+(n+1)+(L-(j+(n+1))) by omega]
 rw [QC,QC,Nat.pow_add,<-Nat.div_div_eq_div_mul,Nat.div_eq_of_lt hX,WaA]
theorem yas{L j n X R:Nat}(h:j+(n+1)<=L)(hR:R<4294967296 ^ (n+1)) :
  dig j X++dig (n+1) R++List.replicate (L-(j+(n+1))) 0=dig L (X % 4294967296 ^ j+4294967296 ^ j*R):=by
 have e:(X % 4294967296 ^ j+4294967296 ^ j*R) / 4294967296 ^ j=R:=by
  rw [Nat.add_mul_div_left _ _ (pow_pos j),Nat.div_eq_of_lt (Nat.mod_lt _ (pow_pos j)),Nat.zero_add]
 rw [vN h (by rw [e];exact hR),e,zbv]
structure Step (B n V P top next head u2:Nat):Prop where
 hB:2<=B
 hn:2<=n
 vlow:∃l,V=(top*B+next)*B ^ (n-2)+l/\l<B ^ (n-2)
 plow:∃l,P=(head*B+u2)*B ^ (n-2)+l/\l<B ^ (n-2)
 nextB:next<B
 topB:top<B
 half:B<=2*top
 u2B:u2<B
 lt:P<V*B
namespace Step
variable {B n V P top next head u2:Nat}
theorem vpos(s:Step B n V P top next head u2):0<V:=by
 obtain⟨l,h,_⟩:=s.vlow;have:0<B ^ (n-2):=Nat.pow_pos (by have:=s.hB;omega)
 have h2:0<top*B+next:=by
  have:=Nat.mul_pos (show 0<top by have:=s.half;have:=s.hB;omega) (show 0<B by have:=s.hB;omega)
  omega
 have:=Nat.mul_pos h2 this;omega
theorem down(s:Step B n V P top next head u2){g r:Nat}(hg:g*top+r=head)(h:B<=g∨r*B+u2<g*next):P / V<g:=by
 rw [Nat.div_lt_iff_lt_mul s.vpos];rcases h with h|h
 .have h1:=Nat.mul_le_mul_right V h;have:=s.lt;rw [Nat.mul_comm V]at this;omega
 .obtain⟨lv,hv,hlv⟩:=s.vlow;obtain⟨lp,hp,hlp⟩:=s.plow;generalize B ^ (n-2)=p at hv hlv hp hlp;have h1:head*B+u2+1<=g*(top*B+next):=by
   rw [<-hg];have:(g*top+r)*B=g*(top*B)+r*B:=by rw [Nat.add_mul,Nat.mul_assoc]
   rw [this,Nat.mul_add];omega
  have h2:=Nat.mul_le_mul_right p h1;rw [Nat.add_mul,Nat.one_mul]at h2;have h3:g*(top*B+next)*p<=g*V:=by
   rw [Nat.mul_assoc];exact Nat.mul_le_mul_left _ (by omega)
  omega
theorem stop(s:Step B n V P top next head u2){g r:Nat}(hg:g*top+r=head)(hgB:g<=B)(h:B<=r∨(g<B/\g*next<=r*B+u2)):g*V<=P+V:=by
 obtain⟨lv,hv,hlv⟩:=s.vlow;obtain⟨lp,hp,hlp⟩:=s.plow;have hB:=s.hB;have hn:=s.hn;have hpp:0<B ^ (n-2):=Nat.pow_pos (by omega)
 have h1:g*(top*B+next)<=head*B+u2:=by
  rw [<-hg,Nat.add_mul,Nat.mul_add,Nat.mul_assoc];rcases h with h|h
  .have h3:g*next<=B*B:=Nat.mul_le_mul hgB (Nat.le_of_lt s.nextB)
   have h4:B*B<=r*B:=Nat.mul_le_mul_right _ h;omega
  .omega
 have hVtop:B*B ^ (n-2)<=V:=by
  have:B<=top*B:=Nat.le_mul_of_pos_left _ (by have:=s.half;omega)
  have:=Nat.mul_le_mul_right (B ^ (n-2)) (show B<=top*B+next by omega)
  omega
 generalize B ^ (n-2)=p at hv hlv hp hlp hpp hVtop;have h2:=Nat.mul_le_mul_right p h1;have h5:g*V<=g*((top*B+next)*p)+g*p:=by
  rw [hv,Nat.mul_add];exact Nat.add_le_add_left (Nat.mul_le_mul_left _ (Nat.le_of_lt hlv)) _
 have h6:g*p<=B*p:=Nat.mul_le_mul_right _ hgB;rw [<-Nat.mul_assoc]at h5;omega
theorem first(s:Step B n V P top next head u2):head / top<=B+1/\P / V<=head / top:=by
 have hB:=s.hB;have ht:0<top:=by have:=s.half;omega
 obtain⟨lv,hv,hlv⟩:=s.vlow;obtain⟨lp,hp,hlp⟩:=s.plow;have hlt:=s.lt;have hnext:=s.nextB;have hu2:=s.u2B;constructor
 .have h1:head<=top*B+next:=by
   rcases Nat.lt_or_ge (top*B+next) head with h|h
   .exfalso;have h2:=Nat.mul_le_mul_right (B ^ (n-2)) (Nat.mul_le_mul_right B h);have h3:(top*B+next+1)*B*B ^ (n-2)=((top*B+next)*B ^ (n-2)+B ^ (n-2))*B:=by
     generalize B ^ (n-2)=p;grind
    rw [Nat.succ_eq_add_one,h3]at h2;have h4:V*B<=((top*B+next)*B ^ (n-2)+B ^ (n-2))*B:=Nat.mul_le_mul_right _ (by omega)
    have h5:head*B*B ^ (n-2)<=P:=by
     rw [hp,Nat.add_mul];omega
    omega
   .exact h
  have h2:head<(B+2)*top:=by
   have:=s.half;have:(B+2)*top=top*B+2*top:=by rw [Nat.add_mul,Nat.mul_comm B]
   omega
  have:=(Nat.div_lt_iff_lt_mul ht).2 h2;omega
 .have:P / V<head / top+1:=by
   rw [Nat.div_lt_iff_lt_mul s.vpos];have h1:head<(head / top+1)*top:=by
    have:=Nat.div_add_mod head top;have:=Nat.mod_lt head ht;rw [Nat.add_mul,Nat.one_mul,Nat.mul_comm (head / top)];omega
   have h2:head+1<=(head / top+1)*top:=h1;have h3:=Nat.mul_le_mul_right (B ^ (n-2)) (Nat.mul_le_mul_right B h2);have h4:(head / top+1)*top*B*B ^ (n-2)<=(head / top+1)*V:=by
    rw [Nat.mul_assoc,Nat.mul_assoc];refine Nat.mul_le_mul_left _ ?_;rw [hv,Nat.add_mul,<-Nat.mul_assoc];omega
   have h5:P<(head+1)*B*B ^ (n-2):=by
    rw [hp];have:(head*B+u2+1)*B ^ (n-2)<=(head+1)*B*B ^ (n-2):=Nat.mul_le_mul_right _ (by rw [Nat.add_mul,Nat.one_mul];omega)
    rw [Nat.add_mul,Nat.one_mul]at this;omega
   omega
  omega
theorem left(s:Step B n V P top next head u2){g:Nat}(h1:P / V<=g)(h2:g*V<=P+V) :
  (P<g*V->g=P / V+1)/\(¬P<g*V->g=P / V):=by
 have hv:=s.vpos;have e:=Nat.div_add_mod P V;have m:=Nat.mod_lt P hv;constructor
 .intro h;have h3:g<=P / V+1:=by
   rcases Nat.lt_or_ge (P / V+1) g with h4|h4
   .exfalso;have:=Nat.mul_le_mul_right V (show P / V+2<=g from h4);rw [Nat.add_mul,Nat.mul_comm (P / V)]at this;omega
   .exact h4
  have h5:P / V<g:=by rw [Nat.div_lt_iff_lt_mul hv];exact h
  omega
 .intro h;have:g<=P / V:=by rw [Nat.le_div_iff_mul_le hv];omega
  omega
theorem quot(s:Step B n V P top next head u2):P / V<B:=by
 rw [Nat.div_lt_iff_lt_mul s.vpos,Nat.mul_comm];exact s.lt
end Step
theorem xbc(n k X:Nat):(dig (n+k) X).take n=dig n X:=by
 rw [QC,List.take_append_of_le_length (by rw [Zb];exact Nat.le_refl _),List.take_of_length_le (by rw [Zb];exact Nat.le_refl _)]
theorem qaK{t:Nat}(h0:0<t)(h:t<4294967296):Lib.bitLen t=Nat.log2 t+1:=by
 have h1:2 ^ Nat.log2 t<=t:=Nat.log2_self_le (by omega)
 have h2:t<2 ^ (Nat.log2 t+1):=Nat.lt_log2_self;rw [Lib.bitLen_shift _ _ h1 (by omega)]
 have:t / 2 ^ Nat.log2 t=1:=by
  rw [Nat.pow_succ]at h2;have hp:0<2 ^ Nat.log2 t:=Nat.pow_pos (by omega)
  generalize 2 ^ Nat.log2 t=p at h1 h2 hp;have a:t / p<2:=(Nat.div_lt_iff_lt_mul hp).2 (by omega)
  have b:1<=t / p:=(Nat.le_div_iff_mul_le hp).2 (by omega)
  omega
 rw [this];rfl
theorem ybp{t:Nat}(h0:0<t)(h:t<4294967296):∃s:Nat,s<32/\(32-(Lib.bitLen t:Int))=s/\2147483648<=t*2 ^ s/\(t+1)*2 ^ s<=4294967296:=by
 have h1:2 ^ Nat.log2 t<=t:=Nat.log2_self_le (by omega)
 have h2:t<2 ^ (Nat.log2 t+1):=Nat.lt_log2_self;have hl:Nat.log2 t<32:=by rw [Nat.log2_lt (by omega)];exact h
 rw [qaK h0 h];refine⟨31-Nat.log2 t,by omega,by omega,?_,?_⟩
 .have:=Nat.mul_le_mul_right (2 ^ (31-Nat.log2 t)) h1;rw [<-Nat.pow_add,show Nat.log2 t+(31-Nat.log2 t)=31 by omega]at this
  exact this
 .have:=Nat.mul_le_mul_right (2 ^ (31-Nat.log2 t)) (show t+1<=_ from h2);rw [<-Nat.pow_add,show Nat.log2 t+1+(31-Nat.log2 t)=32 by omega]at this
  exact this
theorem shifted{y:List Nat}{s:Nat}(hy:WL y)(hn:0<y.length)(h1:2147483648<=y.getD (y.length-1) 0*2 ^ s)(h2:(y.getD (y.length-1) 0+1)*2 ^ s<=4294967296) :
  val y*2 ^ s<4294967296 ^ y.length/\4294967296 ^ y.length<=2*(val y*2 ^ s):=by
 have e:=JO y (y.length-1) (by omega)
 rw [List.drop_of_length_le (by omega),Jo,Nat.mul_zero,Nat.add_zero]at e
 have hl:=Vn (uz hy (y.length-1));rw [List.length_take,Nat.min_eq_left (by omega)]at hl
 rw [e,UI hn];generalize y.getD (y.length-1) 0=t at *
 generalize 4294967296 ^ (y.length-1)=p at *
 generalize val (y.take (y.length-1))=v at *
 have hs:0<2 ^ s:=Nat.pow_pos (by omega)
 generalize 2 ^ s=q at *
 have a1:=Nat.mul_le_mul_left p h1;have a2:=Nat.mul_le_mul_left p h2;have a3:=(Nat.mul_lt_mul_right hs).2 hl;rw [Nat.add_mul,Nat.one_mul,Nat.mul_add]at a2;rw [Nat.add_mul,Nat.mul_assoc p t q];constructor
 .omega
 .have:2*(p*2147483648)=p*(2*2147483648):=Nat.mul_left_comm _ _ _;rw [show 2*2147483648=4294967296 from rfl]at this;rw [<-this];exact Nat.mul_le_mul_left 2 (Nat.le_trans a1 (Nat.le_add_left _ _))
theorem wbf{x y:List Nat}{s:Nat}(hx:WL x)(hs:s<32)(hV:4294967296 ^ y.length<=2*(val y*2 ^ s))(hl:y.length<=x.length+1) :
  val x*2 ^ s<val y*2 ^ s*4294967296 ^ (x.length+1-y.length):=by
 have h1:=Vn hx;have h2:=qY hs;have h3:4294967296 ^ x.length*4294967296=4294967296 ^ y.length*4294967296 ^ (x.length+1-y.length):=by
  rw [<-Nat.pow_succ,<-Nat.pow_add];congr 1;omega
 have h4:=Nat.mul_le_mul_right (4294967296 ^ (x.length+1-y.length)) hV;rw [<-h3,Nat.mul_assoc]at h4;have h5:val x*2 ^ s<4294967296 ^ x.length*2147483648:=
  Nat.lt_of_lt_of_le ((Nat.mul_lt_mul_right (Nat.pow_pos (by omega))).2 h1) (Nat.mul_le_mul_left _ h2)
 omega
theorem Zbr{n V P:Nat}(hn:2<=n)(hV1:V<4294967296 ^ n)(hV2:4294967296 ^ n<=2*V)(hP:P<V*4294967296) :
  Step 4294967296 n V P (V / 4294967296 ^ (n-1) % 4294967296) (V / 4294967296 ^ (n-2) % 4294967296) (P / 4294967296 ^ n % 4294967296*4294967296+P / 4294967296 ^ (n-1) % 4294967296) (P / 4294967296 ^ (n-2) % 4294967296):=by
 have e1:4294967296 ^ n=4294967296 ^ (n-1)*4294967296:=UI (by omega)
 have e2:4294967296 ^ (n-1)=4294967296 ^ (n-2)*4294967296:=by rw [UI (show 0<n-1 by omega),show n-1-1=n-2 by omega]
 have hp:=pow_pos (n-2);have ht:V / 4294967296 ^ (n-1)<4294967296:=by
  rw [Nat.div_lt_iff_lt_mul (pow_pos _),Nat.mul_comm,<-e1];exact hV1
 have hh:P / 4294967296 ^ n<4294967296:=by
  rw [Nat.div_lt_iff_lt_mul (pow_pos _)];have:=(Nat.mul_lt_mul_right (show 0<4294967296 by omega)).2 hV1
  rw [Nat.mul_comm (4294967296 ^ n)]at this;omega
 have q1:V / 4294967296 ^ (n-1)=V / 4294967296 ^ (n-2) / 4294967296:=by rw [e2,Nat.div_div_eq_div_mul]
 have q2:P / 4294967296 ^ (n-1)=P / 4294967296 ^ (n-2) / 4294967296:=by rw [e2,Nat.div_div_eq_div_mul]
 have q3:P / 4294967296 ^ n=P / 4294967296 ^ (n-1) / 4294967296:=by rw [e1,Nat.div_div_eq_div_mul]
 refine⟨by omega,hn,⟨V % 4294967296 ^ (n-2),?_,Nat.mod_lt _ hp⟩,⟨P % 4294967296 ^ (n-2),?_,Nat.mod_lt _ hp⟩,Nat.mod_lt _ (by omega),Nat.mod_lt _ (by omega),?_,Nat.mod_lt _ (by omega),hP⟩
 .rw [Nat.mod_eq_of_lt ht,q1];rw [Nat.div_add_mod' (V / 4294967296 ^ (n-2)),Nat.mul_comm];exact(Nat.div_add_mod _ _).symm
 .rw [Nat.mod_eq_of_lt hh,q3,q2];rw [Nat.div_add_mod' (P / 4294967296 ^ (n-2) / 4294967296),Nat.div_add_mod' (P / 4294967296 ^ (n-2)),Nat.mul_comm];exact(Nat.div_add_mod _ _).symm
 .rw [Nat.mod_eq_of_lt ht];have:2147483648<=V / 4294967296 ^ (n-1):=by
   rw [Nat.le_div_iff_mul_le (pow_pos _)];rw [e1]at hV2;generalize 4294967296 ^ (n-1)=p at hV2 ⊢;omega
  omega
theorem uba{a b:Nat}(h:¬a<b):(ordN a b<0)=False:=by
 unfold ordN;rw [if_neg h];split <;> simp
theorem Uat{j X V A q Q:Nat}(hV:0<V)(hA:A=X+V*4294967296 ^ (j+1)*Q)(hq:q=X / 4294967296 ^ j / V) :
  A=(X % 4294967296 ^ j+4294967296 ^ j*(X / 4294967296 ^ j % V))+V*4294967296 ^ j*(q+4294967296*Q)/\X % 4294967296 ^ j+4294967296 ^ j*(X / 4294967296 ^ j % V)<V*4294967296 ^ j:=by
 have hp:=pow_pos j;rw [Nat.pow_succ]at hA;generalize 4294967296 ^ j=p at *
 have e1:=Nat.div_add_mod X p;have e2:=Nat.div_add_mod (X / p) V;have m1:=Nat.mod_lt X hp;have m2:=Nat.mod_lt (X / p) hV;rw [<-hq]at e2;generalize X % p=r at *
 generalize hS:X / p % V=S at *
 generalize X / p=Z at *
 generalize 4294967296=B at hA ⊢;subst hA e2 e1;constructor
 .grind
 .have:p*(S+1)<=p*V:=Nat.mul_le_mul_left _ m2;rw [Nat.mul_add,Nat.mul_one]at this;rw [Nat.mul_comm V];omega
theorem kP(k X:Nat):dig k (X+4294967296 ^ k)=dig k X:=by
 rw [<-kV,Nat.add_mod_right,kV]
theorem Ybg{k P V g:Nat}(hg:g=P / V):dig k (P+4294967296 ^ k-g*V)=dig k (P % V):=by
 have e:g*V+P % V=P:=by rw [hg,Nat.mul_comm];exact Nat.div_add_mod P V
 clear hg;generalize P % V=r at *
 generalize hp:4294967296 ^ k=p;rw [show P+p-g*V=r+p by omega,<-hp,kP]
theorem Vbh{k P V g:Nat}(hg:g=P / V+1)(hb:P<g*V)(hk:g*V<4294967296 ^ k):dig k (val (dig k (P+4294967296 ^ k-g*V))+V)=dig k (P % V):=by
 have e:P / V*V+P % V=P:=by rw [Nat.mul_comm];exact Nat.div_add_mod P V
 have:g*V=P / V*V+V:=by rw [hg,Nat.add_mul,Nat.one_mul]
 rw [wm,Nat.mod_eq_of_lt (by omega)]
 clear hg;generalize P / V*V=q at *
 generalize P % V=r at *
 generalize g*V=gv at *
 generalize hp:4294967296 ^ k=p at *
 rw [show P+p-gv+V=r+p by omega,<-hp,kP]
theorem QaN{a b:Nat}(ha:a<4294967296)(hb:b<4294967296):a*b<18446744073709551616:=by
 have h:=ZW ha hb (c:=0) (d:=0) (by decide) (by decide)
 rwa [Nat.zero_add,Nat.add_zero]at h
theorem JP{q:Nat}(h:q<4294967296):sub64 (q+1) 1=q:=by rw [xB (by omega) (by omega)];omega
theorem Wbx{r:Nat}(h:r<4294967296):r*4294967296 % 18446744073709551616=r*4294967296:=by omega
end Go.Num
end
section
namespace Go.Abs
open Go.Num
variable {P:Program} {Γ:Nat->Spec}
def Uj(f0 f1 f2 f3 f4 f5 f6 f7:Nat):AC:=(.seq (.ops false [.m 4 (.c (.one .emp)),.m 5 (.c (.one .emp))])
 (.fg [0,1] (.seq (.seq (.ops false [.m 19 (.t 0),.m 20 (.t 1),.u 21 (.call f0 [(.t 19),(.t 20)]),.u 22 (.bin .lss (.t 21) (.i 0))])
 (.fg [0,1,22] (.cond (.t 22) (.seq (.ops false [.m 23 (.t 0),.u 24 (.call f1 [(.t 23)]),.m 4 (.c (.one .emp)),.m 5 (.t 24)])
 .ret) .skip)))
 (.fg [0,1] (.seq (.seq (.ops false [.m 25 (.t 1),.u 26 (.len (.t 25)),.u 27 (.bin .eql (.t 26) (.i 1))])
 (.fg [0,1,27] (.cond (.t 27) (.seq (.ops false [.m 29 (.t 0),.m 30 (.t 1),.u 31 (.idx 1 (.t 30) (.i 0)),.u 32 (.ld none 1 false (.t 31)),.u 33 (.call f2 [(.t 29),(.t 32)]),.m 28 (.t 33),.u 34 (.ext 0 (.t 28)),.u 35 (.ext 1 (.t 28)),.m 6 (.t 34),.m 7 (.t 35)])
 (.fg [6,7] (.seq (.ops false [.m 36 (.t 6),.m 37 (.t 7),.u 38 (.row 1 [[.x 1 (.t 37)]]),.u 39 (.call f1 [(.t 38)]),.m 4 (.t 36),.m 5 (.t 39)])
 .ret))) .skip)))
 (.fg [0,1] (.seq (.ops false [.m 40 (.t 1),.m 41 (.t 1),.u 42 (.len (.t 41)),.u 43 (.bin .sub (.t 42) (.i 1)),.u 44 (.idx 1 (.t 40) (.t 43)),.u 45 (.ld none 1 false (.t 44)),.u 46 (.call f3 [(.t 45)]),.m 8 (.t 46)])
 (.fg [0,1,8] (.seq (.ops true [.m 47 (.t 1),.m 48 (.t 8),.u 49 (.callf f4 [(.t 47),(.t 48)]),.m 50 (.t 1),.u 51 (.len (.t 50)),.u 52 (.sl 1 (.t 49) none (some (.t 51))),.m 53 (.t 0),.m 54 (.t 8),.u 55 (.callf f4 [(.t 53),(.t 54)]),.m 9 (.t 52),.m 10 (.t 55)])
 (.fg [8,9,10] (.fz [9] (.seq (.ops false [.m 56 (.t 10),.u 57 (.len (.t 56)),.m 58 (.t 9),.u 59 (.len (.t 58)),.u 60 (.bin .sub (.t 57) (.t 59)),.u 61 (.mk 1 [(.lit (.int .u32 0))] (.t 60) (.t 60)),.m 11 (.t 61)])
 (.fg [8,9,10,11] (.seq (.ops true [.m 62 (.t 9),.m 63 (.t 9),.u 64 (.len (.t 63)),.u 65 (.bin .sub (.t 64) (.i 1)),.u 66 (.idx 1 (.t 62) (.t 65)),.u 67 (.ld none 1 false (.t 66)),.u 68 (.conv .u64 (.t 67)),.m 69 (.t 9),.m 70 (.t 9),.u 71 (.len (.t 70)),.u 72 (.bin .sub (.t 71) (.i 2)),.u 73 (.idx 1 (.t 69) (.t 72)),.u 74 (.ld none 1 false (.t 73)),.u 75 (.conv .u64 (.t 74)),.m 12 (.t 68),.m 13 (.t 75)])
 (.fg [8,9,10,11,12,13] (.seq (.seq (.ops false [.m 76 (.t 11),.u 77 (.len (.t 76)),.u 78 (.bin .sub (.t 77) (.i 1)),.m 14 (.t 78)])
 (.fg [8,9,10,11,12,13,14] (.block 0 (.loop (.seq (.seq (.ops false [.m 79 (.t 14),.u 80 (.bin .geq (.t 79) (.i 0))])
 (.fg [8,9,10,11,12,13,14,80] (.cond (.t 80) .skip (.exit 0))))
 (.fg [8,9,10,11,12,13,14] (.seq (.block 1 (.seq (.ops false [.m 83 (.t 10),.m 84 (.t 14),.m 85 (.t 14),.m 86 (.t 9),.u 87 (.len (.t 86)),.u 88 (.bin .add (.t 85) (.t 87)),.u 89 (.bin .add (.t 88) (.i 1)),.u 90 (.sl 1 (.t 83) (some (.t 84)) (some (.t 89))),.m 15 (.t 90)])
 (.fg [8,9,10,11,12,13,14,15] (.seq (.ops true [.m 91 (.t 15),.m 92 (.t 9),.u 93 (.len (.t 92)),.u 94 (.idx 1 (.t 91) (.t 93)),.u 95 (.ld none 1 false (.t 94)),.u 96 (.conv .u64 (.t 95)),.u 97 (.bin .shl (.t 96) (.c (.one (.lit (.int .u64 32))))),.m 98 (.t 15),.m 99 (.t 9),.u 100 (.len (.t 99)),.u 101 (.bin .sub (.t 100) (.i 1)),.u 102 (.idx 1 (.t 98) (.t 101)),.u 103 (.ld none 1 false (.t 102)),.u 104 (.conv .u64 (.t 103)),.u 105 (.bin .or (.t 97) (.t 104)),.m 16 (.t 105)])
 (.fg [8,9,10,11,12,13,14,15,16] (.seq (.ops true [.m 106 (.t 16),.m 107 (.t 12),.u 108 (.bin .quo (.t 106) (.t 107)),.m 109 (.t 16),.m 110 (.t 12),.u 111 (.bin .rem (.t 109) (.t 110)),.m 17 (.t 108),.m 18 (.t 111)])
 (.fg [8,9,10,11,12,13,14,15,17,18] (.seq (.block 2 (.loop (.seq (.seq (.ops false [.m 112 (.t 18),.u 113 (.bin .lss (.t 112) (.c (.one (.lit (.int .u64 4294967296))))),.m 114 (.t 113),.w 115 114 true (.mv (.t 17)),.w 116 114 true (.bin .geq (.t 115) (.c (.one (.lit (.int .u64 4294967296))))),.w 117 114 true (.mv (.t 116)),.w 118 117 false (.mv (.t 17)),.w 119 117 false (.mv (.t 13)),.w 120 117 false (.bin .mul (.t 118) (.t 119)),.w 121 117 false (.mv (.t 18)),.w 122 117 false (.bin .shl (.t 121) (.c (.one (.lit (.int .u64 32))))),.w 123 117 false (.mv (.t 15)),.w 124 117 false (.mv (.t 9)),.w 125 117 false (.len (.t 124)),.w 126 117 false (.bin .sub (.t 125) (.i 2)),.w 127 117 false (.idx 1 (.t 123) (.t 126)),.w 128 117 false (.ld none 1 false (.t 127)),.w 129 117 false (.conv .u64 (.t 128)),.w 130 117 false (.bin .or (.t 122) (.t 129)),.w 131 117 false (.bin .gtr (.t 120) (.t 130)),.w 132 114 true (.pick (.t 117) .tr (.t 131)),.u 133 (.pick (.t 114) (.t 132) .fa)])
 (.fg [8,9,10,11,12,13,14,15,17,18,133] (.cond (.t 133) .skip (.exit 2))))
 (.fg [8,9,10,11,12,13,14,15,17,18] (.block 3 (.seq (.ops false [.m 134 (.t 17),.u 135 (.bin .sub (.t 134) (.c (.one (.lit (.int .u64 1))))),.m 17 (.t 135)])
 (.fg [8,9,10,11,12,13,14,15,17,18] (.ops false [.m 136 (.t 18),.m 137 (.t 12),.u 138 (.bin .add (.t 136) (.t 137)),.m 18 (.t 138)]))))))))
 (.fg [8,9,10,11,12,13,14,15,17] (.seq (.seq (.ops false [.m 139 (.t 15),.m 140 (.t 9),.m 141 (.t 17),.u 142 (.call f5 [(.t 139),(.t 140),(.t 141)])])
 (.fg [8,9,10,11,12,13,14,15,17,142] (.cond (.t 142) (.seq (.ops false [.m 143 (.t 17),.u 144 (.bin .sub (.t 143) (.c (.one (.lit (.int .u64 1))))),.m 17 (.t 144)])
 (.fg [8,9,10,11,12,13,14,15,17] (.ops false [.m 145 (.t 15),.m 146 (.t 9),.u 147 (.call f6 [(.t 145),(.t 146)])]))) .skip)))
 (.fg [8,9,10,11,12,13,14,17] (.ops false [.m 148 (.t 11),.m 149 (.t 14),.m 150 (.t 17),.u 151 (.conv .u32 (.t 150)),.u 152 (.idx 1 (.t 148) (.t 149)),.n (.st none 1 (.t 152) (.t 151))]))))))))))))
 (.fg [8,9,10,11,12,13,14] (.ops false [.m 81 (.t 14),.u 82 (.bin .sub (.t 81) (.i 1)),.m 14 (.t 82)])))))))))
 (.fg [8,10,11] (.seq (.ops false [.m 153 (.t 11),.u 154 (.call f1 [(.t 153)]),.m 155 (.t 10),.m 156 (.t 8),.u 157 (.call f7 [(.t 155),(.t 156)]),.m 4 (.t 154),.m 5 (.t 157)])
 .ret))))))))))))))))))
set_option maxHeartbeats 4000000 in
theorem X3(hΓ:Holds P Γ){f fcmp ftrim fshort flz fup frem fback fdown:Nat}(h1:Γ fcmp=.dat false Xj)(h2:Γ ftrim=.dat false Qv)(h3:Γ fshort=.dat false Uw)(h4:Γ flz=.dat true lz_G)
  (h5:Γ fup=.fresh 1 up_G) (h6:Γ frem=.own qt) (h7:Γ fback=.own WF) (h8:Γ fdown=.dat false YG)
  (hc:check P f=some (158,(Uj fcmp ftrim fshort flz fup frem fback fdown).strip,[.tmp 4,.tmp 5])):Sound P f (.dat false ki):=by
 refine ka hc UN hΓ (λargs K hcl hfi hG=>?_);match args,hG with
 | [a,b],hG=>
  obtain⟨x,rfl,hx,y,rfl,hy,hzx,hzy,hy0,hxl,hyl,hK⟩:=hG;refine⟨by simp,?_⟩
  have hn:0<y.length:=by cases y with | nil=>exact(hy0 rfl).elim | cons=>simp
  have ht0:y.getD (y.length-1) 0≠0:=by
   intro e;refine hzy ?_;rw [List.getLast?_eq_getElem?];rw [List.getD_eq_getElem?_getD,List.getElem?_eq_getElem (by omega)]at e
   rw [List.getElem?_eq_getElem (by omega)]
   simpa using e
  have htB:=Xb hy (y.length-1);obtain⟨s,hs32,hs,hs1,hs2⟩:=ybp (Nat.pos_of_ne_zero ht0) htB;have hlast:((y.length:Int)-1).toNat=y.length-1:=by omega
  have hle:(y.length<=y.length+1)=True:=eq_true (by omega)
  obtain⟨hV1,hV2⟩:=shifted hy hn hs1 hs2;by_cases hlt:val x<val y
  .simp only [go_sem,Uj,h1,h2,h3,h4,h5,h8,xW hlt];refine⟨hx,hy,hzx,hzy,λ_=>⟨hx,by omega,?_⟩,λh=>absurd (show(-1:Int)<0 by omega) h⟩
   rw [Nat.div_eq_of_lt hlt,Nat.mod_eq_of_lt hlt,Yb]at hK;exact hK
  have hlen:y.length<=x.length:=by
   rcases Nat.lt_or_ge x.length y.length with h|h
   .exact absurd (QL hx hzy h) hlt
   .exact h
  obtain⟨M,hM⟩:∃M,M=x.length+1-y.length:=⟨_,rfl⟩;have hM2:((x.length+1:Nat):Int)-(y.length:Int)=(M:Int):=by omega
  simp only [go_sem,Uj,h1,h2,h3,h4,h5,h8,hlast,hs,Zb,xbc,hle,uba hlt,hM2];refine⟨hx,hy,hzx,hzy,λ_=>⟨λhone=>?_,λhone=>?_⟩⟩
  .have hone:y.length=1:=by omega
   match y,hone with
   | [t],_=>
    simp only [List.length_singleton,Nat.sub_self,List.getD_cons_zero]at ht0 htB ⊢;refine⟨by omega,by omega,hx,by omega,by omega,by omega,Jc.2 ⟨Nat.lt_trans (Nat.mod_lt _ (by omega)) htB,Wc⟩,?_⟩
    simpa [val] using hK
  have hone:2<=y.length:=by omega
  generalize hV:val y*2 ^ s=V at hV1 hV2;generalize hA:val x*2 ^ s=A;generalize hnn:y.length=n at *
  generalize hLL:x.length+1=L at *
  have hV0:0<V:=by have:=pow_pos n;omega
  have htop:(dig n V).getD (n-1) 0=V / 4294967296 ^ (n-1) % 4294967296:=QV _ _ _ (by omega)
  have hnext:(dig n V).getD ((n:Int)-2).toNat 0=V / 4294967296 ^ (n-2) % 4294967296:=by
   rw [show((n:Int)-2).toNat=n-2 by omega];exact QV _ _ _ (by omega)
  have hvv:val (dig n V)=V:=by rw [wm,Nat.mod_eq_of_lt hV1]
  repeat first|refine ja (by omega) ?_|refine ja (by assumption) ?_|refine ja rfl ?_|refine ja ⟨rfl,by omega⟩ ?_|refine ja ⟨rfl,by omega,by omega⟩ ?_|intro _
  obtain⟨top,htd⟩:∃t,t=V / 4294967296 ^ (n-1) % 4294967296:=⟨_,rfl⟩;obtain⟨next,hnd⟩:∃t,t=V / 4294967296 ^ (n-2) % 4294967296:=⟨_,rfl⟩
  have htB:top<4294967296:=by rw [htd];exact Nat.mod_lt _ (by omega)
  have hnB:next<4294967296:=by rw [hnd];exact Nat.mod_lt _ (by omega)
  rw [htop,hnext,<-htd,<-hnd,Nat.mod_eq_of_lt (show top<18446744073709551616 by omega),Nat.mod_eq_of_lt (show next<18446744073709551616 by omega)]
  have hstart:=wbf hx hs32 (y:=y) (by rw [hnn,hV];exact hV2) (by omega)
  rw [hV,hA,hLL,hnn,<-hM]at hstart;refine Ya (λp:Nat×Nat×List Nat=>⟨mkV [(8,.one (.lit (.int .i64 s))),(9,wsA (dig n V)),(10,.one (.own 55 1 1 0 L)),(11,.one (.own 61 1 1 0 M)),(12,.one (.lit (.int .u64 top))),(13,.one (.lit (.int .u64 next))),(14,.one (.lit (.int .i64 ((p.1:Int)-1))))],
    mkH [(55,⟨1,some ⟨(dig L p.2.1).map wc,1,true⟩⟩),(61,⟨1,some ⟨(List.replicate p.1 0++p.2.2).map wc,1,true⟩⟩)]⟩)
   (λp=>p.1<=M/\p.2.1<V*4294967296 ^ p.1/\A=p.2.1+V*4294967296 ^ p.1*val p.2.2/\WL p.2.2/\p.2.2.length=M-p.1) (λp=>p.1) (M,A,[]) ?_ ?_ ?_
  .exact Qa (by simp [okS,okV,okC,okL,okH,okB,okE,Za,Va,za,Ja,wsA,ws]) ⟨yb rfl,yb (by simp),trivial⟩
  .exact⟨Nat.le_refl _,hstart,by simp [val],Wc,by simp⟩
  .rintro⟨j1,X,qd⟩ ⟨hj,hX,hAX,hqd,hqdl⟩;simp only at hj hX hAX hqd hqdl;have hql:(List.replicate j1 0++qd).length=M:=by simp;omega
   rcases Nat.eq_zero_or_pos j1 with hj0|hj0
   .subst hj0;simp only [Nat.pow_zero,Nat.mul_one]at hX hAX;have h0f:((0:Int)<=((0:Nat):Int)-1)=False:=eq_false (by omega)
    simp only [go_sem,h1,h2,h3,h4,h5,h8,Zb,hql,h0f];refine⟨hqd,by omega,vn _ _,by omega,by omega,?_⟩
    have hXL:X<4294967296 ^ L:=Nat.lt_trans hX (Nat.lt_of_lt_of_le hV1 (Nat.pow_le_pow_right (by omega) (by omega)))
    rw [wm,Nat.mod_eq_of_lt hXL];have hs0:0<2 ^ s:=Nat.pow_pos (by omega)
    have hA2:=(Nat.div_mod_unique hV0 (a:=A) (c:=X) (d:=val qd)).2 ⟨hAX.symm,hX⟩;have e1:val x / val y=val qd:=by rw [<-hA2.1,<-hA,<-hV,Nat.mul_div_mul_right _ _ hs0]
    have e2:val x % val y=X / 2 ^ s:=by
     rw [<-hA2.2,<-hA,<-hV,Nat.mul_mod_mul_right,Nat.mul_div_cancel _ hs0]
    rw [e1,e2]at hK;exact hK
   .obtain⟨j,rfl⟩:∃j,j1=j+1:=⟨j1-1,by omega⟩
    have hj1:(((j+1:Nat):Int)-1)=(j:Int):=by omega
    simp only [hj1];generalize hPP:X / 4294967296 ^ j=P';have hPV:P' < V*4294967296:=by
     rw [<-hPP,Nat.div_lt_iff_lt_mul (pow_pos _),Nat.mul_assoc,Nat.mul_comm 4294967296,<-Nat.pow_succ];exact hX
    have hPL:P' < 4294967296 ^ (n+1):=by
     have:=(Nat.mul_lt_mul_right (show 0<4294967296 by omega)).2 hV1
     rw [Nat.pow_succ];exact Nat.lt_trans hPV this
    have st:=Zbr hone hV1 hV2 hPV;rw [<-htd,<-hnd]at st;have hread:∀k,k<=n->(dig L X).getD (j+k) 0=P' / 4294967296 ^ k % 4294967296:=by
     intro k hk;rw [QV _ _ _ (by omega),Nat.pow_add,<-Nat.div_div_eq_div_mul,hPP]
    have hr0:=hread n (Nat.le_refl _);have hr1:=hread (n-1) (by omega)
    have hr2:=hread (n-2) (by omega)
    obtain⟨a,ha⟩:∃a,a=P' / 4294967296 ^ n % 4294967296:=⟨_,rfl⟩;obtain⟨b,hb⟩:∃b,b=P' / 4294967296 ^ (n-1) % 4294967296:=⟨_,rfl⟩;obtain⟨u2,hu⟩:∃u2,u2=P' / 4294967296 ^ (n-2) % 4294967296:=⟨_,rfl⟩;rw [<-ha]at hr0 st;rw [<-hb]at hr1 st;rw [<-hu]at hr2 st;have haB:a<4294967296:=by rw [ha];exact Nat.mod_lt _ (by omega)
    have hbB:b<4294967296:=by rw [hb];exact Nat.mod_lt _ (by omega)
    have huB:u2<4294967296:=by rw [hu];exact Nat.mod_lt _ (by omega)
    have htop0:0<top:=by have:=st.half;omega
    have hsub:j+n+1-j=n+1:=by omega
    have hsub1:((n:Int)-1).toNat=n-1:=by omega
    have hsub2:((n:Int)-2).toNat=n-2:=by omega
    have ea1:a % 18446744073709551616=a:=by omega
    have ea2:a*4294967296 % 18446744073709551616=a*4294967296:=by omega
    have eb1:b % 18446744073709551616=b:=by omega
    have eu1:u2 % 18446744073709551616=u2:=by omega
    have eor:=or32 a b hbB;simp only [go_sem,h1,h2,h3,h4,h5,h8,Zb,hql,hsub,hsub1,hsub2,hr0,hr1,hr2,ea1,ea2,eb1,eor];repeat first|refine ja (by omega) ?_|refine ja (by assumption) ?_|refine ja rfl ?_|refine ja ⟨rfl,by omega⟩ ?_|refine ja ⟨rfl,by omega,by omega⟩ ?_|intro _
    obtain⟨q1,q2⟩:=st.first
    generalize hhead:a*4294967296+b=head at *
    have hqB:=st.quot;rw [Nat.mod_eq_of_lt (show head / top<18446744073709551616 by omega)]
    refine Ya (λp:Nat×Nat=>⟨mkV [(8,.one (.lit (.int .i64 s))),(9,wsA (dig n V)),(10,.one (.own 55 1 1 0 L)),(11,.one (.own 61 1 1 0 M)),(12,.one (.lit (.int .u64 top))),(13,.one (.lit (.int .u64 next))),(14,.one (.lit (.int .i64 j))),(15,.one (.own 55 1 1 j (n+1))),(17,.one (.lit (.int .u64 p.1))),(18,.one (.lit (.int .u64 p.2)))],
      mkH [(55,⟨1,some ⟨(dig L X).map wc,1,true⟩⟩),(61,⟨1,some ⟨(List.replicate (j+1) 0++qd).map wc,1,true⟩⟩)]⟩)
     (λp=>p.1*top+p.2=head/\P' / V<=p.1/\p.1<=4294967297/\p.2<8589934592/\(4294967296<p.1->p.2<4294967296)) (λp=>p.1) (head / top,head % top) ?_ ?_ ?_
    .exact Qa (by simp [okS,okV,okC,okL,okH,okB,okE,Za,Va,za,Ja,wsA,ws]) ⟨yb rfl,yb rfl,trivial⟩
    .have m1:=Nat.mod_lt head htop0;exact⟨Nat.div_add_mod' head top,q2,q1,by simp only;omega,λ_=>by simp only;omega⟩
    .rintro⟨g,r⟩ ⟨hg,hqg,hgB,hrB,hgr⟩;simp only at hg hqg hgB hrB hgr;rcases Nat.lt_or_ge r 4294967296 with hr|hr
     .have hr' : ((r:Int)<4294967296)=True:=eq_true (by omega)
      rcases Nat.lt_or_ge g 4294967296 with hgl|hgl
      .have hg' : ((4294967296:Int)<=(g:Int))=False:=eq_false (by omega)
       have hm:g*next<18446744073709551616:=QaN hgl hnB
       have em:g*next % 18446744073709551616=g*next:=by rw [Nat.mod_eq_of_lt hm]
       have er:=Wbx hr;have eo:=or32 r u2 huB;by_cases hcmp:r*4294967296+u2<g*next
       .simp only [go_sem,h1,h2,h3,h4,h5,h6,h7,h8,Zb,hql,hsub,hsub1,hsub2,hr0,hr1,hr2,eu1,hr',hg',em,er,eo,hcmp];repeat first|refine ja (by omega) ?_|refine ja (by assumption) ?_|refine ja rfl ?_|refine ja ⟨rfl,by omega⟩ ?_|refine ja ⟨rfl,by omega,by omega⟩ ?_|intro _
        have hdown:4294967296<=g∨r*4294967296+u2<g*next:=.inr hcmp
        have hdn:=st.down hg hdown;have hg0:1<=g:=Nat.lt_of_le_of_lt (Nat.zero_le _) hdn;have hqg1:P' / V<=g-1:=Nat.le_sub_one_of_lt hdn;have hg1:sub64 g 1=g-1:=xB hg0 (by omega)
        refine⟨(g-1,r+top),Qa (by simp [okS,okV,okC,okL,okH,okB,okE,Za,Va,za,Ja,wsA,ws,hg1];omega) ⟨yb rfl,yb rfl,trivial⟩,⟨?_,hqg1,by simp only;omega,by simp only;omega,λ_=>by simp only at *;omega⟩,by simp only;omega⟩
        simp only;obtain⟨g',rfl⟩:∃g',g=g' + 1:=⟨g-1,by omega⟩
        rw [Nat.add_sub_cancel,<-hg,Nat.add_mul];omega
       .simp only [go_sem,h1,h2,h3,h4,h5,h6,h7,h8,Zb,hql,hsub,hsub1,hsub2,hr0,hr1,hr2,eu1,hr',hg',em,er,eo,hcmp];repeat first|refine ja (by omega) ?_|refine ja (by assumption) ?_|refine ja rfl ?_|refine ja ⟨rfl,by omega⟩ ?_|refine ja ⟨rfl,by omega,by omega⟩ ?_|intro _
        have hstop:4294967296<=r∨(g<4294967296/\g*next<=r*4294967296+u2):=.inr ⟨hgl,by omega⟩
        have hgB2:g<=4294967296:=by omega
        have hle:=st.stop hg hgB2 hstop;obtain⟨l1,l2⟩:=st.left hqg hle;have hgV:g*V<4294967296 ^ (n+1):=by
         have a1:=Nat.mul_le_mul_right V hgB2;have a2:=(Nat.mul_lt_mul_left (show 0<4294967296 by omega)).2 hV1
         rw [Nat.pow_succ,Nat.mul_comm (4294967296 ^ n)];exact Nat.lt_of_le_of_lt a1 a2
        have hsplit:=vN (L:=L) (j:=j) (n:=n) (X:=X) (by omega) (by rw [hPP];exact hPL)
        rw [hPP]at hsplit;have hvp:val (dig (n+1) P')=P':=by rw [wm,Nat.mod_eq_of_lt hPL]
        have hrl:P' % V<4294967296 ^ (n+1):=Nat.lt_of_le_of_lt (Nat.mod_le _ _) hPL;have hjoin:=yas (L:=L) (j:=j) (n:=n) (X:=X) (by omega) hrl
        have hdiv:=Uat (j:=j) (q:=P' / V) hV0 hAX (by rw [hPP])
        rw [hPP]at hdiv;simp only [qt,UH];refine⟨vn _ _,dig j X,dig (n+1) P',List.replicate (L-(j+(n+1))) 0,g,(Zb _ _).symm,(Zb _ _).symm,rfl,by simp only [za,↓reduceIte,Nat.reduceEqDiff];rw [hsplit],vn _ _,hgB2,by rw [Zb,Zb];omega,by rw [hvv,Zb];exact hgV,by rw [Zb];omega,?_⟩
        rw [hvp,hvv,Zb];by_cases hb:P' < g*V
        .have hgq:=l1 hb;simp only [go_sem,h1,h2,h3,h4,h5,h7,h8,hb,hql];simp only [WF,UH];refine⟨vn _ _,dig j X,dig (n+1) (P' + 4294967296 ^ (n+1)-g*V),List.replicate (L-(j+(n+1))) 0,(Zb _ _).symm,(Zb _ _).symm,by simp only [za,↓reduceIte,Nat.reduceEqDiff],vn _ _,by rw [Zb,Zb];omega,by rw [Zb];omega,?_⟩
         rw [Zb,hvv,Vbh hgq hb hgV,hjoin];have hg1:sub64 g 1=P' / V:=by rw [hgq];exact JP hqB
         simp only [go_sem,h1,h2,h3,h4,h5,h7,h8,hql,hg1];rw [Nat.mod_eq_of_lt hqB];have hset:=Xu (n:=j+1) qd (P' / V) (by omega)
         rw [Nat.add_sub_cancel]at hset;rw [hset];repeat first|refine ja (by omega) ?_|refine ja (by assumption) ?_|refine ja rfl ?_|refine ja ⟨rfl,by omega⟩ ?_|refine ja ⟨rfl,by omega,by omega⟩ ?_|intro _
         exact⟨(j,X % 4294967296 ^ j+4294967296 ^ j*(P' % V),P' / V::qd),Qa (by simp [okS,okV,okC,okL,okH,okB,okE,Za,Va,za,Ja,wsA,ws]) ⟨yb rfl,yb rfl,trivial⟩,⟨by simp only;omega,hdiv.2,hdiv.1,Jc.2 ⟨hqB,hqd⟩,by simp only [List.length_cons];omega⟩,by simp only;omega⟩
        .have hgq:=l2 hb;rw [Ybg hgq,hjoin];simp only [go_sem,h1,h2,h3,h4,h5,h7,h8,hb,hql];rw [hgq,Nat.mod_eq_of_lt hqB];have hset:=Xu (n:=j+1) qd (P' / V) (by omega)
         rw [Nat.add_sub_cancel]at hset;rw [hset];repeat first|refine ja (by omega) ?_|refine ja (by assumption) ?_|refine ja rfl ?_|refine ja ⟨rfl,by omega⟩ ?_|refine ja ⟨rfl,by omega,by omega⟩ ?_|intro _
         exact⟨(j,X % 4294967296 ^ j+4294967296 ^ j*(P' % V),P' / V::qd),Qa (by simp [okS,okV,okC,okL,okH,okB,okE,Za,Va,za,Ja,wsA,ws]) ⟨yb rfl,yb rfl,trivial⟩,⟨by simp only;omega,hdiv.2,hdiv.1,Jc.2 ⟨hqB,hqd⟩,by simp only [List.length_cons];omega⟩,by simp only;omega⟩
      .have hg' : ((4294967296:Int)<=(g:Int))=True:=eq_true (by omega)
       simp only [go_sem,h1,h2,h3,h4,h5,h6,h7,h8,Zb,hql,hsub,hsub1,hsub2,hr0,hr1,hr2,eu1,hr',hg'];repeat first|refine ja (by omega) ?_|refine ja (by assumption) ?_|refine ja rfl ?_|refine ja ⟨rfl,by omega⟩ ?_|refine ja ⟨rfl,by omega,by omega⟩ ?_|intro _
       have hdown:4294967296<=g∨r*4294967296+u2<g*next:=.inl hgl
       have hdn:=st.down hg hdown;have hg0:1<=g:=Nat.lt_of_le_of_lt (Nat.zero_le _) hdn;have hqg1:P' / V<=g-1:=Nat.le_sub_one_of_lt hdn;have hg1:sub64 g 1=g-1:=xB hg0 (by omega)
       refine⟨(g-1,r+top),Qa (by simp [okS,okV,okC,okL,okH,okB,okE,Za,Va,za,Ja,wsA,ws,hg1];omega) ⟨yb rfl,yb rfl,trivial⟩,⟨?_,hqg1,by simp only;omega,by simp only;omega,λ_=>by simp only at *;omega⟩,by simp only;omega⟩
       simp only;obtain⟨g',rfl⟩:∃g',g=g' + 1:=⟨g-1,by omega⟩
       rw [Nat.add_sub_cancel,<-hg,Nat.add_mul];omega
     .have hr' : ((r:Int)<4294967296)=False:=eq_false (by omega)
      simp only [go_sem,h1,h2,h3,h4,h5,h6,h7,h8,Zb,hql,hsub,hsub1,hsub2,hr0,hr1,hr2,eu1,hr'];repeat first|refine ja (by omega) ?_|refine ja (by assumption) ?_|refine ja rfl ?_|refine ja ⟨rfl,by omega⟩ ?_|refine ja ⟨rfl,by omega,by omega⟩ ?_|intro _
      have hstop:4294967296<=r∨(g<4294967296/\g*next<=r*4294967296+u2):=.inl hr
      have hgB2:g<=4294967296:=by omega
      have hle:=st.stop hg hgB2 hstop;obtain⟨l1,l2⟩:=st.left hqg hle;have hgV:g*V<4294967296 ^ (n+1):=by
       have a1:=Nat.mul_le_mul_right V hgB2;have a2:=(Nat.mul_lt_mul_left (show 0<4294967296 by omega)).2 hV1
       rw [Nat.pow_succ,Nat.mul_comm (4294967296 ^ n)];exact Nat.lt_of_le_of_lt a1 a2
      have hsplit:=vN (L:=L) (j:=j) (n:=n) (X:=X) (by omega) (by rw [hPP];exact hPL)
      rw [hPP]at hsplit;have hvp:val (dig (n+1) P')=P':=by rw [wm,Nat.mod_eq_of_lt hPL]
      have hrl:P' % V<4294967296 ^ (n+1):=Nat.lt_of_le_of_lt (Nat.mod_le _ _) hPL;have hjoin:=yas (L:=L) (j:=j) (n:=n) (X:=X) (by omega) hrl
      have hdiv:=Uat (j:=j) (q:=P' / V) hV0 hAX (by rw [hPP])
      rw [hPP]at hdiv;simp only [qt,UH];refine⟨vn _ _,dig j X,dig (n+1) P',List.replicate (L-(j+(n+1))) 0,g,(Zb _ _).symm,(Zb _ _).symm,rfl,by simp only [za,↓reduceIte,Nat.reduceEqDiff];rw [hsplit],vn _ _,hgB2,by rw [Zb,Zb];omega,by rw [hvv,Zb];exact hgV,by rw [Zb];omega,?_⟩
      rw [hvp,hvv,Zb];by_cases hb:P' < g*V
      .have hgq:=l1 hb;simp only [go_sem,h1,h2,h3,h4,h5,h7,h8,hb,hql];simp only [WF,UH];refine⟨vn _ _,dig j X,dig (n+1) (P' + 4294967296 ^ (n+1)-g*V),List.replicate (L-(j+(n+1))) 0,(Zb _ _).symm,(Zb _ _).symm,by simp only [za,↓reduceIte,Nat.reduceEqDiff],vn _ _,by rw [Zb,Zb];omega,by rw [Zb];omega,?_⟩
       rw [Zb,hvv,Vbh hgq hb hgV,hjoin];have hg1:sub64 g 1=P' / V:=by rw [hgq];exact JP hqB
       simp only [go_sem,h1,h2,h3,h4,h5,h7,h8,hql,hg1];rw [Nat.mod_eq_of_lt hqB];have hset:=Xu (n:=j+1) qd (P' / V) (by omega)
       rw [Nat.add_sub_cancel]at hset;rw [hset];repeat first|refine ja (by omega) ?_|refine ja (by assumption) ?_|refine ja rfl ?_|refine ja ⟨rfl,by omega⟩ ?_|refine ja ⟨rfl,by omega,by omega⟩ ?_|intro _
       exact⟨(j,X % 4294967296 ^ j+4294967296 ^ j*(P' % V),P' / V::qd),Qa (by simp [okS,okV,okC,okL,okH,okB,okE,Za,Va,za,Ja,wsA,ws]) ⟨yb rfl,yb rfl,trivial⟩,⟨by simp only;omega,hdiv.2,hdiv.1,Jc.2 ⟨hqB,hqd⟩,by simp only [List.length_cons];omega⟩,by simp only;omega⟩
      .have hgq:=l2 hb;rw [Ybg hgq,hjoin];simp only [go_sem,h1,h2,h3,h4,h5,h7,h8,hb,hql];rw [hgq,Nat.mod_eq_of_lt hqB];have hset:=Xu (n:=j+1) qd (P' / V) (by omega)
       rw [Nat.add_sub_cancel]at hset;rw [hset];repeat first|refine ja (by omega) ?_|refine ja (by assumption) ?_|refine ja rfl ?_|refine ja ⟨rfl,by omega⟩ ?_|refine ja ⟨rfl,by omega,by omega⟩ ?_|intro _
       exact⟨(j,X % 4294967296 ^ j+4294967296 ^ j*(P' % V),P' / V::qd),Qa (by simp [okS,okV,okC,okL,okH,okB,okE,Za,Va,za,Ja,wsA,ws]) ⟨yb rfl,yb rfl,trivial⟩,⟨by simp only;omega,hdiv.2,hdiv.1,Jc.2 ⟨hqB,hqd⟩,by simp only [List.length_cons];omega⟩,by simp only;omega⟩
end Go.Abs
end
section
namespace Go.Abs
open Go.Num
variable {P:Program} {Γ:Nat->Spec}
def Xl:AC:=(.seq (.ops false [.u 1 (.box 2 (.t 0)),.m 2 .fa])
 (.fg [1] (.seq (.seq (.ops false [.u 3 (.fa 1 (.t 1)),.u 4 (.ld none 1 false (.t 3)),.u 5 (.len (.t 4)),.u 6 (.bin .eql (.t 5) (.i 0))])
 (.fg [1,6] (.cond (.t 6) (.seq (.ops false [.u 7 (.fa 0 (.t 1)),.u 8 (.ld none 1 false (.t 7)),.u 9 (.un .not (.t 8)),.m 2 (.t 9)])
 .ret) .skip)))
 (.fg [1] (.seq (.ops false [.u 10 (.fa 1 (.t 1)),.u 11 (.ld none 1 false (.t 10)),.u 12 (.fa 1 (.t 1)),.u 13 (.ld none 1 false (.t 12)),.u 14 (.len (.t 13)),.u 15 (.bin .sub (.t 14) (.i 1)),.u 16 (.idx 1 (.t 11) (.t 15)),.u 17 (.ld none 1 false (.t 16)),.u 18 (.bin .neq (.t 17) (.c (.one (.lit (.int .u32 0))))),.m 2 (.t 18)])
 .ret)))))
def Wp(f0:Nat):AC:=(.seq (.ops false [.u 1 (.box 2 (.t 0)),.m 2 (.c (.one .emp))])
 (.fg [1] (.seq (.seq (.ops false [.u 3 (.ld none 2 true (.t 1)),.u 4 (.call f0 [(.t 3)]),.u 5 (.un .not (.t 4))])
 (.fg [1,5] (.cond (.t 5) (.seq (.ops false [.m 2 (.c (.one .emp))])
 .ret) .skip)))
 (.fg [1] (.seq (.ops false [.u 6 (.fa 1 (.t 1)),.u 7 (.ld none 1 false (.t 6)),.m 2 (.t 7)])
 .ret)))))
def jp(f0:Nat):AC:=(.seq (.ops false [.u 1 (.box 2 (.t 0)),.m 2 .fa])
 (.fg [1] (.seq (.ops false [.u 3 (.ld none 2 true (.t 1)),.u 4 (.call f0 [(.t 3)]),.m 5 (.t 4),.w 6 5 true (.fa 0 (.t 1)),.w 7 5 true (.ld none 1 false (.t 6)),.u 8 (.pick (.t 5) (.t 7) .fa),.m 2 (.t 8)])
 .ret)))
def Yq(f0:Nat):AC:=(.seq (.ops false [.u 4 (.alloc [(.lit (.bool false)),.emp])])
 (.fg [0,1,4] (.seq (.ops false [.m 5 (.t 1),.u 6 (.call f0 [(.t 5)]),.m 1 (.t 6)])
 (.fg [0,1,4] (.seq (.ops false [.m 7 (.t 0),.m 8 (.t 7),.w 9 8 true (.mv (.t 1)),.w 10 8 true (.len (.t 9)),.w 11 8 true (.bin .gtr (.t 10) (.i 0)),.u 12 (.pick (.t 8) (.t 11) .fa),.m 13 (.t 1),.u 14 (.build [.x 1 (.t 12),.x 1 (.t 13)]),.n (.st none 2 (.t 4) (.t 14))])
 .ret)))))
def Vs(f0:Nat):AC:=(.seq (.ops false [.u 2 (.alloc [(.lit (.bool false)),.emp])])
 (.fg [0,2] (.seq (.ops false [.m 4 (.t 0),.u 5 (.conv .u64 (.t 4)),.m 3 (.t 5)])
 (.fg [0,2,3] (.seq (.seq (.ops false [.m 6 (.t 0),.u 7 (.bin .lss (.t 6) (.i 0))])
 (.fg [0,2,3,7] (.cond (.t 7) (.ops false [.m 8 (.t 3),.u 9 (.un .neg (.t 8)),.m 3 (.t 9)]) .skip)))
 (.fg [0,2,3] (.seq (.ops false [.m 10 (.t 0),.u 11 (.bin .lss (.t 10) (.i 0)),.m 12 (.t 3),.u 13 (.conv .u32 (.t 12)),.m 14 (.t 3),.u 15 (.bin .shr (.t 14) (.c (.one (.lit (.int .u64 32))))),.u 16 (.conv .u32 (.t 15)),.u 17 (.row 1 [[.x 1 (.t 13)],[.x 1 (.t 16)]]),.u 18 (.call f0 [(.t 11),(.t 17)]),.n (.st none 2 (.t 2) (.t 18))])
 .ret)))))))
def Vt(f0:Nat):AC:=(.seq (.ops false [.u 1 (.box 2 (.t 0)),.m 2 (.i 0)])
 (.fg [1] (.seq (.block 0 (.seq (.ops false [.u 4 (.ld none 2 true (.t 1)),.u 5 (.call f0 [(.t 4)]),.u 6 (.len (.t 5)),.u 7 (.bin .eql (.t 6) (.i 0)),.m 3 (.t 7)])
 (.fg [1,3] (.cond (.t 3) (.seq (.ops false [.m 2 (.i 0)])
 .ret) (.seq (.ops false [.u 9 (.fa 0 (.t 1)),.u 10 (.ld none 1 false (.t 9)),.m 8 (.t 10)])
 (.fg [8] (.cond (.t 8) (.seq (.ops false [.m 2 (.i (-1))])
 .ret) .skip)))))))
 (.fg [] (.seq (.ops false [.m 2 (.i 1)])
 .ret)))))
def kw(f0 f1 f2 f3:Nat):AC:=(.seq (.ops false [.u 2 (.box 2 (.t 0)),.u 3 (.box 2 (.t 1)),.m 4 (.i 0)])
 (.fg [2,3] (.seq (.seq (.ops true [.u 8 (.ld none 2 true (.t 2)),.u 9 (.call f0 [(.t 8)]),.u 10 (.ld none 2 true (.t 3)),.u 11 (.call f0 [(.t 10)]),.m 5 (.t 9),.m 6 (.t 11)])
 (.fg [2,3,5,6] (.seq (.ops false [.m 12 (.t 5),.m 13 (.t 6),.u 14 (.bin .neq (.t 12) (.t 13))])
 (.fg [2,3,5,6,14] (.cond (.t 14) (.seq (.seq (.ops false [.m 15 (.t 5),.m 16 (.t 6),.u 17 (.bin .lss (.t 15) (.t 16))])
 (.fg [17] (.cond (.t 17) (.seq (.ops false [.m 4 (.i (-1))])
 .ret) .skip)))
 (.fg [] (.seq (.ops false [.m 4 (.i 1)])
 .ret))) .skip)))))
 (.fg [2,3] (.seq (.ops true [.u 18 (.ld none 2 true (.t 2)),.u 19 (.call f1 [(.t 18)]),.u 20 (.ld none 2 true (.t 3)),.u 21 (.call f1 [(.t 20)]),.u 22 (.call f2 [(.t 19),(.t 21)]),.m 7 (.t 22)])
 (.fg [2,7] (.seq (.seq (.ops false [.u 23 (.ld none 2 true (.t 2)),.u 24 (.call f3 [(.t 23)])])
 (.fg [7,24] (.cond (.t 24) (.seq (.ops false [.m 25 (.t 7),.u 26 (.un .neg (.t 25)),.m 4 (.t 26)])
 .ret) .skip)))
 (.fg [7] (.seq (.ops false [.m 27 (.t 7),.m 4 (.t 27)])
 .ret)))))))))
def kp(f0 f1 f2:Nat):AC:=(.seq (.ops false [.u 1 (.box 2 (.t 0)),.u 2 (.alloc [(.lit (.bool false)),.emp])])
 (.fg [1,2] (.seq (.ops true [.u 3 (.ld none 2 true (.t 1)),.u 4 (.call f0 [(.t 3)]),.u 5 (.un .not (.t 4)),.u 6 (.ld none 2 true (.t 1)),.u 7 (.call f1 [(.t 6)]),.u 8 (.call f2 [(.t 5),(.t 7)]),.n (.st none 2 (.t 2) (.t 8))])
 .ret)))
def Vw(f0 f1 f2 f3 f4 f5:Nat):AC:=(.seq (.ops false [.u 2 (.box 2 (.t 0)),.u 3 (.box 2 (.t 1)),.u 4 (.alloc [(.lit (.bool false)),.emp])])
 (.fg [2,3,4] (.seq (.ops true [.u 7 (.ld none 2 true (.t 2)),.u 8 (.call f0 [(.t 7)]),.u 9 (.ld none 2 true (.t 3)),.u 10 (.call f0 [(.t 9)]),.m 5 (.t 8),.m 6 (.t 10)])
 (.fg [2,3,4,5,6] (.seq (.block 0 (.seq (.ops true [.u 12 (.ld none 2 true (.t 2)),.u 13 (.call f1 [(.t 12)]),.u 14 (.ld none 2 true (.t 3)),.u 15 (.call f1 [(.t 14)]),.u 16 (.binb .eql (.t 13) (.t 15)),.m 11 (.t 16)])
 (.fg [2,3,4,5,6,11] (.cond (.t 11) (.seq (.ops false [.u 17 (.ld none 2 true (.t 2)),.u 18 (.call f1 [(.t 17)]),.m 19 (.t 5),.m 20 (.t 6),.u 21 (.call f2 [(.t 19),(.t 20)]),.u 22 (.call f3 [(.t 18),(.t 21)]),.n (.st none 2 (.t 4) (.t 22))])
 .ret) (.seq (.ops false [.m 24 (.t 5),.m 25 (.t 6),.u 26 (.call f4 [(.t 24),(.t 25)]),.u 27 (.bin .geq (.t 26) (.i 0)),.m 23 (.t 27)])
 (.fg [2,3,4,5,6,23] (.cond (.t 23) (.seq (.ops false [.u 28 (.ld none 2 true (.t 2)),.u 29 (.call f1 [(.t 28)]),.m 30 (.t 5),.m 31 (.t 6),.u 32 (.call f5 [(.t 30),(.t 31)]),.u 33 (.call f3 [(.t 29),(.t 32)]),.n (.st none 2 (.t 4) (.t 33))])
 .ret) .skip)))))))
 (.fg [3,4,5,6] (.seq (.ops false [.u 34 (.ld none 2 true (.t 3)),.u 35 (.call f1 [(.t 34)]),.m 36 (.t 6),.m 37 (.t 5),.u 38 (.call f5 [(.t 36),(.t 37)]),.u 39 (.call f3 [(.t 35),(.t 38)]),.n (.st none 2 (.t 4) (.t 39))])
 .ret)))))))
def vp(f0 f1 f2 f3:Nat):AC:=(.seq (.ops false [.u 2 (.box 2 (.t 0)),.u 3 (.box 2 (.t 1)),.u 4 (.alloc [(.lit (.bool false)),.emp])])
 (.fg [2,3,4] (.seq (.ops true [.u 5 (.ld none 2 true (.t 2)),.u 6 (.call f0 [(.t 5)]),.u 7 (.ld none 2 true (.t 3)),.u 8 (.call f0 [(.t 7)]),.u 9 (.binb .neq (.t 6) (.t 8)),.u 10 (.ld none 2 true (.t 2)),.u 11 (.call f1 [(.t 10)]),.u 12 (.ld none 2 true (.t 3)),.u 13 (.call f1 [(.t 12)]),.u 14 (.call f2 [(.t 11),(.t 13)]),.u 15 (.call f3 [(.t 9),(.t 14)]),.n (.st none 2 (.t 4) (.t 15))])
 .ret)))
def Ww(f0 f1 f2:Nat):AC:=(.seq (.ops false [.u 2 (.box 2 (.t 0)),.u 3 (.box 2 (.t 1)),.u 4 (.alloc [(.lit (.bool false)),.emp])])
 (.fg [2,3,4] (.seq (.ops true [.u 9 (.ld none 2 true (.t 2)),.u 10 (.call f0 [(.t 9)]),.u 11 (.ld none 2 true (.t 3)),.u 12 (.call f0 [(.t 11)]),.m 5 (.t 10),.m 6 (.t 12)])
 (.fg [4,5,6] (.seq (.block 0 (.loop (.seq (.seq (.ops false [.m 13 (.t 6),.u 14 (.len (.t 13)),.u 15 (.bin .gtr (.t 14) (.i 0))])
 (.fg [4,5,6,15] (.cond (.t 15) .skip (.exit 0))))
 (.fg [4,5,6] (.block 1 (.seq (.ops false [.m 17 (.t 5),.m 18 (.t 6),.u 19 (.call f1 [(.t 17),(.t 18)]),.m 16 (.t 19),.u 20 (.ext 0 (.t 16)),.u 21 (.ext 1 (.t 16)),.m 7 (.t 20),.m 8 (.t 21)])
 (.fg [4,6,8] (.ops false [.m 22 (.t 6),.m 23 (.t 8),.m 5 (.t 22),.m 6 (.t 23)]))))))))
 (.fg [4,5] (.seq (.ops false [.m 24 (.t 5),.u 25 (.call f2 [.fa,(.t 24)]),.n (.st none 2 (.t 4) (.t 25))])
 .ret)))))))
def Zx(f0 f1 f2 f3 f4 f5 tE:Nat):AC:=(.seq (.ops false [.u 2 (.box 2 (.t 0)),.u 3 (.box 2 (.t 1)),.u 4 (.alloc [(.lit (.bool false)),.emp]),.u 5 (.alloc [(.lit (.bool false)),.emp]),.m 6 (.c (.one (.lit .nilIface)))])
 (.fg [2,3,4,5] (.seq (.ops false [.u 10 (.ld none 2 true (.t 3)),.u 11 (.call f0 [(.t 10)]),.m 7 (.t 11)])
 (.fg [2,3,4,5,7] (.seq (.seq (.ops false [.m 12 (.t 7),.u 13 (.len (.t 12)),.u 14 (.bin .eql (.t 13) (.i 0))])
 (.fg [2,3,4,5,7,14] (.cond (.t 14) (.seq (.ops false [.u 15 (.build [.z [(.lit (.bool false)),.emp]]),.u 16 (.build [.z [(.lit (.bool false)),.emp]]),.u 17 (.iface tE (.i 8)),.n (.st none 2 (.t 4) (.t 15)),.n (.st none 2 (.t 5) (.t 16)),.m 6 (.t 17)])
 .ret) .skip)))
 (.fg [2,3,4,5,7] (.seq (.ops false [.u 19 (.ld none 2 true (.t 2)),.u 20 (.call f0 [(.t 19)]),.m 21 (.t 7),.u 22 (.call f1 [(.t 20),(.t 21)]),.m 18 (.t 22),.u 23 (.ext 0 (.t 18)),.u 24 (.ext 1 (.t 18)),.m 8 (.t 23),.m 9 (.t 24)])
 (.fg [2,3,4,5,7,8,9] (.seq (.seq (.ops false [.u 25 (.ld none 2 true (.t 2)),.u 26 (.call f2 [(.t 25)]),.m 27 (.t 26),.w 28 27 true (.mv (.t 9)),.w 29 27 true (.len (.t 28)),.w 30 27 true (.bin .gtr (.t 29) (.i 0)),.u 31 (.pick (.t 27) (.t 30) .fa)])
 (.fg [2,3,4,5,7,8,9,31] (.cond (.t 31) (.ops false [.m 32 (.t 8),.u 33 (.row 1 [[.x 1 (.c (.one (.lit (.int .u32 1))))]]),.u 34 (.call f3 [(.t 32),(.t 33)]),.m 35 (.t 7),.m 36 (.t 9),.u 37 (.call f4 [(.t 35),(.t 36)]),.m 8 (.t 34),.m 9 (.t 37)]) .skip)))
 (.fg [2,3,4,5,8,9] (.seq (.ops true [.u 38 (.ld none 2 true (.t 2)),.u 39 (.call f2 [(.t 38)]),.u 40 (.ld none 2 true (.t 3)),.u 41 (.call f2 [(.t 40)]),.u 42 (.binb .neq (.t 39) (.t 41)),.m 43 (.t 8),.u 44 (.call f5 [(.t 42),(.t 43)]),.m 45 (.t 9),.u 46 (.call f5 [.fa,(.t 45)]),.n (.st none 2 (.t 4) (.t 44)),.n (.st none 2 (.t 5) (.t 46)),.m 6 (.c (.one (.lit .nilIface)))])
 .ret)))))))))))
theorem qI(hΓ:Holds P Γ){f:Nat}(hc:check P f=some (19,Xl.strip,[.tmp 2])):Sound P f (.dat true Vk):=by
 refine ka hc Xak hΓ (λargs K hcl hfi hG=>?_);match args,hG with
 | [a],hG=>
  obtain⟨w,rfl,hw,hK⟩:=hG;refine⟨by simp,?_⟩
  simp only [go_sem,Xl,Vbw,xaI];unfold vldW at hK;intro hlen;refine⟨λh=>?_,λh _=>?_⟩
  .rw [if_pos (List.length_eq_zero_iff.1 h)]at hK;exact hK
  .have hn:w.2≠[]:=λe=>h (by rw [e];rfl)
   rw [if_neg hn]at hK;refine⟨⟨by omega,by omega⟩,by omega,by omega,?_⟩
   have e1:((w.2.length:Int)-1).toNat=w.2.length-1:=by omega
   rw [e1];have e2:(!decide (w.2.getD (w.2.length-1) 0=0))=decide (NZ w.2):=by
    rw [<-decide_not,decide_eq_decide];unfold NZ;rw [List.getLast?_eq_getElem?,List.getElem?_eq_getElem (by omega),List.getD_eq_getElem?_getD,List.getElem?_eq_getElem (by omega)]
    simp
   rw [e2];exact hK
theorem vQ(hΓ:Holds P Γ){f fv:Nat}(hv:Γ fv=.dat true Vk)(hc:check P f=some (8,(Wp fv).strip,[.tmp 2])):Sound P f (.dat false Wk):=by
 refine ka hc yaY hΓ (λargs K hcl hfi hG=>?_);match args,hG with
 | [a],hG=>
  obtain⟨w,rfl,hw,hK⟩:=hG;refine⟨by simp,?_⟩
  simp only [go_sem,Wp,hv,hw];rw [<-kbD hw]at hK;refine⟨λh=>?_,λh=>?_⟩
  .rw [if_pos h]at hK;exact hK
  .rw [if_neg (by rw [h];simp)]at hK;exact hK
theorem QK(hΓ:Holds P Γ){f fv:Nat}(hv:Γ fv=.dat true Vk)(hc:check P f=some (9,(jp fv).strip,[.tmp 2])):Sound P f (.dat true Xf):=by
 refine ka hc VaF hΓ (λargs K hcl hfi hG=>?_);match args,hG with
 | [a],hG=>
  obtain⟨w,rfl,hw,hK⟩:=hG;refine⟨by simp,?_⟩
  simp only [go_sem,jp,hv,hw];rw [<-Ja7 hw]at hK;refine⟨λh=>?_,λh=>?_⟩
  .rw [h,Bool.true_and]at hK;exact hK
  .rw [h,Bool.false_and]at hK;exact hK
theorem Xao(hΓ:Holds P Γ){f ft:Nat}(ht:Γ ft=.dat false Qv)(hc:check P f=some (15,(Yq ft).strip,[.cell 4 2 true])):Sound P f (.dat false kf):=by
 refine ka hc XT hΓ (λargs K hcl hfi hG=>?_);match args,hG with
 | [a,m],hG=>
  obtain⟨b,rfl,hG⟩:=yx hG;obtain⟨l,rfl,hl,hlen,hK⟩:=hG;refine⟨by simp,?_⟩
  simp only [go_sem,Yq,ht];rw [<-zQ]at hK;refine⟨hl,hlen,λh _=>?_,λh=>?_⟩
  .rw [h,Bool.true_and]at hK;exact hK
  .rw [h,Bool.false_and]at hK;exact hK
theorem xab(hΓ:Holds P Γ){f fw:Nat}(hw:Γ fw=.dat false kf)(hc:check P f=some (19,(Vs fw).strip,[.cell 2 2 true])):Sound P f (.dat false zH):=by
 refine ka hc Ybd hΓ (λargs K hcl hfi hG=>?_);match args,hG with
 | [a],hG=>
  obtain⟨k,n,rfl,rfl,hn1,hn2,hK⟩:=Vb hG;refine⟨by simp,?_⟩
  simp only [go_sem,Vs,hw];have e0:(18446744073709551616:Int)=((18446744073709551616:Nat):Int):=rfl;have key:∀(x:Nat) (b:Bool),x<18446744073709551616->sg b x=n->
    onWs (λl=>l.length<=68719476736/\K (AV.agg [zb (zcan (sg b (val l))),zm (zcan (sg b (val l)))]))
     (AV.one (C.slice [[C.lit (Value.int IntKind.u32 ((x:Int) % 4294967296))],[C.lit (Value.int IntKind.u32 ((x:Int) / 2 ^ 32 % 4294967296))]])):=by
   intro x b hx hs;have e1:((x:Int) % 4294967296)=((x % 4294967296:Nat):Int):=by omega
   have e2:((x:Int) / 2 ^ 32 % 4294967296)=((x / 4294967296:Nat):Int):=by omega
   rw [e1,e2,Qa3];refine⟨?_,by simp,?_⟩
   .rw [Jc,Jc];exact⟨by omega,by omega,Wc⟩
   .have:val [x % 4294967296,x / 4294967296]=x:=by
     simp only [Zk,Jo];omega
    rw [this,hs];exact hK
  refine⟨λh=>⟨⟨by omega,by omega,by decide⟩,?_⟩,λh=>⟨⟨by omega,by omega,by decide⟩,?_⟩⟩
  .have e:(-(n % 18446744073709551616) % 18446744073709551616:Int)=((-n).toNat:Int):=by omega
   rw [e];refine key _ _ (by omega) ?_
   rw [decide_eq_true h];unfold sg;rw [if_pos rfl];omega
  .have e:(n % 18446744073709551616:Int)=(n.toNat:Int):=by omega
   rw [e];refine key _ _ (by omega) ?_
   rw [decide_eq_false h];unfold sg;rw [if_neg (by simp)];omega
theorem ual(hΓ:Holds P Γ){f fm:Nat}(hm:Γ fm=.dat false Wk)(hc:check P f=some (11,(Vt fm).strip,[.tmp 2])):Sound P f (.dat true Qg):=by
 refine ka hc jR hΓ (λargs K hcl hfi hG=>?_);match args,hG with
 | [a],hG=>
  obtain⟨w,rfl,hw,hK⟩:=hG;refine⟨by simp,?_⟩
  simp only [go_sem,Vt,hm,hw,Vbw,xaI];intro _;show((digs (zv w).natAbs).length=0->_)/\(¬(digs (zv w).natAbs).length=0->_);have h0:(digs (zv w).natAbs).length=0↔zv w=0:=Qy;rw [h0];refine⟨λh=>?_,λh=>⟨λhb=>?_,λhb=>?_⟩⟩
  .rw [h]at hK;exact hK
  .have:zv w<0:=by
    have:=Ja7 hw;rw [hb,Bool.and_true]at this;have hv:vldW w=true:=by
     cases hv:vldW w with
     | true=>rfl
     | false=>exact absurd (Jal hv) h
    rw [hv]at this;simpa using this.symm
   rw [Int.sign_eq_neg_one_of_neg this]at hK;exact hK
  .have:¬zv w<0:=by
    have:=Ja7 hw;rw [hb,Bool.and_false]at this;simpa using this.symm
   rw [Int.sign_eq_one_of_pos (by omega)]at hK;exact hK
theorem waH(hΓ:Holds P Γ){f fs fm fc fn:Nat}(hs:Γ fs=.dat true Qg)(hm:Γ fm=.dat false Wk)(hc' : Γ fc=.dat false Xj)(hn:Γ fn=.dat true Xf)
  (hc:check P f=some (28,(kw fs fm fc fn).strip,[.tmp 4])):Sound P f (.dat true uA):=by
 refine ka hc jaO hΓ (λargs K hcl hfi hG=>?_);match args,hG with
 | [a,b],hG=>
  obtain⟨v,rfl,hv,w,rfl,hw,hK⟩:=hG;refine⟨by simp,?_⟩
  simp only [go_sem,kw,hs,hm,hc',hn,hv,hw];simp only [jb];have hs:∀n:Int,Int.sign n=if n<0 then -1 else if n=0 then 0 else 1:=by
   intro n;split
   .exact Int.sign_eq_neg_one_of_neg ‹_›
   .split
    .rename_i h;rw [h];rfl
    .exact Int.sign_eq_one_of_pos (by omega)
  rw [hs,hs];generalize zv v=x at hK ⊢;generalize zv w=y at hK ⊢;refine⟨λh=>⟨qb _,qb _,Uq _,Uq _,λhx=>⟨?_,?_⟩,λhx=>?_⟩,λh=>⟨λh'=>?_,λh'=>?_⟩⟩
  .unfold ordN;split <;> (try split) <;> omega
  .have e:-ordN x.natAbs y.natAbs=ordI x y:=by
    unfold ordN ordI;rw [if_pos hx]at h;have hy:y<0:=by
     split at h
     .assumption
     .split at h <;> omega
    split <;> (try split) <;> (try split) <;> (try split) <;> omega
   rw [e];exact hK
  .have e:ordN x.natAbs y.natAbs=ordI x y:=by
    unfold ordN ordI;rw [if_neg hx]at h;have hy:¬y<0:=by
     intro hy;rw [if_pos hy]at h;split at h <;> omega
    split <;> (try split) <;> (try split) <;> (try split) <;> omega
   rw [e];exact hK
  .have e:ordI x y = -1:=Qbx (by
    split at h' <;> split at h' <;> (try split at h') <;> (try split at h') <;> omega)
   rw [e]at hK;exact hK
  .have e:ordI x y=1:=zby (by
    split at h' <;> split at h' <;> (try split at h') <;> (try split at h') <;> (try split at h) <;> (try split at h) <;> (try split at h) <;> (try split at h) <;> omega)
   rw [e]at hK;exact hK
theorem ZR(hΓ:Holds P Γ){f fn fm fw:Nat}(hn:Γ fn=.dat true Xf)(hm:Γ fm=.dat false Wk)(hw' : Γ fw=.dat false kf)(hc:check P f=some (9,(kp fn fm fw).strip,[.cell 2 2 true])):Sound P f (.dat false Jv):=by
 refine ka hc VaR hΓ (λargs K hcl hfi hG=>?_);match args,hG with
 | [a],hG=>
  obtain⟨w,rfl,hw,hz,hK⟩:=hG;refine⟨by simp,?_⟩
  simp only [go_sem,kp,hn,hm,hw',hw];rw [jb];refine⟨qb _,hz,?_⟩;have e:sg (!decide (zv w<0)) (zv w).natAbs = -zv w:=by
   unfold sg;by_cases h:zv w<0 <;> simp [h] <;> omega
  rw [e];exact hK
theorem yQ(hΓ:Holds P Γ){f fn fm ft fw:Nat}(hn:Γ fn=.dat true Xf)(hm:Γ fm=.dat false Wk)(ht:Γ ft=.dat false Jq)(hw' : Γ fw=.dat false kf)(hc:check P f=some (16,(vp fn fm ft fw).strip,[.cell 4 2 true])):Sound P f (.dat false Uv):=by
 refine ka hc jaT hΓ (λargs K hcl hfi hG=>?_);match args,hG with
 | [a,b],hG=>
  obtain⟨v,rfl,hv,w,rfl,hw,hz,hz',hK⟩:=hG;refine⟨by simp,?_⟩
  simp only [go_sem,vp,hn,hm,ht,hw',hw,hv];simp only [jb];have e:sg (!(decide (zv v<0) == decide (zv w<0))) ((zv v).natAbs*(zv w).natAbs)=zv v*zv w:=wbK _ _;rw [e];refine⟨qb _,qb _,hz,hz',qb _,?_,hK⟩;have:=Vu (zv v) (zv w);unfold zs at *
  rw [<-Int.natAbs_mul];omega
theorem XaJ(hΓ:Holds P Γ){f fn fm fp fw fc fl:Nat}(hn:Γ fn=.dat true Xf)(hm:Γ fm=.dat false Wk)(hp:Γ fp=.dat false Jr)(hw' : Γ fw=.dat false kf)(hc' : Γ fc=.dat false Xj)(hl:Γ fl=.dat false yt)(hc:check P f=some (40,(Vw fm fn fp fw fc fl).strip,[.cell 4 2 true])):Sound P f (.dat false Xx):=by
 refine ka hc Zab hΓ (λargs K hcl hfi hG=>?_);match args,hG with
 | [a,b],hG=>
  obtain⟨v,rfl,hv,w,rfl,hw,hz,hz',hK⟩:=hG;refine⟨by simp,?_⟩
  simp only [go_sem,Vw,hn,hm,hp,hw',hc',hl,hw,hv];simp only [jb];have hsz:=UJ (zv v) (zv w);refine⟨λh=>⟨qb _,qb _,hz,hz',qb _,?_,?_⟩,λh=>⟨qb _,qb _,Uq _,Uq _,λho=>⟨qb _,qb _,by unfold zs at hz;omega,?_,qb _,?_,?_⟩,λho=>⟨qb _,qb _,by unfold zs at hz';omega,?_,qb _,?_,?_⟩⟩⟩
  .have e:=Yy (qk h);rw [show(zv v).natAbs+(zv w).natAbs=(zv v+zv w).natAbs by have:=qk h;omega]
   unfold zs at *;omega
  .rw [Yy (qk h)];exact hK
  .exact(yw.1 ho)
  .have:=Xa (Nat.sub_le (zv v).natAbs (zv w).natAbs);unfold zs at *;omega
  .have h1:=yw.1 ho;rw [VaB (Ys h) h1];exact hK
  .have:=mt yw.2 ho;omega
  .have:=Xa (Nat.sub_le (zv w).natAbs (zv v).natAbs);unfold zs at *;omega
  .have h1:=mt yw.2 ho;rw [VaB (λe=>Ys h e.symm) (by omega),Int.add_comm];exact hK
theorem uaJ(hΓ:Holds P Γ){f fn fm fp fw fd fl tE:Nat}(hn:Γ fn=.dat true Xf)(hm:Γ fm=.dat false Wk)(hp:Γ fp=.dat false Jr)(hw' : Γ fw=.dat false kf)(hd:Γ fd=.dat false ki)(hl:Γ fl=.dat false yt)(hc:check P f=some (47,(Zx fm fd fn fp fl fw tE).strip,[.cell 4 2 true,.cell 5 2 true,.tmp 6])):Sound P f (.dat false VE):=by
 refine ka hc JaU hΓ (λargs K hcl hfi hG=>?_);match args,hG with
 | [a,b],hG=>
  obtain⟨v,rfl,hv,w,rfl,hw,hz,hz',h0,hK⟩:=hG;refine⟨by simp,?_⟩
  simp only [go_sem,Zx,hn,hm,hp,hw',hd,hl,hw,hv];simp only [jb];have hne:¬(digs (zv w).natAbs).length=0:=λe=>h0 (Qy.1 e);intro _;refine⟨λe=>absurd e hne,λ_=>⟨qb _,qb _,Uq _,Uq _,λe=>hne (by rw [e];rfl),hz,hz',?_⟩⟩
  have hq:(digs ((zv v).natAbs / (zv w).natAbs)).length<=17179869184:=Nat.le_trans (Xa (Nat.div_le_self _ _)) hz;have hr:(digs ((zv v).natAbs % (zv w).natAbs)).length<=17179869184:=Nat.le_trans (Xa (Nat.mod_le _ _)) hz;have hz'' : (digs (zv w).natAbs).length<=17179869184:=hz';have hlt:=Nat.mod_lt (zv v).natAbs (show 0<(zv w).natAbs by omega)
  have hfin:(0<=zv v∨(zv v).natAbs % (zv w).natAbs=0)->K (AV.tup
    [AV.agg [zb (zcan (sg (!(decide (zv v<0) == decide (zv w<0))) ((zv v).natAbs / (zv w).natAbs))),zm (zcan (sg (!(decide (zv v<0) == decide (zv w<0))) ((zv v).natAbs / (zv w).natAbs)))],
     AV.agg [zb (zcan (sg false ((zv v).natAbs % (zv w).natAbs))),zm (zcan (sg false ((zv v).natAbs % (zv w).natAbs)))],AV.one (C.lit Value.nilIface)]):=by
   intro h;obtain⟨e1,e2⟩:=vaD h0 h;have e1' : sg (!(decide (zv v<0) == decide (zv w<0))) ((zv v).natAbs / (zv w).natAbs)=zv v / zv w:=e1;have e2' : sg false ((zv v).natAbs % (zv w).natAbs)=zv v % zv w:=e2;rw [e1',e2'];exact hK
  refine⟨λhneg _=>⟨λhp=>⟨qb _,(Qay _ 1).mpr ⟨Jc.2 ⟨by decide,Wc⟩,hq,by decide,qb _,qb _,by omega,by omega,qb _,?_,qb _,?_,?_⟩⟩,λhp=>⟨qb _,by omega,qb _,by omega,hfin (.inr ?_)⟩⟩,λhneg=>⟨qb _,by omega,qb _,by omega,hfin (.inl (by omega))⟩⟩
  .have hv1:val [1]=1:=rfl;rw [hv1];have h1:zs 1<=2:=uV (by decide)
   have:=UJ (((zv v).natAbs / (zv w).natAbs:Nat):Int) 1;have e:(((zv v).natAbs / (zv w).natAbs:Nat):Int)+1=(((zv v).natAbs / (zv w).natAbs+1:Nat):Int):=by omega
   rw [e]at this;have h3:zs (((zv v).natAbs / (zv w).natAbs:Nat):Int)=(digs ((zv v).natAbs / (zv w).natAbs)).length:=rfl;have h4:zs (((zv v).natAbs / (zv w).natAbs+1:Nat):Int)=(digs ((zv v).natAbs / (zv w).natAbs+1)).length:=rfl;rw [h3,h4]at this;omega
  .have:=Xa (Nat.sub_le (zv w).natAbs ((zv v).natAbs % (zv w).natAbs));omega
  .have hv1:val [1]=1:=rfl;rw [hv1];have hne' : (zv v).natAbs % (zv w).natAbs≠0:=by
    intro e;rw [e,Yb]at hp;simp at hp
   obtain⟨e1,e2⟩:=Jav h0 hneg hne';have e1' : sg (!(decide (zv v<0) == decide (zv w<0))) ((zv v).natAbs / (zv w).natAbs+1)=zv v / zv w:=e1;have e2' : sg false ((zv w).natAbs-(zv v).natAbs % (zv w).natAbs)=zv v % zv w:=e2;rw [e1',e2'];exact hK
  .have:digs ((zv v).natAbs % (zv w).natAbs)=[]:=List.eq_nil_of_length_eq_zero (by omega)
   exact Zg.1 this
theorem qaG(hΓ:Holds P Γ){f fm fd fw:Nat}(hm:Γ fm=.dat false Wk)(hw' : Γ fw=.dat false kf)(hd:Γ fd=.dat false ki)(hc:check P f=some (26,(Ww fm fd fw).strip,[.cell 4 2 true])):Sound P f (.dat false zu):=by
 refine ka hc kac hΓ (λargs K hcl hfi hG=>?_);match args,hG with
 | [a,b],hG=>
  obtain⟨v,rfl,hv,w,rfl,hw,hz,hz',hK⟩:=hG;refine⟨by simp,?_⟩
  simp only [go_sem,Ww,hm,hw',hd,hw,hv];refine Ya (λp:Nat×Nat=>⟨mkV [(4,.one (.ptr 4 1 0 0)),(5,.one (ws (digs p.1))),(6,.one (ws (digs p.2)))],mkH [(4,⟨1,some ⟨[[.lit (.bool false),.emp]],2,true⟩⟩)]⟩)
   (λp=>(digs p.1).length<=17179869184/\(digs p.2).length<=17179869184/\Nat.gcd p.1 p.2=Int.gcd (zv v) (zv w)) (λp=>p.2) ((zv v).natAbs,(zv w).natAbs) ?_ ?_ ?_
  .exact Qa (by simp [okS,okV,okC,okL,okH,okB,okE,Za,Va,za,Ja,wsA,ws]) ⟨⟨⟨rfl,rfl⟩,.inr ⟨⟨rfl,trivial,trivial⟩,trivial⟩⟩,trivial⟩
  .exact⟨hz,hz',rfl⟩
  .rintro⟨a,b⟩ ⟨ha,hb,hg⟩;simp only at ha hb hg;simp only [go_sem,hm,hw',hd,ws];simp only [jb];refine λ_=>⟨λh=>⟨qb _,qb _,Uq _,Uq _,λe=>by rw [e]at h;simp at h,ha,hb,?_⟩,λh=>⟨qb _,by omega,?_⟩⟩
   .have hb0:0<b:=by
     rcases Nat.eq_zero_or_pos b with e|e
     .rw [e,Yb]at h;simp at h
     .exact e
    refine⟨(b,a % b),Qa (by simp [okS,okV,okC,okL,okH,okB,okE,Za,Va,za,Ja,wsA,ws]) ⟨⟨⟨rfl,rfl⟩,.inr ⟨⟨rfl,trivial,trivial⟩,trivial⟩⟩,trivial⟩,⟨hb,Nat.le_trans (Xa (Nat.mod_le _ _)) ha,?_⟩,Nat.mod_lt _ hb0⟩
    rw [<-hg];show Nat.gcd b (a % b)=_;rw [Nat.gcd_comm b,<-Nat.gcd_rec,Nat.gcd_comm]
   .have:digs b=[]:=List.eq_nil_of_length_eq_zero (by omega)
    rw [Zg.1 this,Nat.gcd_zero_right]at hg;rw [hg];exact hK
end Go.Abs
end
