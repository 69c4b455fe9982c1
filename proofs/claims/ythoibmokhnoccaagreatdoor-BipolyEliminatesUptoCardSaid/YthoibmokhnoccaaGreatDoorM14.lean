/-
  Parts of the proof, merged: RefD, RefE, RefF.
-/
import Derived.Test.YthoibmokhnoccaaGreatDoorM13
set_option linter.unusedVariables false
set_option linter.unusedSimpArgs false
set_option maxRecDepth 100000
section
namespace Go.Abs
open Go.Num
variable {P:Program} {Γ:Nat->Spec}
def qi(f0 f1 f2 f3 f4 f5:Nat):AC:=(.o [.m 4 (.c (.one .emp))] [0,1] (.o [.M 6 0,.u 7 (.callf f0 [(.t 6)]),.M 8 1,.u 9 (.callf f0 [(.t 8)]),.M 0 7,.M 1 9] [0,1] (.f (.o [.M 10 0,.Z 11 10,.I 12 .eql 11 0] [0,1,12] (.cond (.t 12) (.seq (.p [.M 13 1,.M 4 13]) .ret) .skip)) [0,1] (.f (.o [.M 14 1,.Z 15 14,.I 16 .eql 15 0] [0,1,16] (.cond (.t 16) (.seq (.p [.M 17 0,.M 4 17]) .ret) .skip)) [0,1] (.o [.N 5 0] [0,1,5] (.f (.block 0 (.loop (.f (.o [.M 18 0,.u 19 (.idx 1 (.t 18) (.i 0)),.F 20 1 19,.u 21 (.bin .and (.t 20) (.c (.one (.lit (.int .u32 1))))),.u 22 (.bin .eql (.t 21) (.c (.one (.lit (.int .u32 0))))),.M 23 22,.V 24 23 true 1,.w 25 23 true (.idx 1 (.t 24) (.i 0)),.U 26 23 true 1 false 25,.w 27 23 true (.bin .and (.t 26) (.c (.one (.lit (.int .u32 1))))),.w 28 23 true (.bin .eql (.t 27) (.c (.one (.lit (.int .u32 0))))),.P 29 23 28] [0,1,5,29] (.cond (.t 29) .skip (.exit 0))) [0,1,5] (.block 1 (.o [.M 30 0,.H 31 f1 30,.M 32 1,.H 33 f1 32,.M 0 31,.M 1 33] [0,1,5] (.p [.M 34 5,.I 35 .add 34 1,.M 5 35])))))) [0,1,5] (.f (.block 2 (.loop (.f (.o [.M 36 0,.Z 37 36,.I 38 .gtr 37 0] [0,1,5,38] (.cond (.t 38) .skip (.exit 2))) [0,1,5] (.block 3 (.f (.block 4 (.loop (.f (.o [.M 39 0,.u 40 (.idx 1 (.t 39) (.i 0)),.F 41 1 40,.u 42 (.bin .and (.t 41) (.c (.one (.lit (.int .u32 1))))),.u 43 (.bin .eql (.t 42) (.c (.one (.lit (.int .u32 0)))))] [0,1,5,43] (.cond (.t 43) .skip (.exit 4))) [0,1,5] (.block 5 (.p [.M 44 0,.H 45 f1 44,.M 0 45]))))) [0,1,5] (.f (.block 6 (.loop (.f (.o [.M 46 1,.u 47 (.idx 1 (.t 46) (.i 0)),.F 48 1 47,.u 49 (.bin .and (.t 48) (.c (.one (.lit (.int .u32 1))))),.u 50 (.bin .eql (.t 49) (.c (.one (.lit (.int .u32 0)))))] [0,1,5,50] (.cond (.t 50) .skip (.exit 6))) [0,1,5] (.block 7 (.p [.M 51 1,.H 52 f1 51,.M 1 52]))))) [0,1,5] (.f (.o [.M 53 0,.M 54 1,.D 55 f2 53 54,.I 56 .lss 55 0] [0,1,5,56] (.cond (.t 56) (.p [.M 57 1,.M 58 0,.M 0 57,.M 1 58]) .skip)) [0,1,5] (.o [.M 59 0,.M 60 1,.D 61 f3 59 60] [0,1,5] (.p [.M 62 0,.H 63 f4 62,.M 0 63]))))))))) [1,5] (.f (.o [.M 64 5,.N 65 0] [1,64,65] (.fz [1] (.block 8 (.loop (.o [.B 66 .lss 65 64] [1,64,65,66] (.f (.cond (.t 66) .skip (.exit 8)) [1,64,65] (.f (.block 9 (.p [.M 67 1,.M 68 1,.D 69 f5 67 68,.M 1 69])) [1,64,65] (.p [.I 70 .add 65 1,.M 65 70])))))))) [1] (.seq (.p [.M 71 1,.M 4 71]) .ret)))))))))
theorem yak(hΓ:Holds P Γ){f ft fh fc fk fu fp:Nat}(ht:Γ ft=.fresh 1 yt)(hh:Γ fh=.own qn)(hcm:Γ fc=.dat true xp)(hk:Γ fk=.own Xt)(hu:Γ fu=.own Yae)(hp:Γ fp=.dat false Qn)
    (hc:check P f=some (72,(qi ft fh fc fk fu fp).strip,[.tmp 4])):Sound P f (.dat false yv):=by
  refine Qa hc YaI hΓ (λargs K hcl hfi hG=>?_);match args,hG with
  | [a,b],hG=>
    obtain⟨x,rfl,hx,y,rfl,hy,hxl,hyl,hK⟩:=hG;refine⟨by simp,?_⟩
    simp only [go_sem,qi,ht,hh,hcm,hk,hu,hp];have hxv:=zw (yk hx);have hyv:=zw (yk hy);refine⟨hx,by omega,hy,by omega,λ_=>⟨λh0=>?_,λh0 _=>⟨λh1=>?_,λh1=>?_⟩⟩⟩
    . rw [wt.1 h0,Nat.gcd_zero_left]at hK;exact hK
    . rw [wt.1 h1,Nat.gcd_zero_right]at hK;exact hK
    rw [wt]at h0 h1;refine ja (λp:(Nat×List Nat)×(Nat×List Nat)×Nat=>⟨mkV [(0,.one (.own 7 1 1 0 (digs p.1.1).length)),(1,.one (.own 9 1 1 0 (digs p.2.1.1).length)),(5,.one (.lit (.int .i64 p.2.2)))],mkH [(7,⟨1,some ⟨(digs p.1.1++p.1.2).map wc,1,true⟩⟩),(9,⟨1,some ⟨(digs p.2.1.1++p.2.1.2).map wc,1,true⟩⟩)]⟩)
      (λp=>p.1.1≠0/\p.2.1.1≠0/\p.1.1<=val x/\p.2.1.1<=val y/\p.1.1*2 ^ p.2.2<=val x/\Nat.gcd p.1.1 p.2.1.1*2 ^ p.2.2=Nat.gcd (val x) (val y)) (λp=>p.1.1) ((val x,[]),(val y,[]),0) ?_ ?_ ?_
    . exact qa (by simp [bitvec_to_nat]) ⟨qb (by simp),qb (by simp),trivial⟩
    . exact⟨h0,h1,Nat.le_refl _,Nat.le_refl _,by simp,by simp⟩
    . rintro⟨⟨a,pa⟩,⟨b,pb⟩,k⟩ ⟨ha,hb,hax,hby,hak,hg⟩
      simp only at ha hb hax hby hak hg;have hkb:k<32*x.length:=Xbn (n:=val x) (Nat.le_trans (Nat.le_mul_of_pos_left _ (by omega)) hak) (yk hx)
      have hal:=Nat.le_trans (ka hax) hxv;have hbl:=Nat.le_trans (ka hby) hyv;have hap:=xj ha;have hbp:=xj hb;simp only [go_sem,hh,hcm,hk,hu,hp,Wk,Wt ha,Wt hb,hap,hbp,List.length_append];refine share4 (by omega) (by omega) (Nat.mod_lt _ (by omega)) (by omega) (by omega) (Nat.mod_lt _ (by omega)) (λhae hbe=>?_) (λhodd=>?_)
      . simp only [qn]
        refine⟨digs a,pa,rfl,by simp [za],wa _,by omega,λpa'=>?_⟩
        refine⟨digs b,pb,rfl,by simp [upd,za],wa _,by omega,λpb'=>?_⟩
        simp only [go_sem,Xa];refine⟨by omega,((a / 2,pa'),(b / 2,pb'),k+1),qa (by simp [bitvec_to_nat]) ⟨qb rfl,qb rfl,trivial⟩,⟨by simp only;omega,by simp only;omega,by simp only;omega,by simp only;omega,?_,ybH (by omega) (by omega) hg⟩,by simp only;omega⟩
        simp only;refine Nat.le_trans ?_ hak;rw [Nat.pow_succ,Nat.mul_comm (2 ^ k) 2,<-Nat.mul_assoc];exact Nat.mul_le_mul_right _ (by omega)
      . refine ja (λp : Bool × (Nat × List Nat) × (Nat × List Nat) => match p.1 with
            | false=>⟨mkV [(0,.one (.own 7 1 1 0 (digs p.2.1.1).length)),(1,.one (.own 9 1 1 0 (digs p.2.2.1).length)),(5,.one (.lit (.int .i64 k)))],mkH [(7,⟨1,some ⟨(digs p.2.1.1++p.2.1.2).map wc,1,true⟩⟩),(9,⟨1,some ⟨(digs p.2.2.1++p.2.2.2).map wc,1,true⟩⟩)]⟩
            | true=>⟨mkV [(0,.one (.own 9 1 1 0 (digs p.2.1.1).length)),(1,.one (.own 7 1 1 0 (digs p.2.2.1).length)),(5,.one (.lit (.int .i64 k)))],mkH [(9,⟨1,some ⟨(digs p.2.1.1++p.2.1.2).map wc,1,true⟩⟩),(7,⟨1,some ⟨(digs p.2.2.1++p.2.2.2).map wc,1,true⟩⟩)]⟩)
          (λp=>p.2.2.1≠0/\(p.2.1.1 % 2≠0∨p.2.2.1 % 2≠0)/\(digs p.2.1.1).length<=17179869184/\(digs p.2.2.1).length<=17179869184/\Nat.gcd p.2.1.1 p.2.2.1*2 ^ k=Nat.gcd (val x) (val y)) (λp=>p.2.1.1+p.2.2.1) (false,(a,pa),(b,pb)) ?_ ?_ ?_
        . exact qa (by simp [bitvec_to_nat]) ⟨qb rfl,qb rfl,trivial⟩
        . exact⟨hb,by simp only;omega,by simp only;omega,by simp only;omega,hg⟩
        clear hax hby hak hal hbl hap hbp hg ha hb hodd;rintro⟨sw,⟨a,pa⟩,⟨b,pb⟩⟩ ⟨hb,hodd,hal,hbl,hg⟩;simp only at hb hodd hal hbl hg;cases sw with
        | false=>
          simp only [go_sem,hh,hcm,hk,hu,hp,Wk,Xa,List.length_append,Nat.le_add_right,List.take_left];refine λ_=>⟨λhap=>?_,λhap=>?_⟩
          . have ha:a≠0:=λe=>by rw [e,Qb]at hap;simp at hap
            refine ja (λp:Nat×List Nat=>⟨mkV [(0,.one (.own 7 1 1 0 (digs p.1).length)),(1,.one (.own 9 1 1 0 (digs b).length)),(5,.one (.lit (.int .i64 k)))],mkH [(7,⟨1,some ⟨(digs p.1++p.2).map wc,1,true⟩⟩),(9,⟨1,some ⟨(digs b++pb).map wc,1,true⟩⟩)]⟩)
              (λp=>p.1≠0/\p.1<=a/\(p.1 % 2≠0∨b % 2≠0)/\Nat.gcd p.1 b*2 ^ k=Nat.gcd (val x) (val y)) (λp=>p.1) (a,pa) ?_ ?_ ?_
            . exact qa (by simp [bitvec_to_nat]) ⟨qb rfl,qb rfl,trivial⟩
            . exact⟨ha,Nat.le_refl _,hodd,hg⟩
            . rintro⟨a',pa⟩ ⟨ha',haa,hodd,hg⟩
              simp only at ha' haa hodd hg;have hap:=xj ha';simp only [go_sem,hh,hcm,hk,hu,hp,Wk,Xa,List.length_append,Nat.le_add_right,List.take_left,Wt ha',hap];refine⟨by omega,by omega,Nat.mod_lt _ (by omega),λhe=>?_,λhao=>?_⟩
              . simp only [qn]
                refine⟨digs a',pa,rfl,by simp [za],wa _,by have:=ka haa;omega,λpa'=>?_⟩
                simp only [go_sem,hh,hcm,hk,hu,hp,Wk,Xa,List.length_append,Nat.le_add_right,List.take_left];refine⟨(a' / 2,pa'),qa (by simp [bitvec_to_nat]) ⟨qb rfl,qb rfl,trivial⟩,⟨by simp only;omega,by simp only;omega,.inr (by omega),?_⟩,by simp only;omega⟩
                rw [<-hg];simp only;rw [wa7 (by omega) (by omega)]
              . refine ja (λp:Nat×List Nat=>⟨mkV [(0,.one (.own 7 1 1 0 (digs a').length)),(1,.one (.own 9 1 1 0 (digs p.1).length)),(5,.one (.lit (.int .i64 k)))],mkH [(7,⟨1,some ⟨(digs a'++pa).map wc,1,true⟩⟩),(9,⟨1,some ⟨(digs p.1++p.2).map wc,1,true⟩⟩)]⟩)
                  (λp=>p.1≠0/\p.1<=b/\Nat.gcd a' p.1*2 ^ k=Nat.gcd (val x) (val y)) (λp=>p.1) (b,pb) ?_ ?_ ?_
                . exact qa (by simp [bitvec_to_nat]) ⟨qb rfl,qb rfl,trivial⟩
                . exact⟨hb,Nat.le_refl _,hg⟩
                . rintro⟨b',pb⟩ ⟨hb',hbb,hg⟩
                  simp only at hb' hbb hg;have hbp:=xj hb';simp only [go_sem,hh,hcm,hk,hu,hp,Wk,Xa,List.length_append,Nat.le_add_right,List.take_left,Wt hb',hbp];refine⟨by omega,by omega,Nat.mod_lt _ (by omega),λhe=>?_,λhbo=>?_⟩
                  . simp only [qn]
                    refine⟨digs b',pb,rfl,by simp [za],wa _,by have:=ka hbb;omega,λpb'=>?_⟩
                    simp only [go_sem,hh,hcm,hk,hu,hp,Wk,Xa,List.length_append,Nat.le_add_right,List.take_left];refine⟨(b' / 2,pb'),qa (by simp [bitvec_to_nat]) ⟨qb rfl,qb rfl,trivial⟩,⟨by simp only;omega,by simp only;omega,?_⟩,by simp only;omega⟩
                    rw [<-hg];simp only;rw [kbi (by omega) (by omega)]
                  . have hlb:=ka hbb
                    have hla:=ka haa;refine⟨wa _,wa _,λhlt=>?_,λhge=>?_⟩
                    . have hlt:=uE.1 hlt
                      simp only [Xt];have e:val (dig (digs b').length (val (digs b')-val (digs a')))=b' - a':=by
                        rw [Jj,Xa,Xa,Nat.mod_eq_of_lt];exact Nat.lt_of_le_of_lt (Nat.sub_le _ _) (Vj b')
                      refine⟨digs b',pb,digs a',pa,by decide,rfl,by simp [za],wa _,by omega,rfl,by simp [za],wa _,by rw [Xa,Xa];omega,?_⟩
                      refine⟨dig (digs b').length (val (digs b')-val (digs a')),pb,(Wa _ _).symm,by simp [upd,za],kk _ _,by omega,λpost'=>?_⟩
                      simp only [go_sem,e];have hle:=Nat.le_trans (ka (Nat.sub_le b' a')) (ka hbb);refine⟨(true,(b' - a',post'),(a',pa)),qa (by simp [bitvec_to_nat]) ⟨qb rfl,qb rfl,trivial⟩,⟨ha',.inr (by simp only;omega),by simp only;omega,by simp only;omega,?_⟩,by simp only;omega⟩
                      simp only;rw [VV (by omega),Nat.gcd_comm];exact hg
                    . have hge:=mt uE.2 hge
                      simp only [Xt];have e:val (dig (digs a').length (val (digs a')-val (digs b')))=a' - b':=by
                        rw [Jj,Xa,Xa,Nat.mod_eq_of_lt];exact Nat.lt_of_le_of_lt (Nat.sub_le _ _) (Vj a')
                      refine⟨digs a',pa,digs b',pb,by decide,rfl,by simp [za],wa _,by omega,rfl,by simp [za],wa _,by rw [Xa,Xa];omega,?_⟩
                      refine⟨dig (digs a').length (val (digs a')-val (digs b')),pa,(Wa _ _).symm,by simp [upd,za],kk _ _,by omega,λpost'=>?_⟩
                      simp only [go_sem,e];have hle:=Nat.le_trans (ka (Nat.sub_le a' b')) (ka haa);refine⟨(false,(a' - b',post'),(b',pb)),qa (by simp [bitvec_to_nat]) ⟨qb rfl,qb rfl,trivial⟩,⟨hb',.inr (by simp only;omega),by simp only;omega,by simp only;omega,?_⟩,by simp only;omega⟩
                      simp only;rw [VV (by omega)];exact hg
          . have ha:a=0:=wt.1 (by omega)
            rw [ha,Nat.gcd_zero_left]at hg;refine ja (λj:Nat=>⟨mkV [(1,.one (ws (digs (b*2 ^ j)))),(64,.one (.lit (.int .i64 k))),(65,.one (.lit (.int .i64 j)))],mkH []⟩) (λj=>j<=k) (λj=>k-j) 0 ?_ ?_ ?_
            . exact qa (by simp [bitvec_to_nat]) trivial
            . exact Nat.zero_le _
            . rintro j hj
              simp only [go_sem,hh,hcm,hk,hu,hp,Wk,Xa,List.length_append,Nat.le_add_right,List.take_left];refine⟨λhlt=>?_,λhge=>?_⟩
              . have hj1:b*2 ^ (j+1)<=val x:=by
                  refine Nat.le_trans (Nat.mul_le_mul_left b (Nat.pow_le_pow_right (by omega) hlt)) ?_
                  rw [hg];exact Nat.le_of_dvd (by omega) (Nat.gcd_dvd_left _ _)
                have e:b*2 ^ j+b*2 ^ j=b*2 ^ (j+1):=by rw [Nat.pow_succ,<-Nat.mul_assoc];omega
                have hl1:=Nat.le_trans (ka (show b*2 ^ j<=val x by omega)) hxv
                rw [e];refine⟨wa _,wa _,by omega,by omega,by omega,j+1,qa (by simp [bitvec_to_nat]) trivial,by omega,by omega⟩
              . have e:j=k:=by omega
                rw [e,hg];exact hK
        | true=>
          simp only [go_sem,hh,hcm,hk,hu,hp,Wk,Xa,List.length_append,Nat.le_add_right,List.take_left];refine λ_=>⟨λhap=>?_,λhap=>?_⟩
          . have ha:a≠0:=λe=>by rw [e,Qb]at hap;simp at hap
            refine ja (λp:Nat×List Nat=>⟨mkV [(0,.one (.own 9 1 1 0 (digs p.1).length)),(1,.one (.own 7 1 1 0 (digs b).length)),(5,.one (.lit (.int .i64 k)))],mkH [(9,⟨1,some ⟨(digs p.1++p.2).map wc,1,true⟩⟩),(7,⟨1,some ⟨(digs b++pb).map wc,1,true⟩⟩)]⟩)
              (λp=>p.1≠0/\p.1<=a/\(p.1 % 2≠0∨b % 2≠0)/\Nat.gcd p.1 b*2 ^ k=Nat.gcd (val x) (val y)) (λp=>p.1) (a,pa) ?_ ?_ ?_
            . exact qa (by simp [bitvec_to_nat]) ⟨qb rfl,qb rfl,trivial⟩
            . exact⟨ha,Nat.le_refl _,hodd,hg⟩
            . rintro⟨a',pa⟩ ⟨ha',haa,hodd,hg⟩
              simp only at ha' haa hodd hg;have hap:=xj ha';simp only [go_sem,hh,hcm,hk,hu,hp,Wk,Xa,List.length_append,Nat.le_add_right,List.take_left,Wt ha',hap];refine⟨by omega,by omega,Nat.mod_lt _ (by omega),λhe=>?_,λhao=>?_⟩
              . simp only [qn]
                refine⟨digs a',pa,rfl,by simp [za],wa _,by have:=ka haa;omega,λpa'=>?_⟩
                simp only [go_sem,hh,hcm,hk,hu,hp,Wk,Xa,List.length_append,Nat.le_add_right,List.take_left];refine⟨(a' / 2,pa'),qa (by simp [bitvec_to_nat]) ⟨qb rfl,qb rfl,trivial⟩,⟨by simp only;omega,by simp only;omega,.inr (by omega),?_⟩,by simp only;omega⟩
                rw [<-hg];simp only;rw [wa7 (by omega) (by omega)]
              . refine ja (λp:Nat×List Nat=>⟨mkV [(0,.one (.own 9 1 1 0 (digs a').length)),(1,.one (.own 7 1 1 0 (digs p.1).length)),(5,.one (.lit (.int .i64 k)))],mkH [(9,⟨1,some ⟨(digs a'++pa).map wc,1,true⟩⟩),(7,⟨1,some ⟨(digs p.1++p.2).map wc,1,true⟩⟩)]⟩)
                  (λp=>p.1≠0/\p.1<=b/\Nat.gcd a' p.1*2 ^ k=Nat.gcd (val x) (val y)) (λp=>p.1) (b,pb) ?_ ?_ ?_
                . exact qa (by simp [bitvec_to_nat]) ⟨qb rfl,qb rfl,trivial⟩
                . exact⟨hb,Nat.le_refl _,hg⟩
                . rintro⟨b',pb⟩ ⟨hb',hbb,hg⟩
                  simp only at hb' hbb hg;have hbp:=xj hb';simp only [go_sem,hh,hcm,hk,hu,hp,Wk,Xa,List.length_append,Nat.le_add_right,List.take_left,Wt hb',hbp];refine⟨by omega,by omega,Nat.mod_lt _ (by omega),λhe=>?_,λhbo=>?_⟩
                  . simp only [qn]
                    refine⟨digs b',pb,rfl,by simp [za],wa _,by have:=ka hbb;omega,λpb'=>?_⟩
                    simp only [go_sem,hh,hcm,hk,hu,hp,Wk,Xa,List.length_append,Nat.le_add_right,List.take_left];refine⟨(b' / 2,pb'),qa (by simp [bitvec_to_nat]) ⟨qb rfl,qb rfl,trivial⟩,⟨by simp only;omega,by simp only;omega,?_⟩,by simp only;omega⟩
                    rw [<-hg];simp only;rw [kbi (by omega) (by omega)]
                  . have hlb:=ka hbb
                    have hla:=ka haa;refine⟨wa _,wa _,λhlt=>?_,λhge=>?_⟩
                    . have hlt:=uE.1 hlt
                      simp only [Xt];have e:val (dig (digs b').length (val (digs b')-val (digs a')))=b' - a':=by
                        rw [Jj,Xa,Xa,Nat.mod_eq_of_lt];exact Nat.lt_of_le_of_lt (Nat.sub_le _ _) (Vj b')
                      refine⟨digs b',pb,digs a',pa,by decide,rfl,by simp [za],wa _,by omega,rfl,by simp [za],wa _,by rw [Xa,Xa];omega,?_⟩
                      refine⟨dig (digs b').length (val (digs b')-val (digs a')),pb,(Wa _ _).symm,by simp [upd,za],kk _ _,by omega,λpost'=>?_⟩
                      simp only [go_sem,e];have hle:=Nat.le_trans (ka (Nat.sub_le b' a')) (ka hbb);refine⟨(false,(b' - a',post'),(a',pa)),qa (by simp [bitvec_to_nat]) ⟨qb rfl,qb rfl,trivial⟩,⟨ha',.inr (by simp only;omega),by simp only;omega,by simp only;omega,?_⟩,by simp only;omega⟩
                      simp only;rw [VV (by omega),Nat.gcd_comm];exact hg
                    . have hge:=mt uE.2 hge
                      simp only [Xt];have e:val (dig (digs a').length (val (digs a')-val (digs b')))=a' - b':=by
                        rw [Jj,Xa,Xa,Nat.mod_eq_of_lt];exact Nat.lt_of_le_of_lt (Nat.sub_le _ _) (Vj a')
                      refine⟨digs a',pa,digs b',pb,by decide,rfl,by simp [za],wa _,by omega,rfl,by simp [za],wa _,by rw [Xa,Xa];omega,?_⟩
                      refine⟨dig (digs a').length (val (digs a')-val (digs b')),pa,(Wa _ _).symm,by simp [upd,za],kk _ _,by omega,λpost'=>?_⟩
                      simp only [go_sem,e];have hle:=Nat.le_trans (ka (Nat.sub_le a' b')) (ka haa);refine⟨(true,(a' - b',post'),(b',pb)),qa (by simp [bitvec_to_nat]) ⟨qb rfl,qb rfl,trivial⟩,⟨hb',.inr (by simp only;omega),by simp only;omega,by simp only;omega,?_⟩,by simp only;omega⟩
                      simp only;rw [VV (by omega)];exact hg
          . have ha:a=0:=wt.1 (by omega)
            rw [ha,Nat.gcd_zero_left]at hg;refine ja (λj:Nat=>⟨mkV [(1,.one (ws (digs (b*2 ^ j)))),(64,.one (.lit (.int .i64 k))),(65,.one (.lit (.int .i64 j)))],mkH []⟩) (λj=>j<=k) (λj=>k-j) 0 ?_ ?_ ?_
            . exact qa (by simp [bitvec_to_nat]) trivial
            . exact Nat.zero_le _
            . rintro j hj
              simp only [go_sem,hh,hcm,hk,hu,hp,Wk,Xa,List.length_append,Nat.le_add_right,List.take_left];refine⟨λhlt=>?_,λhge=>?_⟩
              . have hj1:b*2 ^ (j+1)<=val x:=by
                  refine Nat.le_trans (Nat.mul_le_mul_left b (Nat.pow_le_pow_right (by omega) hlt)) ?_
                  rw [hg];exact Nat.le_of_dvd (by omega) (Nat.gcd_dvd_left _ _)
                have e:b*2 ^ j+b*2 ^ j=b*2 ^ (j+1):=by rw [Nat.pow_succ,<-Nat.mul_assoc];omega
                have hl1:=Nat.le_trans (ka (show b*2 ^ j<=val x by omega)) hxv
                rw [e];refine⟨wa _,wa _,by omega,by omega,by omega,j+1,qa (by simp [bitvec_to_nat]) trivial,by omega,by omega⟩
              . have e:j=k:=by omega
                rw [e,hg];exact hK
end Go.Abs
end
section
namespace Go.Abs
open Go.Num
variable {P:Program} {Γ:Nat->Spec}
def Xe(f0 f1 f2 f3:Nat):AC:=(.o [.m 4 (.c (.one .emp)),.m 5 (.c (.one .emp))] [0,1] (.o [.M 11 0,.Z 12 11,.u 13 (.mk 1 [(.lit (.int .u32 0))] (.t 12) (.t 12)),.M 6 13] [0,1,6] (.o [.M 14 1,.Z 15 14,.I 16 .add 15 1,.u 17 (.mk 1 [(.lit (.int .u32 0))] (.t 16) (.t 16)),.M 7 17] [0,1,6,7] (.f (.o [.M 18 0,.H 19 f0 18,.I 20 .sub 19 1,.M 8 20] [0,1,6,7,8] (.block 0 (.loop (.f (.o [.M 21 8,.I 22 .geq 21 0] [0,1,6,7,8,22] (.cond (.t 22) .skip (.exit 0))) [0,1,6,7,8] (.f (.block 1 (.o [.M 25 0,.M 26 8,.I 27 .quo 26 32,.J 28 1 25 27,.F 29 1 28,.M 30 8,.I 31 .rem 30 32,.B 32 .shr 29 31,.u 33 (.bin .and (.t 32) (.c (.one (.lit (.int .u32 1))))),.M 9 33] [0,1,6,7,8,9] (.f (.o [.M 34 7,.Z 35 34,.N 36 0] [0,1,6,7,8,9,35,36] (.block 2 (.loop (.o [.B 37 .lss 36 35] [0,1,6,7,8,9,35,36,37] (.f (.cond (.t 37) .skip (.exit 2)) [0,1,6,7,8,9,35,36] (.f (.block 3 (.o [.M 38 36,.M 10 38] [0,1,6,7,8,9,10,35,36] (.y [.M 39 7,.M 40 10,.M 41 7,.M 42 10,.J 43 1 41 42,.F 44 1 43,.u 45 (.bin .shl (.t 44) (.c (.one (.lit (.int .u64 1))))),.M 46 9,.B 47 .or 45 46,.M 48 7,.M 49 10,.J 50 1 48 49,.F 51 1 50,.u 52 (.bin .shr (.t 51) (.c (.one (.lit (.int .u64 31))))),.J 53 1 39 40,.S 1 53 47,.M 9 52]))) [0,1,6,7,8,9,35,36] (.p [.I 54 .add 36 1,.M 36 54]))))))) [0,1,6,7,8] (.o [.M 55 7,.M 56 1,.D 57 f1 55 56,.I 58 .geq 57 0] [0,1,6,7,8,58] (.cond (.t 58) (.o [.M 59 7,.M 60 1,.D 61 f2 59 60] [0,1,6,7,8] (.y [.M 62 6,.M 63 8,.I 64 .quo 63 32,.J 65 1 62 64,.F 66 1 65,.M 67 8,.I 68 .rem 67 32,.u 69 (.bin .shl (.c (.one (.lit (.int .u32 1)))) (.t 68)),.B 70 .or 66 69,.J 71 1 62 64,.S 1 71 70])) .skip))))) [0,1,6,7,8] (.p [.M 23 8,.I 24 .sub 23 1,.M 8 24])))))) [6,7] (.seq (.p [.M 72 6,.u 73 (.callf f3 [(.t 72)]),.M 74 7,.u 75 (.callf f3 [(.t 74)]),.M 4 73,.M 5 75]) .ret)))))
theorem jK(hΓ:Holds P Γ){f fb fc fk ft:Nat}(hb:Γ fb=.dat true yo)(hcm:Γ fc=.dat true xp)(hk:Γ fk=.own Xt)(ht:Γ ft=.fresh 1 yt)
  (hc:check P f=some (76,(Xe fb fc fk ft).strip,[.tmp 4,.tmp 5])):Sound P f (.dat false Qg):=by
 refine Qa hc YJ hΓ (λargs K hcl hfi hG=>?_);match args,hG with
 | [a,b],hG=>
  obtain⟨x,rfl,hx,y,rfl,hy,hnx,hny,hy0,hxl,hyl,hK⟩:=hG;refine⟨by simp,?_⟩
  simp only [go_sem,Xe,hb,hcm,hk,ht];intro h1;refine⟨by omega,λ_=>⟨by omega,by omega,hx,by omega,?_⟩⟩
  obtain⟨n,hn⟩:∃n,(if x.length=0 then 0 else 32*(x.length-1)+bln (x.getD (x.length-1) 0))=n:=⟨_,rfl⟩
  have hnlt:val x<2 ^ n:=by
   rw [<-hn];split
   .rename_i h0;rw [List.eq_nil_of_length_eq_zero h0];simp [val]
   .exact qbw hx ‹_›
  have hnb:n<=32*x.length:=by
   rw [<-hn];split
   .omega
   .have:=qbl (k:=32) (n:=x.getD (x.length-1) 0) (Jb hx _);omega
  have hy1:0<val y:=by
   have:=Jc hny hy0;omega
  rw [hn];refine⟨by omega,?_⟩
  refine ja (λp:Nat×List Nat×List Nat=>⟨mkV [(0,wsA x),(1,wsA y),(6,.one (.own 13 1 1 0 x.length)),(7,.one (.own 17 1 1 0 (y.length+1))),(8,.one (.lit (.int .i64 ((p.1:Int)-1))))],mkH [(13,⟨1,some ⟨p.2.1.map wc,1,true⟩⟩),(17,⟨1,some ⟨p.2.2.map wc,1,true⟩⟩)]⟩)
   (λp=>p.1<=n/\WL p.2.1/\p.2.1.length=x.length/\val p.2.1=val x / 2 ^ p.1 / val y*2 ^ p.1/\WL p.2.2/\p.2.2.length=y.length+1/\val p.2.2=val x / 2 ^ p.1 % val y) (λp=>p.1) (n,List.replicate x.length 0,List.replicate (y.length+1) 0) ?_ ?_ ?_
  .exact qa (by simp [bitvec_to_nat]) ⟨qb (by simp),qb (by simp),trivial⟩
  .simp [xbi,Zai,Nat.div_eq_of_lt hnlt]
  .rintro⟨n',q,r⟩ ⟨hn',hq,hql,hqv,hr,hrl,hrv⟩;simp only at hn' hq hql hqv hr hrl hrv;cases n' with
   | zero=>
    have e:((0:Nat):Int)-1 = -1:=rfl;have e' : ((0:Int)<=-1)=False:=by simp
    simp only [go_sem,hb,hcm,hk,ht,e,e',hql,hrl];simp only [Nat.pow_zero,Nat.div_one,Nat.mul_one]at hqv hrv;rw [hqv,hrv];exact⟨hq,by omega,hr,by omega,hK⟩
   | succ i=>
    have e:((i+1:Nat):Int)-1=(i:Int):=by omega
    have e1:(i:Int) / 32=((i / 32:Nat):Int):=rfl;have e2:(i:Int) % 32=((i % 32:Nat):Int):=rfl;have e3:=jbM hx i;have hi32:i / 32<x.length:=by omega
    have hib:i % 32<32:=Nat.mod_lt _ (by omega)
    simp only [go_sem,hb,hcm,hk,ht,e,e1,e2,e3,Wk,hql,hrl];have g1:=Jb hx (i / 32);have g2:x.getD (i / 32) 0 / 2 ^ (i % 32)<2 ^ IntKind.u32.bits:=Nat.lt_of_le_of_lt (Nat.div_le_self _ _) g1;have g3:((i % 32:Nat):Int)<=IntKind.u32.bits:=by have:IntKind.u32.bits=32:=rfl;omega
    refine⟨by decide,by omega,hi32,by decide,by omega,g2,λhyl'=>?_⟩
    generalize hbit:val x / 2 ^ i % 2=bit;have hbit1:bit<=1:=by omega
    refine ja (λp:List Nat×Nat=>⟨mkV [(0,wsA x),(1,wsA y),(6,.one (.own 13 1 1 0 x.length)),(7,.one (.own 17 1 1 0 (y.length+1))),(8,.one (.lit (.int .i64 i))),(9,.one (.lit (.int .u32 p.2))),(35,.one (.lit (.int .i64 (y.length+1:Nat)))),(36,.one (.lit (.int .i64 p.1.length)))],
      mkH [(13,⟨1,some ⟨q.map wc,1,true⟩⟩),(17,⟨1,some ⟨(p.1++r.drop p.1.length).map wc,1,true⟩⟩)]⟩)
     (λp=>p.1.length<=r.length/\WL p.1/\p.2<=1/\val p.1+4294967296 ^ p.1.length*p.2=2*val (r.take p.1.length)+bit) (λp=>r.length-p.1.length) ([],bit) ?_ ?_ ?_
    .exact qa (by simp [bitvec_to_nat]) ⟨qb rfl,qb (by simp),trivial⟩
    .simp [Ub,val,hbit1]
    .rintro⟨o,c⟩ ⟨hol,ho,hc1,hov⟩;simp only at hol ho hc1 hov;by_cases hlt:o.length<y.length+1
     .have g4:=Jb hr o.length;simp only [go_sem,hb,hcm,hk,ht,zbv hol,hrl,hlt,jQ,not_true,qbG hc1,Xbr _ (show o.length<r.length by omega)]
      refine⟨⟨rfl,by decide,by decide⟩,⟨rfl,Nat.mod_lt _ (by omega),by omega⟩,⟨by decide,by decide⟩,by omega,(o++[r.getD o.length 0*2 % 4294967296+c],r.getD o.length 0 / 2147483648),qa (by simp [bitvec_to_nat]) ⟨qb rfl,qb rfl,trivial⟩,⟨by simp;omega,Qe.2 ⟨ho,Xb.2 ⟨by omega,Ub⟩⟩,by simp only;omega,?_⟩,by simp;omega⟩
      simp only [List.length_append,List.length_cons,List.length_nil,Nat.zero_add,Vb,Yb,Vh,Ql,Nat.mul_zero,Nat.add_zero,Nat.pow_succ];exact xbd hov g4
     .have hoe:o.length=y.length+1:=by omega
      have hd:r.drop (y.length+1)=[]:=List.drop_of_length_le (by omega)
      simp only [go_sem,hb,hcm,hk,ht,hd,hoe,Nat.lt_irrefl,e1,e2];have hrlt:val r<val y:=by rw [hrv];exact Nat.mod_lt _ hy1
      have hylt:=yk hy;rw [List.take_of_length_le (by omega),hoe,Nat.pow_succ]at hov
      have hc0:c=0:=by
       rcases Nat.eq_zero_or_pos c with h | h
       .exact h
       .exfalso;have:4294967296 ^ y.length*4294967296*1<=4294967296 ^ y.length*4294967296*c:=Nat.mul_le_mul_left _ h;omega
      subst hc0;rw [Nat.mul_zero,Nat.add_zero]at hov;refine⟨ho,hy,λh=>?_,λh=>?_⟩
      .have hge:=Yr.1 h;have hs:=Za0 hy1 hbit hqv hrv (by omega)
       simp only [Xt,VD];refine⟨hy,o,[],hoe.symm,by simp [za],ho,by omega,hge,?_⟩
       have hp32:2 ^ (i % 32)<4294967296:=Nat.lt_of_lt_of_le (Nat.pow_lt_pow_right (by omega) hib) (by decide)
       have e4:(1*2 ^ (i % 32) % 4294967296:Int)=((2 ^ (i % 32):Nat):Int):=by
        rw [Int.one_mul,show((2:Int) ^ (i % 32))=((2 ^ (i % 32):Nat):Int) by rw [Int.natCast_pow];rfl]
        generalize 2 ^ (i % 32)=w at hp32 ⊢;omega
       have e5:=zbu hib (xbb hq hqv);have g5:=Jb hq (i / 32);simp only [go_sem,e1,e2,hql,Wa,hoe,e4,e5];have hsv:=VR q (i / 32) (q.getD (i / 32) 0+2 ^ (i % 32)) (by omega)
       have hpp:=qG i;rw [Nat.mul_add]at hsv;have hv2:val (q.set (i / 32) (q.getD (i / 32) 0+2 ^ (i % 32)))=val q+2 ^ i:=by omega
       have hsum:q.getD (i / 32) 0+2 ^ (i % 32)<4294967296:=by
        rw [<-e5];exact Nat.or_lt_two_pow (n:=32) g5 hp32
       refine⟨by decide,by omega,hi32,hi32,by decide,⟨rfl,by decide,by omega⟩,⟨rfl,g5,hp32⟩,hi32,hi32,⟨by omega,by omega⟩,(i,q.set (i / 32) (q.getD (i / 32) 0+2 ^ (i % 32)),dig (y.length+1) (val o-val y)),qa (by simp [bitvec_to_nat]) ⟨qb rfl,qb rfl,trivial⟩,⟨by simp only;omega,XaJ hq _ hsum,by simp [hql],?_,kk _ _,Wa _ _,?_⟩,by simp only;omega⟩
       .simp only;rw [hv2];exact hs.1
       .simp only;rw [Jj,hov,hs.2,Nat.mod_eq_of_lt];have:=Nat.mod_lt (val x / 2 ^ i) hy1;have h6:(4294967296:Nat) ^ y.length<=4294967296 ^ (y.length+1):=Nat.pow_le_pow_right (by omega) (by omega)
        omega
      .have hlt2:=mt Yr.2 h;have hs:=ja5 hy1 hbit hqv hrv (by omega)
       refine⟨by omega,(i,q,o),qa (by simp [bitvec_to_nat]) ⟨qb rfl,qb rfl,trivial⟩,⟨by simp only;omega,hq,hql,hs.1,ho,hoe,by simp only;rw [hov];exact hs.2⟩,by simp only;omega⟩
end Go.Abs
end
section
namespace Go.Abs
open Go.Num
variable {P:Program} {Γ:Nat->Spec}
def Ug(f0:Nat):AC:=(.o [.G 4 [.z,.emp]] [0,1,4] (.o [.M 5 1,.u 6 (.callf f0 [(.t 5)]),.M 1 6] [0,1,4] (.f (.o [.M 7 1,.Z 8 7,.I 9 .eql 8 0] [0,1,4,9] (.cond (.t 9) (.seq (.p [.u 10 (.build [.z [.z,.emp]]),.S 2 4 10]) .ret) .skip)) [0,1,4] (.seq (.p [.M 11 0,.M 12 1,.u 13 (.build [.x 1 (.t 11),.x 1 (.t 12)]),.S 2 4 13]) .ret))))
def xg(f0 f1:Nat):AC:=(.o [.K 1 2 0,.N 2 0] [1] (.f (.o [.L 3 2 1,.H 4 f0 3,.Z 5 4,.I 6 .eql 5 0] [1,6] (.cond (.t 6) (.seq (.p [.N 2 0]) .ret) .skip)) [1] (.f (.o [.L 7 2 1,.H 8 f1 7] [8] (.cond (.t 8) (.seq (.p [.N 2 (-1)]) .ret) .skip)) [] (.seq (.p [.N 2 1]) .ret))))
def xh(f0 f1:Nat):AC:=(.o [.K 2 2 0,.K 3 2 1,.N 4 0] [2,3] (.seq (.p [.L 5 2 2,.L 6 2 3,.D 7 f0 5 6,.H 8 f1 7,.M 4 8]) .ret))
def Qi(f0 f1 f2 f3 f4 f5:Nat):AC:=(.o [.K 2 2 0,.K 3 2 1,.G 4 [.z,.emp]] [2,3,4] (.f (.y [.L 7 2 2,.H 8 f0 7,.L 9 2 3,.H 10 f0 9,.M 5 8,.M 6 10]) [2,3,4,5,6] (.f (.f (.y [.L 11 2 2,.H 12 f1 11,.L 13 2 3,.H 14 f1 13,.u 15 (.binb .eql (.t 12) (.t 14))]) [2,3,4,5,6,15] (.cond (.t 15) (.seq (.p [.L 16 2 2,.H 17 f1 16,.M 18 5,.M 19 6,.D 20 f2 18 19,.D 21 f3 17 20,.S 2 4 21]) .ret) .skip)) [2,3,4,5,6] (.f (.o [.M 22 5,.M 23 6,.D 24 f4 22 23,.I 25 .geq 24 0] [2,3,4,5,6,25] (.cond (.t 25) (.seq (.p [.L 26 2 2,.H 27 f1 26,.M 28 5,.M 29 6,.D 30 f5 28 29,.D 31 f3 27 30,.S 2 4 31]) .ret) .skip)) [3,4,5,6] (.seq (.p [.L 32 2 3,.H 33 f1 32,.M 34 6,.M 35 5,.D 36 f5 34 35,.D 37 f3 33 36,.S 2 4 37]) .ret)))))
def ji(f0 f1:Nat):AC:=(.o [.K 2 2 0,.K 3 2 1,.G 4 [.z,.emp]] [2,3,4] (.seq (.y [.L 5 2 2,.L 6 2 3,.H 7 f0 6,.D 8 f1 5 7,.S 2 4 8]) .ret))
def uh(f0 f1 f2:Nat):AC:=(.o [.K 2 2 0,.K 3 2 1,.G 4 [.z,.emp]] [2,3,4] (.seq (.y [.L 5 2 2,.H 6 f0 5,.L 7 2 3,.H 8 f0 7,.D 9 f1 6 8,.u 10 (.call f2 [.fa,(.t 9)]),.S 2 4 10]) .ret))
def Yh(f0 f1 f2 f3 f4 f5 f6:Nat):AC:=(.o [.K 2 2 0,.K 3 2 1,.G 4 [.z,.emp],.G 5 [.z,.emp],.N 6 0] [2,3,4,5] (.f (.o [.L 9 2 3,.H 10 f0 9,.I 11 .eql 10 0] [2,3,4,5,11] (.cond (.t 11) (.seq (.p [.u 12 (.build [.z [.z,.emp]]),.u 13 (.build [.z [.z,.emp]]),.S 2 4 12,.S 2 5 13,.N 6 8]) .ret) .skip)) [2,3,4,5] (.f (.y [.L 15 2 2,.H 16 f1 15,.L 17 2 3,.H 18 f1 17,.D 19 f2 16 18,.M 14 19,.X 20 0 14,.X 21 1 14,.M 7 20,.M 8 21]) [2,3,4,5,7,8] (.f (.o [.L 22 2 2,.H 23 f3 22,.M 24 23,.V 25 24 true 8,.w 26 24 true (.len (.t 25)),.w 27 24 true (.bin .gtr (.t 26) (.i 0)),.P 28 24 27] [2,3,4,5,7,8,28] (.cond (.t 28) (.y [.M 29 7,.u 30 (.row 1 [[.x 1 (.c (.one (.lit (.int .u32 1))))]]),.D 31 f4 29 30,.L 32 2 3,.H 33 f1 32,.M 34 8,.D 35 f5 33 34,.M 7 31,.M 8 35]) .skip)) [2,3,4,5,7,8] (.seq (.y [.L 36 2 2,.H 37 f3 36,.L 38 2 3,.H 39 f3 38,.u 40 (.binb .neq (.t 37) (.t 39)),.M 41 7,.D 42 f6 40 41,.M 43 8,.u 44 (.call f6 [.fa,(.t 43)]),.S 2 4 42,.S 2 5 44,.N 6 0]) .ret)))))
theorem Xad(hΓ:Holds P Γ){f ft:Nat}(ht:Γ ft=.fresh 1 yt)(hc:check P f=some (14,(Ug ft).strip,[.cell 4 2 true])):Sound P f (.dat false Ve):=by
 refine Qa hc kN hΓ (λargs K hcl hfi hG=>?_);match args,hG with
 | [a,m],hG=>
  obtain⟨b,rfl,hG⟩:=jy hG;obtain⟨l,rfl,hl,hlen,hK⟩:=hG;refine⟨by simp,?_⟩
  simp only [go_sem,Ug,ht];refine⟨hl,hlen,λ_=>⟨λh=>?_,λh=>?_⟩⟩
  .have h0:val l=0:=wt.1 h;have e:zcan (sg b (val l))=zcan 0:=by rw [h0];unfold sg;split <;> rfl
   rw [e]at hK;have e2:(zcan 0)=(false,[]):=by simp [zcan,Qb]
   rw [e2]at hK;exact hK
  .rw [<-wO]at hK;have e:decide (0<(digs (val l)).length)=true:=by simp only [decide_eq_true_eq];omega
   rw [e,Bool.and_true]at hK;exact hK
theorem zU(hΓ:Holds P Γ){f fm fn:Nat}(hm:Γ fm=.dat false yh)(hn:Γ fn=.dat true xe)(hc:check P f=some (9,(xg fm fn).strip,[.tmp 2])):Sound P f (.dat true yf):=by
 refine Qa hc jN hΓ (λargs K hcl hfi hG=>?_);match args,hG with
 | [a],hG=>
  obtain⟨w,rfl,hw,hK⟩:=hG;refine⟨by simp,?_⟩
  simp only [go_sem,xg,hm,hn,hw];intro _;refine⟨λh=>?_,λh=>⟨λhb=>?_,λhb=>?_⟩⟩
  .have h0:zv w=0:=jt.1 h;rw [h0]at hK;exact hK
  .rw [Int.sign_eq_neg_one_of_neg hb]at hK;exact hK
  .have h0:zv w≠0:=λe=>h (jt.2 e);rw [Int.sign_eq_one_of_pos (by omega)]at hK;exact hK
theorem vZ(hΓ:Holds P Γ){f fn fa:Nat}(hn:Γ fn=.dat false Wr)(ha:Γ fa=.dat false Ut)(hc:check P f=some (9,(ji fn fa).strip,[.cell 4 2 true])):Sound P f (.dat false Yz):=by
 refine Qa hc Va7 hΓ (λargs K hcl hfi hG=>?_);match args,hG with
 | [a,b],hG=>
  obtain⟨v,rfl,hv,w,rfl,hw,hz,hz',hK⟩:=hG;refine⟨by simp,?_⟩
  simp only [go_sem,ji,hn,ha,hw,hv];refine⟨by omega,hz,by rw [UW];exact hz',?_⟩
  rw [<-Int.sub_eq_add_neg];exact hK
theorem qac(hΓ:Holds P Γ){f fs fg:Nat}(hs:Γ fs=.dat false Yz)(hg:Γ fg=.dat true yf)(hc:check P f=some (9,(xh fs fg).strip,[.tmp 4])):Sound P f (.dat true vn):=by
 refine Qa hc Zah hΓ (λargs K hcl hfi hG=>?_);match args,hG with
 | [a,b],hG=>
  obtain⟨v,rfl,hv,w,rfl,hw,hz,hz',hz2,hK⟩:=hG;refine⟨by simp,?_⟩
  simp only [go_sem,xh,hs,hg,hw,hv];refine⟨hz,hz',?_⟩;have e:Int.sign (zv v-zv w)=ordI (zv v) (zv w):=by
   unfold ordI;split
   .exact Int.sign_eq_neg_one_of_neg (by omega)
   .split
    .exact Int.sign_eq_one_of_pos (by omega)
    .rw [show zv v-zv w=0 by omega];rfl
  rw [e];exact hK
theorem X5(hΓ:Holds P Γ){f fm fg fw:Nat}(hm:Γ fm=.dat false yh)(hg:Γ fg=.dat false yv)(hw' : Γ fw=.dat false Ve)(hc:check P f=some (11,(uh fm fg fw).strip,[.cell 4 2 true])):Sound P f (.dat false uq):=by
 refine Qa hc Xaa hΓ (λargs K hcl hfi hG=>?_);match args,hG with
 | [a,b],hG=>
  obtain⟨v,rfl,hv,w,rfl,hw,hz,hz',hK⟩:=hG;refine⟨by simp,?_⟩
  simp only [go_sem,uh,hm,hg,hw',hw,hv,Xa];have hle:(digs ((zv v).natAbs.gcd (zv w).natAbs)).length<=17179869184:=by
   rcases Nat.eq_zero_or_pos (zv v).natAbs with h | h
   .rw [h,Nat.gcd_zero_left];exact hz'
   .exact Nat.le_trans (ka (Nat.le_of_dvd h (Nat.gcd_dvd_left _ _))) hz
  exact⟨wa _,wa _,hz,hz',wa _,by omega,hK⟩
theorem W2(hΓ:Holds P Γ){f fn fm fp fw fc fl:Nat}(hn:Γ fn=.dat true xe)(hm:Γ fm=.dat false yh)(hp:Γ fp=.dat false Qn)(hw' : Γ fw=.dat false Ve)(hc' : Γ fc=.dat true xp)(hl:Γ fl=.dat false zq)(hc:check P f=some (38,(Qi fm fn fp fw fc fl).strip,[.cell 4 2 true])):Sound P f (.dat false Ut):=by
 refine Qa hc J1 hΓ (λargs K hcl hfi hG=>?_);match args,hG with
 | [a,b],hG=>
  obtain⟨v,rfl,hv,w,rfl,hw,hz,hz',hK⟩:=hG;refine⟨by simp,?_⟩
  simp only [go_sem,Qi,hn,hm,hp,hw',hc',hl,hw,hv];simp only [Xa];have hsz:=uJ (zv v) (zv w);refine⟨λh=>⟨wa _,wa _,hz,hz',wa _,?_,?_⟩,λh=>⟨wa _,wa _,λho=>⟨wa _,wa _,by unfold zs at hz;omega,?_,wa _,?_,?_⟩,λho=>⟨wa _,wa _,by unfold zs at hz';omega,?_,wa _,?_,?_⟩⟩⟩
  .have e:=Wu (Qh h);rw [show(zv v).natAbs+(zv w).natAbs=(zv v+zv w).natAbs by have:=Qh h;omega]
   unfold zs at *;omega
  .rw [Wu (Qh h)];exact hK
  .exact(Yr.1 ho)
  .have:=ka (Nat.sub_le (zv v).natAbs (zv w).natAbs);unfold zs at *;omega
  .have h1:=Yr.1 ho;rw [Vao (yn h) h1];exact hK
  .have:=mt Yr.2 ho;omega
  .have:=ka (Nat.sub_le (zv w).natAbs (zv v).natAbs);unfold zs at *;omega
  .have h1:=mt Yr.2 ho;rw [Vao (λe=>yn h e.symm) (by omega),Int.add_comm];exact hK
theorem Y4(hΓ:Holds P Γ){f fs fn fm fp fw fd fl:Nat}(hs:Γ fs=.dat true yf)(hn:Γ fn=.dat true xe)(hm:Γ fm=.dat false yh)(hp:Γ fp=.dat false Qn)(hw' : Γ fw=.dat false Ve)(hd:Γ fd=.dat false Qg)(hl:Γ fl=.dat false zq)(hc:check P f=some (45,(Yh fs fm fd fn fp fl fw).strip,[.cell 4 2 true,.cell 5 2 true,.tmp 6])):Sound P f (.dat false Jn):=by
 refine Qa hc Vaf hΓ (λargs K hcl hfi hG=>?_);match args,hG with
 | [a,b],hG=>
  obtain⟨v,rfl,hv,w,rfl,hw,hz,hz',h0,hK⟩:=hG;refine⟨by simp,?_⟩
  simp only [go_sem,Yh,hs,hn,hm,hp,hw',hd,hl,hw,hv];simp only [Xa];have hne:¬(digs (zv w).natAbs).length=0:=λe=>h0 (jt.1 e);refine⟨λe=>absurd (Int.sign_eq_zero_iff_zero.1 e) h0,λ_=>⟨wa _,wa _,Ym _,Ym _,λe=>hne (by rw [e];rfl),hz,hz',?_⟩⟩
  have hq:(digs ((zv v).natAbs / (zv w).natAbs)).length<=17179869184:=Nat.le_trans (ka (Nat.div_le_self _ _)) hz;have hr:(digs ((zv v).natAbs % (zv w).natAbs)).length<=17179869184:=Nat.le_trans (ka (Nat.mod_le _ _)) hz;have hz'' : (digs (zv w).natAbs).length<=17179869184:=hz';have hlt:=Nat.mod_lt (zv v).natAbs (show 0<(zv w).natAbs by omega)
  have hfin:(0<=zv v∨(zv v).natAbs % (zv w).natAbs=0)->K (AV.tup
    [AV.agg [zb (zcan (sg (!(decide (zv v<0) == decide (zv w<0))) ((zv v).natAbs / (zv w).natAbs))),zm (zcan (sg (!(decide (zv v<0) == decide (zv w<0))) ((zv v).natAbs / (zv w).natAbs)))],
     AV.agg [zb (zcan (sg false ((zv v).natAbs % (zv w).natAbs))),zm (zcan (sg false ((zv v).natAbs % (zv w).natAbs)))],AV.one (C.lit (Value.int IntKind.i64 0))]):=by
   intro h;obtain⟨e1,e2⟩:=Waw h0 h;have e1' : sg (!(decide (zv v<0) == decide (zv w<0))) ((zv v).natAbs / (zv w).natAbs)=zv v / zv w:=e1;have e2' : sg false ((zv v).natAbs % (zv w).natAbs)=zv v % zv w:=e2;rw [e1',e2'];exact hK
  refine⟨λhneg _=>⟨λhp=>⟨wa _,(xap _ 1).mpr ⟨Xb.2 ⟨by decide,Ub⟩,hq,by decide,wa _,wa _,by omega,by omega,wa _,?_,wa _,?_,?_⟩⟩,λhp=>⟨wa _,by omega,wa _,by omega,hfin (.inr ?_)⟩⟩,λhneg=>⟨wa _,by omega,wa _,by omega,hfin (.inl (by omega))⟩⟩
  .have hv1:val [1]=1:=rfl;rw [hv1];have h1:zs 1<=2:=Jaf (by decide)
   have:=uJ (((zv v).natAbs / (zv w).natAbs:Nat):Int) 1;have e:(((zv v).natAbs / (zv w).natAbs:Nat):Int)+1=(((zv v).natAbs / (zv w).natAbs+1:Nat):Int):=by omega
   rw [e]at this;have h3:zs (((zv v).natAbs / (zv w).natAbs:Nat):Int)=(digs ((zv v).natAbs / (zv w).natAbs)).length:=rfl;have h4:zs (((zv v).natAbs / (zv w).natAbs+1:Nat):Int)=(digs ((zv v).natAbs / (zv w).natAbs+1)).length:=rfl;rw [h3,h4]at this;omega
  .have:=ka (Nat.sub_le (zv w).natAbs ((zv v).natAbs % (zv w).natAbs));omega
  .have hv1:val [1]=1:=rfl;rw [hv1];have hne' : (zv v).natAbs % (zv w).natAbs≠0:=by
    intro e;rw [e,Qb]at hp;simp at hp
   obtain⟨e1,e2⟩:=Xat h0 hneg hne';have e1' : sg (!(decide (zv v<0) == decide (zv w<0))) ((zv v).natAbs / (zv w).natAbs+1)=zv v / zv w:=e1;have e2' : sg false ((zv w).natAbs-(zv v).natAbs % (zv w).natAbs)=zv v % zv w:=e2;rw [e1',e2'];exact hK
  .have:digs ((zv v).natAbs % (zv w).natAbs)=[]:=List.eq_nil_of_length_eq_zero (by omega)
   exact Ue.1 this
end Go.Abs
end
