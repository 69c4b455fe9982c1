/-
  Parts of the proof, merged: RefD, RefE, RefF.
-/
import Derived.Test.YtegaodlldjpcaaaGreatDoorM12
set_option linter.unusedVariables false
set_option linter.unusedSimpArgs false
set_option maxRecDepth 100000
section
namespace Go.Abs
open Go.Num
variable {P:Program} {Γ:Nat->Spec}
def Yi(f0 f1 f2 f3 f4 f5:Nat):AC:=(.seq (.ops false [.m 4 (.c (.one .emp))])
 (.fg [0,1] (.seq (.ops false [.m 6 (.t 0),.u 7 (.callf f0 [(.t 6)]),.m 8 (.t 1),.u 9 (.callf f0 [(.t 8)]),.m 0 (.t 7),.m 1 (.t 9)])
 (.fg [0,1] (.seq (.seq (.ops false [.m 10 (.t 0),.u 11 (.len (.t 10)),.u 12 (.bin .eql (.t 11) (.i 0))])
 (.fg [0,1,12] (.cond (.t 12) (.seq (.ops false [.m 13 (.t 1),.m 4 (.t 13)])
 .ret) .skip)))
 (.fg [0,1] (.seq (.seq (.ops false [.m 14 (.t 1),.u 15 (.len (.t 14)),.u 16 (.bin .eql (.t 15) (.i 0))])
 (.fg [0,1,16] (.cond (.t 16) (.seq (.ops false [.m 17 (.t 0),.m 4 (.t 17)])
 .ret) .skip)))
 (.fg [0,1] (.seq (.ops false [.m 5 (.i 0)])
 (.fg [0,1,5] (.seq (.block 0 (.loop (.seq (.seq (.ops false [.m 18 (.t 0),.u 19 (.idx 1 (.t 18) (.i 0)),.u 20 (.ld none 1 false (.t 19)),.u 21 (.bin .and (.t 20) (.c (.one (.lit (.int .u32 1))))),.u 22 (.bin .eql (.t 21) (.c (.one (.lit (.int .u32 0))))),.m 23 (.t 22),.w 24 23 true (.mv (.t 1)),.w 25 23 true (.idx 1 (.t 24) (.i 0)),.w 26 23 true (.ld none 1 false (.t 25)),.w 27 23 true (.bin .and (.t 26) (.c (.one (.lit (.int .u32 1))))),.w 28 23 true (.bin .eql (.t 27) (.c (.one (.lit (.int .u32 0))))),.u 29 (.pick (.t 23) (.t 28) .fa)])
 (.fg [0,1,5,29] (.cond (.t 29) .skip (.exit 0))))
 (.fg [0,1,5] (.block 1 (.seq (.ops false [.m 30 (.t 0),.u 31 (.call f1 [(.t 30)]),.m 32 (.t 1),.u 33 (.call f1 [(.t 32)]),.m 0 (.t 31),.m 1 (.t 33)])
 (.fg [0,1,5] (.ops false [.m 34 (.t 5),.u 35 (.bin .add (.t 34) (.i 1)),.m 5 (.t 35)]))))))))
 (.fg [0,1,5] (.seq (.block 2 (.loop (.seq (.seq (.ops false [.m 36 (.t 0),.u 37 (.len (.t 36)),.u 38 (.bin .gtr (.t 37) (.i 0))])
 (.fg [0,1,5,38] (.cond (.t 38) .skip (.exit 2))))
 (.fg [0,1,5] (.block 3 (.seq (.block 4 (.loop (.seq (.seq (.ops false [.m 39 (.t 0),.u 40 (.idx 1 (.t 39) (.i 0)),.u 41 (.ld none 1 false (.t 40)),.u 42 (.bin .and (.t 41) (.c (.one (.lit (.int .u32 1))))),.u 43 (.bin .eql (.t 42) (.c (.one (.lit (.int .u32 0)))))])
 (.fg [0,1,5,43] (.cond (.t 43) .skip (.exit 4))))
 (.fg [0,1,5] (.block 5 (.ops false [.m 44 (.t 0),.u 45 (.call f1 [(.t 44)]),.m 0 (.t 45)]))))))
 (.fg [0,1,5] (.seq (.block 6 (.loop (.seq (.seq (.ops false [.m 46 (.t 1),.u 47 (.idx 1 (.t 46) (.i 0)),.u 48 (.ld none 1 false (.t 47)),.u 49 (.bin .and (.t 48) (.c (.one (.lit (.int .u32 1))))),.u 50 (.bin .eql (.t 49) (.c (.one (.lit (.int .u32 0)))))])
 (.fg [0,1,5,50] (.cond (.t 50) .skip (.exit 6))))
 (.fg [0,1,5] (.block 7 (.ops false [.m 51 (.t 1),.u 52 (.call f1 [(.t 51)]),.m 1 (.t 52)]))))))
 (.fg [0,1,5] (.seq (.seq (.ops false [.m 53 (.t 0),.m 54 (.t 1),.u 55 (.call f2 [(.t 53),(.t 54)]),.u 56 (.bin .lss (.t 55) (.i 0))])
 (.fg [0,1,5,56] (.cond (.t 56) (.ops false [.m 57 (.t 1),.m 58 (.t 0),.m 0 (.t 57),.m 1 (.t 58)]) .skip)))
 (.fg [0,1,5] (.seq (.ops false [.m 59 (.t 0),.m 60 (.t 1),.u 61 (.call f3 [(.t 59),(.t 60)])])
 (.fg [0,1,5] (.ops false [.m 62 (.t 0),.u 63 (.call f4 [(.t 62)]),.m 0 (.t 63)]))))))))))))))
 (.fg [1,5] (.seq (.seq (.ops false [.m 64 (.t 5),.m 65 (.i 0)])
 (.fg [1,64,65] (.fz [1] (.block 8 (.loop (.seq (.ops false [.u 66 (.bin .lss (.t 65) (.t 64))])
 (.fg [1,64,65,66] (.seq (.cond (.t 66) .skip (.exit 8))
 (.fg [1,64,65] (.seq (.block 9 (.ops false [.m 67 (.t 1),.m 68 (.t 1),.u 69 (.call f5 [(.t 67),(.t 68)]),.m 1 (.t 69)]))
 (.fg [1,64,65] (.ops false [.u 70 (.bin .add (.t 65) (.i 1)),.m 65 (.t 70)]))))))))))))
 (.fg [1] (.seq (.ops false [.m 71 (.t 1),.m 4 (.t 71)])
 .ret)))))))))))))))))
theorem Wah(hΓ:Holds P Γ){f ft fh fc fk fu fp:Nat}(ht:Γ ft=.fresh 1 uv)(hh:Γ fh=.own Xo)(hcm:Γ fc=.dat true Xu)(hk:Γ fk=.own qw)(hu:Γ fu=.own Z5)(hp:Γ fp=.dat false qt)
    (hc:check P f=some (72,(Yi ft fh fc fk fu fp).strip,[.tmp 4])):Sound P f (.dat false zx):=by
  refine va hc xaA hΓ (λargs K hcl hfi hG=>?_);match args,hG with
  | [a,b],hG=>
    obtain⟨x,rfl,hx,y,rfl,hy,hxl,hyl,hK⟩:=hG;refine⟨by simp,?_⟩
    simp only [go_sem,Yi,ht,hh,hcm,hk,hu,hp];have hxv:=zy (uk hx);have hyv:=zy (uk hy);refine⟨hx,by omega,hy,by omega,λ_=>⟨λh0=>?_,λh0 _=>⟨λh1=>?_,λh1=>?_⟩⟩⟩
    . rw [Wv.1 h0,Nat.gcd_zero_left]at hK;exact hK
    . rw [Wv.1 h1,Nat.gcd_zero_right]at hK;exact hK
    rw [Wv]at h0 h1;refine wa (λp:(Nat×List Nat)×(Nat×List Nat)×Nat=>⟨mkV [(0,.one (.own 7 1 1 0 (digs p.1.1).length)),(1,.one (.own 9 1 1 0 (digs p.2.1.1).length)),(5,.one (.lit (.int .i64 p.2.2)))],mkH [(7,⟨1,some ⟨(digs p.1.1++p.1.2).map wc,1,true⟩⟩),(9,⟨1,some ⟨(digs p.2.1.1++p.2.1.2).map wc,1,true⟩⟩)]⟩)
      (λp=>p.1.1≠0/\p.2.1.1≠0/\p.1.1<=val x/\p.2.1.1<=val y/\p.1.1*2 ^ p.2.2<=val x/\Nat.gcd p.1.1 p.2.1.1*2 ^ p.2.2=Nat.gcd (val x) (val y)) (λp=>p.1.1) ((val x,[]),(val y,[]),0) ?_ ?_ ?_
    . exact Qa (by simp [okS,okV,okC,okL,okH,okB,okE,Za,ja,za,Ja,wsA,ws]) ⟨Jb (by simp),Jb (by simp),trivial⟩
    . exact⟨h0,h1,Nat.le_refl _,Nat.le_refl _,by simp,by simp⟩
    . rintro⟨⟨a,pa⟩,⟨b,pb⟩,k⟩ ⟨ha,hb,hax,hby,hak,hg⟩
      simp only at ha hb hax hby hak hg;have hkb:k<32*x.length:=Wbi (n:=val x) (Nat.le_trans (Nat.le_mul_of_pos_left _ (by omega)) hak) (uk hx)
      have hal:=Nat.le_trans (Xa hax) hxv;have hbl:=Nat.le_trans (Xa hby) hyv;have hap:=wk ha;have hbp:=wk hb;simp only [go_sem,hh,hcm,hk,hu,hp,Zl,Yv ha,Yv hb,hap,hbp,List.length_append];refine share4 (by omega) (by omega) (Nat.mod_lt _ (by omega)) (by omega) (by omega) (Nat.mod_lt _ (by omega)) (λhae hbe=>?_) (λhodd=>?_)
      . simp only [Xo]
        refine⟨digs a,pa,rfl,by simp [za],ua _,by omega,λpa'=>?_⟩
        refine⟨digs b,pb,rfl,by simp [upd,za],ua _,by omega,λpb'=>?_⟩
        simp only [go_sem,qb];refine⟨by omega,((a / 2,pa'),(b / 2,pb'),k+1),Qa (by simp [okS,okV,okC,okL,okH,okB,okE,Za,ja,za,Ja,wsA,ws]) ⟨Jb rfl,Jb rfl,trivial⟩,⟨by simp only;omega,by simp only;omega,by simp only;omega,by simp only;omega,?_,Ybw (by omega) (by omega) hg⟩,by simp only;omega⟩
        simp only;refine Nat.le_trans ?_ hak;rw [Nat.pow_succ,Nat.mul_comm (2 ^ k) 2,<-Nat.mul_assoc];exact Nat.mul_le_mul_right _ (by omega)
      . refine wa (λp : Bool × (Nat × List Nat) × (Nat × List Nat) => match p.1 with
            | false=>⟨mkV [(0,.one (.own 7 1 1 0 (digs p.2.1.1).length)),(1,.one (.own 9 1 1 0 (digs p.2.2.1).length)),(5,.one (.lit (.int .i64 k)))],mkH [(7,⟨1,some ⟨(digs p.2.1.1++p.2.1.2).map wc,1,true⟩⟩),(9,⟨1,some ⟨(digs p.2.2.1++p.2.2.2).map wc,1,true⟩⟩)]⟩
            | true=>⟨mkV [(0,.one (.own 9 1 1 0 (digs p.2.1.1).length)),(1,.one (.own 7 1 1 0 (digs p.2.2.1).length)),(5,.one (.lit (.int .i64 k)))],mkH [(9,⟨1,some ⟨(digs p.2.1.1++p.2.1.2).map wc,1,true⟩⟩),(7,⟨1,some ⟨(digs p.2.2.1++p.2.2.2).map wc,1,true⟩⟩)]⟩)
          (λp=>p.2.2.1≠0/\(p.2.1.1 % 2≠0∨p.2.2.1 % 2≠0)/\(digs p.2.1.1).length<=17179869184/\(digs p.2.2.1).length<=17179869184/\Nat.gcd p.2.1.1 p.2.2.1*2 ^ k=Nat.gcd (val x) (val y)) (λp=>p.2.1.1+p.2.2.1) (false,(a,pa),(b,pb)) ?_ ?_ ?_
        . exact Qa (by simp [okS,okV,okC,okL,okH,okB,okE,Za,ja,za,Ja,wsA,ws]) ⟨Jb rfl,Jb rfl,trivial⟩
        . exact⟨hb,by simp only;omega,by simp only;omega,by simp only;omega,hg⟩
        clear hax hby hak hal hbl hap hbp hg ha hb hodd;rintro⟨sw,⟨a,pa⟩,⟨b,pb⟩⟩ ⟨hb,hodd,hal,hbl,hg⟩;simp only at hb hodd hal hbl hg;cases sw with
        | false=>
          simp only [go_sem,hh,hcm,hk,hu,hp,Zl,qb,List.length_append,Nat.le_add_right,List.take_left];refine λ_=>⟨λhap=>?_,λhap=>?_⟩
          . have ha:a≠0:=λe=>by rw [e,yb]at hap;simp at hap
            refine wa (λp:Nat×List Nat=>⟨mkV [(0,.one (.own 7 1 1 0 (digs p.1).length)),(1,.one (.own 9 1 1 0 (digs b).length)),(5,.one (.lit (.int .i64 k)))],mkH [(7,⟨1,some ⟨(digs p.1++p.2).map wc,1,true⟩⟩),(9,⟨1,some ⟨(digs b++pb).map wc,1,true⟩⟩)]⟩)
              (λp=>p.1≠0/\p.1<=a/\(p.1 % 2≠0∨b % 2≠0)/\Nat.gcd p.1 b*2 ^ k=Nat.gcd (val x) (val y)) (λp=>p.1) (a,pa) ?_ ?_ ?_
            . exact Qa (by simp [okS,okV,okC,okL,okH,okB,okE,Za,ja,za,Ja,wsA,ws]) ⟨Jb rfl,Jb rfl,trivial⟩
            . exact⟨ha,Nat.le_refl _,hodd,hg⟩
            . rintro⟨a',pa⟩ ⟨ha',haa,hodd,hg⟩
              simp only at ha' haa hodd hg;have hap:=wk ha';simp only [go_sem,hh,hcm,hk,hu,hp,Zl,qb,List.length_append,Nat.le_add_right,List.take_left,Yv ha',hap];refine⟨by omega,by omega,Nat.mod_lt _ (by omega),λhe=>?_,λhao=>?_⟩
              . simp only [Xo]
                refine⟨digs a',pa,rfl,by simp [za],ua _,by have:=Xa haa;omega,λpa'=>?_⟩
                simp only [go_sem,hh,hcm,hk,hu,hp,Zl,qb,List.length_append,Nat.le_add_right,List.take_left];refine⟨(a' / 2,pa'),Qa (by simp [okS,okV,okC,okL,okH,okB,okE,Za,ja,za,Ja,wsA,ws]) ⟨Jb rfl,Jb rfl,trivial⟩,⟨by simp only;omega,by simp only;omega,.inr (by omega),?_⟩,by simp only;omega⟩
                rw [<-hg];simp only;rw [WaL (by omega) (by omega)]
              . refine wa (λp:Nat×List Nat=>⟨mkV [(0,.one (.own 7 1 1 0 (digs a').length)),(1,.one (.own 9 1 1 0 (digs p.1).length)),(5,.one (.lit (.int .i64 k)))],mkH [(7,⟨1,some ⟨(digs a'++pa).map wc,1,true⟩⟩),(9,⟨1,some ⟨(digs p.1++p.2).map wc,1,true⟩⟩)]⟩)
                  (λp=>p.1≠0/\p.1<=b/\Nat.gcd a' p.1*2 ^ k=Nat.gcd (val x) (val y)) (λp=>p.1) (b,pb) ?_ ?_ ?_
                . exact Qa (by simp [okS,okV,okC,okL,okH,okB,okE,Za,ja,za,Ja,wsA,ws]) ⟨Jb rfl,Jb rfl,trivial⟩
                . exact⟨hb,Nat.le_refl _,hg⟩
                . rintro⟨b',pb⟩ ⟨hb',hbb,hg⟩
                  simp only at hb' hbb hg;have hbp:=wk hb';simp only [go_sem,hh,hcm,hk,hu,hp,Zl,qb,List.length_append,Nat.le_add_right,List.take_left,Yv hb',hbp];refine⟨by omega,by omega,Nat.mod_lt _ (by omega),λhe=>?_,λhbo=>?_⟩
                  . simp only [Xo]
                    refine⟨digs b',pb,rfl,by simp [za],ua _,by have:=Xa hbb;omega,λpb'=>?_⟩
                    simp only [go_sem,hh,hcm,hk,hu,hp,Zl,qb,List.length_append,Nat.le_add_right,List.take_left];refine⟨(b' / 2,pb'),Qa (by simp [okS,okV,okC,okL,okH,okB,okE,Za,ja,za,Ja,wsA,ws]) ⟨Jb rfl,Jb rfl,trivial⟩,⟨by simp only;omega,by simp only;omega,?_⟩,by simp only;omega⟩
                    rw [<-hg];simp only;rw [ua7 (by omega) (by omega)]
                  . have hlb:=Xa hbb
                    have hla:=Xa haa;refine⟨ua _,ua _,λhlt=>?_,λhge=>?_⟩
                    . have hlt:=kH.1 hlt
                      simp only [qw];have e:val (dig (digs b').length (val (digs b')-val (digs a')))=b' - a':=by
                        rw [kk,qb,qb,Nat.mod_eq_of_lt];exact Nat.lt_of_le_of_lt (Nat.sub_le _ _) (Jk b')
                      refine⟨digs b',pb,digs a',pa,by decide,rfl,by simp [za],ua _,by omega,rfl,by simp [za],ua _,by rw [qb,qb];omega,?_⟩
                      refine⟨dig (digs b').length (val (digs b')-val (digs a')),pb,(Ya _ _).symm,by simp [upd,za],yl _ _,by omega,λpost'=>?_⟩
                      simp only [go_sem,e];have hle:=Nat.le_trans (Xa (Nat.sub_le b' a')) (Xa hbb);refine⟨(true,(b' - a',post'),(a',pa)),Qa (by simp [okS,okV,okC,okL,okH,okB,okE,Za,ja,za,Ja,wsA,ws]) ⟨Jb rfl,Jb rfl,trivial⟩,⟨ha',.inr (by simp only;omega),by simp only;omega,by simp only;omega,?_⟩,by simp only;omega⟩
                      simp only;rw [yV (by omega),Nat.gcd_comm];exact hg
                    . have hge:=mt kH.2 hge
                      simp only [qw];have e:val (dig (digs a').length (val (digs a')-val (digs b')))=a' - b':=by
                        rw [kk,qb,qb,Nat.mod_eq_of_lt];exact Nat.lt_of_le_of_lt (Nat.sub_le _ _) (Jk a')
                      refine⟨digs a',pa,digs b',pb,by decide,rfl,by simp [za],ua _,by omega,rfl,by simp [za],ua _,by rw [qb,qb];omega,?_⟩
                      refine⟨dig (digs a').length (val (digs a')-val (digs b')),pa,(Ya _ _).symm,by simp [upd,za],yl _ _,by omega,λpost'=>?_⟩
                      simp only [go_sem,e];have hle:=Nat.le_trans (Xa (Nat.sub_le a' b')) (Xa haa);refine⟨(false,(a' - b',post'),(b',pb)),Qa (by simp [okS,okV,okC,okL,okH,okB,okE,Za,ja,za,Ja,wsA,ws]) ⟨Jb rfl,Jb rfl,trivial⟩,⟨hb',.inr (by simp only;omega),by simp only;omega,by simp only;omega,?_⟩,by simp only;omega⟩
                      simp only;rw [yV (by omega)];exact hg
          . have ha:a=0:=Wv.1 (by omega)
            rw [ha,Nat.gcd_zero_left]at hg;refine wa (λj:Nat=>⟨mkV [(1,.one (ws (digs (b*2 ^ j)))),(64,.one (.lit (.int .i64 k))),(65,.one (.lit (.int .i64 j)))],mkH []⟩) (λj=>j<=k) (λj=>k-j) 0 ?_ ?_ ?_
            . exact Qa (by simp [okS,okV,okC,okL,okH,okB,okE,Za,ja,za,Ja,wsA,ws]) trivial
            . exact Nat.zero_le _
            . rintro j hj
              simp only [go_sem,hh,hcm,hk,hu,hp,Zl,qb,List.length_append,Nat.le_add_right,List.take_left];refine⟨λhlt=>?_,λhge=>?_⟩
              . have hj1:b*2 ^ (j+1)<=val x:=by
                  refine Nat.le_trans (Nat.mul_le_mul_left b (Nat.pow_le_pow_right (by omega) hlt)) ?_
                  rw [hg];exact Nat.le_of_dvd (by omega) (Nat.gcd_dvd_left _ _)
                have e:b*2 ^ j+b*2 ^ j=b*2 ^ (j+1):=by rw [Nat.pow_succ,<-Nat.mul_assoc];omega
                have hl1:=Nat.le_trans (Xa (show b*2 ^ j<=val x by omega)) hxv
                rw [e];refine⟨ua _,ua _,by omega,by omega,by omega,j+1,Qa (by simp [okS,okV,okC,okL,okH,okB,okE,Za,ja,za,Ja,wsA,ws]) trivial,by omega,by omega⟩
              . have e:j=k:=by omega
                rw [e,hg];exact hK
        | true=>
          simp only [go_sem,hh,hcm,hk,hu,hp,Zl,qb,List.length_append,Nat.le_add_right,List.take_left];refine λ_=>⟨λhap=>?_,λhap=>?_⟩
          . have ha:a≠0:=λe=>by rw [e,yb]at hap;simp at hap
            refine wa (λp:Nat×List Nat=>⟨mkV [(0,.one (.own 9 1 1 0 (digs p.1).length)),(1,.one (.own 7 1 1 0 (digs b).length)),(5,.one (.lit (.int .i64 k)))],mkH [(9,⟨1,some ⟨(digs p.1++p.2).map wc,1,true⟩⟩),(7,⟨1,some ⟨(digs b++pb).map wc,1,true⟩⟩)]⟩)
              (λp=>p.1≠0/\p.1<=a/\(p.1 % 2≠0∨b % 2≠0)/\Nat.gcd p.1 b*2 ^ k=Nat.gcd (val x) (val y)) (λp=>p.1) (a,pa) ?_ ?_ ?_
            . exact Qa (by simp [okS,okV,okC,okL,okH,okB,okE,Za,ja,za,Ja,wsA,ws]) ⟨Jb rfl,Jb rfl,trivial⟩
            . exact⟨ha,Nat.le_refl _,hodd,hg⟩
            . rintro⟨a',pa⟩ ⟨ha',haa,hodd,hg⟩
              simp only at ha' haa hodd hg;have hap:=wk ha';simp only [go_sem,hh,hcm,hk,hu,hp,Zl,qb,List.length_append,Nat.le_add_right,List.take_left,Yv ha',hap];refine⟨by omega,by omega,Nat.mod_lt _ (by omega),λhe=>?_,λhao=>?_⟩
              . simp only [Xo]
                refine⟨digs a',pa,rfl,by simp [za],ua _,by have:=Xa haa;omega,λpa'=>?_⟩
                simp only [go_sem,hh,hcm,hk,hu,hp,Zl,qb,List.length_append,Nat.le_add_right,List.take_left];refine⟨(a' / 2,pa'),Qa (by simp [okS,okV,okC,okL,okH,okB,okE,Za,ja,za,Ja,wsA,ws]) ⟨Jb rfl,Jb rfl,trivial⟩,⟨by simp only;omega,by simp only;omega,.inr (by omega),?_⟩,by simp only;omega⟩
                rw [<-hg];simp only;rw [WaL (by omega) (by omega)]
              . refine wa (λp:Nat×List Nat=>⟨mkV [(0,.one (.own 9 1 1 0 (digs a').length)),(1,.one (.own 7 1 1 0 (digs p.1).length)),(5,.one (.lit (.int .i64 k)))],mkH [(9,⟨1,some ⟨(digs a'++pa).map wc,1,true⟩⟩),(7,⟨1,some ⟨(digs p.1++p.2).map wc,1,true⟩⟩)]⟩)
                  (λp=>p.1≠0/\p.1<=b/\Nat.gcd a' p.1*2 ^ k=Nat.gcd (val x) (val y)) (λp=>p.1) (b,pb) ?_ ?_ ?_
                . exact Qa (by simp [okS,okV,okC,okL,okH,okB,okE,Za,ja,za,Ja,wsA,ws]) ⟨Jb rfl,Jb rfl,trivial⟩
                . exact⟨hb,Nat.le_refl _,hg⟩
                . rintro⟨b',pb⟩ ⟨hb',hbb,hg⟩
                  simp only at hb' hbb hg;have hbp:=wk hb';simp only [go_sem,hh,hcm,hk,hu,hp,Zl,qb,List.length_append,Nat.le_add_right,List.take_left,Yv hb',hbp];refine⟨by omega,by omega,Nat.mod_lt _ (by omega),λhe=>?_,λhbo=>?_⟩
                  . simp only [Xo]
                    refine⟨digs b',pb,rfl,by simp [za],ua _,by have:=Xa hbb;omega,λpb'=>?_⟩
                    simp only [go_sem,hh,hcm,hk,hu,hp,Zl,qb,List.length_append,Nat.le_add_right,List.take_left];refine⟨(b' / 2,pb'),Qa (by simp [okS,okV,okC,okL,okH,okB,okE,Za,ja,za,Ja,wsA,ws]) ⟨Jb rfl,Jb rfl,trivial⟩,⟨by simp only;omega,by simp only;omega,?_⟩,by simp only;omega⟩
                    rw [<-hg];simp only;rw [ua7 (by omega) (by omega)]
                  . have hlb:=Xa hbb
                    have hla:=Xa haa;refine⟨ua _,ua _,λhlt=>?_,λhge=>?_⟩
                    . have hlt:=kH.1 hlt
                      simp only [qw];have e:val (dig (digs b').length (val (digs b')-val (digs a')))=b' - a':=by
                        rw [kk,qb,qb,Nat.mod_eq_of_lt];exact Nat.lt_of_le_of_lt (Nat.sub_le _ _) (Jk b')
                      refine⟨digs b',pb,digs a',pa,by decide,rfl,by simp [za],ua _,by omega,rfl,by simp [za],ua _,by rw [qb,qb];omega,?_⟩
                      refine⟨dig (digs b').length (val (digs b')-val (digs a')),pb,(Ya _ _).symm,by simp [upd,za],yl _ _,by omega,λpost'=>?_⟩
                      simp only [go_sem,e];have hle:=Nat.le_trans (Xa (Nat.sub_le b' a')) (Xa hbb);refine⟨(false,(b' - a',post'),(a',pa)),Qa (by simp [okS,okV,okC,okL,okH,okB,okE,Za,ja,za,Ja,wsA,ws]) ⟨Jb rfl,Jb rfl,trivial⟩,⟨ha',.inr (by simp only;omega),by simp only;omega,by simp only;omega,?_⟩,by simp only;omega⟩
                      simp only;rw [yV (by omega),Nat.gcd_comm];exact hg
                    . have hge:=mt kH.2 hge
                      simp only [qw];have e:val (dig (digs a').length (val (digs a')-val (digs b')))=a' - b':=by
                        rw [kk,qb,qb,Nat.mod_eq_of_lt];exact Nat.lt_of_le_of_lt (Nat.sub_le _ _) (Jk a')
                      refine⟨digs a',pa,digs b',pb,by decide,rfl,by simp [za],ua _,by omega,rfl,by simp [za],ua _,by rw [qb,qb];omega,?_⟩
                      refine⟨dig (digs a').length (val (digs a')-val (digs b')),pa,(Ya _ _).symm,by simp [upd,za],yl _ _,by omega,λpost'=>?_⟩
                      simp only [go_sem,e];have hle:=Nat.le_trans (Xa (Nat.sub_le a' b')) (Xa haa);refine⟨(true,(a' - b',post'),(b',pb)),Qa (by simp [okS,okV,okC,okL,okH,okB,okE,Za,ja,za,Ja,wsA,ws]) ⟨Jb rfl,Jb rfl,trivial⟩,⟨hb',.inr (by simp only;omega),by simp only;omega,by simp only;omega,?_⟩,by simp only;omega⟩
                      simp only;rw [yV (by omega)];exact hg
          . have ha:a=0:=Wv.1 (by omega)
            rw [ha,Nat.gcd_zero_left]at hg;refine wa (λj:Nat=>⟨mkV [(1,.one (ws (digs (b*2 ^ j)))),(64,.one (.lit (.int .i64 k))),(65,.one (.lit (.int .i64 j)))],mkH []⟩) (λj=>j<=k) (λj=>k-j) 0 ?_ ?_ ?_
            . exact Qa (by simp [okS,okV,okC,okL,okH,okB,okE,Za,ja,za,Ja,wsA,ws]) trivial
            . exact Nat.zero_le _
            . rintro j hj
              simp only [go_sem,hh,hcm,hk,hu,hp,Zl,qb,List.length_append,Nat.le_add_right,List.take_left];refine⟨λhlt=>?_,λhge=>?_⟩
              . have hj1:b*2 ^ (j+1)<=val x:=by
                  refine Nat.le_trans (Nat.mul_le_mul_left b (Nat.pow_le_pow_right (by omega) hlt)) ?_
                  rw [hg];exact Nat.le_of_dvd (by omega) (Nat.gcd_dvd_left _ _)
                have e:b*2 ^ j+b*2 ^ j=b*2 ^ (j+1):=by rw [Nat.pow_succ,<-Nat.mul_assoc];omega
                have hl1:=Nat.le_trans (Xa (show b*2 ^ j<=val x by omega)) hxv
                rw [e];refine⟨ua _,ua _,by omega,by omega,by omega,j+1,Qa (by simp [okS,okV,okC,okL,okH,okB,okE,Za,ja,za,Ja,wsA,ws]) trivial,by omega,by omega⟩
              . have e:j=k:=by omega
                rw [e,hg];exact hK
end Go.Abs
end
section
namespace Go.Abs
open Go.Num
variable {P:Program} {Γ:Nat->Spec}
def Vf(f0 f1 f2 f3:Nat):AC:=(.seq (.ops false [.m 4 (.c (.one .emp)),.m 5 (.c (.one .emp))])
 (.fg [0,1] (.seq (.ops false [.m 11 (.t 0),.u 12 (.len (.t 11)),.u 13 (.mk 1 [(.lit (.int .u32 0))] (.t 12) (.t 12)),.m 6 (.t 13)])
 (.fg [0,1,6] (.seq (.ops false [.m 14 (.t 1),.u 15 (.len (.t 14)),.u 16 (.bin .add (.t 15) (.i 1)),.u 17 (.mk 1 [(.lit (.int .u32 0))] (.t 16) (.t 16)),.m 7 (.t 17)])
 (.fg [0,1,6,7] (.seq (.seq (.ops false [.m 18 (.t 0),.u 19 (.call f0 [(.t 18)]),.u 20 (.bin .sub (.t 19) (.i 1)),.m 8 (.t 20)])
 (.fg [0,1,6,7,8] (.block 0 (.loop (.seq (.seq (.ops false [.m 21 (.t 8),.u 22 (.bin .geq (.t 21) (.i 0))])
 (.fg [0,1,6,7,8,22] (.cond (.t 22) .skip (.exit 0))))
 (.fg [0,1,6,7,8] (.seq (.block 1 (.seq (.ops false [.m 25 (.t 0),.m 26 (.t 8),.u 27 (.bin .quo (.t 26) (.i 32)),.u 28 (.idx 1 (.t 25) (.t 27)),.u 29 (.ld none 1 false (.t 28)),.m 30 (.t 8),.u 31 (.bin .rem (.t 30) (.i 32)),.u 32 (.bin .shr (.t 29) (.t 31)),.u 33 (.bin .and (.t 32) (.c (.one (.lit (.int .u32 1))))),.m 9 (.t 33)])
 (.fg [0,1,6,7,8,9] (.seq (.seq (.ops false [.m 34 (.t 7),.u 35 (.len (.t 34)),.m 36 (.i 0)])
 (.fg [0,1,6,7,8,9,35,36] (.block 2 (.loop (.seq (.ops false [.u 37 (.bin .lss (.t 36) (.t 35))])
 (.fg [0,1,6,7,8,9,35,36,37] (.seq (.cond (.t 37) .skip (.exit 2))
 (.fg [0,1,6,7,8,9,35,36] (.seq (.block 3 (.seq (.ops false [.m 38 (.t 36),.m 10 (.t 38)])
 (.fg [0,1,6,7,8,9,10,35,36] (.ops true [.m 39 (.t 7),.m 40 (.t 10),.m 41 (.t 7),.m 42 (.t 10),.u 43 (.idx 1 (.t 41) (.t 42)),.u 44 (.ld none 1 false (.t 43)),.u 45 (.bin .shl (.t 44) (.c (.one (.lit (.int .u64 1))))),.m 46 (.t 9),.u 47 (.bin .or (.t 45) (.t 46)),.m 48 (.t 7),.m 49 (.t 10),.u 50 (.idx 1 (.t 48) (.t 49)),.u 51 (.ld none 1 false (.t 50)),.u 52 (.bin .shr (.t 51) (.c (.one (.lit (.int .u64 31))))),.u 53 (.idx 1 (.t 39) (.t 40)),.n (.st none 1 (.t 53) (.t 47)),.m 9 (.t 52)]))))
 (.fg [0,1,6,7,8,9,35,36] (.ops false [.u 54 (.bin .add (.t 36) (.i 1)),.m 36 (.t 54)])))))))))))
 (.fg [0,1,6,7,8] (.seq (.ops false [.m 55 (.t 7),.m 56 (.t 1),.u 57 (.call f1 [(.t 55),(.t 56)]),.u 58 (.bin .geq (.t 57) (.i 0))])
 (.fg [0,1,6,7,8,58] (.cond (.t 58) (.seq (.ops false [.m 59 (.t 7),.m 60 (.t 1),.u 61 (.call f2 [(.t 59),(.t 60)])])
 (.fg [0,1,6,7,8] (.ops true [.m 62 (.t 6),.m 63 (.t 8),.u 64 (.bin .quo (.t 63) (.i 32)),.u 65 (.idx 1 (.t 62) (.t 64)),.u 66 (.ld none 1 false (.t 65)),.m 67 (.t 8),.u 68 (.bin .rem (.t 67) (.i 32)),.u 69 (.bin .shl (.c (.one (.lit (.int .u32 1)))) (.t 68)),.u 70 (.bin .or (.t 66) (.t 69)),.u 71 (.idx 1 (.t 62) (.t 64)),.n (.st none 1 (.t 71) (.t 70))]))) .skip))))))))
 (.fg [0,1,6,7,8] (.ops false [.m 23 (.t 8),.u 24 (.bin .sub (.t 23) (.i 1)),.m 8 (.t 24)])))))))))
 (.fg [6,7] (.seq (.ops false [.m 72 (.t 6),.u 73 (.callf f3 [(.t 72)]),.m 74 (.t 7),.u 75 (.callf f3 [(.t 74)]),.m 4 (.t 73),.m 5 (.t 75)])
 .ret)))))))))
theorem QM(hΓ:Holds P Γ){f fb fc fk ft:Nat}(hb:Γ fb=.dat true qp)(hcm:Γ fc=.dat true Xu)(hk:Γ fk=.own qw)(ht:Γ ft=.fresh 1 uv)
  (hc:check P f=some (76,(Vf fb fc fk ft).strip,[.tmp 4,.tmp 5])):Sound P f (.dat false Xg):=by
 refine va hc VK hΓ (λargs K hcl hfi hG=>?_);match args,hG with
 | [a,b],hG=>
  obtain⟨x,rfl,hx,y,rfl,hy,hnx,hny,hy0,hxl,hyl,hK⟩:=hG;refine⟨by simp,?_⟩
  simp only [go_sem,Vf,hb,hcm,hk,ht];intro h1;refine⟨by omega,λ_=>⟨by omega,by omega,hx,by omega,?_⟩⟩
  obtain⟨n,hn⟩:∃n,(if x.length=0 then 0 else 32*(x.length-1)+bln (x.getD (x.length-1) 0))=n:=⟨_,rfl⟩
  have hnlt:val x<2 ^ n:=by
   rw [<-hn];split
   .rename_i h0;rw [List.eq_nil_of_length_eq_zero h0];simp [val]
   .exact Jbl hx ‹_›
  have hnb:n<=32*x.length:=by
   rw [<-hn];split
   .omega
   .have:=kbb (k:=32) (n:=x.getD (x.length-1) 0) (ub hx _);omega
  have hy1:0<val y:=by
   have:=wd hny hy0;omega
  rw [hn];refine⟨by omega,?_⟩
  refine wa (λp:Nat×List Nat×List Nat=>⟨mkV [(0,wsA x),(1,wsA y),(6,.one (.own 13 1 1 0 x.length)),(7,.one (.own 17 1 1 0 (y.length+1))),(8,.one (.lit (.int .i64 ((p.1:Int)-1))))],mkH [(13,⟨1,some ⟨p.2.1.map wc,1,true⟩⟩),(17,⟨1,some ⟨p.2.2.map wc,1,true⟩⟩)]⟩)
   (λp=>p.1<=n/\WL p.2.1/\p.2.1.length=x.length/\val p.2.1=val x / 2 ^ p.1 / val y*2 ^ p.1/\WL p.2.2/\p.2.2.length=y.length+1/\val p.2.2=val x / 2 ^ p.1 % val y) (λp=>p.1) (n,List.replicate x.length 0,List.replicate (y.length+1) 0) ?_ ?_ ?_
  .exact Qa (by simp [okS,okV,okC,okL,okH,okB,okE,Za,ja,za,Ja,wsA,ws]) ⟨Jb (by simp),Jb (by simp),trivial⟩
  .simp [Za7,Xag,Nat.div_eq_of_lt hnlt]
  .rintro⟨n',q,r⟩ ⟨hn',hq,hql,hqv,hr,hrl,hrv⟩;simp only at hn' hq hql hqv hr hrl hrv;cases n' with
   | zero=>
    have e:((0:Nat):Int)-1 = -1:=rfl;have e' : ((0:Int)<=-1)=False:=by simp
    simp only [go_sem,hb,hcm,hk,ht,e,e',hql,hrl];simp only [Nat.pow_zero,Nat.div_one,Nat.mul_one]at hqv hrv;rw [hqv,hrv];exact⟨hq,by omega,hr,by omega,hK⟩
   | succ i=>
    have e:((i+1:Nat):Int)-1=(i:Int):=by omega
    have e1:(i:Int) / 32=((i / 32:Nat):Int):=rfl;have e2:(i:Int) % 32=((i % 32:Nat):Int):=rfl;have e3:=Qbw hx i;have hi32:i / 32<x.length:=by omega
    have hib:i % 32<32:=Nat.mod_lt _ (by omega)
    simp only [go_sem,hb,hcm,hk,ht,e,e1,e2,e3,Zl,hql,hrl];have g1:=ub hx (i / 32);have g2:x.getD (i / 32) 0 / 2 ^ (i % 32)<2 ^ IntKind.u32.bits:=Nat.lt_of_le_of_lt (Nat.div_le_self _ _) g1;have g3:((i % 32:Nat):Int)<=IntKind.u32.bits:=by have:IntKind.u32.bits=32:=rfl;omega
    refine⟨by decide,by omega,hi32,by decide,by omega,g2,λhyl'=>?_⟩
    generalize hbit:val x / 2 ^ i % 2=bit;have hbit1:bit<=1:=by omega
    refine wa (λp:List Nat×Nat=>⟨mkV [(0,wsA x),(1,wsA y),(6,.one (.own 13 1 1 0 x.length)),(7,.one (.own 17 1 1 0 (y.length+1))),(8,.one (.lit (.int .i64 i))),(9,.one (.lit (.int .u32 p.2))),(35,.one (.lit (.int .i64 (y.length+1:Nat)))),(36,.one (.lit (.int .i64 p.1.length)))],
      mkH [(13,⟨1,some ⟨q.map wc,1,true⟩⟩),(17,⟨1,some ⟨(p.1++r.drop p.1.length).map wc,1,true⟩⟩)]⟩)
     (λp=>p.1.length<=r.length/\WL p.1/\p.2<=1/\val p.1+4294967296 ^ p.1.length*p.2=2*val (r.take p.1.length)+bit) (λp=>r.length-p.1.length) ([],bit) ?_ ?_ ?_
    .exact Qa (by simp [okS,okV,okC,okL,okH,okB,okE,Za,ja,za,Ja,wsA,ws]) ⟨Jb rfl,Jb (by simp),trivial⟩
    .simp [vc,val,hbit1]
    .rintro⟨o,c⟩ ⟨hol,ho,hc1,hov⟩;simp only at hol ho hc1 hov;by_cases hlt:o.length<y.length+1
     .have g4:=ub hr o.length;simp only [go_sem,hb,hcm,hk,ht,Ubd hol,hrl,hlt,WV,not_true,QbA hc1,jbl _ (show o.length<r.length by omega)]
      refine⟨⟨rfl,by decide,by decide⟩,⟨rfl,Nat.mod_lt _ (by omega),by omega⟩,⟨by decide,by decide⟩,by omega,(o++[r.getD o.length 0*2 % 4294967296+c],r.getD o.length 0 / 2147483648),Qa (by simp [okS,okV,okC,okL,okH,okB,okE,Za,ja,za,Ja,wsA,ws]) ⟨Jb rfl,Jb rfl,trivial⟩,⟨by simp;omega,Ve.2 ⟨ho,Jc.2 ⟨by omega,vc⟩⟩,by simp only;omega,?_⟩,by simp;omega⟩
      simp only [List.length_append,List.length_cons,List.length_nil,Nat.zero_add,Ub,jc,qi,Wm,Nat.mul_zero,Nat.add_zero,Nat.pow_succ];exact wa2 hov g4
     .have hoe:o.length=y.length+1:=by omega
      have hd:r.drop (y.length+1)=[]:=List.drop_of_length_le (by omega)
      simp only [go_sem,hb,hcm,hk,ht,hd,hoe,Nat.lt_irrefl,e1,e2];have hrlt:val r<val y:=by rw [hrv];exact Nat.mod_lt _ hy1
      have hylt:=uk hy;rw [List.take_of_length_le (by omega),hoe,Nat.pow_succ]at hov
      have hc0:c=0:=by
       rcases Nat.eq_zero_or_pos c with h | h
       .exact h
       .exfalso;have:4294967296 ^ y.length*4294967296*1<=4294967296 ^ y.length*4294967296*c:=Nat.mul_le_mul_left _ h;omega
      subst hc0;rw [Nat.mul_zero,Nat.add_zero]at hov;refine⟨ho,hy,λh=>?_,λh=>?_⟩
      .have hge:=JG.1 h;have hs:=jaP hy1 hbit hqv hrv (by omega)
       simp only [qw,kG];refine⟨hy,o,[],hoe.symm,by simp [za],ho,by omega,hge,?_⟩
       have hp32:2 ^ (i % 32)<4294967296:=Nat.lt_of_lt_of_le (Nat.pow_lt_pow_right (by omega) hib) (by decide)
       have e4:(1*2 ^ (i % 32) % 4294967296:Int)=((2 ^ (i % 32):Nat):Int):=by
        rw [Int.one_mul,show((2:Int) ^ (i % 32))=((2 ^ (i % 32):Nat):Int) by rw [Int.natCast_pow];rfl]
        generalize 2 ^ (i % 32)=w at hp32 ⊢;omega
       have e5:=kbg hib (Za1 hq hqv);have g5:=ub hq (i / 32);simp only [go_sem,e1,e2,hql,Ya,hoe,e4,e5];have hsv:=VS q (i / 32) (q.getD (i / 32) 0+2 ^ (i % 32)) (by omega)
       have hpp:=XI i;rw [Nat.mul_add]at hsv;have hv2:val (q.set (i / 32) (q.getD (i / 32) 0+2 ^ (i % 32)))=val q+2 ^ i:=by omega
       have hsum:q.getD (i / 32) 0+2 ^ (i % 32)<4294967296:=by
        rw [<-e5];exact Nat.or_lt_two_pow (n:=32) g5 hp32
       refine⟨by decide,by omega,hi32,hi32,by decide,⟨rfl,by decide,by omega⟩,⟨rfl,g5,hp32⟩,hi32,hi32,⟨by omega,by omega⟩,(i,q.set (i / 32) (q.getD (i / 32) 0+2 ^ (i % 32)),dig (y.length+1) (val o-val y)),Qa (by simp [okS,okV,okC,okL,okH,okB,okE,Za,ja,za,Ja,wsA,ws]) ⟨Jb rfl,Jb rfl,trivial⟩,⟨by simp only;omega,zaV hq _ hsum,by simp [hql],?_,yl _ _,Ya _ _,?_⟩,by simp only;omega⟩
       .simp only;rw [hv2];exact hs.1
       .simp only;rw [kk,hov,hs.2,Nat.mod_eq_of_lt];have:=Nat.mod_lt (val x / 2 ^ i) hy1;have h6:(4294967296:Nat) ^ y.length<=4294967296 ^ (y.length+1):=Nat.pow_le_pow_right (by omega) (by omega)
        omega
      .have hlt2:=mt JG.2 h;have hs:=waY hy1 hbit hqv hrv (by omega)
       refine⟨by omega,(i,q,o),Qa (by simp [okS,okV,okC,okL,okH,okB,okE,Za,ja,za,Ja,wsA,ws]) ⟨Jb rfl,Jb rfl,trivial⟩,⟨by simp only;omega,hq,hql,hs.1,ho,hoe,by simp only;rw [hov];exact hs.2⟩,by simp only;omega⟩
end Go.Abs
end
section
namespace Go.Abs
open Go.Num
variable {P:Program} {Γ:Nat->Spec}
def vh(f0:Nat):AC:=(.seq (.ops false [.u 4 (.alloc [(.lit (.bool false)),.emp])])
 (.fg [0,1,4] (.seq (.ops false [.m 5 (.t 1),.u 6 (.callf f0 [(.t 5)]),.m 1 (.t 6)])
 (.fg [0,1,4] (.seq (.seq (.ops false [.m 7 (.t 1),.u 8 (.len (.t 7)),.u 9 (.bin .eql (.t 8) (.i 0))])
 (.fg [0,1,4,9] (.cond (.t 9) (.seq (.ops false [.u 10 (.build [.z [(.lit (.bool false)),.emp]]),.n (.st none 2 (.t 4) (.t 10))])
 .ret) .skip)))
 (.fg [0,1,4] (.seq (.ops false [.m 11 (.t 0),.m 12 (.t 1),.u 13 (.build [.x 1 (.t 11),.x 1 (.t 12)]),.n (.st none 2 (.t 4) (.t 13))])
 .ret)))))))
def Zh(f0 f1:Nat):AC:=(.seq (.ops false [.u 1 (.box 2 (.t 0)),.m 2 (.i 0)])
 (.fg [1] (.seq (.seq (.ops false [.u 3 (.ld none 2 true (.t 1)),.u 4 (.call f0 [(.t 3)]),.u 5 (.len (.t 4)),.u 6 (.bin .eql (.t 5) (.i 0))])
 (.fg [1,6] (.cond (.t 6) (.seq (.ops false [.m 2 (.i 0)])
 .ret) .skip)))
 (.fg [1] (.seq (.seq (.ops false [.u 7 (.ld none 2 true (.t 1)),.u 8 (.call f1 [(.t 7)])])
 (.fg [8] (.cond (.t 8) (.seq (.ops false [.m 2 (.i (-1))])
 .ret) .skip)))
 (.fg [] (.seq (.ops false [.m 2 (.i 1)])
 .ret)))))))
def xi(f0 f1 f2:Nat):AC:=(.seq (.ops false [.u 2 (.box 2 (.t 0)),.u 3 (.box 2 (.t 1)),.u 4 (.alloc [(.lit (.bool false)),.emp])])
 (.fg [2,3,4] (.seq (.ops true [.u 5 (.ld none 2 true (.t 2)),.u 6 (.call f0 [(.t 5)]),.u 7 (.ld none 2 true (.t 3)),.u 8 (.call f0 [(.t 7)]),.u 9 (.call f1 [(.t 6),(.t 8)]),.u 10 (.call f2 [.fa,(.t 9)]),.n (.st none 2 (.t 4) (.t 10))])
 .ret)))
def Ui(f0 f1 f2 f3 f4 f5 f6:Nat):AC:=(.seq (.ops false [.u 2 (.box 2 (.t 0)),.u 3 (.box 2 (.t 1)),.u 4 (.alloc [(.lit (.bool false)),.emp]),.u 5 (.alloc [(.lit (.bool false)),.emp]),.m 6 (.i 0)])
 (.fg [2,3,4,5] (.seq (.seq (.ops false [.u 9 (.ld none 2 true (.t 3)),.u 10 (.call f0 [(.t 9)]),.u 11 (.bin .eql (.t 10) (.i 0))])
 (.fg [2,3,4,5,11] (.cond (.t 11) (.seq (.ops false [.u 12 (.build [.z [(.lit (.bool false)),.emp]]),.u 13 (.build [.z [(.lit (.bool false)),.emp]]),.n (.st none 2 (.t 4) (.t 12)),.n (.st none 2 (.t 5) (.t 13)),.m 6 (.i 8)])
 .ret) .skip)))
 (.fg [2,3,4,5] (.seq (.ops true [.u 15 (.ld none 2 true (.t 2)),.u 16 (.call f1 [(.t 15)]),.u 17 (.ld none 2 true (.t 3)),.u 18 (.call f1 [(.t 17)]),.u 19 (.call f2 [(.t 16),(.t 18)]),.m 14 (.t 19),.u 20 (.ext 0 (.t 14)),.u 21 (.ext 1 (.t 14)),.m 7 (.t 20),.m 8 (.t 21)])
 (.fg [2,3,4,5,7,8] (.seq (.seq (.ops false [.u 22 (.ld none 2 true (.t 2)),.u 23 (.call f3 [(.t 22)]),.m 24 (.t 23),.w 25 24 true (.mv (.t 8)),.w 26 24 true (.len (.t 25)),.w 27 24 true (.bin .gtr (.t 26) (.i 0)),.u 28 (.pick (.t 24) (.t 27) .fa)])
 (.fg [2,3,4,5,7,8,28] (.cond (.t 28) (.ops true [.m 29 (.t 7),.u 30 (.row 1 [[.x 1 (.c (.one (.lit (.int .u32 1))))]]),.u 31 (.call f4 [(.t 29),(.t 30)]),.u 32 (.ld none 2 true (.t 3)),.u 33 (.call f1 [(.t 32)]),.m 34 (.t 8),.u 35 (.call f5 [(.t 33),(.t 34)]),.m 7 (.t 31),.m 8 (.t 35)]) .skip)))
 (.fg [2,3,4,5,7,8] (.seq (.ops true [.u 36 (.ld none 2 true (.t 2)),.u 37 (.call f3 [(.t 36)]),.u 38 (.ld none 2 true (.t 3)),.u 39 (.call f3 [(.t 38)]),.u 40 (.binb .neq (.t 37) (.t 39)),.m 41 (.t 7),.u 42 (.call f6 [(.t 40),(.t 41)]),.m 43 (.t 8),.u 44 (.call f6 [.fa,(.t 43)]),.n (.st none 2 (.t 4) (.t 42)),.n (.st none 2 (.t 5) (.t 44)),.m 6 (.i 0)])
 .ret)))))))))
theorem Qab(hΓ:Holds P Γ){f ft:Nat}(ht:Γ ft=.fresh 1 uv)(hc:check P f=some (14,(vh ft).strip,[.cell 4 2 true])):Sound P f (.dat false vf):=by
 refine va hc xP hΓ (λargs K hcl hfi hG=>?_);match args,hG with
 | [a,m],hG=>
  obtain⟨b,rfl,hG⟩:=Zw hG;obtain⟨l,rfl,hl,hlen,hK⟩:=hG;refine⟨by simp,?_⟩
  simp only [go_sem,vh,ht];refine⟨hl,hlen,λ_=>⟨λh=>?_,λh=>?_⟩⟩
  .have h0:val l=0:=Wv.1 h;have e:zcan (sg b (val l))=zcan 0:=by rw [h0];unfold sg;split <;> rfl
   rw [e]at hK;have e2:(zcan 0)=(false,[]):=by simp [zcan,yb]
   rw [e2]at hK;exact hK
  .rw [<-Yan]at hK;have e:decide (0<(digs (val l)).length)=true:=by simp only [decide_eq_true_eq];omega
   rw [e,Bool.and_true]at hK;exact hK
theorem wT(hΓ:Holds P Γ){f fm fn:Nat}(hm:Γ fm=.dat false Zj)(hn:Γ fn=.dat true Jg)(hc:check P f=some (9,(Zh fm fn).strip,[.tmp 2])):Sound P f (.dat true qh):=by
 refine va hc uQ hΓ (λargs K hcl hfi hG=>?_);match args,hG with
 | [a],hG=>
  obtain⟨w,rfl,hw,hK⟩:=hG;refine⟨by simp,?_⟩
  simp only [go_sem,Zh,hm,hn,hw];intro _;refine⟨λh=>?_,λh=>⟨λhb=>?_,λhb=>?_⟩⟩
  .have h0:zv w=0:=Vv.1 h;rw [h0]at hK;exact hK
  .rw [Int.sign_eq_neg_one_of_neg hb]at hK;exact hK
  .have h0:zv w≠0:=λe=>h (Vv.2 e);rw [Int.sign_eq_one_of_pos (by omega)]at hK;exact hK
theorem X6(hΓ:Holds P Γ){f fm fg fw:Nat}(hm:Γ fm=.dat false Zj)(hg:Γ fg=.dat false zx)(hw' : Γ fw=.dat false vf)(hc:check P f=some (11,(xi fm fg fw).strip,[.cell 4 2 true])):Sound P f (.dat false yt):=by
 refine va hc U6 hΓ (λargs K hcl hfi hG=>?_);match args,hG with
 | [a,b],hG=>
  obtain⟨v,rfl,hv,w,rfl,hw,hz,hz',hK⟩:=hG;refine⟨by simp,?_⟩
  simp only [go_sem,xi,hm,hg,hw',hw,hv,qb];have hle:(digs ((zv v).natAbs.gcd (zv w).natAbs)).length<=17179869184:=by
   rcases Nat.eq_zero_or_pos (zv v).natAbs with h | h
   .rw [h,Nat.gcd_zero_left];exact hz'
   .exact Nat.le_trans (Xa (Nat.le_of_dvd h (Nat.gcd_dvd_left _ _))) hz
  exact⟨ua _,ua _,hz,hz',ua _,by omega,hK⟩
theorem xX(hΓ:Holds P Γ){f fs fn fm fp fw fd fl:Nat}(hs:Γ fs=.dat true qh)(hn:Γ fn=.dat true Jg)(hm:Γ fm=.dat false Zj)(hp:Γ fp=.dat false qt)(hw' : Γ fw=.dat false vf)(hd:Γ fd=.dat false Xg)(hl:Γ fl=.dat false Yt)(hc:check P f=some (45,(Ui fs fm fd fn fp fl fw).strip,[.cell 4 2 true,.cell 5 2 true,.tmp 6])):Sound P f (.dat false Jq):=by
 refine va hc zah hΓ (λargs K hcl hfi hG=>?_);match args,hG with
 | [a,b],hG=>
  obtain⟨v,rfl,hv,w,rfl,hw,hz,hz',h0,hK⟩:=hG;refine⟨by simp,?_⟩
  simp only [go_sem,Ui,hs,hn,hm,hp,hw',hd,hl,hw,hv];simp only [qb];have hne:¬(digs (zv w).natAbs).length=0:=λe=>h0 (Vv.1 e);refine⟨λe=>absurd (Int.sign_eq_zero_iff_zero.1 e) h0,λ_=>⟨ua _,ua _,Jo _,Jo _,λe=>hne (by rw [e];rfl),hz,hz',?_⟩⟩
  have hq:(digs ((zv v).natAbs / (zv w).natAbs)).length<=17179869184:=Nat.le_trans (Xa (Nat.div_le_self _ _)) hz;have hr:(digs ((zv v).natAbs % (zv w).natAbs)).length<=17179869184:=Nat.le_trans (Xa (Nat.mod_le _ _)) hz;have hz'' : (digs (zv w).natAbs).length<=17179869184:=hz';have hlt:=Nat.mod_lt (zv v).natAbs (show 0<(zv w).natAbs by omega)
  have hfin:(0<=zv v∨(zv v).natAbs % (zv w).natAbs=0)->K (AV.tup
    [AV.agg [zb (zcan (sg (!(decide (zv v<0) == decide (zv w<0))) ((zv v).natAbs / (zv w).natAbs))),zm (zcan (sg (!(decide (zv v<0) == decide (zv w<0))) ((zv v).natAbs / (zv w).natAbs)))],
     AV.agg [zb (zcan (sg false ((zv v).natAbs % (zv w).natAbs))),zm (zcan (sg false ((zv v).natAbs % (zv w).natAbs)))],AV.one (C.lit (Value.int IntKind.i64 0))]):=by
   intro h;obtain⟨e1,e2⟩:=Jat h0 h;have e1' : sg (!(decide (zv v<0) == decide (zv w<0))) ((zv v).natAbs / (zv w).natAbs)=zv v / zv w:=e1;have e2' : sg false ((zv v).natAbs % (zv w).natAbs)=zv v % zv w:=e2;rw [e1',e2'];exact hK
  refine⟨λhneg _=>⟨λhp=>⟨ua _,(Waq _ 1).mpr ⟨Jc.2 ⟨by decide,vc⟩,hq,by decide,ua _,ua _,by omega,by omega,ua _,?_,ua _,?_,?_⟩⟩,λhp=>⟨ua _,by omega,ua _,by omega,hfin (.inr ?_)⟩⟩,λhneg=>⟨ua _,by omega,ua _,by omega,hfin (.inl (by omega))⟩⟩
  .have hv1:val [1]=1:=rfl;rw [hv1];have h1:zs 1<=2:=uR (by decide)
   have:=qH (((zv v).natAbs / (zv w).natAbs:Nat):Int) 1;have e:(((zv v).natAbs / (zv w).natAbs:Nat):Int)+1=(((zv v).natAbs / (zv w).natAbs+1:Nat):Int):=by omega
   rw [e]at this;have h3:zs (((zv v).natAbs / (zv w).natAbs:Nat):Int)=(digs ((zv v).natAbs / (zv w).natAbs)).length:=rfl;have h4:zs (((zv v).natAbs / (zv w).natAbs+1:Nat):Int)=(digs ((zv v).natAbs / (zv w).natAbs+1)).length:=rfl;rw [h3,h4]at this;omega
  .have:=Xa (Nat.sub_le (zv w).natAbs ((zv v).natAbs % (zv w).natAbs));omega
  .have hv1:val [1]=1:=rfl;rw [hv1];have hne' : (zv v).natAbs % (zv w).natAbs≠0:=by
    intro e;rw [e,yb]at hp;simp at hp
   obtain⟨e1,e2⟩:=kas h0 hneg hne';have e1' : sg (!(decide (zv v<0) == decide (zv w<0))) ((zv v).natAbs / (zv w).natAbs+1)=zv v / zv w:=e1;have e2' : sg false ((zv w).natAbs-(zv v).natAbs % (zv w).natAbs)=zv v % zv w:=e2;rw [e1',e2'];exact hK
  .have:digs ((zv v).natAbs % (zv w).natAbs)=[]:=List.eq_nil_of_length_eq_zero (by omega)
   exact yf.1 this
end Go.Abs
end
