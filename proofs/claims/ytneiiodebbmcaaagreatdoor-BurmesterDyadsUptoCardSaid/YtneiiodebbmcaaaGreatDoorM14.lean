/-
  Parts of the proof, merged: PolyT, PolyV, RefB, RefC, RefD, RefE, RefF.
-/
import Derived.Test.YtneiiodebbmcaaaGreatDoorM13
set_option linter.unusedVariables false
set_option linter.unusedSimpArgs false
set_option maxRecDepth 100000
section
namespace Go.Abs
open Go.Num
variable {P:Program} {Γ:Nat->Spec}
set_option maxHeartbeats 4000000 in
theorem VaJ(hΓ:Holds P Γ){f fr fs fc N:Nat}(hro:Γ fr=.own (XF fc))(hs:Γ fs=.own (zj fc N))(hcm:Γ fc=.dat true uy)(hc:check P f=some (220,(vb fr fs).strip,[])):Sound P f (.own (zj fc (N+1))):=by
 refine ug hc hΓ (λd args h K hG=>?_);unfold zj at hG;split at hG
 case h_2=>exact hG.elim
 rename_i r ver len x1 x2 x3 c;obtain⟨U,A,B,V,rfl,hx1,hx2,hx3,hA0,hB0,hN,hlen,hlen2,hroom,hoA,hoB,hsA,hsB,hr,hK⟩:=hG;obtain⟨D,hD⟩:∃D,D=U++A++B++V:=⟨_,rfl⟩;rw [<-hD]at hr;have hDl:D.length=U.length+A.length+B.length+V.length:=by rw [hD];simp [Nat.add_assoc]
 have hAp:=List.length_pos_iff.2 hA0;have hBp:=List.length_pos_iff.2 hB0;have gA:∀k i,k=U.length+i->i<A.length->D.getD k mo0=A.getD i mo0:=by
  intro k i h1 h2;rw [hD,List.append_assoc (U++A)];exact getLM U A (B++V) h1 h2
 have gB:∀k i,k=U.length+A.length+i->i<B.length->D.getD k mo0=B.getD i mo0:=by
  intro k i h1 h2;rw [hD];exact getLM (U++A) B V (by rw [List.length_append];exact h1) h2
 have okD:∀k,U.length<=k->k<U.length+A.length+B.length->okM (D.getD k mo0):=by
  intro k h1 h2;by_cases h3:k<U.length+A.length
  .rw [gA k (k-U.length) (by omega) (by omega)]
   exact Zas hoA (by omega)
  .rw [gB k (k-U.length-A.length) (by omega) (by omega)]
   exact Zas hoB (by omega)
 refine⟨[r],[⟨D.map mC,5,true⟩],[.one (.own 1048576 ver 5 0 len),.one (.lit (.int .i64 x1)),.one (.lit (.int .i64 x2)),.one (.lit (.int .i64 x3)),fnV fc],by simp,rfl,?_,?_,?_,λhfi=>⟨by simp,?_⟩⟩
 .intro i r' b h1 h2;cases i with
  | zero=>simp only [List.getElem?_cons_zero,Option.some.injEq]at h1 h2;subst h1 h2;exact⟨by rw [hr],rfl,of_eq_true (yg _)⟩
  | succ i=>simp at h1
 .simp [exA,exC,exB,nameOf,pinA,fnV]
 .intro a ha;simp only [List.mem_cons,List.not_mem_nil,or_false]at ha;rcases ha with rfl | rfl | rfl | rfl | rfl
  .simp [pasA,pasC,pasB,nameOf,pinA]
  .exact .lit _
  .exact .lit _
  .exact .lit _
  .exact .lit _
 by_cases c1:A.length=1
 .have n1:x2-x1=1:=by omega
  simp only [go_sem,vb,hr,fnV,hro,hs,hcm,n1];obtain⟨x,hx⟩:∃x,D.getD U.length mo0=x:=⟨_,rfl⟩;refine⟨by omega,?_⟩
  refine Ya (λp:Nat×Nat=>⟨mkV [(0,.one (.own 1048576 ver 5 0 len)),(1,.one (.lit (.int .i64 x1))),(4,.one (.lit (.func (.func fc) ⟨[]⟩ ⟨[]⟩))),(10,.one (.lit (.int .i64 p.1))),(11,.one (.lit (.int .i64 p.2)))],mkH [(1048576,⟨ver,some ⟨D.map mC,5,true⟩⟩)]⟩)
   (λp=>x2<=p.1/\p.1<=p.2/\p.2<=x3/\(x2<p.1->kM (D.getD (p.1-1) mo0)<=kM x)/\(p.2<x3->kM x<=kM (D.getD p.2 mo0))) (λp=>p.2-p.1) (x2.toNat,x3.toNat) ?_ ?_ ?_
  .exact Qa (by simp [okS,okV,okC,okL,okH,okB,okE,ja,va,Za,Va,wsA,ws];omega) (kk rfl)
  .exact⟨by simp only;omega,by simp only;omega,by simp only;omega,λh=>by simp only at h;omega,λh=>by simp only at h;omega⟩
  .rintro⟨i,j⟩ ⟨h1,h2,h3,h4,h5⟩;simp only at h1 h2 h3 h4 h5;by_cases hij:i<j
   .have hij' : (i:Int)<(j:Int):=by omega
    obtain⟨k,hk⟩:∃k,k=(i+j) / 2:=⟨_,rfl⟩;have hk' : (i:Int)+(j:Int)=((i+j:Nat):Int):=by omega
    have ok1:=okD k (by omega) (by omega)
    have ok2:=okD U.length (by omega) (by omega)
    rw [hx]at ok2;obtain⟨y,hy⟩:∃y,D.getD k mo0=y:=⟨_,rfl⟩;rw [hy]at ok1;have hkk:(i+j) % 18446744073709551616 / 2=k:=by omega
    simp only [go_sem,hr,hro,hs,hcm,hij',hk',hkk,hx1,hx,hy,ok1.1,ok1.2,ok2.1,ok2.2,wO];refine⟨by omega,by omega,by omega,by omega,by omega,by omega,by omega,λhlt=>⟨by omega,(k+1,j),Qa (by simp [okS,okV,okC,okL,okH,okB,okE,ja,va,Za,Va,wsA,ws]) (kk rfl),⟨by simp only;omega,by simp only;omega,by simp only;omega,λ_=>?_,h5⟩,by simp only;omega⟩,λhge=>⟨(i,k),Qa (by simp [okS,okV,okC,okL,okH,okB,okE,ja,va,Za,Va,wsA,ws]) (kk rfl),⟨by simp only;omega,by simp only;omega,by simp only;omega,h4,λ_=>?_⟩,by simp only;omega⟩⟩
    .simp only [Nat.add_sub_cancel];rw [hy];exact Nat.le_of_lt hlt
    .simp only;rw [hy];exact Nat.not_lt.1 hge
   .obtain rfl:i=j:=by omega
    have hij' : ¬(i:Int)<(i:Int):=by omega
    simp only [go_sem,hr,hro,hs,hcm,hij'];obtain⟨t,ht⟩:∃t,t=i-(U.length+1):=⟨_,rfl⟩;obtain⟨B1,hB1⟩:∃B1,B1=B.take t:=⟨_,rfl⟩;obtain⟨B2,hB2⟩:∃B2,B2=B.drop t:=⟨_,rfl⟩;have hB12:B=B1++B2:=by rw [hB1,hB2,List.take_append_drop]
    have lB1:B1.length=t:=by rw [hB1,List.length_take];omega
    have hAx:A=[x]:=by
     match A,c1 with
     | [z],_=>
      have:=gA U.length 0 (by omega) (by simp)
      rw [hx]at this;simpa using this.symm
    refine Ya (λp:List Mo×List Mo=>⟨mkV [(0,.one (.own 1048576 ver 5 0 len)),(10,.one (.lit (.int .i64 i))),(13,.one (.lit (.int .i64 (U.length+p.1.length:Nat))))],mkH [(1048576,⟨ver,some ⟨(U++(p.1++x::p.2)++B2++V).map mC,5,true⟩⟩)]⟩)
     (λp=>B1=p.1++p.2) (λp=>p.2.length) ([],B1) ?_ ?_ ?_
    .exact Qa (by simp [okS,okV,okC,okL,okH,okB,okE,ja,va,Za,Va,wsA,ws];omega) (kk (by rw [hD,hAx,hB12];simp))
    .rfl
    .rintro⟨V1,V2⟩ hV;simp only at hV;have lV:=congrArg List.length hV;rw [List.length_append]at lV;have n2:(i:Int)-1=((U.length+t:Nat):Int):=by omega
     rcases V2 with _ | ⟨y,V2⟩
     .have hlt:¬((U.length+V1.length:Nat):Int)<((U.length+t:Nat):Int):=by simp only [List.length_nil]at lV;omega
      simp only [go_sem,hr,n2,hlt];rw [List.append_nil]at hV;subst hV;have hKK:=hK (B1++x::B2) ?_ ?_
      .have e:U++(B1++[x])++B2++V=U++(B1++x::B2)++V:=by simp
       rw [e];exact⟨by omega,hKK⟩
      .rw [hAx,hB12];show(x::(B1++B2)).Perm _;exact List.perm_middle.symm
      .refine qz (by rw [hB1];exact xA (B:=B.drop t) (by rw [List.take_append_drop];exact hsB)) (List.pairwise_cons.2 ⟨?_,by rw [hB2];exact Zw (A:=B.take t) (by rw [List.take_append_drop];exact hsB)⟩) ?_
       .intro z hz;rw [hB2]at hz;by_cases htl:t<B.length
        .refine XI hsB htl ?_ z hz;rw [<-gB i t (by omega) htl]
         exact h5 (by omega)
        .rw [List.drop_of_length_le (by omega)]at hz;simp at hz
       .have hle:∀z∈B1,kM z<=kM x:=by
         intro z hz;by_cases ht0:0<t
         .rw [hB1]at hz;refine QJ hsB ht0 (by omega) ?_ z hz
          rw [<-gB (i-1) (t-1) (by omega) (by omega)]
          exact h4 (by omega)
         .have:B1=[]:=List.length_eq_zero_iff.1 (by omega)
          rw [this]at hz;simp at hz
        intro z hz w hw;rcases List.mem_cons.1 hw with rfl | hw
        .exact hle z hz
        .rw [hB12]at hsB;exact Qw hsB z hz w hw
     .rw [List.length_cons]at lV;have hlt:((U.length+V1.length:Nat):Int)<((U.length+t:Nat):Int):=by omega
      obtain⟨E,hE⟩:∃E,E=U++(V1++x::y::V2)++B2++V:=⟨_,rfl⟩;have lE:E.length=D.length:=by
       rw [hE,hDl,c1];have:=congrArg List.length hB12;simp only [List.length_append,List.length_cons]at this ⊢;omega
      obtain⟨k,hk⟩:∃k,k=U.length+V1.length:=⟨_,rfl⟩;have e1:E=(U++V1)++x::(y::V2++B2++V):=by rw [hE];simp
      have e2:E=(U++V1++[x])++y::(V2++B2++V):=by rw [hE];simp
      have g1:E.getD k mo0=x:=by rw [e1];exact getMM _ _ _ _ (by simp;omega)
      have g2:E.getD (k+1) mo0=y:=by rw [e2];exact getMM _ _ _ _ (by simp;omega)
      have b1:k<len:=by omega
      have b2:k+1<len:=by omega
      have q1:k<E.length:=by omega
      have q2:k+1<E.length:=by omega
      have s1:(E.set k y).set (k+1) x=U++((V1++[y])++x::V2)++B2++V:=by
       have:E.set k y=(U++V1)++y::(y::V2++B2++V):=by rw [e1];exact setMM _ _ _ _ (by simp;omega)
       rw [this];have:(U++V1)++y::(y::V2++B2++V)=(U++V1++[y])++y::(V2++B2++V):=by simp
       rw [this,setMM _ _ _ _ (by simp;omega)]
       simp
      simp only [<-hE,<-hk]at hlt ⊢;simp only [go_sem,hr,n2,hlt,g1,g2,b1,b2,q1,q2,s1,List.length_set];refine⟨by omega,by omega,by omega,by omega,(V1++[y],V2),Qa (by simp [okS,okV,okC,okL,okH,okB,okE,ja,va,Za,Va,wsA,ws];omega) (kk rfl),by simp only;rw [hV];simp,by simp only;omega⟩
 by_cases c2:B.length=1
 .have n1:¬x2-x1=1:=by omega
  have n2:x3-x2=1:=by omega
  obtain⟨m0,hm0⟩:∃m0,m0=U.length+A.length:=⟨_,rfl⟩;have hx2' : x2=(m0:Int):=by omega
  simp only [go_sem,vb,hr,fnV,hro,hs,hcm,n1,n2];obtain⟨x,hx⟩:∃x,D.getD m0 mo0=x:=⟨_,rfl⟩;refine⟨by omega,by omega,?_⟩
  refine Ya (λp:Nat×Nat=>⟨mkV [(0,.one (.own 1048576 ver 5 0 len)),(2,.one (.lit (.int .i64 x2))),(4,.one (.lit (.func (.func fc) ⟨[]⟩ ⟨[]⟩))),(14,.one (.lit (.int .i64 p.1))),(15,.one (.lit (.int .i64 p.2)))],mkH [(1048576,⟨ver,some ⟨D.map mC,5,true⟩⟩)]⟩)
   (λp=>x1<=p.1/\p.1<=p.2/\p.2<=x2/\(x1<p.1->kM (D.getD (p.1-1) mo0)<=kM x)/\(p.2<x2->kM x<=kM (D.getD p.2 mo0))) (λp=>p.2-p.1) (x1.toNat,x2.toNat) ?_ ?_ ?_
  .exact Qa (by simp [okS,okV,okC,okL,okH,okB,okE,ja,va,Za,Va,wsA,ws];omega) (kk rfl)
  .exact⟨by simp only;omega,by simp only;omega,by simp only;omega,λh=>by simp only at h;omega,λh=>by simp only at h;omega⟩
  .rintro⟨i,j⟩ ⟨h1,h2,h3,h4,h5⟩;simp only at h1 h2 h3 h4 h5;by_cases hij:i<j
   .have hij' : (i:Int)<(j:Int):=by omega
    obtain⟨k,hk⟩:∃k,k=(i+j) / 2:=⟨_,rfl⟩;have hk' : (i:Int)+(j:Int)=((i+j:Nat):Int):=by omega
    have ok1:=okD k (by omega) (by omega)
    have ok2:=okD m0 (by omega) (by omega)
    rw [hx]at ok2;obtain⟨y,hy⟩:∃y,D.getD k mo0=y:=⟨_,rfl⟩;rw [hy]at ok1;have hkk:(i+j) % 18446744073709551616 / 2=k:=by omega
    simp only [go_sem,hr,hro,hs,hcm,hij',hk',hkk,hx2',hx,hy,ok1.1,ok1.2,ok2.1,ok2.2,wO];refine⟨by omega,by omega,by omega,by omega,by omega,by omega,by omega,λhlt=>⟨(i,k),Qa (by simp [okS,okV,okC,okL,okH,okB,okE,ja,va,Za,Va,wsA,ws]) (kk rfl),⟨by simp only;omega,by simp only;omega,by simp only;omega,h4,λ_=>?_⟩,by simp only;omega⟩,λhge=>⟨by omega,(k+1,j),Qa (by simp [okS,okV,okC,okL,okH,okB,okE,ja,va,Za,Va,wsA,ws]) (kk rfl),⟨by simp only;omega,by simp only;omega,by simp only;omega,λ_=>?_,λh=>h5 (by simp only at h;omega)⟩,by simp only;omega⟩⟩
    .simp only;rw [hy];exact Nat.le_of_lt hlt
    .simp only [Nat.add_sub_cancel];rw [hy];exact Nat.not_lt.1 hge
   .obtain rfl:i=j:=by omega
    have hij' : ¬(i:Int)<(i:Int):=by omega
    simp only [go_sem,hr,hro,hs,hcm,hij'];obtain⟨t,ht⟩:∃t,t=i-U.length:=⟨_,rfl⟩;obtain⟨A1,hA1⟩:∃A1,A1=A.take t:=⟨_,rfl⟩;obtain⟨A2,hA2⟩:∃A2,A2=A.drop t:=⟨_,rfl⟩;have hA12:A=A1++A2:=by rw [hA1,hA2,List.take_append_drop]
    have lA1:A1.length=t:=by rw [hA1,List.length_take];omega
    have lA12:=congrArg List.length hA12;rw [List.length_append]at lA12;have hBx:B=[x]:=by
     match B,c2 with
     | [z],_=>
      have:=gB m0 0 (by omega) (by simp)
      rw [hx]at this;simpa using this.symm
    refine Ya (λp:List Mo×List Mo=>⟨mkV [(0,.one (.own 1048576 ver 5 0 len)),(14,.one (.lit (.int .i64 i))),(17,.one (.lit (.int .i64 (i+p.1.length:Nat))))],mkH [(1048576,⟨ver,some ⟨(U++A1++(p.1++x::p.2)++V).map mC,5,true⟩⟩)]⟩)
     (λp=>A2=p.1++p.2) (λp=>p.1.length) (A2,[]) ?_ ?_ ?_
    .exact Qa (by simp [okS,okV,okC,okL,okH,okB,okE,ja,va,Za,Va,wsA,ws];omega) (kk (by rw [hD,hBx,hA12];simp))
    .simp
    .rintro⟨V1,V2⟩ hV;simp only at hV;have lV:=congrArg List.length hV;rw [List.length_append]at lV;rcases List.eq_nil_or_concat V1 with rfl | ⟨V1',y,rfl⟩
     .have hlt:¬(i:Int)<((i+([]:List Mo).length:Nat):Int):=by simp
      simp only [go_sem,hr,Nat.add_zero,Nat.lt_irrefl];rw [List.nil_append]at hV;subst hV;have hKK:=hK (A1++x::A2) ?_ ?_
      .have e:U++A1++x::A2++V=U++(A1++x::A2)++V:=by simp
       simp only [List.append_assoc,List.cons_append]at hKK ⊢;exact hKK
      .rw [hBx,hA12,List.append_assoc];refine List.Perm.append_left _ ?_;exact(List.perm_append_comm (l₁:=A2) (l₂:=[x]))
      .refine qz (by rw [hA1];exact xA (B:=A.drop t) (by rw [List.take_append_drop];exact hsA)) (List.pairwise_cons.2 ⟨?_,by rw [hA2];exact Zw (A:=A.take t) (by rw [List.take_append_drop];exact hsA)⟩) ?_
       .intro z hz;rw [hA2]at hz;by_cases htl:t<A.length
        .refine XI hsA htl ?_ z hz;rw [<-gA i t (by omega) htl]
         exact h5 (by omega)
        .rw [List.drop_of_length_le (by omega)]at hz;simp at hz
       .have hle:∀z∈A1,kM z<=kM x:=by
         intro z hz;by_cases ht0:0<t
         .rw [hA1]at hz;refine QJ hsA ht0 (by omega) ?_ z hz
          rw [<-gA (i-1) (t-1) (by omega) (by omega)]
          exact h4 (by omega)
         .have:A1=[]:=List.length_eq_zero_iff.1 (by omega)
          rw [this]at hz;simp at hz
        intro z hz w hw;rcases List.mem_cons.1 hw with rfl | hw
        .exact hle z hz
        .rw [hA12]at hsA;exact Qw hsA z hz w hw
     .rw [List.concat_eq_append]at *
      rw [List.length_append,List.length_singleton]at lV;obtain⟨k,hk⟩:∃k,k=i+V1'.length:=⟨_,rfl⟩;have hk1:i+(V1'++[y]).length=k+1:=by simp;omega
      have hlt:i<k+1:=by omega
      have n3:((k+1:Nat):Int)-1=(k:Int):=by omega
      obtain⟨E,hE⟩:∃E,E=U++A1++(V1'++[y]++x::V2)++V:=⟨_,rfl⟩;have lE:E.length=D.length:=by
       rw [hE,hDl,c2];simp only [List.length_append,List.length_cons,List.length_nil];omega
      have e1:E=(U++A1++V1')++y::(x::V2++V):=by rw [hE];simp
      have e2:E=(U++A1++V1'++[y])++x::(V2++V):=by rw [hE];simp
      have g1:E.getD k mo0=y:=by rw [e1];exact getMM _ _ _ _ (by simp;omega)
      have g2:E.getD (k+1) mo0=x:=by rw [e2];exact getMM _ _ _ _ (by simp;omega)
      have b1:k<len:=by omega
      have b2:k+1<len:=by omega
      have q1:k<E.length:=by omega
      have q2:k+1<E.length:=by omega
      have s1:(E.set (k+1) y).set k x=U++A1++(V1'++x::(y::V2))++V:=by
       have:E.set (k+1) y=(U++A1++V1'++[y])++y::(V2++V):=by rw [e2];exact setMM _ _ _ _ (by simp;omega)
       rw [this];have:(U++A1++V1'++[y])++y::(V2++V)=(U++A1++V1')++y::(y::V2++V):=by simp
       rw [this,setMM _ _ _ _ (by simp;omega)]
       simp
      simp only [<-hE,hk1];simp only [go_sem,hr,n3,hlt,g1,g2,b1,b2,q1,q2,s1,List.length_set];refine⟨by omega,by omega,by omega,(V1',y::V2),Qa (by simp [okS,okV,okC,okL,okH,okB,okE,ja,va,Za,Va,wsA,ws];omega) (kk rfl),by simp only;rw [hV];simp,by simp⟩
 obtain⟨m0,hm0⟩:∃m0,m0=U.length+A.length:=⟨_,rfl⟩;obtain⟨b0,hb0⟩:∃b0,b0=U.length+A.length+B.length:=⟨_,rfl⟩;have hx2' : x2=(m0:Int):=by omega
 have hx3' : x3=(b0:Int):=by omega
 have n1:¬(m0:Int)-(U.length:Int)=1:=by omega
 have n2:¬(b0:Int)-(m0:Int)=1:=by omega
 obtain⟨md,hmd⟩:∃md,md=(U.length+b0) / 2:=⟨_,rfl⟩;have n3:(U.length:Int)+(b0:Int)=((U.length+b0:Nat):Int):=by omega
 have n4:(U.length+b0) % 18446744073709551616 / 2=md:=by omega
 have n5:(md:Int)+(m0:Int)=((md+m0:Nat):Int):=by omega
 rcases Nat.lt_or_ge md m0 with hgt | hgt
 case' inl=>
  have hgt' : (md:Int)<(m0:Int):=by omega
  simp only [go_sem,vb,hr,fnV,hro,hs,hcm,hx1,hx2',hx3',n1,n2,n3,n4,n5,hgt'];obtain⟨st0,hst⟩:∃st0,st0=md+m0-b0:=⟨_,rfl⟩;obtain⟨r0,hr0⟩:∃r0,r0=md:=⟨_,rfl⟩;refine⟨by omega,by omega,by omega,by omega,by omega,by omega,by omega,by omega,?_⟩
 case' inr=>
  have hgt' : ¬(md:Int)<(m0:Int):=by omega
  simp only [go_sem,vb,hr,fnV,hro,hs,hcm,hx1,hx2',hx3',n1,n2,n3,n4,n5,hgt'];obtain⟨st0,hst⟩:∃st0,st0=U.length:=⟨_,rfl⟩;obtain⟨r0,hr0⟩:∃r0,r0=m0:=⟨_,rfl⟩;refine⟨by omega,by omega,by omega,by omega,by omega,by omega,by omega,?_⟩
 all_goals
  have f1:U.length<=st0/\st0<=r0/\r0<=m0/\r0<=md/\md+m0<=b0+st0:=by omega
  have f2:st0=U.length∨md+m0=b0+st0:=by omega
  have f3:r0=m0∨r0=md:=by omega
  have n7:((md+m0:Nat):Int)-1=((md+m0-1:Nat):Int):=by omega
  refine Ya (λp:Nat×Nat=>⟨mkV [(0,.one (.own 1048576 ver 5 0 len)),(1,.one (.lit (.int .i64 U.length))),(2,.one (.lit (.int .i64 m0))),(3,.one (.lit (.int .i64 b0))),(4,.one (.lit (.func (.func fc) ⟨[]⟩ ⟨[]⟩))),(18,.one (.lit (.int .i64 md))),(19,.one (.lit (.int .i64 (md+m0:Nat)))),(20,.one (.lit (.int .i64 p.1))),(21,.one (.lit (.int .i64 p.2))),(22,.one (.lit (.int .i64 (md+m0-1:Nat))))],mkH [(1048576,⟨ver,some ⟨D.map mC,5,true⟩⟩)]⟩)
   (λp=>st0<=p.1/\p.1<=p.2/\p.2<=r0/\(st0<p.1->kM (D.getD (p.1-1) mo0)<=kM (D.getD (md+m0-p.1) mo0))/\(p.2<r0->kM (D.getD (md+m0-1-p.2) mo0)<=kM (D.getD p.2 mo0))) (λp=>p.2-p.1) (st0,r0) ?_ ?_ ?_
  .exact Qa (by simp [okS,okV,okC,okL,okH,okB,okE,ja,va,Za,Va,wsA,ws];omega) (kk rfl)
  .exact⟨by simp only;omega,by simp only;omega,by simp only;omega,λh=>by simp only at h;omega,λh=>by simp only at h;omega⟩
  .rintro⟨i,j⟩ ⟨h1,h2,h3,h4,h5⟩;simp only at h1 h2 h3 h4 h5;by_cases hij:i<j
   .have hij' : (i:Int)<(j:Int):=by omega
    obtain⟨k,hk⟩:∃k,k=(i+j) / 2:=⟨_,rfl⟩;have hk' : (i:Int)+(j:Int)=((i+j:Nat):Int):=by omega
    have hkk:(i+j) % 18446744073709551616 / 2=k:=by omega
    obtain⟨q,hq⟩:∃q,q=md+m0-1-k:=⟨_,rfl⟩;have hq' : ((md+m0-1:Nat):Int)-(k:Int)=(q:Int):=by omega
    have ok1:=okD k (by omega) (by omega)
    have ok2:=okD q (by omega) (by omega)
    obtain⟨y,hy⟩:∃y,D.getD k mo0=y:=⟨_,rfl⟩;obtain⟨z,hz⟩:∃z,D.getD q mo0=z:=⟨_,rfl⟩;rw [hy]at ok1;rw [hz]at ok2;have q1:k<len:=by omega
    have q2:q<len:=by omega
    have q3:k<D.length:=by omega
    have q4:q<D.length:=by omega
    simp only [go_sem,hr,hro,hs,hcm,hij',hk',hkk,hq',hy,hz,ok1.1,ok1.2,ok2.1,ok2.2,wO,q1,q2,q3,q4];refine⟨by omega,by omega,by omega,by omega,λhlt=>⟨(i,k),Qa (by simp [okS,okV,okC,okL,okH,okB,okE,ja,va,Za,Va,wsA,ws]) (kk rfl),⟨by simp only;omega,by simp only;omega,by simp only;omega,h4,λ_=>?_⟩,by simp only;omega⟩,λhge=>⟨by omega,(k+1,j),Qa (by simp [okS,okV,okC,okL,okH,okB,okE,ja,va,Za,Va,wsA,ws]) (kk rfl),⟨by simp only;omega,by simp only;omega,by simp only;omega,λ_=>?_,h5⟩,by simp only;omega⟩⟩
    .simp only;rw [<-hq,hy,hz];exact Nat.le_of_lt hlt
    .simp only [Nat.add_sub_cancel];have e:md+m0-(k+1)=q:=by omega
     rw [e,hy,hz];exact Nat.not_lt.1 hge
   .obtain rfl:i=j:=by omega
    have hij' : ¬(i:Int)<(i:Int):=by omega
    obtain⟨e,he⟩:∃e,e=md+m0-i:=⟨_,rfl⟩;have he' : ((md+m0:Nat):Int)-(i:Int)=(e:Int):=by omega
    obtain⟨t,ht⟩:∃t,t=i-U.length:=⟨_,rfl⟩;obtain⟨u,hu⟩:∃u,u=e-m0:=⟨_,rfl⟩;obtain⟨A1,hA1⟩:∃A1,A1=A.take t:=⟨_,rfl⟩;obtain⟨A2,hA2⟩:∃A2,A2=A.drop t:=⟨_,rfl⟩;obtain⟨B1,hB1⟩:∃B1,B1=B.take u:=⟨_,rfl⟩;obtain⟨B2,hB2⟩:∃B2,B2=B.drop u:=⟨_,rfl⟩;have hA12:A=A1++A2:=by rw [hA1,hA2,List.take_append_drop]
    have hB12:B=B1++B2:=by rw [hB1,hB2,List.take_append_drop]
    have lA1:A1.length=t:=by rw [hA1,List.length_take];omega
    have lB1:B1.length=u:=by rw [hB1,List.length_take];omega
    have lA2:A2.length=A.length-t:=by rw [hA2,List.length_drop]
    have lB2:B2.length=B.length-u:=by rw [hB2,List.length_drop]
    have X1:∀x∈A1,∀y∈B2,kM x<=kM y:=by
     intro x hx y hy;have l1:=List.length_pos_of_mem hx;have l2:=List.length_pos_of_mem hy;have hle:=h4 (by omega)
     rw [gA (i-1) (t-1) (by omega) (by omega),gB (md+m0-i) u (by omega) (by omega)]at hle
     rw [hA1]at hx;rw [hB2]at hy;exact Nat.le_trans (QJ hsA (by omega) (by omega) hle x hx) (XI hsB (by omega) (Nat.le_refl _) y hy)
    have X2:∀x∈B1,∀y∈A2,kM x<=kM y:=by
     intro x hx y hy;have l1:=List.length_pos_of_mem hx;have l2:=List.length_pos_of_mem hy;have hle:=h5 (by omega)
     rw [gA i t (by omega) (by omega),gB (md+m0-1-i) (u-1) (by omega) (by omega)]at hle
     rw [hB1]at hx;rw [hA2]at hy;exact Nat.le_trans (QJ hsB (by omega) (by omega) hle x hx) (XI hsA (by omega) (Nat.le_refl _) y hy)
    have sA1:SortM A1:=by rw [hA12]at hsA;exact xA hsA
    have sA2:SortM A2:=by rw [hA12]at hsA;exact Zw hsA
    have sB1:SortM B1:=by rw [hB12]at hsB;exact xA hsB
    have sB2:SortM B2:=by rw [hB12]at hsB;exact Zw hsB
    have oA1:okMs A1:=by rw [hA12]at hoA;exact(Yi.1 hoA).1
    have oA2:okMs A2:=by rw [hA12]at hoA;exact(Yi.1 hoA).2
    have oB1:okMs B1:=by rw [hB12]at hoB;exact(Yi.1 hoB).1
    have oB2:okMs B2:=by rw [hB12]at hoB;exact(Yi.1 hoB).2
    have XA:=λx hx y hy=>Qw (A:=A1) (B:=A2) (hA12▸hsA) x hx y hy;have XB:=λx hx y hy=>Qw (A:=B1) (B:=B2) (hB12▸hsB) x hx y hy;have hp0:(A++B).Perm ((A1++B1)++(A2++B2)):=by
     rw [hA12,hB12];simp only [List.append_assoc];refine List.Perm.append_left _ ?_;rw [<-List.append_assoc,<-List.append_assoc];exact List.Perm.append_right _ List.perm_append_comm
    have fin:∀C1 C2:List Mo,(A1++B1).Perm C1->SortM C1->(A2++B2).Perm C2->SortM C2->K (.tup []) (upd h r ⟨ver,some ⟨(U++C1++C2++V).map mC,5,true⟩⟩):=by
     intro C1 C2 p1 s1 p2 s2;have:=hK (C1++C2) (hp0.trans (p1.append p2)) (qz s1 s2 λx hx y hy=>by
      have hx':=p1.mem_iff.2 hx;have hy':=p2.mem_iff.2 hy;rcases List.mem_append.1 hx' with hx' | hx' <;> rcases List.mem_append.1 hy' with hy' | hy'
      .exact XA x hx' y hy'
      .exact X1 x hx' y hy'
      .exact X2 x hx' y hy'
      .exact XB x hx' y hy')
     rw [<-List.append_assoc]at this;exact this
    by_cases hrot:i<m0/\m0<e
    .have w1:(i:Int)<(m0:Int):=by omega
     have w2:(m0:Int)<(e:Int):=by omega
     simp only [go_sem,hr,hro,hs,hcm,hij',he',w1,w2];refine⟨by omega,?_⟩
     simp only [XF];refine⟨U++A1,A2,B1,B2++V,rfl,by simp;omega,by simp;omega,by simp;omega,λh=>?_,λh=>?_,by simp;omega,by simp;omega,by omega,by simp [Za,hD,hA12,hB12],?_⟩
     .have:=List.length_eq_zero_iff.2 h;omega
     .have:=List.length_eq_zero_iff.2 h;omega
     have eS:U++A1++B1++A2++(B2++V)=U++(A1++B1)++(A2++B2)++V:=by simp
     rw [eS];simp only [go_sem,hr,hro,hs,hcm];refine⟨λq1=>⟨λq2=>?_,λq2=>?_⟩,λq1=>?_⟩
     .simp only [zj];refine⟨U,A1,B1,(A2++B2)++V,rfl,rfl,by omega,by omega,λh=>?_,λh=>?_,by omega,by omega,by simp;omega,by omega,oA1,oB1,sA1,sB1,by simp [Za],λC1 p1 s1=>?_⟩
      .have:=List.length_eq_zero_iff.2 h;omega
      .have:=List.length_eq_zero_iff.2 h;omega
      have lC1:=p1.length_eq;rw [List.length_append]at lC1;try simp only [go_sem,hr]
      refine⟨λq3=>⟨λq4=>?_,λq4=>?_⟩,λq3=>?_⟩
      .try simp only [zj]
       refine⟨U++C1,A2,B2,V,rfl,by simp;omega,by simp;omega,by simp;omega,λh=>?_,λh=>?_,by omega,by simp;omega,by simp;omega,by omega,oA2,oB2,sA2,sB2,by simp [Za],λC2 p2 s2=>?_⟩
       .have:=List.length_eq_zero_iff.2 h;omega
       .have:=List.length_eq_zero_iff.2 h;omega
       try simp only [go_sem,hr]
       exact fin C1 C2 p1 s1 p2 s2
      .have s2:SortM (A2++B2):=by
        have:B2=[]:=List.length_eq_zero_iff.1 (by omega)
        rw [this,List.append_nil];exact sA2
       have:=fin C1 (A2++B2) p1 s1 (List.Perm.refl _) s2;simpa only [List.append_assoc] using this
      .have s2:SortM (A2++B2):=by
        have:A2=[]:=List.length_eq_zero_iff.1 (by omega)
        rw [this,List.nil_append];exact sB2
       have:=fin C1 (A2++B2) p1 s1 (List.Perm.refl _) s2;simpa only [List.append_assoc] using this
     .obtain⟨C1,hC1⟩:∃C1,C1=A1++B1:=⟨_,rfl⟩;have p1:(A1++B1).Perm C1:=by rw [hC1]
      have s1:SortM C1:=by
       have:B1=[]:=List.length_eq_zero_iff.1 (by omega)
       rw [hC1,this,List.append_nil];exact sA1
      have lC1:=p1.length_eq;rw [List.length_append]at lC1;rw [<-hC1];refine⟨λq3=>⟨λq4=>?_,λq4=>?_⟩,λq3=>?_⟩
      .try simp only [zj]
       refine⟨U++C1,A2,B2,V,rfl,by simp;omega,by simp;omega,by simp;omega,λh=>?_,λh=>?_,by omega,by simp;omega,by simp;omega,by omega,oA2,oB2,sA2,sB2,by simp [Za],λC2 p2 s2=>?_⟩
       .have:=List.length_eq_zero_iff.2 h;omega
       .have:=List.length_eq_zero_iff.2 h;omega
       try simp only [go_sem,hr]
       exact fin C1 C2 p1 s1 p2 s2
      .have s2:SortM (A2++B2):=by
        have:B2=[]:=List.length_eq_zero_iff.1 (by omega)
        rw [this,List.append_nil];exact sA2
       have:=fin C1 (A2++B2) p1 s1 (List.Perm.refl _) s2;simpa only [List.append_assoc] using this
      .have s2:SortM (A2++B2):=by
        have:A2=[]:=List.length_eq_zero_iff.1 (by omega)
        rw [this,List.nil_append];exact sB2
       have:=fin C1 (A2++B2) p1 s1 (List.Perm.refl _) s2;simpa only [List.append_assoc] using this
     .obtain⟨C1,hC1⟩:∃C1,C1=A1++B1:=⟨_,rfl⟩;have p1:(A1++B1).Perm C1:=by rw [hC1]
      have s1:SortM C1:=by
       have:A1=[]:=List.length_eq_zero_iff.1 (by omega)
       rw [hC1,this,List.nil_append];exact sB1
      have lC1:=p1.length_eq;rw [List.length_append]at lC1;rw [<-hC1];refine⟨λq3=>⟨λq4=>?_,λq4=>?_⟩,λq3=>?_⟩
      .try simp only [zj]
       refine⟨U++C1,A2,B2,V,rfl,by simp;omega,by simp;omega,by simp;omega,λh=>?_,λh=>?_,by omega,by simp;omega,by simp;omega,by omega,oA2,oB2,sA2,sB2,by simp [Za],λC2 p2 s2=>?_⟩
       .have:=List.length_eq_zero_iff.2 h;omega
       .have:=List.length_eq_zero_iff.2 h;omega
       try simp only [go_sem,hr]
       exact fin C1 C2 p1 s1 p2 s2
      .have s2:SortM (A2++B2):=by
        have:B2=[]:=List.length_eq_zero_iff.1 (by omega)
        rw [this,List.append_nil];exact sA2
       have:=fin C1 (A2++B2) p1 s1 (List.Perm.refl _) s2;simpa only [List.append_assoc] using this
      .have s2:SortM (A2++B2):=by
        have:A2=[]:=List.length_eq_zero_iff.1 (by omega)
        rw [this,List.nil_append];exact sB2
       have:=fin C1 (A2++B2) p1 s1 (List.Perm.refl _) s2;simpa only [List.append_assoc] using this
    .have eS:D=U++(A1++B1)++(A2++B2)++V:=by
      rw [hD,hA12,hB12];rcases Nat.lt_or_ge i m0 with hh | hh
      .have:B1=[]:=List.length_eq_zero_iff.1 (by omega)
       rw [this];simp
      .have:A2=[]:=List.length_eq_zero_iff.1 (by omega)
       rw [this];simp
     rw [eS];rcases Nat.lt_or_ge i m0 with hh | hh
     case' inl=>
      have w1:(i:Int)<(m0:Int):=by omega
      have w2:¬(m0:Int)<(e:Int):=by omega
      simp only [go_sem,hr,hro,hs,hcm,hij',he',w1,w2];refine⟨by omega,?_⟩
     case' inr=>
      have w1:¬(i:Int)<(m0:Int):=by omega
      simp only [go_sem,hr,hro,hs,hcm,hij',he',w1];refine⟨by omega,?_⟩
     all_goals
      refine⟨λq1=>⟨λq2=>?_,λq2=>?_⟩,λq1=>?_⟩
      .simp only [zj];refine⟨U,A1,B1,(A2++B2)++V,rfl,rfl,by omega,by omega,λh=>?_,λh=>?_,by omega,by omega,by simp;omega,by omega,oA1,oB1,sA1,sB1,by simp [Za],λC1 p1 s1=>?_⟩
       .have:=List.length_eq_zero_iff.2 h;omega
       .have:=List.length_eq_zero_iff.2 h;omega
       have lC1:=p1.length_eq;rw [List.length_append]at lC1;try simp only [go_sem,hr]
       refine⟨λq3=>⟨λq4=>?_,λq4=>?_⟩,λq3=>?_⟩
       .try simp only [zj]
        refine⟨U++C1,A2,B2,V,rfl,by simp;omega,by simp;omega,by simp;omega,λh=>?_,λh=>?_,by omega,by simp;omega,by simp;omega,by omega,oA2,oB2,sA2,sB2,by simp [Za],λC2 p2 s2=>?_⟩
        .have:=List.length_eq_zero_iff.2 h;omega
        .have:=List.length_eq_zero_iff.2 h;omega
        try simp only [go_sem,hr]
        exact fin C1 C2 p1 s1 p2 s2
       .have s2:SortM (A2++B2):=by
         have:B2=[]:=List.length_eq_zero_iff.1 (by omega)
         rw [this,List.append_nil];exact sA2
        have:=fin C1 (A2++B2) p1 s1 (List.Perm.refl _) s2;simpa only [List.append_assoc] using this
       .have s2:SortM (A2++B2):=by
         have:A2=[]:=List.length_eq_zero_iff.1 (by omega)
         rw [this,List.nil_append];exact sB2
        have:=fin C1 (A2++B2) p1 s1 (List.Perm.refl _) s2;simpa only [List.append_assoc] using this
      .obtain⟨C1,hC1⟩:∃C1,C1=A1++B1:=⟨_,rfl⟩;have p1:(A1++B1).Perm C1:=by rw [hC1]
       have s1:SortM C1:=by
        have:B1=[]:=List.length_eq_zero_iff.1 (by omega)
        rw [hC1,this,List.append_nil];exact sA1
       have lC1:=p1.length_eq;rw [List.length_append]at lC1;rw [<-hC1];refine⟨λq3=>⟨λq4=>?_,λq4=>?_⟩,λq3=>?_⟩
       .try simp only [zj]
        refine⟨U++C1,A2,B2,V,rfl,by simp;omega,by simp;omega,by simp;omega,λh=>?_,λh=>?_,by omega,by simp;omega,by simp;omega,by omega,oA2,oB2,sA2,sB2,by simp [Za],λC2 p2 s2=>?_⟩
        .have:=List.length_eq_zero_iff.2 h;omega
        .have:=List.length_eq_zero_iff.2 h;omega
        try simp only [go_sem,hr]
        exact fin C1 C2 p1 s1 p2 s2
       .have s2:SortM (A2++B2):=by
         have:B2=[]:=List.length_eq_zero_iff.1 (by omega)
         rw [this,List.append_nil];exact sA2
        have:=fin C1 (A2++B2) p1 s1 (List.Perm.refl _) s2;simpa only [List.append_assoc] using this
       .have s2:SortM (A2++B2):=by
         have:A2=[]:=List.length_eq_zero_iff.1 (by omega)
         rw [this,List.nil_append];exact sB2
        have:=fin C1 (A2++B2) p1 s1 (List.Perm.refl _) s2;simpa only [List.append_assoc] using this
      .obtain⟨C1,hC1⟩:∃C1,C1=A1++B1:=⟨_,rfl⟩;have p1:(A1++B1).Perm C1:=by rw [hC1]
       have s1:SortM C1:=by
        have:A1=[]:=List.length_eq_zero_iff.1 (by omega)
        rw [hC1,this,List.nil_append];exact sB1
       have lC1:=p1.length_eq;rw [List.length_append]at lC1;rw [<-hC1];refine⟨λq3=>⟨λq4=>?_,λq4=>?_⟩,λq3=>?_⟩
       .try simp only [zj]
        refine⟨U++C1,A2,B2,V,rfl,by simp;omega,by simp;omega,by simp;omega,λh=>?_,λh=>?_,by omega,by simp;omega,by simp;omega,by omega,oA2,oB2,sA2,sB2,by simp [Za],λC2 p2 s2=>?_⟩
        .have:=List.length_eq_zero_iff.2 h;omega
        .have:=List.length_eq_zero_iff.2 h;omega
        try simp only [go_sem,hr]
        exact fin C1 C2 p1 s1 p2 s2
       .have s2:SortM (A2++B2):=by
         have:B2=[]:=List.length_eq_zero_iff.1 (by omega)
         rw [this,List.append_nil];exact sA2
        have:=fin C1 (A2++B2) p1 s1 (List.Perm.refl _) s2;simpa only [List.append_assoc] using this
       .have s2:SortM (A2++B2):=by
         have:A2=[]:=List.length_eq_zero_iff.1 (by omega)
         rw [this,List.nil_append];exact sB2
        have:=fin C1 (A2++B2) p1 s1 (List.Perm.refl _) s2;simpa only [List.append_assoc] using this
end Go.Abs
end
section
namespace Go.Abs
open Go.Num
variable {P:Program} {L:List (Nat×Spec)}
theorem uaO{f fc:Nat}(hE:Enters P f):Sound P f (.own (zj fc 0)):=by
 refine⟨hE,λE args vals w I m h d K _ _ hG=>?_⟩;unfold zj at hG;split at hG
 .obtain⟨U,A,B,V,_,_,_,_,hA,_,hN,_⟩:=hG;have:=List.length_pos_iff.2 hA;omega
 .exact hG.elim
theorem JX(hΓ:Holds P (Gl L)){f fr fc N:Nat}(hn1:fr≠f)(hn2:fc≠f)(hro:Gl L fr=.own (XF fc))(hcm:Gl L fc=.dat true uy)(hc:check P f=some (220,(vb fr f).strip,[])):Sound P f (.own (zj fc N)):=by
 induction N with
 | zero=>
  obtain⟨fn,c,h1,h2,h3,_⟩:=yy hc;exact uaO (qy h1 h2 (by rw [h3];rfl))
 | succ N ih=>
  have hh:Holds P (Gl ((f,.own (zj fc N))::L)):=qa hΓ ih;refine VaJ (Γ:=Gl ((f,.own (zj fc N))::L)) hh (fs:=f) ?_ ?_ ?_ hc
  .unfold Gl;rw [if_neg hn1];exact hro
  .unfold Gl;rw [if_pos rfl]
  .unfold Gl;rw [if_neg hn2];exact hcm
end Go.Abs
end
section
namespace Go.Abs
open Go.Num
variable {P:Program} {Γ:Nat->Spec}
def wd:AC:=(.seq (.ops false [.m 2 (.c (.one .emp))])
 (.fg [0] (.seq (.ops false [.m 4 (.c (.one .emp)),.m 5 (.t 0),.u 6 (.app0 1 (.t 4) (.t 5)),.m 3 (.t 6)])
 (.fg [3] (.seq (.block 0 (.loop (.seq (.seq (.ops false [.m 7 (.t 3),.u 8 (.len (.t 7)),.u 9 (.bin .gtr (.t 8) (.i 0)),.m 10 (.t 9),.w 11 10 true (.mv (.t 3)),.w 12 10 true (.mv (.t 3)),.w 13 10 true (.len (.t 12)),.w 14 10 true (.bin .sub (.t 13) (.i 1)),.w 15 10 true (.idx 1 (.t 11) (.t 14)),.w 16 10 true (.ld none 1 false (.t 15)),.w 17 10 true (.bin .eql (.t 16) (.c (.one (.lit (.int .u32 0))))),.u 18 (.pick (.t 10) (.t 17) .fa)])
 (.fg [3,18] (.cond (.t 18) .skip (.exit 0))))
 (.fg [3] (.block 1 (.ops false [.m 19 (.t 3),.m 20 (.t 3),.u 21 (.len (.t 20)),.u 22 (.bin .sub (.t 21) (.i 1)),.u 23 (.sl 1 (.t 19) none (some (.t 22))),.m 3 (.t 23)]))))))
 (.fg [3] (.seq (.ops false [.m 24 (.t 3),.m 2 (.t 24)])
 .ret)))))))
def ui(f0 f1:Nat):AC:=(.seq (.ops false [.m 4 (.c (.one .emp))])
 (.fg [0,1] (.seq (.ops false [.m 5 (.c (.one .emp))])
 (.fg [0,1,5] (.seq (.ops false [.m 6 (.c (.one (.lit (.int .u64 0))))])
 (.fg [0,1,5,6] (.seq (.seq (.ops false [.m 9 (.t 0),.u 10 (.len (.t 9)),.m 11 (.t 1),.u 12 (.len (.t 11)),.u 13 (.max [(.t 10),(.t 12)]),.u 14 (.bin .add (.t 13) (.i 1)),.m 15 (.i 0)])
 (.fg [0,1,5,6,14,15] (.block 0 (.loop (.seq (.ops false [.u 16 (.bin .lss (.t 15) (.t 14))])
 (.fg [0,1,5,6,14,15,16] (.seq (.cond (.t 16) .skip (.exit 0))
 (.fg [0,1,5,6,14,15] (.seq (.block 1 (.seq (.ops false [.m 17 (.t 15),.m 7 (.t 17)])
 (.fg [0,1,5,6,7,14,15] (.seq (.ops false [.m 18 (.t 0),.m 19 (.t 7),.u 20 (.call f0 [(.t 18),(.t 19)]),.m 21 (.t 1),.m 22 (.t 7),.u 23 (.call f0 [(.t 21),(.t 22)]),.u 24 (.bin .add (.t 20) (.t 23)),.m 25 (.t 6),.u 26 (.bin .add (.t 24) (.t 25)),.m 8 (.t 26)])
 (.fg [0,1,5,8,14,15] (.ops false [.m 27 (.t 5),.m 28 (.t 8),.u 29 (.conv .u32 (.t 28)),.u 30 (.row 1 [[.x 1 (.t 29)]]),.u 31 (.app 1 (.t 27) (.t 30)),.m 32 (.t 8),.u 33 (.bin .shr (.t 32) (.c (.one (.lit (.int .u64 32))))),.m 5 (.t 31),.m 6 (.t 33)]))))))
 (.fg [0,1,5,6,14,15] (.ops false [.u 34 (.bin .add (.t 15) (.i 1)),.m 15 (.t 34)])))))))))))
 (.fg [5] (.seq (.ops false [.m 35 (.t 5),.u 36 (.callf f1 [(.t 35)]),.m 4 (.t 36)])
 .ret)))))))))
def Zh(f0 f1:Nat):AC:=(.seq (.ops false [.m 4 (.c (.one .emp))])
 (.fg [0,1] (.seq (.ops false [.m 5 (.c (.one .emp))])
 (.fg [0,1,5] (.seq (.ops false [.m 6 (.c (.one (.lit (.int .u64 0))))])
 (.fg [0,1,5,6] (.seq (.seq (.ops false [.m 9 (.t 0),.u 10 (.len (.t 9)),.m 11 (.i 0)])
 (.fg [0,1,5,6,10,11] (.block 0 (.loop (.seq (.ops false [.u 12 (.bin .lss (.t 11) (.t 10))])
 (.fg [0,1,5,6,10,11,12] (.seq (.cond (.t 12) .skip (.exit 0))
 (.fg [0,1,5,6,10,11] (.seq (.block 1 (.seq (.ops false [.m 13 (.t 11),.m 7 (.t 13)])
 (.fg [0,1,5,6,7,10,11] (.seq (.ops false [.m 14 (.t 0),.m 15 (.t 7),.u 16 (.call f0 [(.t 14),(.t 15)]),.u 17 (.bin .add (.c (.one (.lit (.int .u64 4294967296)))) (.t 16)),.m 18 (.t 1),.m 19 (.t 7),.u 20 (.call f0 [(.t 18),(.t 19)]),.u 21 (.bin .sub (.t 17) (.t 20)),.m 22 (.t 6),.u 23 (.bin .sub (.t 21) (.t 22)),.m 8 (.t 23)])
 (.fg [0,1,5,8,10,11] (.ops false [.m 24 (.t 5),.m 25 (.t 8),.u 26 (.conv .u32 (.t 25)),.u 27 (.row 1 [[.x 1 (.t 26)]]),.u 28 (.app 1 (.t 24) (.t 27)),.m 29 (.t 8),.u 30 (.bin .shr (.t 29) (.c (.one (.lit (.int .u64 32))))),.u 31 (.bin .sub (.c (.one (.lit (.int .u64 1)))) (.t 30)),.m 5 (.t 28),.m 6 (.t 31)]))))))
 (.fg [0,1,5,6,10,11] (.ops false [.u 32 (.bin .add (.t 11) (.i 1)),.m 11 (.t 32)])))))))))))
 (.fg [5] (.seq (.ops false [.m 33 (.t 5),.u 34 (.callf f1 [(.t 33)]),.m 4 (.t 34)])
 .ret)))))))))
def yf(f0:Nat):AC:=(.seq (.ops false [.m 4 (.i 0)])
 (.fg [0,1] (.seq (.seq (.ops false [.m 6 (.t 0),.u 7 (.len (.t 6)),.m 8 (.t 1),.u 9 (.len (.t 8)),.u 10 (.max [(.t 7),(.t 9)]),.u 11 (.bin .sub (.t 10) (.i 1)),.m 5 (.t 11)])
 (.fg [0,1,5] (.block 0 (.loop (.seq (.seq (.ops false [.m 12 (.t 5),.u 13 (.bin .geq (.t 12) (.i 0))])
 (.fg [0,1,5,13] (.cond (.t 13) .skip (.exit 0))))
 (.fg [0,1,5] (.seq (.block 1 (.seq (.ops false [.m 16 (.t 0),.m 17 (.t 5),.u 18 (.call f0 [(.t 16),(.t 17)]),.m 19 (.t 1),.m 20 (.t 5),.u 21 (.call f0 [(.t 19),(.t 20)]),.u 22 (.bin .neq (.t 18) (.t 21))])
 (.fg [0,1,5,22] (.cond (.t 22) (.seq (.seq (.ops false [.m 23 (.t 0),.m 24 (.t 5),.u 25 (.call f0 [(.t 23),(.t 24)]),.m 26 (.t 1),.m 27 (.t 5),.u 28 (.call f0 [(.t 26),(.t 27)]),.u 29 (.bin .lss (.t 25) (.t 28))])
 (.fg [29] (.cond (.t 29) (.seq (.ops false [.m 4 (.i (-1))])
 .ret) .skip)))
 (.fg [] (.seq (.ops false [.m 4 (.i 1)])
 .ret))) .skip))))
 (.fg [0,1,5] (.ops false [.m 14 (.t 5),.u 15 (.bin .sub (.t 14) (.i 1)),.m 5 (.t 15)])))))))))
 (.fg [] (.seq (.ops false [.m 4 (.i 0)])
 .ret)))))
def ki:AC:=(.seq (.ops false [.m 2 (.i 0)])
 (.fg [0] (.seq (.seq (.ops false [.m 5 (.t 0),.u 6 (.len (.t 5)),.u 7 (.bin .eql (.t 6) (.i 0))])
 (.fg [0,7] (.cond (.t 7) (.seq (.ops false [.m 2 (.i 0)])
 .ret) .skip)))
 (.fg [0] (.seq (.ops false [.m 8 (.t 0),.u 9 (.len (.t 8)),.u 10 (.bin .sub (.t 9) (.i 1)),.u 11 (.bin .mul (.i 32) (.t 10)),.m 3 (.t 11)])
 (.fg [0,3] (.seq (.seq (.ops false [.m 12 (.t 0),.m 13 (.t 0),.u 14 (.len (.t 13)),.u 15 (.bin .sub (.t 14) (.i 1)),.u 16 (.idx 1 (.t 12) (.t 15)),.u 17 (.ld none 1 false (.t 16)),.m 4 (.t 17)])
 (.fg [3,4] (.block 0 (.loop (.seq (.seq (.ops false [.m 18 (.t 4),.u 19 (.bin .gtr (.t 18) (.c (.one (.lit (.int .u32 0)))))])
 (.fg [3,4,19] (.cond (.t 19) .skip (.exit 0))))
 (.fg [3,4] (.seq (.block 1 (.ops false [.m 22 (.t 3),.u 23 (.bin .add (.t 22) (.i 1)),.m 3 (.t 23)]))
 (.fg [3,4] (.ops false [.m 20 (.t 4),.u 21 (.bin .shr (.t 20) (.c (.one (.lit (.int .u64 1))))),.m 4 (.t 21)])))))))))
 (.fg [3] (.seq (.ops false [.m 24 (.t 3),.m 2 (.t 24)])
 .ret)))))))))
def Vh(f0:Nat):AC:=(.seq (.ops false [.m 4 (.c (.one .emp))])
 (.fg [0,1] (.seq (.ops false [.m 10 (.t 0),.u 11 (.len (.t 10)),.m 12 (.t 1),.u 13 (.len (.t 12)),.u 14 (.bin .add (.t 11) (.t 13)),.u 15 (.mk 1 [(.lit (.int .u32 0))] (.t 14) (.t 14)),.m 5 (.t 15)])
 (.fg [0,1,5] (.seq (.seq (.ops false [.m 16 (.t 0),.u 17 (.len (.t 16)),.m 18 (.i 0)])
 (.fg [0,1,5,17,18] (.block 0 (.loop (.seq (.ops false [.u 19 (.bin .lss (.t 18) (.t 17))])
 (.fg [0,1,5,17,18,19] (.seq (.cond (.t 19) .skip (.exit 0))
 (.fg [0,1,5,17,18] (.seq (.block 1 (.seq (.ops false [.m 20 (.t 18),.m 6 (.t 20)])
 (.fg [0,1,5,6,17,18] (.seq (.ops false [.m 7 (.c (.one (.lit (.int .u64 0))))])
 (.fg [0,1,5,6,7,17,18] (.seq (.seq (.ops false [.m 21 (.t 1),.u 22 (.len (.t 21)),.m 23 (.i 0)])
 (.fg [0,1,5,6,7,17,18,22,23] (.block 2 (.loop (.seq (.ops false [.u 24 (.bin .lss (.t 23) (.t 22))])
 (.fg [0,1,5,6,7,17,18,22,23,24] (.seq (.cond (.t 24) .skip (.exit 2))
 (.fg [0,1,5,6,7,17,18,22,23] (.seq (.block 3 (.seq (.ops false [.m 25 (.t 23),.m 8 (.t 25)])
 (.fg [0,1,5,6,7,8,17,18,22,23] (.seq (.ops true [.m 26 (.t 0),.m 27 (.t 6),.u 28 (.idx 1 (.t 26) (.t 27)),.u 29 (.ld none 1 false (.t 28)),.u 30 (.conv .u64 (.t 29)),.m 31 (.t 1),.m 32 (.t 8),.u 33 (.idx 1 (.t 31) (.t 32)),.u 34 (.ld none 1 false (.t 33)),.u 35 (.conv .u64 (.t 34)),.u 36 (.bin .mul (.t 30) (.t 35)),.m 37 (.t 5),.m 38 (.t 6),.m 39 (.t 8),.u 40 (.bin .add (.t 38) (.t 39)),.u 41 (.idx 1 (.t 37) (.t 40)),.u 42 (.ld none 1 false (.t 41)),.u 43 (.conv .u64 (.t 42)),.u 44 (.bin .add (.t 36) (.t 43)),.m 45 (.t 7),.u 46 (.bin .add (.t 44) (.t 45)),.m 9 (.t 46)])
 (.fg [0,1,5,6,8,9,17,18,22,23] (.ops false [.m 47 (.t 5),.m 48 (.t 6),.m 49 (.t 8),.u 50 (.bin .add (.t 48) (.t 49)),.m 51 (.t 9),.u 52 (.conv .u32 (.t 51)),.m 53 (.t 9),.u 54 (.bin .shr (.t 53) (.c (.one (.lit (.int .u64 32))))),.u 55 (.idx 1 (.t 47) (.t 50)),.n (.st none 1 (.t 55) (.t 52)),.m 7 (.t 54)]))))))
 (.fg [0,1,5,6,7,17,18,22,23] (.ops false [.u 56 (.bin .add (.t 23) (.i 1)),.m 23 (.t 56)])))))))))))
 (.fg [0,1,5,6,7,17,18] (.ops false [.m 57 (.t 5),.m 58 (.t 6),.m 59 (.t 1),.u 60 (.len (.t 59)),.u 61 (.bin .add (.t 58) (.t 60)),.m 62 (.t 7),.u 63 (.conv .u32 (.t 62)),.u 64 (.idx 1 (.t 57) (.t 61)),.n (.st none 1 (.t 64) (.t 63))]))))))))
 (.fg [0,1,5,17,18] (.ops false [.u 65 (.bin .add (.t 18) (.i 1)),.m 18 (.t 65)])))))))))))
 (.fg [5] (.seq (.ops false [.m 66 (.t 5),.u 67 (.callf f0 [(.t 66)]),.m 4 (.t 67)])
 .ret)))))))
theorem WaJ(hΓ:Holds P Γ){f:Nat}(hc:check P f=some (25,wd.strip,[.tmp 2])):Sound P f (.fresh 1 kw):=by
 refine Zv hc wa3 hΓ (λargs K hcl hfi hG=>?_);match args,hG with
 | [a],hG=>
  obtain⟨l,ha,hl,hlen,hK⟩:=hG;refine⟨by simp,?_⟩
  rcases ha with rfl | rfl | ⟨rfl,h0⟩
  .simp only [go_sem,wd,ws];refine⟨hlen,?_⟩;refine Ya (λn:Nat=>⟨mkV [(3,.one (.own 6 1 1 0 n))],mkH [(6,⟨1,some ⟨l.map wc,1,true⟩⟩)]⟩) (λn=>n<=l.length/\val (l.take n)=val l) id l.length ?_ ?_ ?_
   .first | exact Qa (by simp [okS,okV,okC,okL,okH,okB,okE,ja,va,Za,Va,wsA,ws]) (Xg rfl) | (subst h0;exact Qa (by simp [okS,okV,okC,okL,okH,okB,okE,ja,va,Za,Va,wsA,ws]) (Xg (l:=[]) rfl))
   .simp
   .rintro n ⟨hn,ht⟩;simp only [go_sem];refine λhm=>⟨λh=>?_,λh=>?_⟩
    .rw [show((n:Int)-1).toNat=n-1 by omega]
     refine λ_=>⟨by omega,by omega,by omega,λh0=>λ_=>⟨by omega,by omega,by omega,n-1,Qa (by simp [okS,okV,okC,okL,okH,okB,okE,ja,va,Za,Va,wsA,ws]) (Xg rfl),⟨by omega,?_⟩,?_⟩,λh0=>?_⟩
     .have:=qc l (n-1);rw [show n-1+1=n by omega,h0,Nat.mul_zero,Nat.add_zero]at this
      rw [<-this];exact ht
     .simp only [id];omega
     .have:=We (Jz hl n) (YM h hn h0);rw [ht]at this;rw [this]at hK;exact⟨hn,hK⟩
    .have h1:n=0:=by omega
     subst h1;have:val l=0:=by rw [<-ht];simp [val]
     rw [this,Yb]at hK;exact⟨by omega,hK⟩
  .simp only [go_sem,wd,ws];refine⟨hlen,?_⟩;refine Ya (λn:Nat=>⟨mkV [(3,.one (.own 6 1 1 0 n))],mkH [(6,⟨1,some ⟨l.map wc,1,true⟩⟩)]⟩) (λn=>n<=l.length/\val (l.take n)=val l) id l.length ?_ ?_ ?_
   .first | exact Qa (by simp [okS,okV,okC,okL,okH,okB,okE,ja,va,Za,Va,wsA,ws]) (Xg rfl) | (subst h0;exact Qa (by simp [okS,okV,okC,okL,okH,okB,okE,ja,va,Za,Va,wsA,ws]) (Xg (l:=[]) rfl))
   .simp
   .rintro n ⟨hn,ht⟩;simp only [go_sem];refine λhm=>⟨λh=>?_,λh=>?_⟩
    .rw [show((n:Int)-1).toNat=n-1 by omega]
     refine λ_=>⟨by omega,by omega,by omega,λh0=>λ_=>⟨by omega,by omega,by omega,n-1,Qa (by simp [okS,okV,okC,okL,okH,okB,okE,ja,va,Za,Va,wsA,ws]) (Xg rfl),⟨by omega,?_⟩,?_⟩,λh0=>?_⟩
     .have:=qc l (n-1);rw [show n-1+1=n by omega,h0,Nat.mul_zero,Nat.add_zero]at this
      rw [<-this];exact ht
     .simp only [id];omega
     .have:=We (Jz hl n) (YM h hn h0);rw [ht]at this;rw [this]at hK;exact⟨hn,hK⟩
    .have h1:n=0:=by omega
     subst h1;have:val l=0:=by rw [<-ht];simp [val]
     rw [this,Yb]at hK;exact⟨by omega,hK⟩
  .simp only [go_sem,wd,ws];refine⟨by simp,?_⟩
   refine Ya (λn:Nat=>⟨mkV [(3,.one (.own 6 1 1 0 n))],mkH [(6,⟨1,some ⟨l.map wc,1,true⟩⟩)]⟩) (λn=>n<=l.length/\val (l.take n)=val l) id l.length ?_ ?_ ?_
   .first | exact Qa (by simp [okS,okV,okC,okL,okH,okB,okE,ja,va,Za,Va,wsA,ws]) (Xg rfl) | (subst h0;exact Qa (by simp [okS,okV,okC,okL,okH,okB,okE,ja,va,Za,Va,wsA,ws]) (Xg (l:=[]) rfl))
   .simp
   .rintro n ⟨hn,ht⟩;simp only [go_sem];refine λhm=>⟨λh=>?_,λh=>?_⟩
    .rw [show((n:Int)-1).toNat=n-1 by omega]
     refine λ_=>⟨by omega,by omega,by omega,λh0=>λ_=>⟨by omega,by omega,by omega,n-1,Qa (by simp [okS,okV,okC,okL,okH,okB,okE,ja,va,Za,Va,wsA,ws]) (Xg rfl),⟨by omega,?_⟩,?_⟩,λh0=>?_⟩
     .have:=qc l (n-1);rw [show n-1+1=n by omega,h0,Nat.mul_zero,Nat.add_zero]at this
      rw [<-this];exact ht
     .simp only [id];omega
     .have:=We (Jz hl n) (YM h hn h0);rw [ht]at this;rw [this]at hK;exact⟨hn,hK⟩
    .have h1:n=0:=by omega
     subst h1;have:val l=0:=by rw [<-ht];simp [val]
     rw [this,Yb]at hK;exact⟨by omega,hK⟩
theorem J6(hΓ:Holds P Γ){f fw ft:Nat}(hw:Γ fw=.dat true Wm)(ht:Γ ft=.fresh 1 kw)(hc:check P f=some (37,(ui fw ft).strip,[.tmp 4])):Sound P f (.dat false xr):=by
 refine ka hc V7 hΓ (λargs K hcl hfi hG=>?_);match args,hG with
 | [a,b],hG=>
  obtain⟨x,rfl,hx,y,rfl,hy,hxl,hyl,hK⟩:=hG;refine⟨by simp,?_⟩
  simp only [go_sem,ui,hw,ht];intro h1 h2;refine⟨by omega,?_⟩
  generalize hN:max x.length y.length+1=N;refine Ya (λp:List Nat×Nat=>match p.1 with
    | []=>⟨mkV [(0,wsA x),(1,wsA y),(5,.one .emp),(6,.one (.lit (.int .u64 p.2))),(14,.one (.lit (.int .i64 N))),(15,.one (.lit (.int .i64 0)))],mkH []⟩
    | a::r=>⟨mkV [(0,wsA x),(1,wsA y),(5,.one (.own 31 1 1 0 (r.length+1))),(6,.one (.lit (.int .u64 p.2))),(14,.one (.lit (.int .i64 N))),(15,.one (.lit (.int .i64 (r.length+1:Nat))))],mkH [(31,⟨1,some ⟨(a::r).map wc,1,true⟩⟩)]⟩)
   (λp=>p.1.length<=N/\WL p.1/\p.2<=1/\val p.1+4294967296 ^ p.1.length*p.2=val (x.take p.1.length)+val (y.take p.1.length)) (λp=>N-p.1.length) ([],0) ?_ ?_ ?_
  .exact Qa (by simp [okS,okV,okC,okL,okH,okB,okE,ja,va,Za,Va,wsA,ws]) trivial
  .simp [Yc,val]
  .rintro⟨o,c⟩ ⟨hoN,ho,hc1,hval⟩;simp only at hoN ho hc1 hval;cases o with
   | nil=>
    simp only [go_sem,hw,ht];refine⟨λhlt=>?_,λhge=>by omega⟩
    have g1:=Xb hx 0;have g2:=Xb hy 0;rw [Nat.mod_eq_of_lt (show x.getD 0 0+y.getD 0 0<18446744073709551616 by omega),Nat.mod_eq_of_lt (show x.getD 0 0+y.getD 0 0+c<18446744073709551616 by omega)]
    generalize hs:x.getD 0 0+y.getD 0 0+c=s;refine⟨hx,by omega,hy,by omega,by simp,by decide,by decide,([s % 4294967296],s / 4294967296),Qa (by simp [okS,okV,okC,okL,okH,okB,okE,ja,va,Za,Va,wsA,ws]) (Xg (l:=[s % 4294967296]) rfl),⟨by simp;omega,Wc.2 ⟨Nat.mod_lt _ (by omega),Yc⟩,by simp only;omega,?_⟩,by simp;omega⟩
    have t1:=qc x 0;have t2:=qc y 0;simp only [List.length_cons,List.length_nil,Nat.zero_add,List.take_zero,xo,yj,Nat.pow_zero,Nat.pow_one,Nat.mul_zero]at t1 t2 hval ⊢;omega
   | cons a r=>
    simp only [go_sem,hw,ht];refine⟨λhlt=>?_,λhge=>?_⟩
    .have g1:=Xb hx (r.length+1);have g2:=Xb hy (r.length+1);rw [Nat.mod_eq_of_lt (show x.getD (r.length+1) 0+y.getD (r.length+1) 0<18446744073709551616 by omega),Nat.mod_eq_of_lt (show x.getD (r.length+1) 0+y.getD (r.length+1) 0+c<18446744073709551616 by omega)]
     generalize hs:x.getD (r.length+1) 0+y.getD (r.length+1) 0+c=s;refine⟨hx,hy,by simp,by omega,by decide,by omega,(a::(r++[s % 4294967296]),s / 4294967296),Qa (by simp [okS,okV,okC,okL,okH,okB,okE,ja,va,Za,Va,wsA,ws]) (Z3 (l':=a::(r++[s % 4294967296])) (by simp [wc])),⟨by simp;omega,?_,by simp only;omega,?_⟩,by simp;omega⟩
     .exact Ue (a:=a::r) |>.2 ⟨ho,Wc.2 ⟨Nat.mod_lt _ (by omega),Yc⟩⟩
     .have t1:=qc x (r.length+1);have t2:=qc y (r.length+1);have e:a::(r++[s % 4294967296])=(a::r)++[s % 4294967296]:=rfl;simp only [e,List.length_append,List.length_cons,List.length_nil,Nat.zero_add,vc,t1,t2];simp only [List.length_cons]at hval;rw [show val [s % 4294967296]=s % 4294967296 from by simp [val],Nat.pow_succ 4294967296 (r.length+1)]
      exact ua9 hval (by rw [Nat.mod_add_div,hs])
    .have e:r.length+1=N:=by simp only [List.length_cons]at hoN;omega
     have hv:val (a::r)=val x+val y:=by
      rw [List.length_cons,e,wj (by omega),wj (by omega)]at hval
      exact kaD hx hy (by omega) (by omega) (by omega) hval
     refine(Uad _ (a::r)).mpr ⟨ho,by simp only [List.length_cons];omega,?_⟩
     rw [hv];exact hK
theorem xZ(hΓ:Holds P Γ){f fw ft:Nat}(hw:Γ fw=.dat true Wm)(ht:Γ ft=.fresh 1 kw)(hc:check P f=some (35,(Zh fw ft).strip,[.tmp 4])):Sound P f (.dat false Qv):=by
 refine ka hc yad hΓ (λargs K hcl hfi hG=>?_);match args,hG with
 | [a,b],hG=>
  obtain⟨x,rfl,hx,y,rfl,hy,hxl,hle,hK⟩:=hG;refine⟨by simp,?_⟩
  simp only [go_sem,Zh,hw,ht];intro h1;generalize hN:x.length=N at *
  refine Ya (λp:List Nat×Nat=>match p.1 with
    | []=>⟨mkV [(0,wsA x),(1,wsA y),(5,.one .emp),(6,.one (.lit (.int .u64 p.2))),(10,.one (.lit (.int .i64 N))),(11,.one (.lit (.int .i64 0)))],mkH []⟩
    | a::r=>⟨mkV [(0,wsA x),(1,wsA y),(5,.one (.own 28 1 1 0 (r.length+1))),(6,.one (.lit (.int .u64 p.2))),(10,.one (.lit (.int .i64 N))),(11,.one (.lit (.int .i64 (r.length+1:Nat))))],mkH [(28,⟨1,some ⟨(a::r).map wc,1,true⟩⟩)]⟩)
   (λp=>p.1.length<=N/\WL p.1/\p.2<=1/\val p.1+val (y.take p.1.length)=val (x.take p.1.length)+4294967296 ^ p.1.length*p.2) (λp=>N-p.1.length) ([],0) ?_ ?_ ?_
  .exact Qa (by simp [okS,okV,okC,okL,okH,okB,okE,ja,va,Za,Va,wsA,ws]) trivial
  .simp [Yc,val]
  .rintro⟨o,c⟩ ⟨hoN,ho,hc1,hval⟩;simp only at hoN ho hc1 hval;cases o with
   | nil=>
    have g1:=Xb hx 0;have g2:=Xb hy 0;obtain⟨s,e1,e2,e3,e4⟩:=XW g1 g2 hc1;simp only [go_sem,hw,ht,e1,e2];refine⟨λhlt=>?_,λhge=>?_⟩
    .refine⟨hx,by omega,hy,by omega,by simp,⟨by omega,by decide⟩,by decide,([s % 4294967296],1-s / 4294967296),Qa (by simp [okS,okV,okC,okL,okH,okB,okE,ja,va,Za,Va,wsA,ws,e2]) (Z3 (l':=[s % 4294967296]) (by simp [wc])),⟨by simp;omega,Wc.2 ⟨Nat.mod_lt _ (by omega),Yc⟩,e4,?_⟩,by simp;omega⟩
     have t1:=qc x 0;have t2:=qc y 0;simp only [List.length_cons,List.length_nil,Nat.zero_add,List.take_zero,xo,yj,Nat.pow_zero,Nat.pow_one,Nat.mul_zero]at t1 t2 hval ⊢;omega
    .have hx0:x=[]:=List.eq_nil_of_length_eq_zero (by omega)
     have:val x-val y=val []:=by rw [hx0];simp [val]
     rw [<-this];exact hK
   | cons a r=>
    have g1:=Xb hx (r.length+1);have g2:=Xb hy (r.length+1);obtain⟨s,e1,e2,e3,e4⟩:=XW g1 g2 hc1;simp only [go_sem,hw,ht,e1,e2];refine⟨λhlt=>?_,λhge=>?_⟩
    .refine⟨hx,hy,by simp,by omega,⟨by omega,by decide⟩,by omega,(a::(r++[s % 4294967296]),1-s / 4294967296),Qa (by simp [okS,okV,okC,okL,okH,okB,okE,ja,va,Za,Va,wsA,ws,e2]) (Z3 (l':=a::(r++[s % 4294967296])) (by simp [wc])),⟨by simp;omega,?_,e4,?_⟩,by simp;omega⟩
     .exact Ue (a:=a::r) |>.2 ⟨ho,Wc.2 ⟨Nat.mod_lt _ (by omega),Yc⟩⟩
     .have e:a::(r++[s % 4294967296])=(a::r)++[s % 4294967296]:=rfl;simp only [List.length_cons]at hval;simp only [e,List.length_append,List.length_cons,List.length_nil,Nat.zero_add,qc x (r.length+1),qc y (r.length+1),vc,yj (s % 4294967296),xo,Nat.mul_zero,Nat.add_zero,Nat.pow_succ 4294967296 (r.length+1)];exact qJ hval e3
    .have e:(a::r).length=N:=by simp only [List.length_cons]at hoN ⊢;omega
     have hv:=jJ ho hx (by omega) hle hval
     refine(Uad _ (a::r)).mpr ⟨ho,by omega,?_⟩
     rw [hv];exact hK
theorem qaj(hΓ:Holds P Γ){f fw:Nat}(hw:Γ fw=.dat true Wm)(hc:check P f=some (30,(yf fw).strip,[.tmp 4])):Sound P f (.dat true uv):=by
 refine ka hc waF hΓ (λargs K hcl hfi hG=>?_);match args,hG with
 | [a,b],hG=>
  obtain⟨x,rfl,hx,y,rfl,hy,hK⟩:=hG;refine⟨by simp,?_⟩
  simp only [go_sem,yf,hw];intro h1 h2;refine⟨⟨by omega,by omega⟩,?_⟩
  refine Ya (λn:Nat=>⟨mkV [(0,wsA x),(1,wsA y),(5,.one (.lit (.int .i64 ((n:Int)-1))))],mkH []⟩) (λn=>n<=max x.length y.length/\val (x.drop n)=val (y.drop n)) id (max x.length y.length) ?_ ?_ ?_
  .exact Qa (by simp [okS,okV,okC,okL,okH,okB,okE,ja,va,Za,Va,wsA,ws]) trivial
  .refine⟨Nat.le_refl _,?_⟩;rw [List.drop_of_length_le (by omega),List.drop_of_length_le (by omega)]
  .rintro n ⟨hn,hd⟩;simp only [go_sem,hw];refine⟨λh=>?_,λh=>?_⟩
   .have e:((n:Int)-1).toNat=n-1:=by omega
    have e1:=kC x (n-1);have e2:=kC y (n-1);have e3:n-1+1=n:=by omega
    rw [e3]at e1 e2;rw [e];refine⟨hx,h,hy,h,λhe=>⟨by omega,n-1,Qa (by simp [okS,okV,okC,okL,okH,okB,okE,ja,va,Za,Va,wsA,ws];omega) trivial,⟨by omega,by rw [e1,e2,hd,he]⟩,by simp only [id];omega⟩,λhe=>⟨hx,h,hy,h,λhlt=>?_,λhge=>?_⟩⟩
    .rw [J0 (wbl hx (by rw [e3];exact hd) hlt)]at hK;exact hK
    .rw [kaj (wbl (m:=n-1) hy (by rw [e3];exact hd.symm) (by omega))]at hK;exact hK
   .have:n=0:=by omega
    subst this;have:val x=val y:=hd;rw [this,XaY]at hK;exact hK
theorem Wae(hΓ:Holds P Γ){f:Nat}(hc:check P f=some (25,ki.strip,[.tmp 2])):Sound P f (.dat true Ur):=by
 refine ka hc kai hΓ (λargs K hcl hfi hG=>?_);match args,hG with
 | [a],hG=>
  obtain⟨x,rfl,hx,hxl,hK⟩:=hG;refine⟨by simp,?_⟩
  simp only [go_sem,ki];intro h1;refine⟨λh=>?_,λh _=>⟨by omega,by omega,λ_=>⟨by omega,by omega,by omega,?_⟩⟩⟩
  .rw [if_pos h]at hK;exact hK
  rw [if_neg h]at hK;have e:((x.length:Int)-1).toNat=x.length-1:=by omega
  rw [e];have hb:=Xb hx (x.length-1);generalize x.getD (x.length-1) 0=w at *
  have hb32:bln w<=32:=kbk (by omega)
  refine Ya (λp:Nat×Nat=>⟨mkV [(3,.one (.lit (.int .i64 (32*((x.length:Int)-1)+p.1)))),(4,.one (.lit (.int .u32 p.2)))],mkH []⟩) (λp=>p.2<4294967296/\p.1+bln p.2=bln w) (λp=>p.2) (0,w) ?_ ?_ ?_
  .exact Qa (by simp [okS,okV,okC,okL,okH,okB,okE,ja,va,Za,Va,wsA,ws]) trivial
  .exact⟨hb,by simp⟩
  .rintro⟨i,m⟩ ⟨hm,hi⟩;simp only at hm hi;simp only [go_sem];refine⟨λh=>?_,λh=>?_⟩
   .have e:=Yag (n:=m) (by omega)
    refine⟨by omega,by decide,(i+1,m / 2),Qa (by simp [okS,okV,okC,okL,okH,okB,okE,ja,va,Za,Va,wsA,ws];omega) trivial,⟨by simp only;omega,by simp only;omega⟩,by simp only;omega⟩
   .have:m=0:=by omega
    subst this;rw [kJ]at hi;have e:(32*((x.length:Int)-1)+(i:Int))=((32*(x.length-1)+bln w:Nat):Int):=by omega
    rw [e];exact hK
theorem ZW(hΓ:Holds P Γ){f ft:Nat}(ht:Γ ft=.fresh 1 kw)(hc:check P f=some (68,(Vh ft).strip,[.tmp 4])):Sound P f (.dat false Uq):=by
 refine ka hc XQ hΓ (λargs K hcl hfi hG=>?_);match args,hG with
 | [a,b],hG=>
  obtain⟨x,rfl,hx,y,rfl,hy,hxl,hyl,hK⟩:=hG;refine⟨by simp,?_⟩
  simp only [go_sem,Vh,ht];intro h1 h2;refine⟨by omega,by omega,λ_=>?_⟩
  generalize hN:x.length+y.length=N;refine Ya (λp:Nat×List Nat=>⟨mkV [(0,wsA x),(1,wsA y),(5,.one (.own 15 1 1 0 N)),(17,.one (.lit (.int .i64 x.length))),(18,.one (.lit (.int .i64 p.1)))],mkH [(15,⟨1,some ⟨p.2.map wc,1,true⟩⟩)]⟩)
   (λp=>p.1<=x.length/\WL p.2/\p.2.length=N/\val p.2=val (x.take p.1)*val y/\∀j,p.1+y.length<=j->p.2.getD j 0=0) (λp=>x.length-p.1) (0,List.replicate N 0) ?_ ?_ ?_
  .exact Qa (by simp [okS,okV,okC,okL,okH,okB,okE,ja,va,Za,Va,wsA,ws]) (Xg (by simp))
  .simp [UaW,val,YX];intro j _;rw [List.getElem?_replicate];split <;> rfl
  .rintro⟨i,o⟩ ⟨hi,ho,hoN,hval,hz⟩;simp only at hi ho hoN hval hz;simp only [go_sem,ht,hoN];refine⟨λhlt=>?_,λhge=>?_⟩
   .have g1:=Xb hx i;intro _;refine Ya (λp:Nat×Nat×List Nat=>⟨mkV [(0,wsA x),(1,wsA y),(5,.one (.own 15 1 1 0 N)),(6,.one (.lit (.int .i64 i))),(7,.one (.lit (.int .u64 p.2.1))),(17,.one (.lit (.int .i64 x.length))),(18,.one (.lit (.int .i64 i))),(22,.one (.lit (.int .i64 y.length))),(23,.one (.lit (.int .i64 p.1)))],mkH [(15,⟨1,some ⟨p.2.2.map wc,1,true⟩⟩)]⟩)
     (λp=>p.1<=y.length/\p.2.1<4294967296/\WL p.2.2/\p.2.2.length=N/\val p.2.2+4294967296 ^ i*4294967296 ^ p.1*p.2.1=val (x.take i)*val y+4294967296 ^ i*x.getD i 0*val (y.take p.1)/\∀j,i+y.length<=j->p.2.2.getD j 0=0) (λp=>y.length-p.1) (0,0,o) ?_ ?_ ?_
    .exact Qa (by simp [okS,okV,okC,okL,okH,okB,okE,ja,va,Za,Va,wsA,ws]) (Xg rfl)
    .exact⟨Nat.zero_le _,by simp,ho,hoN,by simp [val,hval],hz⟩
    .rintro⟨k,c,o⟩ ⟨hk,hc,ho,hoN,hval,hz⟩;simp only at hk hc ho hoN hval hz;simp only [go_sem,ht,hoN];refine⟨λhlt2=>?_,λhge2=>?_⟩
     .have g2:=Xb hy k;have g3:=Xb ho (i+k);have s1:=XV g1 g2 hc g3;have e1:x.getD i 0 % 18446744073709551616=x.getD i 0:=by omega
      have e2:y.getD k 0 % 18446744073709551616=y.getD k 0:=by omega
      have e3:o.getD (i+k) 0 % 18446744073709551616=o.getD (i+k) 0:=by omega
      have hstep:=JP hval (by omega) rfl
      rw [e1,e2,e3,Nat.mod_eq_of_lt (show x.getD i 0*y.getD k 0<18446744073709551616 by omega),Nat.mod_eq_of_lt (show x.getD i 0*y.getD k 0+o.getD (i+k) 0<18446744073709551616 by omega),Nat.mod_eq_of_lt (show x.getD i 0*y.getD k 0+o.getD (i+k) 0+c<18446744073709551616 by omega),Nat.add_comm _ c]
      generalize hs:c+(x.getD i 0*y.getD k 0+o.getD (i+k) 0)=s at s1 hstep;refine⟨hlt,hlt2,by omega,by omega,by omega,by omega,by decide,by omega,by omega,by omega,(k+1,s / 4294967296,o.set (i+k) (s % 4294967296)),Qa (by simp [okS,okV,okC,okL,okH,okB,okE,ja,va,Za,Va,wsA,ws]) (Xg rfl),⟨by simp only;omega,by simp only;omega,kac ho _ (Nat.mod_lt _ (by omega)),by simp [hoN],hstep,?_⟩,by simp only;omega⟩
      intro j hj;simp only;rw [Num.getD_set_ne (by omega)];exact hz j hj
     .have e:k=y.length:=by omega
      subst e;have hend:=kad hval (by omega) (hz _ (Nat.le_refl _))
      rw [Nat.mod_eq_of_lt hc];refine λ_=>⟨by omega,by omega,by omega,by omega,(i+1,o.set (i+y.length) c),Qa (by simp [okS,okV,okC,okL,okH,okB,okE,ja,va,Za,Va,wsA,ws]) (Xg rfl),⟨by simp only;omega,kac ho _ hc,by simp [hoN],hend,?_⟩,by simp only;omega⟩
      intro j hj;simp only at hj ⊢;rw [Num.getD_set_ne (by omega)];exact hz j (by omega)
   .have e:i=x.length:=by omega
    subst e;rw [wj (Nat.le_refl _)]at hval;refine⟨ho,by omega,?_⟩
    rw [hval];exact hK
end Go.Abs
end
section
namespace Go.Abs
open Go.Num
variable {P:Program} {Γ:Nat->Spec}
def Vk:AC:=(.seq (.ops false [.m 2 (.c (.one .emp))])
 (.fg [0] (.seq (.block 0 (.loop (.seq (.seq (.ops false [.m 3 (.t 0),.u 4 (.len (.t 3)),.u 5 (.bin .gtr (.t 4) (.i 0)),.m 6 (.t 5),.w 7 6 true (.mv (.t 0)),.w 8 6 true (.mv (.t 0)),.w 9 6 true (.len (.t 8)),.w 10 6 true (.bin .sub (.t 9) (.i 1)),.w 11 6 true (.idx 1 (.t 7) (.t 10)),.w 12 6 true (.ld none 1 false (.t 11)),.w 13 6 true (.bin .eql (.t 12) (.c (.one (.lit (.int .u32 0))))),.u 14 (.pick (.t 6) (.t 13) .fa)])
 (.fg [0,14] (.cond (.t 14) .skip (.exit 0))))
 (.fg [0] (.block 1 (.ops false [.m 15 (.t 0),.m 16 (.t 0),.u 17 (.len (.t 16)),.u 18 (.bin .sub (.t 17) (.i 1)),.u 19 (.sl 1 (.t 15) none (some (.t 18))),.m 0 (.t 19)]))))))
 (.fg [0] (.seq (.ops false [.m 20 (.t 0),.m 2 (.t 20)])
 .ret)))))
def kh(f0 f1:Nat):AC:=(.seq (.ops false [.m 2 (.c (.one .emp))])
 (.fg [0] (.seq (.seq (.ops false [.m 4 (.t 0),.u 5 (.len (.t 4)),.m 6 (.i 0)])
 (.fg [0,5,6] (.block 0 (.loop (.seq (.ops false [.u 7 (.bin .lss (.t 6) (.t 5))])
 (.fg [0,5,6,7] (.seq (.cond (.t 7) .skip (.exit 0))
 (.fg [0,5,6] (.seq (.block 1 (.seq (.ops false [.m 8 (.t 6),.m 3 (.t 8)])
 (.fg [0,3,5,6] (.ops false [.m 9 (.t 0),.m 10 (.t 3),.m 11 (.t 0),.m 12 (.t 3),.u 13 (.call f0 [(.t 11),(.t 12)]),.u 14 (.bin .shr (.t 13) (.c (.one (.lit (.int .u64 1))))),.m 15 (.t 0),.m 16 (.t 3),.u 17 (.bin .add (.t 16) (.i 1)),.u 18 (.call f0 [(.t 15),(.t 17)]),.u 19 (.bin .shl (.t 18) (.c (.one (.lit (.int .u64 31))))),.u 20 (.bin .or (.t 14) (.t 19)),.u 21 (.conv .u32 (.t 20)),.u 22 (.idx 1 (.t 9) (.t 10)),.n (.st none 1 (.t 22) (.t 21))]))))
 (.fg [0,5,6] (.ops false [.u 23 (.bin .add (.t 6) (.i 1)),.m 6 (.t 23)])))))))))))
 (.fg [0] (.seq (.ops false [.m 24 (.t 0),.u 25 (.call f1 [(.t 24)]),.m 2 (.t 25)])
 .ret)))))
def Jf(f0:Nat):AC:=(.seq (.ops false [.m 4 (.c (.one (.lit (.int .u64 0))))])
 (.fg [0,1,4] (.seq (.ops false [.m 7 (.t 0),.u 8 (.len (.t 7)),.m 9 (.i 0)])
 (.fg [0,1,4,8,9] (.block 0 (.loop (.seq (.ops false [.u 10 (.bin .lss (.t 9) (.t 8))])
 (.fg [0,1,4,8,9,10] (.seq (.cond (.t 10) .skip (.exit 0))
 (.fg [0,1,4,8,9] (.seq (.block 1 (.seq (.ops false [.m 11 (.t 9),.m 5 (.t 11)])
 (.fg [0,1,4,5,8,9] (.seq (.ops false [.m 12 (.t 0),.m 13 (.t 5),.u 14 (.call f0 [(.t 12),(.t 13)]),.u 15 (.bin .add (.c (.one (.lit (.int .u64 4294967296)))) (.t 14)),.m 16 (.t 1),.m 17 (.t 5),.u 18 (.call f0 [(.t 16),(.t 17)]),.u 19 (.bin .sub (.t 15) (.t 18)),.m 20 (.t 4),.u 21 (.bin .sub (.t 19) (.t 20)),.m 6 (.t 21)])
 (.fg [0,1,5,6,8,9] (.ops false [.m 22 (.t 0),.m 23 (.t 5),.m 24 (.t 6),.u 25 (.conv .u32 (.t 24)),.m 26 (.t 6),.u 27 (.bin .shr (.t 26) (.c (.one (.lit (.int .u64 32))))),.u 28 (.bin .sub (.c (.one (.lit (.int .u64 1)))) (.t 27)),.u 29 (.idx 1 (.t 22) (.t 23)),.n (.st none 1 (.t 29) (.t 25)),.m 4 (.t 28)]))))))
 (.fg [0,1,4,8,9] (.ops false [.u 30 (.bin .add (.t 9) (.i 1)),.m 9 (.t 30)])))))))))))))
theorem Xa4(hΓ:Holds P Γ){f:Nat}(hc:check P f=some (21,Vk.strip,[.tmp 2])):Sound P f (.own wab):=by
 refine ug hc hΓ (λd args h K hG=>?_);unfold wab at hG;split at hG
 case h_2=>exact hG.elim
 rename_i r ver len;obtain⟨l,post,rfl,hr,hl,hll,hK⟩:=hG;refine⟨[r],[⟨(l++post).map wc,1,true⟩],[.one (.own 1048576 ver 1 0 l.length)],by simp,rfl,?_,?_,?_,λhfi=>⟨by simp,?_⟩⟩
 .intro i r' b h1 h2;cases i with
  | zero=>simp only [List.getElem?_cons_zero,Option.some.injEq]at h1 h2;subst h1 h2;exact⟨by rw [hr],rfl,of_eq_true (we _)⟩
  | succ i=>simp at h1
 .simp [exA,exC,exB,nameOf,pinA,wsA,ws]
 .intro a ha;simp only [List.mem_cons,List.not_mem_nil,or_false]at ha;subst ha;simp [pasA,pasC,pasB,nameOf,pinA]
 simp only [go_sem,Vk,hr];refine Ya (λn:Nat=>⟨mkV [(0,.one (.own 1048576 ver 1 0 n))],mkH [(1048576,⟨ver,some ⟨(l++post).map wc,1,true⟩⟩)]⟩)
  (λn=>n<=l.length/\val (l.take n)=val l) id l.length ?_ ?_ ?_
 .exact Qa (by simp [okS,okV,okC,okL,okH,okB,okE,ja,va,Za,Va,wsA,ws]) (Xg (by simp))
 .simp
 .rintro n ⟨hn,ht⟩;simp only [go_sem,hr];rw [show((n:Int)-1).toNat=n-1 by omega]
  refine λ_=>⟨λh=>λ_=>⟨by omega,by omega,by simp;omega,?_,?_⟩,λh=>?_⟩
  .rw [yaS (by omega)]
   refine λh0 _=>⟨by omega,by omega,by omega,n-1,Qa (by simp [okS,okV,okC,okL,okH,okB,okE,ja,va,Za,Va,wsA,ws]) (Xg rfl),⟨by omega,?_⟩,by simp only [id];omega⟩
   have:=qc l (n-1);rw [show n-1+1=n by omega,h0,Nat.mul_zero,Nat.add_zero]at this
   rw [<-this];exact ht
  .rw [yaS (by omega)]
   intro h0;have:=We (Jz hl n) (YM h hn h0);rw [ht]at this;have h2:=hK (l.drop n++post);rw [this,List.length_take,Nat.min_eq_left hn,<-List.append_assoc,List.take_append_drop]at h2;exact h2
  .have h1:n=0:=by omega
   subst h1;have:val l=0:=by rw [<-ht];simp [val]
   have h2:=hK (l++post);rw [this,Yb]at h2;exact h2
theorem Wan(hΓ:Holds P Γ){f fw fc:Nat}(hw:Γ fw=.dat true Wm)(hc' : Γ fc=.own wab)(hc:check P f=some (26,(kh fw fc).strip,[.tmp 2])):Sound P f (.own Yr):=by
 refine ug hc hΓ (λd args h K hG=>?_);unfold Yr at hG;split at hG
 case h_2=>exact hG.elim
 rename_i r ver len;obtain⟨l,post,rfl,hr,hl,hll,hK⟩:=hG;refine⟨[r],[⟨(l++post).map wc,1,true⟩],[.one (.own 1048576 ver 1 0 l.length)],by simp,rfl,?_,?_,?_,λhfi=>⟨by simp,?_⟩⟩
 .intro i r' b h1 h2;cases i with
  | zero=>simp only [List.getElem?_cons_zero,Option.some.injEq]at h1 h2;subst h1 h2;exact⟨by rw [hr],rfl,of_eq_true (we _)⟩
  | succ i=>simp at h1
 .simp [exA,exC,exB,nameOf,pinA,wsA,ws]
 .intro a ha;simp only [List.mem_cons,List.not_mem_nil,or_false]at ha;subst ha;simp [pasA,pasC,pasB,nameOf,pinA]
 simp only [go_sem,kh,hr];intro h1;refine Ya (λo:List Nat=>⟨mkV [(0,.one (.own 1048576 ver 1 0 l.length)),(5,.one (.lit (.int .i64 l.length))),(6,.one (.lit (.int .i64 o.length)))],mkH [(1048576,⟨ver,some ⟨(o++(l.drop o.length++post)).map wc,1,true⟩⟩)]⟩)
  (λo=>o.length<=l.length/\WL o/\val o=val l / 2 % 4294967296 ^ o.length) (λo=>l.length-o.length) [] ?_ ?_ ?_
 .exact Qa (by simp [okS,okV,okC,okL,okH,okB,okE,ja,va,Za,Va,wsA,ws]) (Xg (by simp))
 .simp [Yc,val];omega
 .rintro o ⟨hoN,ho,hval⟩;have hw2:=Ybs ho hl;simp only [go_sem,hr,hw,hc',kaV hoN,zah hoN,Nat.le_add_right,jaA,vW];refine⟨λhlt=>⟨hw2,by decide,by omega,hw2,by decide,⟨rfl,by have:=Xb hl o.length;omega,by omega⟩,hlt,by omega,by omega,?_⟩,λhge=>?_⟩
  .have hd:=Wba (Xb hl o.length) (Xb hl (o.length+1));rw [yac hl (by omega),Nat.pow_one]at hd
   rw [hd,uav _ hlt];generalize hv:val l / 2 / 4294967296 ^ o.length % 4294967296=v;have hvB:v<4294967296:=by rw [<-hv];exact Nat.mod_lt _ (by omega)
   refine⟨o++[v],Qa (by simp [okS,okV,okC,okL,okH,okB,okE,ja,va,Za,Va,wsA,ws]) (Xg rfl),⟨by simp;omega,Ue.2 ⟨ho,Wc.2 ⟨hvB,Yc⟩⟩,?_⟩,by simp;omega⟩
   rw [vc,List.length_append,List.length_singleton,QI,hv,<-hval];simp [val]
  .have e:o.length=l.length:=by omega
   have hlt:val l / 2<4294967296 ^ l.length:=Nat.lt_of_le_of_lt (Nat.div_le_self _ _) (wn hl);rw [e,Nat.mod_eq_of_lt hlt]at hval;rw [List.drop_of_length_le (by omega),List.nil_append,<-e]
   refine⟨o,post,rfl,by simp [Za],ho,by omega,λpost'=>?_⟩
   simp only [go_sem];rw [hval];exact hK post'
theorem UaH(hΓ:Holds P Γ){f fw:Nat}(hw:Γ fw=.dat true Wm)(hc:check P f=some (31,(Jf fw).strip,[])):Sound P f (.own jy):=by
 refine ug hc hΓ (λd args h K hG=>?_);unfold jy at hG;split at hG
 case h_3=>exact hG.elim
 case h_2=>
  rename_i r ver len b _;obtain⟨y,rfl,hy,l,post,rfl,hr,hl,hll,hle,hK⟩:=hG;refine⟨[r],[⟨(l++post).map wc,1,true⟩],[.one (.own 1048576 ver 1 0 l.length),wsA y],by simp,rfl,?_,?_,?_,λhfi=>⟨by simp,?_⟩⟩
  .intro i r' b h1 h2;cases i with
   | zero=>simp only [List.getElem?_cons_zero,Option.some.injEq]at h1 h2;subst h1 h2;exact⟨by rw [hr],rfl,of_eq_true (we _)⟩
   | succ i=>simp at h1
  .simp [exA,exC,exB,nameOf,pinA,wsA,ws]
  .intro a ha;simp only [List.mem_cons,List.not_mem_nil,or_false]at ha;rcases ha with rfl | rfl
   .simp [pasA,pasC,pasB,nameOf,pinA]
   .exact .slice _ (of_eq_true (we _))
  simp only [go_sem,Jf,hr];intro h1;refine Ya (λp:List Nat×Nat=>⟨mkV [(0,.one (.own 1048576 ver 1 0 l.length)),(1,wsA y),(4,.one (.lit (.int .u64 p.2))),(8,.one (.lit (.int .i64 l.length))),(9,.one (.lit (.int .i64 p.1.length)))],
    mkH [(1048576,⟨ver,some ⟨(p.1++(l.drop p.1.length++post)).map wc,1,true⟩⟩)]⟩)
   (λp=>p.1.length<=l.length/\WL p.1/\p.2<=1/\val p.1+val (y.take p.1.length)=val (l.take p.1.length)+4294967296 ^ p.1.length*p.2) (λp=>l.length-p.1.length) ([],0) ?_ ?_ ?_
  .exact Qa (by simp [okS,okV,okC,okL,okH,okB,okE,ja,va,Za,Va,wsA,ws]) (Xg (by simp))
  .simp [Yc,val]
  .rintro⟨o,c⟩ ⟨hoN,ho,hc1,hval⟩;simp only at hoN ho hc1 hval;have hw2:=Ybs ho hl;simp only [go_sem,hr,hw,kaV hoN,zah hoN,Nat.le_add_right,jaA,vW];refine⟨λhlt=>?_,λhge=>?_⟩
   .obtain⟨s,e1,e2,e3,e4⟩:=XW (Xb hl o.length) (Xb hy o.length) hc1;simp only [e1,e2,waU,uav _ hlt];refine⟨hw2,hy,⟨by omega,by decide,by decide⟩,hlt,by omega,by omega,(o++[s % 4294967296],1-s / 4294967296),Qa (by simp [okS,okV,okC,okL,okH,okB,okE,ja,va,Za,Va,wsA,ws,e2]) (by first | exact Z3 rfl | exact⟨Ya7 rfl,kb rfl,trivial⟩),⟨by simp;omega,Ue.2 ⟨ho,Wc.2 ⟨Nat.mod_lt _ (by omega),Yc⟩⟩,e4,?_⟩,by simp;omega⟩
    simp only [List.length_append,List.length_cons,List.length_nil,Nat.zero_add,qc,vc,yj,xo,Nat.mul_zero,Nat.add_zero,Nat.pow_succ];exact qJ hval e3
   .have e:o.length=l.length:=by omega
    have hv:=jJ ho hl e hle hval;have hd:=XD ho;rw [hv,e]at hd;rw [hd]at hK;rw [List.drop_of_length_le (by omega),List.nil_append]
    exact hK
 case h_1=>
  rename_i r ver len r2 ver2 len2;obtain⟨l,post,y,posty,hne,rfl,hr,hl,hll,rfl,hr2,hy,hle,hK⟩:=hG;refine⟨[r,r2],[⟨(l++post).map wc,1,true⟩,⟨(y++posty).map wc,1,true⟩],[.one (.own 1048576 ver 1 0 l.length),.one (.own 1048577 ver2 1 0 y.length)],by simp [hne],rfl,?_,?_,?_,λhfi=>⟨by simp,?_⟩⟩
  .intro i r' b h1 h2;cases i with
   | zero=>simp only [List.getElem?_cons_zero,Option.some.injEq]at h1 h2;subst h1 h2;exact⟨by rw [hr],rfl,of_eq_true (we _)⟩
   | succ i=>
    cases i with
    | zero=>simp only [List.getElem?_cons_zero,List.getElem?_cons_succ,Option.some.injEq]at h1 h2;subst h1 h2;exact⟨by rw [hr2],rfl,of_eq_true (we _)⟩
    | succ i=>simp at h1
  .simp [exA,exC,exB,nameOf,pinA,wsA,ws]
  .intro a ha;simp only [List.mem_cons,List.not_mem_nil,or_false]at ha;rcases ha with rfl | rfl
   .simp [pasA,pasC,pasB,nameOf,pinA]
   .simp [pasA,pasC,pasB,nameOf,pinA]
  simp only [go_sem,Jf,hr,hr2];intro h1;refine Ya (λp:List Nat×Nat=>⟨mkV [(0,.one (.own 1048576 ver 1 0 l.length)),(1,.one (.own 1048577 ver2 1 0 y.length)),(4,.one (.lit (.int .u64 p.2))),(8,.one (.lit (.int .i64 l.length))),(9,.one (.lit (.int .i64 p.1.length)))],
    mkH [(1048576,⟨ver,some ⟨(p.1++(l.drop p.1.length++post)).map wc,1,true⟩⟩),(1048577,⟨ver2,some ⟨(y++posty).map wc,1,true⟩⟩)]⟩)
   (λp=>p.1.length<=l.length/\WL p.1/\p.2<=1/\val p.1+val (y.take p.1.length)=val (l.take p.1.length)+4294967296 ^ p.1.length*p.2) (λp=>l.length-p.1.length) ([],0) ?_ ?_ ?_
  .exact Qa (by simp [okS,okV,okC,okL,okH,okB,okE,ja,va,Za,Va,wsA,ws]) ⟨kb (by simp),kb rfl,trivial⟩
  .simp [Yc,val]
  .rintro⟨o,c⟩ ⟨hoN,ho,hc1,hval⟩;simp only at hoN ho hc1 hval;have hw2:=Ybs ho hl;simp only [go_sem,hr,hr2,hw,kaV hoN,zah hoN,Nat.le_add_right,jaA,vW,List.length_append,List.take_left];refine⟨λhlt=>?_,λhge=>?_⟩
   .obtain⟨s,e1,e2,e3,e4⟩:=XW (Xb hl o.length) (Xb hy o.length) hc1;simp only [e1,e2,waU,uav _ hlt];refine⟨hw2,hy,⟨by omega,by decide,by decide⟩,hlt,by omega,by omega,(o++[s % 4294967296],1-s / 4294967296),Qa (by simp [okS,okV,okC,okL,okH,okB,okE,ja,va,Za,Va,wsA,ws,e2]) (by first | exact Z3 rfl | exact⟨Ya7 rfl,kb rfl,trivial⟩),⟨by simp;omega,Ue.2 ⟨ho,Wc.2 ⟨Nat.mod_lt _ (by omega),Yc⟩⟩,e4,?_⟩,by simp;omega⟩
    simp only [List.length_append,List.length_cons,List.length_nil,Nat.zero_add,qc,vc,yj,xo,Nat.mul_zero,Nat.add_zero,Nat.pow_succ];exact qJ hval e3
   .have e:o.length=l.length:=by omega
    have hv:=jJ ho hl e hle hval;have hd:=XD ho;rw [hv,e]at hd;rw [hd]at hK;rw [List.drop_of_length_le (by omega),List.nil_append]
    exact hK
end Go.Abs
end
section
namespace Go.Abs
open Go.Num
variable {P:Program} {Γ:Nat->Spec}
def uk(f0 f1 f2 f3 f4 f5:Nat):AC:=(.seq (.ops false [.m 4 (.c (.one .emp))])
 (.fg [0,1] (.seq (.ops false [.m 6 (.t 0),.u 7 (.callf f0 [(.t 6)]),.m 8 (.t 1),.u 9 (.callf f0 [(.t 8)]),.m 0 (.t 7),.m 1 (.t 9)])
 (.fg [0,1] (.seq (.seq (.ops false [.m 10 (.t 0),.u 11 (.len (.t 10)),.u 12 (.bin .eql (.t 11) (.i 0))])
 (.fg [0,1,12] (.cond (.t 12) (.seq (.ops false [.m 13 (.t 1),.m 4 (.t 13)])
 .ret) .skip)))
 (.fg [0,1] (.seq (.seq (.ops false [.m 14 (.t 1),.u 15 (.len (.t 14)),.u 16 (.bin .eql (.t 15) (.i 0))])
 (.fg [0,1,16] (.cond (.t 16) (.seq (.ops false [.m 17 (.t 0),.m 4 (.t 17)])
 .ret) .skip)))
 (.fg [0,1] (.seq (.ops false [.m 5 (.i 0)])
 (.fg [0,1,5] (.seq (.block 0 (.loop (.seq (.seq (.ops false [.m 18 (.t 0),.u 19 (.idx 1 (.t 18) (.i 0)),.u 20 (.ld none 1 false (.t 19)),.u 21 (.bin .and (.t 20) (.c (.one (.lit (.int .u32 1))))),.u 22 (.bin .eql (.t 21) (.c (.one (.lit (.int .u32 0))))),.m 23 (.t 22),.w 24 23 true (.mv (.t 1)),.w 25 23 true (.idx 1 (.t 24) (.i 0)),.w 26 23 true (.ld none 1 false (.t 25)),.w 27 23 true (.bin .and (.t 26) (.c (.one (.lit (.int .u32 1))))),.w 28 23 true (.bin .eql (.t 27) (.c (.one (.lit (.int .u32 0))))),.u 29 (.pick (.t 23) (.t 28) .fa)])
 (.fg [0,1,5,29] (.cond (.t 29) .skip (.exit 0))))
 (.fg [0,1,5] (.block 1 (.seq (.ops false [.m 30 (.t 0),.u 31 (.call f1 [(.t 30)]),.m 32 (.t 1),.u 33 (.call f1 [(.t 32)]),.m 0 (.t 31),.m 1 (.t 33)])
 (.fg [0,1,5] (.ops false [.m 34 (.t 5),.u 35 (.bin .add (.t 34) (.i 1)),.m 5 (.t 35)]))))))))
 (.fg [0,1,5] (.seq (.block 2 (.loop (.seq (.seq (.ops false [.m 36 (.t 0),.u 37 (.len (.t 36)),.u 38 (.bin .gtr (.t 37) (.i 0))])
 (.fg [0,1,5,38] (.cond (.t 38) .skip (.exit 2))))
 (.fg [0,1,5] (.block 3 (.seq (.block 4 (.loop (.seq (.seq (.ops false [.m 39 (.t 0),.u 40 (.idx 1 (.t 39) (.i 0)),.u 41 (.ld none 1 false (.t 40)),.u 42 (.bin .and (.t 41) (.c (.one (.lit (.int .u32 1))))),.u 43 (.bin .eql (.t 42) (.c (.one (.lit (.int .u32 0)))))])
 (.fg [0,1,5,43] (.cond (.t 43) .skip (.exit 4))))
 (.fg [0,1,5] (.block 5 (.ops false [.m 44 (.t 0),.u 45 (.call f1 [(.t 44)]),.m 0 (.t 45)]))))))
 (.fg [0,1,5] (.seq (.block 6 (.loop (.seq (.seq (.ops false [.m 46 (.t 1),.u 47 (.idx 1 (.t 46) (.i 0)),.u 48 (.ld none 1 false (.t 47)),.u 49 (.bin .and (.t 48) (.c (.one (.lit (.int .u32 1))))),.u 50 (.bin .eql (.t 49) (.c (.one (.lit (.int .u32 0)))))])
 (.fg [0,1,5,50] (.cond (.t 50) .skip (.exit 6))))
 (.fg [0,1,5] (.block 7 (.ops false [.m 51 (.t 1),.u 52 (.call f1 [(.t 51)]),.m 1 (.t 52)]))))))
 (.fg [0,1,5] (.seq (.seq (.ops false [.m 53 (.t 0),.m 54 (.t 1),.u 55 (.call f2 [(.t 53),(.t 54)]),.u 56 (.bin .lss (.t 55) (.i 0))])
 (.fg [0,1,5,56] (.cond (.t 56) (.ops false [.m 57 (.t 1),.m 58 (.t 0),.m 0 (.t 57),.m 1 (.t 58)]) .skip)))
 (.fg [0,1,5] (.seq (.ops false [.m 59 (.t 0),.m 60 (.t 1),.u 61 (.call f3 [(.t 59),(.t 60)])])
 (.fg [0,1,5] (.ops false [.m 62 (.t 0),.u 63 (.call f4 [(.t 62)]),.m 0 (.t 63)]))))))))))))))
 (.fg [1,5] (.seq (.seq (.ops false [.m 64 (.t 5),.m 65 (.i 0)])
 (.fg [1,64,65] (.fz [1] (.block 8 (.loop (.seq (.ops false [.u 66 (.bin .lss (.t 65) (.t 64))])
 (.fg [1,64,65,66] (.seq (.cond (.t 66) .skip (.exit 8))
 (.fg [1,64,65] (.seq (.block 9 (.ops false [.m 67 (.t 1),.m 68 (.t 1),.u 69 (.call f5 [(.t 67),(.t 68)]),.m 1 (.t 69)]))
 (.fg [1,64,65] (.ops false [.u 70 (.bin .add (.t 65) (.i 1)),.m 65 (.t 70)]))))))))))))
 (.fg [1] (.seq (.ops false [.m 71 (.t 1),.m 4 (.t 71)])
 .ret)))))))))))))))))
theorem jai(hΓ:Holds P Γ){f ft fh fc fk fu fp:Nat}(ht:Γ ft=.fresh 1 kw)(hh:Γ fh=.own Yr)(hcm:Γ fc=.dat true uv)(hk:Γ fk=.own jy)(hu:Γ fu=.own wab)(hp:Γ fp=.dat false xr)
    (hc:check P f=some (72,(uk ft fh fc fk fu fp).strip,[.tmp 4])):Sound P f (.dat false wA):=by
  refine ka hc zaF hΓ (λargs K hcl hfi hG=>?_);match args,hG with
  | [a,b],hG=>
    obtain⟨x,rfl,hx,y,rfl,hy,hxl,hyl,hK⟩:=hG;refine⟨by simp,?_⟩
    simp only [go_sem,uk,ht,hh,hcm,hk,hu,hp];have hxv:=uz (wn hx);have hyv:=uz (wn hy);refine⟨hx,by omega,hy,by omega,λ_=>⟨λh0=>?_,λh0 _=>⟨λh1=>?_,λh1=>?_⟩⟩⟩
    . rw [ux.1 h0,Nat.gcd_zero_left]at hK;exact hK
    . rw [ux.1 h1,Nat.gcd_zero_right]at hK;exact hK
    rw [ux]at h0 h1;refine Ya (λp:(Nat×List Nat)×(Nat×List Nat)×Nat=>⟨mkV [(0,.one (.own 7 1 1 0 (digs p.1.1).length)),(1,.one (.own 9 1 1 0 (digs p.2.1.1).length)),(5,.one (.lit (.int .i64 p.2.2)))],mkH [(7,⟨1,some ⟨(digs p.1.1++p.1.2).map wc,1,true⟩⟩),(9,⟨1,some ⟨(digs p.2.1.1++p.2.1.2).map wc,1,true⟩⟩)]⟩)
      (λp=>p.1.1≠0/\p.2.1.1≠0/\p.1.1<=val x/\p.2.1.1<=val y/\p.1.1*2 ^ p.2.2<=val x/\Nat.gcd p.1.1 p.2.1.1*2 ^ p.2.2=Nat.gcd (val x) (val y)) (λp=>p.1.1) ((val x,[]),(val y,[]),0) ?_ ?_ ?_
    . exact Qa (by simp [okS,okV,okC,okL,okH,okB,okE,ja,va,Za,Va,wsA,ws]) ⟨kb (by simp),kb (by simp),trivial⟩
    . exact⟨h0,h1,Nat.le_refl _,Nat.le_refl _,by simp,by simp⟩
    . rintro⟨⟨a,pa⟩,⟨b,pb⟩,k⟩ ⟨ha,hb,hax,hby,hak,hg⟩
      simp only at ha hb hax hby hak hg;have hkb:k<32*x.length:=Ybo (n:=val x) (Nat.le_trans (Nat.le_mul_of_pos_left _ (by omega)) hak) (wn hx)
      have hal:=Nat.le_trans (ua hax) hxv;have hbl:=Nat.le_trans (ua hby) hyv;have hap:=km ha;have hbp:=km hb;simp only [go_sem,hh,hcm,hk,hu,hp,yn,Uy ha,Uy hb,hap,hbp,List.length_append];refine share4 (by omega) (by omega) (Nat.mod_lt _ (by omega)) (by omega) (by omega) (Nat.mod_lt _ (by omega)) (λhae hbe=>?_) (λhodd=>?_)
      . simp only [Yr]
        refine⟨digs a,pa,rfl,by simp [Za],Ua _,by omega,λpa'=>?_⟩
        refine⟨digs b,pb,rfl,by simp [upd,Za],Ua _,by omega,λpb'=>?_⟩
        simp only [go_sem,Jb];refine⟨by omega,((a / 2,pa'),(b / 2,pb'),k+1),Qa (by simp [okS,okV,okC,okL,okH,okB,okE,ja,va,Za,Va,wsA,ws]) ⟨kb rfl,kb rfl,trivial⟩,⟨by simp only;omega,by simp only;omega,by simp only;omega,by simp only;omega,?_,ybB (by omega) (by omega) hg⟩,by simp only;omega⟩
        simp only;refine Nat.le_trans ?_ hak;rw [Nat.pow_succ,Nat.mul_comm (2 ^ k) 2,<-Nat.mul_assoc];exact Nat.mul_le_mul_right _ (by omega)
      . refine Ya (λp : Bool × (Nat × List Nat) × (Nat × List Nat) => match p.1 with
            | false=>⟨mkV [(0,.one (.own 7 1 1 0 (digs p.2.1.1).length)),(1,.one (.own 9 1 1 0 (digs p.2.2.1).length)),(5,.one (.lit (.int .i64 k)))],mkH [(7,⟨1,some ⟨(digs p.2.1.1++p.2.1.2).map wc,1,true⟩⟩),(9,⟨1,some ⟨(digs p.2.2.1++p.2.2.2).map wc,1,true⟩⟩)]⟩
            | true=>⟨mkV [(0,.one (.own 9 1 1 0 (digs p.2.1.1).length)),(1,.one (.own 7 1 1 0 (digs p.2.2.1).length)),(5,.one (.lit (.int .i64 k)))],mkH [(9,⟨1,some ⟨(digs p.2.1.1++p.2.1.2).map wc,1,true⟩⟩),(7,⟨1,some ⟨(digs p.2.2.1++p.2.2.2).map wc,1,true⟩⟩)]⟩)
          (λp=>p.2.2.1≠0/\(p.2.1.1 % 2≠0∨p.2.2.1 % 2≠0)/\(digs p.2.1.1).length<=17179869184/\(digs p.2.2.1).length<=17179869184/\Nat.gcd p.2.1.1 p.2.2.1*2 ^ k=Nat.gcd (val x) (val y)) (λp=>p.2.1.1+p.2.2.1) (false,(a,pa),(b,pb)) ?_ ?_ ?_
        . exact Qa (by simp [okS,okV,okC,okL,okH,okB,okE,ja,va,Za,Va,wsA,ws]) ⟨kb rfl,kb rfl,trivial⟩
        . exact⟨hb,by simp only;omega,by simp only;omega,by simp only;omega,hg⟩
        clear hax hby hak hal hbl hap hbp hg ha hb hodd;rintro⟨sw,⟨a,pa⟩,⟨b,pb⟩⟩ ⟨hb,hodd,hal,hbl,hg⟩;simp only at hb hodd hal hbl hg;cases sw with
        | false=>
          simp only [go_sem,hh,hcm,hk,hu,hp,yn,Jb,List.length_append,Nat.le_add_right,List.take_left];refine λ_=>⟨λhap=>?_,λhap=>?_⟩
          . have ha:a≠0:=λe=>by rw [e,Yb]at hap;simp at hap
            refine Ya (λp:Nat×List Nat=>⟨mkV [(0,.one (.own 7 1 1 0 (digs p.1).length)),(1,.one (.own 9 1 1 0 (digs b).length)),(5,.one (.lit (.int .i64 k)))],mkH [(7,⟨1,some ⟨(digs p.1++p.2).map wc,1,true⟩⟩),(9,⟨1,some ⟨(digs b++pb).map wc,1,true⟩⟩)]⟩)
              (λp=>p.1≠0/\p.1<=a/\(p.1 % 2≠0∨b % 2≠0)/\Nat.gcd p.1 b*2 ^ k=Nat.gcd (val x) (val y)) (λp=>p.1) (a,pa) ?_ ?_ ?_
            . exact Qa (by simp [okS,okV,okC,okL,okH,okB,okE,ja,va,Za,Va,wsA,ws]) ⟨kb rfl,kb rfl,trivial⟩
            . exact⟨ha,Nat.le_refl _,hodd,hg⟩
            . rintro⟨a',pa⟩ ⟨ha',haa,hodd,hg⟩
              simp only at ha' haa hodd hg;have hap:=km ha';simp only [go_sem,hh,hcm,hk,hu,hp,yn,Jb,List.length_append,Nat.le_add_right,List.take_left,Uy ha',hap];refine⟨by omega,by omega,Nat.mod_lt _ (by omega),λhe=>?_,λhao=>?_⟩
              . simp only [Yr]
                refine⟨digs a',pa,rfl,by simp [Za],Ua _,by have:=ua haa;omega,λpa'=>?_⟩
                simp only [go_sem,hh,hcm,hk,hu,hp,yn,Jb,List.length_append,Nat.le_add_right,List.take_left];refine⟨(a' / 2,pa'),Qa (by simp [okS,okV,okC,okL,okH,okB,okE,ja,va,Za,Va,wsA,ws]) ⟨kb rfl,kb rfl,trivial⟩,⟨by simp only;omega,by simp only;omega,.inr (by omega),?_⟩,by simp only;omega⟩
                rw [<-hg];simp only;rw [YaX (by omega) (by omega)]
              . refine Ya (λp:Nat×List Nat=>⟨mkV [(0,.one (.own 7 1 1 0 (digs a').length)),(1,.one (.own 9 1 1 0 (digs p.1).length)),(5,.one (.lit (.int .i64 k)))],mkH [(7,⟨1,some ⟨(digs a'++pa).map wc,1,true⟩⟩),(9,⟨1,some ⟨(digs p.1++p.2).map wc,1,true⟩⟩)]⟩)
                  (λp=>p.1≠0/\p.1<=b/\Nat.gcd a' p.1*2 ^ k=Nat.gcd (val x) (val y)) (λp=>p.1) (b,pb) ?_ ?_ ?_
                . exact Qa (by simp [okS,okV,okC,okL,okH,okB,okE,ja,va,Za,Va,wsA,ws]) ⟨kb rfl,kb rfl,trivial⟩
                . exact⟨hb,Nat.le_refl _,hg⟩
                . rintro⟨b',pb⟩ ⟨hb',hbb,hg⟩
                  simp only at hb' hbb hg;have hbp:=km hb';simp only [go_sem,hh,hcm,hk,hu,hp,yn,Jb,List.length_append,Nat.le_add_right,List.take_left,Uy hb',hbp];refine⟨by omega,by omega,Nat.mod_lt _ (by omega),λhe=>?_,λhbo=>?_⟩
                  . simp only [Yr]
                    refine⟨digs b',pb,rfl,by simp [Za],Ua _,by have:=ua hbb;omega,λpb'=>?_⟩
                    simp only [go_sem,hh,hcm,hk,hu,hp,yn,Jb,List.length_append,Nat.le_add_right,List.take_left];refine⟨(b' / 2,pb'),Qa (by simp [okS,okV,okC,okL,okH,okB,okE,ja,va,Za,Va,wsA,ws]) ⟨kb rfl,kb rfl,trivial⟩,⟨by simp only;omega,by simp only;omega,?_⟩,by simp only;omega⟩
                    rw [<-hg];simp only;rw [wbh (by omega) (by omega)]
                  . have hlb:=ua hbb
                    have hla:=ua haa;refine⟨Ua _,Ua _,λhlt=>?_,λhge=>?_⟩
                    . have hlt:=VJ.1 hlt
                      simp only [jy];have e:val (dig (digs b').length (val (digs b')-val (digs a')))=b' - a':=by
                        rw [Vm,Jb,Jb,Nat.mod_eq_of_lt];exact Nat.lt_of_le_of_lt (Nat.sub_le _ _) (Zm b')
                      refine⟨digs b',pb,digs a',pa,by decide,rfl,by simp [Za],Ua _,by omega,rfl,by simp [Za],Ua _,by rw [Jb,Jb];omega,?_⟩
                      refine⟨dig (digs b').length (val (digs b')-val (digs a')),pb,(qb _ _).symm,by simp [upd,Za],xm _ _,by omega,λpost'=>?_⟩
                      simp only [go_sem,e];have hle:=Nat.le_trans (ua (Nat.sub_le b' a')) (ua hbb);refine⟨(true,(b' - a',post'),(a',pa)),Qa (by simp [okS,okV,okC,okL,okH,okB,okE,ja,va,Za,Va,wsA,ws]) ⟨kb rfl,kb rfl,trivial⟩,⟨ha',.inr (by simp only;omega),by simp only;omega,by simp only;omega,?_⟩,by simp only;omega⟩
                      simp only;rw [JZ (by omega),Nat.gcd_comm];exact hg
                    . have hge:=mt VJ.2 hge
                      simp only [jy];have e:val (dig (digs a').length (val (digs a')-val (digs b')))=a' - b':=by
                        rw [Vm,Jb,Jb,Nat.mod_eq_of_lt];exact Nat.lt_of_le_of_lt (Nat.sub_le _ _) (Zm a')
                      refine⟨digs a',pa,digs b',pb,by decide,rfl,by simp [Za],Ua _,by omega,rfl,by simp [Za],Ua _,by rw [Jb,Jb];omega,?_⟩
                      refine⟨dig (digs a').length (val (digs a')-val (digs b')),pa,(qb _ _).symm,by simp [upd,Za],xm _ _,by omega,λpost'=>?_⟩
                      simp only [go_sem,e];have hle:=Nat.le_trans (ua (Nat.sub_le a' b')) (ua haa);refine⟨(false,(a' - b',post'),(b',pb)),Qa (by simp [okS,okV,okC,okL,okH,okB,okE,ja,va,Za,Va,wsA,ws]) ⟨kb rfl,kb rfl,trivial⟩,⟨hb',.inr (by simp only;omega),by simp only;omega,by simp only;omega,?_⟩,by simp only;omega⟩
                      simp only;rw [JZ (by omega)];exact hg
          . have ha:a=0:=ux.1 (by omega)
            rw [ha,Nat.gcd_zero_left]at hg;refine Ya (λj:Nat=>⟨mkV [(1,.one (ws (digs (b*2 ^ j)))),(64,.one (.lit (.int .i64 k))),(65,.one (.lit (.int .i64 j)))],mkH []⟩) (λj=>j<=k) (λj=>k-j) 0 ?_ ?_ ?_
            . exact Qa (by simp [okS,okV,okC,okL,okH,okB,okE,ja,va,Za,Va,wsA,ws]) trivial
            . exact Nat.zero_le _
            . rintro j hj
              simp only [go_sem,hh,hcm,hk,hu,hp,yn,Jb,List.length_append,Nat.le_add_right,List.take_left];refine⟨λhlt=>?_,λhge=>?_⟩
              . have hj1:b*2 ^ (j+1)<=val x:=by
                  refine Nat.le_trans (Nat.mul_le_mul_left b (Nat.pow_le_pow_right (by omega) hlt)) ?_
                  rw [hg];exact Nat.le_of_dvd (by omega) (Nat.gcd_dvd_left _ _)
                have e:b*2 ^ j+b*2 ^ j=b*2 ^ (j+1):=by rw [Nat.pow_succ,<-Nat.mul_assoc];omega
                have hl1:=Nat.le_trans (ua (show b*2 ^ j<=val x by omega)) hxv
                rw [e];refine⟨Ua _,Ua _,by omega,by omega,by omega,j+1,Qa (by simp [okS,okV,okC,okL,okH,okB,okE,ja,va,Za,Va,wsA,ws]) trivial,by omega,by omega⟩
              . have e:j=k:=by omega
                rw [e,hg];exact hK
        | true=>
          simp only [go_sem,hh,hcm,hk,hu,hp,yn,Jb,List.length_append,Nat.le_add_right,List.take_left];refine λ_=>⟨λhap=>?_,λhap=>?_⟩
          . have ha:a≠0:=λe=>by rw [e,Yb]at hap;simp at hap
            refine Ya (λp:Nat×List Nat=>⟨mkV [(0,.one (.own 9 1 1 0 (digs p.1).length)),(1,.one (.own 7 1 1 0 (digs b).length)),(5,.one (.lit (.int .i64 k)))],mkH [(9,⟨1,some ⟨(digs p.1++p.2).map wc,1,true⟩⟩),(7,⟨1,some ⟨(digs b++pb).map wc,1,true⟩⟩)]⟩)
              (λp=>p.1≠0/\p.1<=a/\(p.1 % 2≠0∨b % 2≠0)/\Nat.gcd p.1 b*2 ^ k=Nat.gcd (val x) (val y)) (λp=>p.1) (a,pa) ?_ ?_ ?_
            . exact Qa (by simp [okS,okV,okC,okL,okH,okB,okE,ja,va,Za,Va,wsA,ws]) ⟨kb rfl,kb rfl,trivial⟩
            . exact⟨ha,Nat.le_refl _,hodd,hg⟩
            . rintro⟨a',pa⟩ ⟨ha',haa,hodd,hg⟩
              simp only at ha' haa hodd hg;have hap:=km ha';simp only [go_sem,hh,hcm,hk,hu,hp,yn,Jb,List.length_append,Nat.le_add_right,List.take_left,Uy ha',hap];refine⟨by omega,by omega,Nat.mod_lt _ (by omega),λhe=>?_,λhao=>?_⟩
              . simp only [Yr]
                refine⟨digs a',pa,rfl,by simp [Za],Ua _,by have:=ua haa;omega,λpa'=>?_⟩
                simp only [go_sem,hh,hcm,hk,hu,hp,yn,Jb,List.length_append,Nat.le_add_right,List.take_left];refine⟨(a' / 2,pa'),Qa (by simp [okS,okV,okC,okL,okH,okB,okE,ja,va,Za,Va,wsA,ws]) ⟨kb rfl,kb rfl,trivial⟩,⟨by simp only;omega,by simp only;omega,.inr (by omega),?_⟩,by simp only;omega⟩
                rw [<-hg];simp only;rw [YaX (by omega) (by omega)]
              . refine Ya (λp:Nat×List Nat=>⟨mkV [(0,.one (.own 9 1 1 0 (digs a').length)),(1,.one (.own 7 1 1 0 (digs p.1).length)),(5,.one (.lit (.int .i64 k)))],mkH [(9,⟨1,some ⟨(digs a'++pa).map wc,1,true⟩⟩),(7,⟨1,some ⟨(digs p.1++p.2).map wc,1,true⟩⟩)]⟩)
                  (λp=>p.1≠0/\p.1<=b/\Nat.gcd a' p.1*2 ^ k=Nat.gcd (val x) (val y)) (λp=>p.1) (b,pb) ?_ ?_ ?_
                . exact Qa (by simp [okS,okV,okC,okL,okH,okB,okE,ja,va,Za,Va,wsA,ws]) ⟨kb rfl,kb rfl,trivial⟩
                . exact⟨hb,Nat.le_refl _,hg⟩
                . rintro⟨b',pb⟩ ⟨hb',hbb,hg⟩
                  simp only at hb' hbb hg;have hbp:=km hb';simp only [go_sem,hh,hcm,hk,hu,hp,yn,Jb,List.length_append,Nat.le_add_right,List.take_left,Uy hb',hbp];refine⟨by omega,by omega,Nat.mod_lt _ (by omega),λhe=>?_,λhbo=>?_⟩
                  . simp only [Yr]
                    refine⟨digs b',pb,rfl,by simp [Za],Ua _,by have:=ua hbb;omega,λpb'=>?_⟩
                    simp only [go_sem,hh,hcm,hk,hu,hp,yn,Jb,List.length_append,Nat.le_add_right,List.take_left];refine⟨(b' / 2,pb'),Qa (by simp [okS,okV,okC,okL,okH,okB,okE,ja,va,Za,Va,wsA,ws]) ⟨kb rfl,kb rfl,trivial⟩,⟨by simp only;omega,by simp only;omega,?_⟩,by simp only;omega⟩
                    rw [<-hg];simp only;rw [wbh (by omega) (by omega)]
                  . have hlb:=ua hbb
                    have hla:=ua haa;refine⟨Ua _,Ua _,λhlt=>?_,λhge=>?_⟩
                    . have hlt:=VJ.1 hlt
                      simp only [jy];have e:val (dig (digs b').length (val (digs b')-val (digs a')))=b' - a':=by
                        rw [Vm,Jb,Jb,Nat.mod_eq_of_lt];exact Nat.lt_of_le_of_lt (Nat.sub_le _ _) (Zm b')
                      refine⟨digs b',pb,digs a',pa,by decide,rfl,by simp [Za],Ua _,by omega,rfl,by simp [Za],Ua _,by rw [Jb,Jb];omega,?_⟩
                      refine⟨dig (digs b').length (val (digs b')-val (digs a')),pb,(qb _ _).symm,by simp [upd,Za],xm _ _,by omega,λpost'=>?_⟩
                      simp only [go_sem,e];have hle:=Nat.le_trans (ua (Nat.sub_le b' a')) (ua hbb);refine⟨(false,(b' - a',post'),(a',pa)),Qa (by simp [okS,okV,okC,okL,okH,okB,okE,ja,va,Za,Va,wsA,ws]) ⟨kb rfl,kb rfl,trivial⟩,⟨ha',.inr (by simp only;omega),by simp only;omega,by simp only;omega,?_⟩,by simp only;omega⟩
                      simp only;rw [JZ (by omega),Nat.gcd_comm];exact hg
                    . have hge:=mt VJ.2 hge
                      simp only [jy];have e:val (dig (digs a').length (val (digs a')-val (digs b')))=a' - b':=by
                        rw [Vm,Jb,Jb,Nat.mod_eq_of_lt];exact Nat.lt_of_le_of_lt (Nat.sub_le _ _) (Zm a')
                      refine⟨digs a',pa,digs b',pb,by decide,rfl,by simp [Za],Ua _,by omega,rfl,by simp [Za],Ua _,by rw [Jb,Jb];omega,?_⟩
                      refine⟨dig (digs a').length (val (digs a')-val (digs b')),pa,(qb _ _).symm,by simp [upd,Za],xm _ _,by omega,λpost'=>?_⟩
                      simp only [go_sem,e];have hle:=Nat.le_trans (ua (Nat.sub_le a' b')) (ua haa);refine⟨(true,(a' - b',post'),(b',pb)),Qa (by simp [okS,okV,okC,okL,okH,okB,okE,ja,va,Za,Va,wsA,ws]) ⟨kb rfl,kb rfl,trivial⟩,⟨hb',.inr (by simp only;omega),by simp only;omega,by simp only;omega,?_⟩,by simp only;omega⟩
                      simp only;rw [JZ (by omega)];exact hg
          . have ha:a=0:=ux.1 (by omega)
            rw [ha,Nat.gcd_zero_left]at hg;refine Ya (λj:Nat=>⟨mkV [(1,.one (ws (digs (b*2 ^ j)))),(64,.one (.lit (.int .i64 k))),(65,.one (.lit (.int .i64 j)))],mkH []⟩) (λj=>j<=k) (λj=>k-j) 0 ?_ ?_ ?_
            . exact Qa (by simp [okS,okV,okC,okL,okH,okB,okE,ja,va,Za,Va,wsA,ws]) trivial
            . exact Nat.zero_le _
            . rintro j hj
              simp only [go_sem,hh,hcm,hk,hu,hp,yn,Jb,List.length_append,Nat.le_add_right,List.take_left];refine⟨λhlt=>?_,λhge=>?_⟩
              . have hj1:b*2 ^ (j+1)<=val x:=by
                  refine Nat.le_trans (Nat.mul_le_mul_left b (Nat.pow_le_pow_right (by omega) hlt)) ?_
                  rw [hg];exact Nat.le_of_dvd (by omega) (Nat.gcd_dvd_left _ _)
                have e:b*2 ^ j+b*2 ^ j=b*2 ^ (j+1):=by rw [Nat.pow_succ,<-Nat.mul_assoc];omega
                have hl1:=Nat.le_trans (ua (show b*2 ^ j<=val x by omega)) hxv
                rw [e];refine⟨Ua _,Ua _,by omega,by omega,by omega,j+1,Qa (by simp [okS,okV,okC,okL,okH,okB,okE,ja,va,Za,Va,wsA,ws]) trivial,by omega,by omega⟩
              . have e:j=k:=by omega
                rw [e,hg];exact hK
end Go.Abs
end
section
namespace Go.Abs
open Go.Num
variable {P:Program} {Γ:Nat->Spec}
def kg(f0 f1 f2 f3:Nat):AC:=(.seq (.ops false [.m 4 (.c (.one .emp)),.m 5 (.c (.one .emp))])
 (.fg [0,1] (.seq (.ops false [.m 11 (.t 0),.u 12 (.len (.t 11)),.u 13 (.mk 1 [(.lit (.int .u32 0))] (.t 12) (.t 12)),.m 6 (.t 13)])
 (.fg [0,1,6] (.seq (.ops false [.m 14 (.t 1),.u 15 (.len (.t 14)),.u 16 (.bin .add (.t 15) (.i 1)),.u 17 (.mk 1 [(.lit (.int .u32 0))] (.t 16) (.t 16)),.m 7 (.t 17)])
 (.fg [0,1,6,7] (.seq (.seq (.ops false [.m 18 (.t 0),.u 19 (.call f0 [(.t 18)]),.u 20 (.bin .sub (.t 19) (.i 1)),.m 8 (.t 20)])
 (.fg [0,1,6,7,8] (.block 0 (.loop (.seq (.seq (.ops false [.m 21 (.t 8),.u 22 (.bin .geq (.t 21) (.i 0))])
 (.fg [0,1,6,7,8,22] (.cond (.t 22) .skip (.exit 0))))
 (.fg [0,1,6,7,8] (.seq (.block 1 (.seq (.ops false [.m 25 (.t 0),.m 26 (.t 8),.u 27 (.bin .quo (.t 26) (.i 32)),.u 28 (.idx 1 (.t 25) (.t 27)),.u 29 (.ld none 1 false (.t 28)),.m 30 (.t 8),.u 31 (.bin .rem (.t 30) (.i 32)),.u 32 (.bin .shr (.t 29) (.t 31)),.u 33 (.bin .and (.t 32) (.c (.one (.lit (.int .u32 1))))),.m 9 (.t 33)])
 (.fg [0,1,6,7,8,9] (.seq (.seq (.ops false [.m 34 (.t 7),.u 35 (.len (.t 34)),.m 36 (.i 0)])
 (.fg [0,1,6,7,8,9,35,36] (.block 2 (.loop (.seq (.ops false [.u 37 (.bin .lss (.t 36) (.t 35))])
 (.fg [0,1,6,7,8,9,35,36,37] (.seq (.cond (.t 37) .skip (.exit 2))
 (.fg [0,1,6,7,8,9,35,36] (.seq (.block 3 (.seq (.ops false [.m 38 (.t 36),.m 10 (.t 38)])
 (.fg [0,1,6,7,8,9,10,35,36] (.ops true [.m 39 (.t 7),.m 40 (.t 10),.m 41 (.t 7),.m 42 (.t 10),.u 43 (.idx 1 (.t 41) (.t 42)),.u 44 (.ld none 1 false (.t 43)),.u 45 (.bin .shl (.t 44) (.c (.one (.lit (.int .u64 1))))),.m 46 (.t 9),.u 47 (.bin .or (.t 45) (.t 46)),.m 48 (.t 7),.m 49 (.t 10),.u 50 (.idx 1 (.t 48) (.t 49)),.u 51 (.ld none 1 false (.t 50)),.u 52 (.bin .shr (.t 51) (.c (.one (.lit (.int .u64 31))))),.u 53 (.idx 1 (.t 39) (.t 40)),.n (.st none 1 (.t 53) (.t 47)),.m 9 (.t 52)]))))
 (.fg [0,1,6,7,8,9,35,36] (.ops false [.u 54 (.bin .add (.t 36) (.i 1)),.m 36 (.t 54)])))))))))))
 (.fg [0,1,6,7,8] (.seq (.ops false [.m 55 (.t 7),.m 56 (.t 1),.u 57 (.call f1 [(.t 55),(.t 56)]),.u 58 (.bin .geq (.t 57) (.i 0))])
 (.fg [0,1,6,7,8,58] (.cond (.t 58) (.seq (.ops false [.m 59 (.t 7),.m 60 (.t 1),.u 61 (.call f2 [(.t 59),(.t 60)])])
 (.fg [0,1,6,7,8] (.ops true [.m 62 (.t 6),.m 63 (.t 8),.u 64 (.bin .quo (.t 63) (.i 32)),.u 65 (.idx 1 (.t 62) (.t 64)),.u 66 (.ld none 1 false (.t 65)),.m 67 (.t 8),.u 68 (.bin .rem (.t 67) (.i 32)),.u 69 (.bin .shl (.c (.one (.lit (.int .u32 1)))) (.t 68)),.u 70 (.bin .or (.t 66) (.t 69)),.u 71 (.idx 1 (.t 62) (.t 64)),.n (.st none 1 (.t 71) (.t 70))]))) .skip))))))))
 (.fg [0,1,6,7,8] (.ops false [.m 23 (.t 8),.u 24 (.bin .sub (.t 23) (.i 1)),.m 8 (.t 24)])))))))))
 (.fg [6,7] (.seq (.ops false [.m 72 (.t 6),.u 73 (.callf f3 [(.t 72)]),.m 74 (.t 7),.u 75 (.callf f3 [(.t 74)]),.m 4 (.t 73),.m 5 (.t 75)])
 .ret)))))))))
theorem uO(hΓ:Holds P Γ){f fb fc fk ft:Nat}(hb:Γ fb=.dat true Ur)(hcm:Γ fc=.dat true uv)(hk:Γ fk=.own jy)(ht:Γ ft=.fresh 1 kw)
  (hc:check P f=some (76,(kg fb fc fk ft).strip,[.tmp 4,.tmp 5])):Sound P f (.dat false qi):=by
 refine ka hc qN hΓ (λargs K hcl hfi hG=>?_);match args,hG with
 | [a,b],hG=>
  obtain⟨x,rfl,hx,y,rfl,hy,hnx,hny,hy0,hxl,hyl,hK⟩:=hG;refine⟨by simp,?_⟩
  simp only [go_sem,kg,hb,hcm,hk,ht];intro h1;refine⟨by omega,λ_=>⟨by omega,by omega,hx,by omega,?_⟩⟩
  obtain⟨n,hn⟩:∃n,(if x.length=0 then 0 else 32*(x.length-1)+bln (x.getD (x.length-1) 0))=n:=⟨_,rfl⟩
  have hnlt:val x<2 ^ n:=by
   rw [<-hn];split
   .rename_i h0;rw [List.eq_nil_of_length_eq_zero h0];simp [val]
   .exact jbn hx ‹_›
  have hnb:n<=32*x.length:=by
   rw [<-hn];split
   .omega
   .have:=kbk (k:=32) (n:=x.getD (x.length-1) 0) (Xb hx _);omega
  have hy1:0<val y:=by
   have:=Zd hny hy0;omega
  rw [hn];refine⟨by omega,?_⟩
  refine Ya (λp:Nat×List Nat×List Nat=>⟨mkV [(0,wsA x),(1,wsA y),(6,.one (.own 13 1 1 0 x.length)),(7,.one (.own 17 1 1 0 (y.length+1))),(8,.one (.lit (.int .i64 ((p.1:Int)-1))))],mkH [(13,⟨1,some ⟨p.2.1.map wc,1,true⟩⟩),(17,⟨1,some ⟨p.2.2.map wc,1,true⟩⟩)]⟩)
   (λp=>p.1<=n/\WL p.2.1/\p.2.1.length=x.length/\val p.2.1=val x / 2 ^ p.1 / val y*2 ^ p.1/\WL p.2.2/\p.2.2.length=y.length+1/\val p.2.2=val x / 2 ^ p.1 % val y) (λp=>p.1) (n,List.replicate x.length 0,List.replicate (y.length+1) 0) ?_ ?_ ?_
  .exact Qa (by simp [okS,okV,okC,okL,okH,okB,okE,ja,va,Za,Va,wsA,ws]) ⟨kb (by simp),kb (by simp),trivial⟩
  .simp [UaW,YX,Nat.div_eq_of_lt hnlt]
  .rintro⟨n',q,r⟩ ⟨hn',hq,hql,hqv,hr,hrl,hrv⟩;simp only at hn' hq hql hqv hr hrl hrv;cases n' with
   | zero=>
    have e:((0:Nat):Int)-1 = -1:=rfl;have e' : ((0:Int)<=-1)=False:=by simp
    simp only [go_sem,hb,hcm,hk,ht,e,e',hql,hrl];simp only [Nat.pow_zero,Nat.div_one,Nat.mul_one]at hqv hrv;rw [hqv,hrv];exact⟨hq,by omega,hr,by omega,hK⟩
   | succ i=>
    have e:((i+1:Nat):Int)-1=(i:Int):=by omega
    have e1:(i:Int) / 32=((i / 32:Nat):Int):=rfl;have e2:(i:Int) % 32=((i % 32:Nat):Int):=rfl;have e3:=XbB hx i;have hi32:i / 32<x.length:=by omega
    have hib:i % 32<32:=Nat.mod_lt _ (by omega)
    simp only [go_sem,hb,hcm,hk,ht,e,e1,e2,e3,yn,hql,hrl];have g1:=Xb hx (i / 32);have g2:x.getD (i / 32) 0 / 2 ^ (i % 32)<2 ^ IntKind.u32.bits:=Nat.lt_of_le_of_lt (Nat.div_le_self _ _) g1;have g3:((i % 32:Nat):Int)<=IntKind.u32.bits:=by have:IntKind.u32.bits=32:=rfl;omega
    refine⟨by decide,by omega,hi32,by decide,by omega,g2,λhyl'=>?_⟩
    generalize hbit:val x / 2 ^ i % 2=bit;have hbit1:bit<=1:=by omega
    refine Ya (λp:List Nat×Nat=>⟨mkV [(0,wsA x),(1,wsA y),(6,.one (.own 13 1 1 0 x.length)),(7,.one (.own 17 1 1 0 (y.length+1))),(8,.one (.lit (.int .i64 i))),(9,.one (.lit (.int .u32 p.2))),(35,.one (.lit (.int .i64 (y.length+1:Nat)))),(36,.one (.lit (.int .i64 p.1.length)))],
      mkH [(13,⟨1,some ⟨q.map wc,1,true⟩⟩),(17,⟨1,some ⟨(p.1++r.drop p.1.length).map wc,1,true⟩⟩)]⟩)
     (λp=>p.1.length<=r.length/\WL p.1/\p.2<=1/\val p.1+4294967296 ^ p.1.length*p.2=2*val (r.take p.1.length)+bit) (λp=>r.length-p.1.length) ([],bit) ?_ ?_ ?_
    .exact Qa (by simp [okS,okV,okC,okL,okH,okB,okE,ja,va,Za,Va,wsA,ws]) ⟨kb rfl,kb (by simp),trivial⟩
    .simp [Yc,val,hbit1]
    .rintro⟨o,c⟩ ⟨hol,ho,hc1,hov⟩;simp only at hol ho hc1 hov;by_cases hlt:o.length<y.length+1
     .have g4:=Xb hr o.length;simp only [go_sem,hb,hcm,hk,ht,qbp hol,hrl,hlt,vW,not_true,UbB hc1,Vbv _ (show o.length<r.length by omega)]
      refine⟨⟨rfl,by decide,by decide⟩,⟨rfl,Nat.mod_lt _ (by omega),by omega⟩,⟨by decide,by decide⟩,by omega,(o++[r.getD o.length 0*2 % 4294967296+c],r.getD o.length 0 / 2147483648),Qa (by simp [okS,okV,okC,okL,okH,okB,okE,ja,va,Za,Va,wsA,ws]) ⟨kb rfl,kb rfl,trivial⟩,⟨by simp;omega,Ue.2 ⟨ho,Wc.2 ⟨by omega,Yc⟩⟩,by simp only;omega,?_⟩,by simp;omega⟩
      simp only [List.length_append,List.length_cons,List.length_nil,Nat.zero_add,qc,vc,yj,xo,Nat.mul_zero,Nat.add_zero,Nat.pow_succ];exact Qba hov g4
     .have hoe:o.length=y.length+1:=by omega
      have hd:r.drop (y.length+1)=[]:=List.drop_of_length_le (by omega)
      simp only [go_sem,hb,hcm,hk,ht,hd,hoe,Nat.lt_irrefl,e1,e2];have hrlt:val r<val y:=by rw [hrv];exact Nat.mod_lt _ hy1
      have hylt:=wn hy;rw [List.take_of_length_le (by omega),hoe,Nat.pow_succ]at hov
      have hc0:c=0:=by
       rcases Nat.eq_zero_or_pos c with h | h
       .exact h
       .exfalso;have:4294967296 ^ y.length*4294967296*1<=4294967296 ^ y.length*4294967296*c:=Nat.mul_le_mul_left _ h;omega
      subst hc0;rw [Nat.mul_zero,Nat.add_zero]at hov;refine⟨ho,hy,λh=>?_,λh=>?_⟩
      .have hge:=qx.1 h;have hs:=QaN hy1 hbit hqv hrv (by omega)
       simp only [jy,jI];refine⟨hy,o,[],hoe.symm,by simp [Za],ho,by omega,hge,?_⟩
       have hp32:2 ^ (i % 32)<4294967296:=Nat.lt_of_lt_of_le (Nat.pow_lt_pow_right (by omega) hib) (by decide)
       have e4:(1*2 ^ (i % 32) % 4294967296:Int)=((2 ^ (i % 32):Nat):Int):=by
        rw [Int.one_mul,show((2:Int) ^ (i % 32))=((2 ^ (i % 32):Nat):Int) by rw [Int.natCast_pow];rfl]
        generalize 2 ^ (i % 32)=w at hp32 ⊢;omega
       have e5:=xbv hib (Xbe hq hqv);have g5:=Xb hq (i / 32);simp only [go_sem,e1,e2,hql,qb,hoe,e4,e5];have hsv:=xW q (i / 32) (q.getD (i / 32) 0+2 ^ (i % 32)) (by omega)
       have hpp:=YN i;rw [Nat.mul_add]at hsv;have hv2:val (q.set (i / 32) (q.getD (i / 32) 0+2 ^ (i % 32)))=val q+2 ^ i:=by omega
       have hsum:q.getD (i / 32) 0+2 ^ (i % 32)<4294967296:=by
        rw [<-e5];exact Nat.or_lt_two_pow (n:=32) g5 hp32
       refine⟨by decide,by omega,hi32,hi32,by decide,⟨rfl,by decide,by omega⟩,⟨rfl,g5,hp32⟩,hi32,hi32,⟨by omega,by omega⟩,(i,q.set (i / 32) (q.getD (i / 32) 0+2 ^ (i % 32)),dig (y.length+1) (val o-val y)),Qa (by simp [okS,okV,okC,okL,okH,okB,okE,ja,va,Za,Va,wsA,ws]) ⟨kb rfl,kb rfl,trivial⟩,⟨by simp only;omega,kac hq _ hsum,by simp [hql],?_,xm _ _,qb _ _,?_⟩,by simp only;omega⟩
       .simp only;rw [hv2];exact hs.1
       .simp only;rw [Vm,hov,hs.2,Nat.mod_eq_of_lt];have:=Nat.mod_lt (val x / 2 ^ i) hy1;have h6:(4294967296:Nat) ^ y.length<=4294967296 ^ (y.length+1):=Nat.pow_le_pow_right (by omega) (by omega)
        omega
      .have hlt2:=mt qx.2 h;have hs:=zaL hy1 hbit hqv hrv (by omega)
       refine⟨by omega,(i,q,o),Qa (by simp [okS,okV,okC,okL,okH,okB,okE,ja,va,Za,Va,wsA,ws]) ⟨kb rfl,kb rfl,trivial⟩,⟨by simp only;omega,hq,hql,hs.1,ho,hoe,by simp only;rw [hov];exact hs.2⟩,by simp only;omega⟩
end Go.Abs
end
section
namespace Go.Abs
open Go.Num
variable {P:Program} {Γ:Nat->Spec}
def yi(f0:Nat):AC:=(.seq (.ops false [.u 4 (.alloc [(.lit (.bool false)),.emp])])
 (.fg [0,1,4] (.seq (.ops false [.m 5 (.t 1),.u 6 (.callf f0 [(.t 5)]),.m 1 (.t 6)])
 (.fg [0,1,4] (.seq (.seq (.ops false [.m 7 (.t 1),.u 8 (.len (.t 7)),.u 9 (.bin .eql (.t 8) (.i 0))])
 (.fg [0,1,4,9] (.cond (.t 9) (.seq (.ops false [.u 10 (.build [.z [(.lit (.bool false)),.emp]]),.n (.st none 2 (.t 4) (.t 10))])
 .ret) .skip)))
 (.fg [0,1,4] (.seq (.ops false [.m 11 (.t 0),.m 12 (.t 1),.u 13 (.build [.x 1 (.t 11),.x 1 (.t 12)]),.n (.st none 2 (.t 4) (.t 13))])
 .ret)))))))
def Jj(f0 f1:Nat):AC:=(.seq (.ops false [.u 1 (.box 2 (.t 0)),.m 2 (.i 0)])
 (.fg [1] (.seq (.seq (.ops false [.u 3 (.ld none 2 true (.t 1)),.u 4 (.call f0 [(.t 3)]),.u 5 (.len (.t 4)),.u 6 (.bin .eql (.t 5) (.i 0))])
 (.fg [1,6] (.cond (.t 6) (.seq (.ops false [.m 2 (.i 0)])
 .ret) .skip)))
 (.fg [1] (.seq (.seq (.ops false [.u 7 (.ld none 2 true (.t 1)),.u 8 (.call f1 [(.t 7)])])
 (.fg [8] (.cond (.t 8) (.seq (.ops false [.m 2 (.i (-1))])
 .ret) .skip)))
 (.fg [] (.seq (.ops false [.m 2 (.i 1)])
 .ret)))))))
def Xk(f0 f1:Nat):AC:=(.seq (.ops false [.u 2 (.box 2 (.t 0)),.u 3 (.box 2 (.t 1)),.m 4 (.i 0)])
 (.fg [2,3] (.seq (.ops false [.u 5 (.ld none 2 true (.t 2)),.u 6 (.ld none 2 true (.t 3)),.u 7 (.call f0 [(.t 5),(.t 6)]),.u 8 (.call f1 [(.t 7)]),.m 4 (.t 8)])
 .ret)))
def xk(f0 f1 f2 f3 f4 f5:Nat):AC:=(.seq (.ops false [.u 2 (.box 2 (.t 0)),.u 3 (.box 2 (.t 1)),.u 4 (.alloc [(.lit (.bool false)),.emp])])
 (.fg [2,3,4] (.seq (.ops true [.u 7 (.ld none 2 true (.t 2)),.u 8 (.call f0 [(.t 7)]),.u 9 (.ld none 2 true (.t 3)),.u 10 (.call f0 [(.t 9)]),.m 5 (.t 8),.m 6 (.t 10)])
 (.fg [2,3,4,5,6] (.seq (.seq (.ops true [.u 11 (.ld none 2 true (.t 2)),.u 12 (.call f1 [(.t 11)]),.u 13 (.ld none 2 true (.t 3)),.u 14 (.call f1 [(.t 13)]),.u 15 (.binb .eql (.t 12) (.t 14))])
 (.fg [2,3,4,5,6,15] (.cond (.t 15) (.seq (.ops false [.u 16 (.ld none 2 true (.t 2)),.u 17 (.call f1 [(.t 16)]),.m 18 (.t 5),.m 19 (.t 6),.u 20 (.call f2 [(.t 18),(.t 19)]),.u 21 (.call f3 [(.t 17),(.t 20)]),.n (.st none 2 (.t 4) (.t 21))])
 .ret) .skip)))
 (.fg [2,3,4,5,6] (.seq (.seq (.ops false [.m 22 (.t 5),.m 23 (.t 6),.u 24 (.call f4 [(.t 22),(.t 23)]),.u 25 (.bin .geq (.t 24) (.i 0))])
 (.fg [2,3,4,5,6,25] (.cond (.t 25) (.seq (.ops false [.u 26 (.ld none 2 true (.t 2)),.u 27 (.call f1 [(.t 26)]),.m 28 (.t 5),.m 29 (.t 6),.u 30 (.call f5 [(.t 28),(.t 29)]),.u 31 (.call f3 [(.t 27),(.t 30)]),.n (.st none 2 (.t 4) (.t 31))])
 .ret) .skip)))
 (.fg [3,4,5,6] (.seq (.ops false [.u 32 (.ld none 2 true (.t 3)),.u 33 (.call f1 [(.t 32)]),.m 34 (.t 6),.m 35 (.t 5),.u 36 (.call f5 [(.t 34),(.t 35)]),.u 37 (.call f3 [(.t 33),(.t 36)]),.n (.st none 2 (.t 4) (.t 37))])
 .ret)))))))))
def wk(f0 f1:Nat):AC:=(.seq (.ops false [.u 2 (.box 2 (.t 0)),.u 3 (.box 2 (.t 1)),.u 4 (.alloc [(.lit (.bool false)),.emp])])
 (.fg [2,3,4] (.seq (.ops true [.u 5 (.ld none 2 true (.t 2)),.u 6 (.ld none 2 true (.t 3)),.u 7 (.call f0 [(.t 6)]),.u 8 (.call f1 [(.t 5),(.t 7)]),.n (.st none 2 (.t 4) (.t 8))])
 .ret)))
def vk(f0 f1 f2:Nat):AC:=(.seq (.ops false [.u 2 (.box 2 (.t 0)),.u 3 (.box 2 (.t 1)),.u 4 (.alloc [(.lit (.bool false)),.emp])])
 (.fg [2,3,4] (.seq (.ops true [.u 5 (.ld none 2 true (.t 2)),.u 6 (.call f0 [(.t 5)]),.u 7 (.ld none 2 true (.t 3)),.u 8 (.call f0 [(.t 7)]),.u 9 (.call f1 [(.t 6),(.t 8)]),.u 10 (.call f2 [.fa,(.t 9)]),.n (.st none 2 (.t 4) (.t 10))])
 .ret)))
def yk(f0 f1 f2 f3 f4 f5 f6:Nat):AC:=(.seq (.ops false [.u 2 (.box 2 (.t 0)),.u 3 (.box 2 (.t 1)),.u 4 (.alloc [(.lit (.bool false)),.emp]),.u 5 (.alloc [(.lit (.bool false)),.emp]),.m 6 (.i 0)])
 (.fg [2,3,4,5] (.seq (.seq (.ops false [.u 9 (.ld none 2 true (.t 3)),.u 10 (.call f0 [(.t 9)]),.u 11 (.bin .eql (.t 10) (.i 0))])
 (.fg [2,3,4,5,11] (.cond (.t 11) (.seq (.ops false [.u 12 (.build [.z [(.lit (.bool false)),.emp]]),.u 13 (.build [.z [(.lit (.bool false)),.emp]]),.n (.st none 2 (.t 4) (.t 12)),.n (.st none 2 (.t 5) (.t 13)),.m 6 (.i 8)])
 .ret) .skip)))
 (.fg [2,3,4,5] (.seq (.ops true [.u 15 (.ld none 2 true (.t 2)),.u 16 (.call f1 [(.t 15)]),.u 17 (.ld none 2 true (.t 3)),.u 18 (.call f1 [(.t 17)]),.u 19 (.call f2 [(.t 16),(.t 18)]),.m 14 (.t 19),.u 20 (.ext 0 (.t 14)),.u 21 (.ext 1 (.t 14)),.m 7 (.t 20),.m 8 (.t 21)])
 (.fg [2,3,4,5,7,8] (.seq (.seq (.ops false [.u 22 (.ld none 2 true (.t 2)),.u 23 (.call f3 [(.t 22)]),.m 24 (.t 23),.w 25 24 true (.mv (.t 8)),.w 26 24 true (.len (.t 25)),.w 27 24 true (.bin .gtr (.t 26) (.i 0)),.u 28 (.pick (.t 24) (.t 27) .fa)])
 (.fg [2,3,4,5,7,8,28] (.cond (.t 28) (.ops true [.m 29 (.t 7),.u 30 (.row 1 [[.x 1 (.c (.one (.lit (.int .u32 1))))]]),.u 31 (.call f4 [(.t 29),(.t 30)]),.u 32 (.ld none 2 true (.t 3)),.u 33 (.call f1 [(.t 32)]),.m 34 (.t 8),.u 35 (.call f5 [(.t 33),(.t 34)]),.m 7 (.t 31),.m 8 (.t 35)]) .skip)))
 (.fg [2,3,4,5,7,8] (.seq (.ops true [.u 36 (.ld none 2 true (.t 2)),.u 37 (.call f3 [(.t 36)]),.u 38 (.ld none 2 true (.t 3)),.u 39 (.call f3 [(.t 38)]),.u 40 (.binb .neq (.t 37) (.t 39)),.m 41 (.t 7),.u 42 (.call f6 [(.t 40),(.t 41)]),.m 43 (.t 8),.u 44 (.call f6 [.fa,(.t 43)]),.n (.st none 2 (.t 4) (.t 42)),.n (.st none 2 (.t 5) (.t 44)),.m 6 (.i 0)])
 .ret)))))))))
theorem V6(hΓ:Holds P Γ){f ft:Nat}(ht:Γ ft=.fresh 1 kw)(hc:check P f=some (14,(yi ft).strip,[.cell 4 2 true])):Sound P f (.dat false Xf):=by
 refine ka hc VQ hΓ (λargs K hcl hfi hG=>?_);match args,hG with
 | [a,m],hG=>
  obtain⟨b,rfl,hG⟩:=VC hG;obtain⟨l,rfl,hl,hlen,hK⟩:=hG;refine⟨by simp,?_⟩
  simp only [go_sem,yi,ht];refine⟨hl,hlen,λ_=>⟨λh=>?_,λh=>?_⟩⟩
  .have h0:val l=0:=ux.1 h;have e:zcan (sg b (val l))=zcan 0:=by rw [h0];unfold sg;split <;> rfl
   rw [e]at hK;have e2:(zcan 0)=(false,[]):=by simp [zcan,Yb]
   rw [e2]at hK;exact hK
  .rw [<-jR]at hK;have e:decide (0<(digs (val l)).length)=true:=by simp only [decide_eq_true_eq];omega
   rw [e,Bool.and_true]at hK;exact hK
theorem UX(hΓ:Holds P Γ){f fm fn:Nat}(hm:Γ fm=.dat false Zk)(hn:Γ fn=.dat true vg)(hc:check P f=some (9,(Jj fm fn).strip,[.tmp 2])):Sound P f (.dat true Jg):=by
 refine ka hc JQ hΓ (λargs K hcl hfi hG=>?_);match args,hG with
 | [a],hG=>
  obtain⟨w,rfl,hw,hK⟩:=hG;refine⟨by simp,?_⟩
  simp only [go_sem,Jj,hm,hn,hw];intro _;refine⟨λh=>?_,λh=>⟨λhb=>?_,λhb=>?_⟩⟩
  .have h0:zv w=0:=Qy.1 h;rw [h0]at hK;exact hK
  .rw [Int.sign_eq_neg_one_of_neg hb]at hK;exact hK
  .have h0:zv w≠0:=λe=>h (Qy.2 e);rw [Int.sign_eq_one_of_pos (by omega)]at hK;exact hK
theorem Wab(hΓ:Holds P Γ){f fn fa:Nat}(hn:Γ fn=.dat false vw)(ha:Γ fa=.dat false xy)(hc:check P f=some (9,(wk fn fa).strip,[.cell 4 2 true])):Sound P f (.dat false vG):=by
 refine ka hc kaM hΓ (λargs K hcl hfi hG=>?_);match args,hG with
 | [a,b],hG=>
  obtain⟨v,rfl,hv,w,rfl,hw,hz,hz',hK⟩:=hG;refine⟨by simp,?_⟩
  simp only [go_sem,wk,hn,ha,hw,hv];refine⟨by omega,hz,by rw [Z6];exact hz',?_⟩
  rw [<-Int.sub_eq_add_neg];exact hK
theorem vag(hΓ:Holds P Γ){f fs fg:Nat}(hs:Γ fs=.dat false vG)(hg:Γ fg=.dat true Jg)(hc:check P f=some (9,(Xk fs fg).strip,[.tmp 4])):Sound P f (.dat true qs):=by
 refine ka hc Qai hΓ (λargs K hcl hfi hG=>?_);match args,hG with
 | [a,b],hG=>
  obtain⟨v,rfl,hv,w,rfl,hw,hz,hz',hz2,hK⟩:=hG;refine⟨by simp,?_⟩
  simp only [go_sem,Xk,hs,hg,hw,hv];refine⟨hz,hz',?_⟩;have e:Int.sign (zv v-zv w)=ordI (zv v) (zv w):=by
   unfold ordI;split
   .exact Int.sign_eq_neg_one_of_neg (by omega)
   .split
    .exact Int.sign_eq_one_of_pos (by omega)
    .rw [show zv v-zv w=0 by omega];rfl
  rw [e];exact hK
theorem Q9(hΓ:Holds P Γ){f fm fg fw:Nat}(hm:Γ fm=.dat false Zk)(hg:Γ fg=.dat false wA)(hw' : Γ fw=.dat false Xf)(hc:check P f=some (11,(vk fm fg fw).strip,[.cell 4 2 true])):Sound P f (.dat false Xv):=by
 refine ka hc V4 hΓ (λargs K hcl hfi hG=>?_);match args,hG with
 | [a,b],hG=>
  obtain⟨v,rfl,hv,w,rfl,hw,hz,hz',hK⟩:=hG;refine⟨by simp,?_⟩
  simp only [go_sem,vk,hm,hg,hw',hw,hv,Jb];have hle:(digs ((zv v).natAbs.gcd (zv w).natAbs)).length<=17179869184:=by
   rcases Nat.eq_zero_or_pos (zv v).natAbs with h | h
   .rw [h,Nat.gcd_zero_left];exact hz'
   .exact Nat.le_trans (ua (Nat.le_of_dvd h (Nat.gcd_dvd_left _ _))) hz
  exact⟨Ua _,Ua _,hz,hz',Ua _,by omega,hK⟩
theorem kab(hΓ:Holds P Γ){f fn fm fp fw fc fl:Nat}(hn:Γ fn=.dat true vg)(hm:Γ fm=.dat false Zk)(hp:Γ fp=.dat false xr)(hw' : Γ fw=.dat false Xf)(hc' : Γ fc=.dat true uv)(hl:Γ fl=.dat false Qv)(hc:check P f=some (38,(xk fm fn fp fw fc fl).strip,[.cell 4 2 true])):Sound P f (.dat false xy):=by
 refine ka hc zac hΓ (λargs K hcl hfi hG=>?_);match args,hG with
 | [a,b],hG=>
  obtain⟨v,rfl,hv,w,rfl,hw,hz,hz',hK⟩:=hG;refine⟨by simp,?_⟩
  simp only [go_sem,xk,hn,hm,hp,hw',hc',hl,hw,hv];simp only [Jb];have hsz:=ZN (zv v) (zv w);refine⟨λh=>⟨Ua _,Ua _,hz,hz',Ua _,?_,?_⟩,λh=>⟨Ua _,Ua _,λho=>⟨Ua _,Ua _,by unfold zs at hz;omega,?_,Ua _,?_,?_⟩,λho=>⟨Ua _,Ua _,by unfold zs at hz';omega,?_,Ua _,?_,?_⟩⟩⟩
  .have e:=YA (zk h);rw [show(zv v).natAbs+(zv w).natAbs=(zv v+zv w).natAbs by have:=zk h;omega]
   unfold zs at *;omega
  .rw [YA (zk h)];exact hK
  .exact(qx.1 ho)
  .have:=ua (Nat.sub_le (zv v).natAbs (zv w).natAbs);unfold zs at *;omega
  .have h1:=qx.1 ho;rw [kax (kt h) h1];exact hK
  .have:=mt qx.2 ho;omega
  .have:=ua (Nat.sub_le (zv w).natAbs (zv v).natAbs);unfold zs at *;omega
  .have h1:=mt qx.2 ho;rw [kax (λe=>kt h e.symm) (by omega),Int.add_comm];exact hK
theorem Yaa(hΓ:Holds P Γ){f fs fn fm fp fw fd fl:Nat}(hs:Γ fs=.dat true Jg)(hn:Γ fn=.dat true vg)(hm:Γ fm=.dat false Zk)(hp:Γ fp=.dat false xr)(hw' : Γ fw=.dat false Xf)(hd:Γ fd=.dat false qi)(hl:Γ fl=.dat false Qv)(hc:check P f=some (45,(yk fs fm fd fn fp fl fw).strip,[.cell 4 2 true,.cell 5 2 true,.tmp 6])):Sound P f (.dat false Ut):=by
 refine ka hc Xaj hΓ (λargs K hcl hfi hG=>?_);match args,hG with
 | [a,b],hG=>
  obtain⟨v,rfl,hv,w,rfl,hw,hz,hz',h0,hK⟩:=hG;refine⟨by simp,?_⟩
  simp only [go_sem,yk,hs,hn,hm,hp,hw',hd,hl,hw,hv];simp only [Jb];have hne:¬(digs (zv w).natAbs).length=0:=λe=>h0 (Qy.1 e);refine⟨λe=>absurd (Int.sign_eq_zero_iff_zero.1 e) h0,λ_=>⟨Ua _,Ua _,jr _,jr _,λe=>hne (by rw [e];rfl),hz,hz',?_⟩⟩
  have hq:(digs ((zv v).natAbs / (zv w).natAbs)).length<=17179869184:=Nat.le_trans (ua (Nat.div_le_self _ _)) hz;have hr:(digs ((zv v).natAbs % (zv w).natAbs)).length<=17179869184:=Nat.le_trans (ua (Nat.mod_le _ _)) hz;have hz'' : (digs (zv w).natAbs).length<=17179869184:=hz';have hlt:=Nat.mod_lt (zv v).natAbs (show 0<(zv w).natAbs by omega)
  have hfin:(0<=zv v∨(zv v).natAbs % (zv w).natAbs=0)->K (AV.tup
    [AV.agg [zb (zcan (sg (!(decide (zv v<0) == decide (zv w<0))) ((zv v).natAbs / (zv w).natAbs))),zm (zcan (sg (!(decide (zv v<0) == decide (zv w<0))) ((zv v).natAbs / (zv w).natAbs)))],
     AV.agg [zb (zcan (sg false ((zv v).natAbs % (zv w).natAbs))),zm (zcan (sg false ((zv v).natAbs % (zv w).natAbs)))],AV.one (C.lit (Value.int IntKind.i64 0))]):=by
   intro h;obtain⟨e1,e2⟩:=jap h0 h;have e1' : sg (!(decide (zv v<0) == decide (zv w<0))) ((zv v).natAbs / (zv w).natAbs)=zv v / zv w:=e1;have e2' : sg false ((zv v).natAbs % (zv w).natAbs)=zv v % zv w:=e2;rw [e1',e2'];exact hK
  refine⟨λhneg _=>⟨λhp=>⟨Ua _,(Uax _ 1).mpr ⟨Wc.2 ⟨by decide,Yc⟩,hq,by decide,Ua _,Ua _,by omega,by omega,Ua _,?_,Ua _,?_,?_⟩⟩,λhp=>⟨Ua _,by omega,Ua _,by omega,hfin (.inr ?_)⟩⟩,λhneg=>⟨Ua _,by omega,Ua _,by omega,hfin (.inl (by omega))⟩⟩
  .have hv1:val [1]=1:=rfl;rw [hv1];have h1:zs 1<=2:=Y2 (by decide)
   have:=ZN (((zv v).natAbs / (zv w).natAbs:Nat):Int) 1;have e:(((zv v).natAbs / (zv w).natAbs:Nat):Int)+1=(((zv v).natAbs / (zv w).natAbs+1:Nat):Int):=by omega
   rw [e]at this;have h3:zs (((zv v).natAbs / (zv w).natAbs:Nat):Int)=(digs ((zv v).natAbs / (zv w).natAbs)).length:=rfl;have h4:zs (((zv v).natAbs / (zv w).natAbs+1:Nat):Int)=(digs ((zv v).natAbs / (zv w).natAbs+1)).length:=rfl;rw [h3,h4]at this;omega
  .have:=ua (Nat.sub_le (zv w).natAbs ((zv v).natAbs % (zv w).natAbs));omega
  .have hv1:val [1]=1:=rfl;rw [hv1];have hne' : (zv v).natAbs % (zv w).natAbs≠0:=by
    intro e;rw [e,Yb]at hp;simp at hp
   obtain⟨e1,e2⟩:=ZaB h0 hneg hne';have e1' : sg (!(decide (zv v<0) == decide (zv w<0))) ((zv v).natAbs / (zv w).natAbs+1)=zv v / zv w:=e1;have e2' : sg false ((zv w).natAbs-(zv v).natAbs % (zv w).natAbs)=zv v % zv w:=e2;rw [e1',e2'];exact hK
  .have:digs ((zv v).natAbs % (zv w).natAbs)=[]:=List.eq_nil_of_length_eq_zero (by omega)
   exact jg.1 this
end Go.Abs
end
