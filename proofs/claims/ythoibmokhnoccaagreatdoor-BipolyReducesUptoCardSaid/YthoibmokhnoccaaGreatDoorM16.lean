/-
  Parts of the proof, merged: PolyT.
-/
import Derived.Test.YthoibmokhnoccaaGreatDoorM15
set_option linter.unusedVariables false
set_option linter.unusedSimpArgs false
set_option maxRecDepth 100000
section
namespace Go.Abs
open Go.Num
variable {P:Program} {Γ:Nat->Spec}
set_option maxHeartbeats 4000000 in
theorem Qav(hΓ:Holds P Γ){f fr fs fc N:Nat}(hro:Γ fr=.own (vB fc))(hs:Γ fs=.own (kh fc N))(hcm:Γ fc=.dat true Yy)(hc:check P f=some (220,(ua fr fs).strip,[])):Sound P f (.own (kh fc (N+1))):=by
 refine xf hc hΓ (λd args h K hG=>?_);unfold kh at hG;split at hG
 case h_2=>exact hG.elim
 rename_i r ver len x1 x2 x3 c;obtain⟨U,A,B,V,rfl,hx1,hx2,hx3,hA0,hB0,hN,hlen,hlen2,hroom,hoA,hoB,hsA,hsB,hr,hK⟩:=hG;obtain⟨D,hD⟩:∃D,D=U++A++B++V:=⟨_,rfl⟩;rw [<-hD]at hr;have hDl:D.length=U.length+A.length+B.length+V.length:=by rw [hD];simp [Nat.add_assoc]
 have hAp:=List.length_pos_iff.2 hA0;have hBp:=List.length_pos_iff.2 hB0;have gA:∀k i,k=U.length+i->i<A.length->D.getD k mo0=A.getD i mo0:=by
  intro k i h1 h2;rw [hD,List.append_assoc (U++A)];exact getLM U A (B++V) h1 h2
 have gB:∀k i,k=U.length+A.length+i->i<B.length->D.getD k mo0=B.getD i mo0:=by
  intro k i h1 h2;rw [hD];exact getLM (U++A) B V (by rw [List.length_append];exact h1) h2
 have okD:∀k,U.length<=k->k<U.length+A.length+B.length->okM (D.getD k mo0):=by
  intro k h1 h2;by_cases h3:k<U.length+A.length
  .rw [gA k (k-U.length) (by omega) (by omega)]
   exact Vaq hoA (by omega)
  .rw [gB k (k-U.length-A.length) (by omega) (by omega)]
   exact Vaq hoB (by omega)
 refine⟨[r],[⟨D.map mC,5,true⟩],[.one (.own 1048576 ver 5 0 len),.one (.lit (.int .i64 x1)),.one (.lit (.int .i64 x2)),.one (.lit (.int .i64 x3)),fnV fc],by simp,rfl,?_,?_,?_,λhfi=>⟨by simp,?_⟩⟩
 .intro i r' b h1 h2;cases i with
  | zero=>simp only [List.getElem?_cons_zero,Option.some.injEq]at h1 h2;subst h1 h2;exact⟨by rw [hr],rfl,of_eq_true (Yg _)⟩
  | succ i=>simp at h1
 .simp [exA,exC,exB,nameOf,pinA,fnV]
 .intro a ha;simp only [List.mem_cons,List.not_mem_nil,or_false]at ha;rcases ha with rfl | rfl | rfl | rfl | rfl
  .simp [pasA,pasC,pasB,nameOf,pinA]
  .exact .lit _
  .exact .lit _
  .exact .lit _
  .exact .lit _
 by_cases c1:A.length=1
 .have n1:x2-x1=1:=by omega
  simp only [go_sem,ua,hr,fnV,hro,hs,hcm,n1];obtain⟨x,hx⟩:∃x,D.getD U.length mo0=x:=⟨_,rfl⟩;refine⟨by omega,?_⟩
  refine ja (λp:Nat×Nat=>⟨mkV [(0,.one (.own 1048576 ver 5 0 len)),(1,.one (.lit (.int .i64 x1))),(4,.one (.lit (.func (.func fc) ⟨[]⟩ ⟨[]⟩))),(10,.one (.lit (.int .i64 p.1))),(11,.one (.lit (.int .i64 p.2)))],mkH [(1048576,⟨ver,some ⟨D.map mC,5,true⟩⟩)]⟩)
   (λp=>x2<=p.1/\p.1<=p.2/\p.2<=x3/\(x2<p.1->kM (D.getD (p.1-1) mo0)<=kM x)/\(p.2<x3->kM x<=kM (D.getD p.2 mo0))) (λp=>p.2-p.1) (x2.toNat,x3.toNat) ?_ ?_ ?_
  .exact za (by simp [bitvec_to_nat];omega) (Wi rfl)
  .exact⟨by simp only;omega,by simp only;omega,by simp only;omega,λh=>by simp only at h;omega,λh=>by simp only at h;omega⟩
  .rintro⟨i,j⟩ ⟨h1,h2,h3,h4,h5⟩;simp only at h1 h2 h3 h4 h5;by_cases hij:i<j
   .have hij' : (i:Int)<(j:Int):=by omega
    obtain⟨k,hk⟩:∃k,k=(i+j) / 2:=⟨_,rfl⟩;have hk' : (i:Int)+(j:Int)=((i+j:Nat):Int):=by omega
    have ok1:=okD k (by omega) (by omega)
    have ok2:=okD U.length (by omega) (by omega)
    rw [hx]at ok2;obtain⟨y,hy⟩:∃y,D.getD k mo0=y:=⟨_,rfl⟩;rw [hy]at ok1;have hkk:(i+j) % 18446744073709551616 / 2=k:=by omega
    simp only [go_sem,hr,hro,hs,hcm,hij',hk',hkk,hx1,hx,hy,ok1.1,ok1.2,ok2.1,ok2.2,XJ];refine⟨by omega,by omega,by omega,by omega,by omega,by omega,by omega,λhlt=>⟨by omega,(k+1,j),za (by simp [bitvec_to_nat]) (Wi rfl),⟨by simp only;omega,by simp only;omega,by simp only;omega,λ_=>?_,h5⟩,by simp only;omega⟩,λhge=>⟨(i,k),za (by simp [bitvec_to_nat]) (Wi rfl),⟨by simp only;omega,by simp only;omega,by simp only;omega,h4,λ_=>?_⟩,by simp only;omega⟩⟩
    .simp only [Nat.add_sub_cancel];rw [hy];exact Nat.le_of_lt hlt
    .simp only;rw [hy];exact Nat.not_lt.1 hge
   .obtain rfl:i=j:=by omega
    have hij' : ¬(i:Int)<(i:Int):=by omega
    simp only [go_sem,hr,hro,hs,hcm,hij'];obtain⟨t,ht⟩:∃t,t=i-(U.length+1):=⟨_,rfl⟩;obtain⟨B1,hB1⟩:∃B1,B1=B.take t:=⟨_,rfl⟩;obtain⟨B2,hB2⟩:∃B2,B2=B.drop t:=⟨_,rfl⟩;have hB12:B=B1++B2:=by rw [hB1,hB2,List.take_append_drop]
    have lB1:B1.length=t:=by rw [hB1,List.length_take];omega
    have hAx:A=[x]:=by
     match A,c1 with
     | [z],_=>
      have:=gA U.length 0 (by omega) (by simp)
      rw [hx]at this;simpa using this.symm
    refine ja (λp:List Mo×List Mo=>⟨mkV [(0,.one (.own 1048576 ver 5 0 len)),(10,.one (.lit (.int .i64 i))),(13,.one (.lit (.int .i64 (U.length+p.1.length:Nat))))],mkH [(1048576,⟨ver,some ⟨(U++(p.1++x::p.2)++B2++V).map mC,5,true⟩⟩)]⟩)
     (λp=>B1=p.1++p.2) (λp=>p.2.length) ([],B1) ?_ ?_ ?_
    .exact za (by simp [bitvec_to_nat];omega) (Wi (by rw [hD,hAx,hB12];simp))
    .rfl
    .rintro⟨V1,V2⟩ hV;simp only at hV;have lV:=congrArg List.length hV;rw [List.length_append]at lV;have n2:(i:Int)-1=((U.length+t:Nat):Int):=by omega
     rcases V2 with _ | ⟨y,V2⟩
     .have hlt:¬((U.length+V1.length:Nat):Int)<((U.length+t:Nat):Int):=by simp only [List.length_nil]at lV;omega
      simp only [go_sem,hr,n2,hlt];rw [List.append_nil]at hV;subst hV;have hKK:=hK (B1++x::B2) ?_ ?_
      .have e:U++(B1++[x])++B2++V=U++(B1++x::B2)++V:=by simp
       rw [e];exact⟨by omega,hKK⟩
      .rw [hAx,hB12];show(x::(B1++B2)).Perm _;exact List.perm_middle.symm
      .refine ju (by rw [hB1];exact ut (B:=B.drop t) (by rw [List.take_append_drop];exact hsB)) (List.pairwise_cons.2 ⟨?_,by rw [hB2];exact yq (A:=B.take t) (by rw [List.take_append_drop];exact hsB)⟩) ?_
       .intro z hz;rw [hB2]at hz;by_cases htl:t<B.length
        .refine xF hsB htl ?_ z hz;rw [<-gB i t (by omega) htl]
         exact h5 (by omega)
        .rw [List.drop_of_length_le (by omega)]at hz;simp at hz
       .have hle:∀z∈B1,kM z<=kM x:=by
         intro z hz;by_cases ht0:0<t
         .rw [hB1]at hz;refine VF hsB ht0 (by omega) ?_ z hz
          rw [<-gB (i-1) (t-1) (by omega) (by omega)]
          exact h4 (by omega)
         .have:B1=[]:=List.length_eq_zero_iff.1 (by omega)
          rw [this]at hz;simp at hz
        intro z hz w hw;rcases List.mem_cons.1 hw with rfl | hw
        .exact hle z hz
        .rw [hB12]at hsB;exact uq hsB z hz w hw
     .rw [List.length_cons]at lV;have hlt:((U.length+V1.length:Nat):Int)<((U.length+t:Nat):Int):=by omega
      obtain⟨E,hE⟩:∃E,E=U++(V1++x::y::V2)++B2++V:=⟨_,rfl⟩;have lE:E.length=D.length:=by
       rw [hE,hDl,c1];have:=congrArg List.length hB12;simp only [List.length_append,List.length_cons]at this ⊢;omega
      obtain⟨k,hk⟩:∃k,k=U.length+V1.length:=⟨_,rfl⟩;have e1:E=(U++V1)++x::(y::V2++B2++V):=by rw [hE];simp
      have e2:E=(U++V1++[x])++y::(V2++B2++V):=by rw [hE];simp
      have g1:E.getD k mo0=x:=by rw [e1];exact getMM _ _ _ _ (by simp;omega)
      have g2:E.getD (k+1) mo0=y:=by rw [e2];exact getMM _ _ _ _ (by simp;omega)
      have b1:k<len:=by omega
      have b2:k+1<len:=by omega
      have q1:k<E.length:=by omega
      have q2:k+1<E.length:=by omega
      have s1:(E.set k y).set (k+1) x=U++((V1++[y])++x::V2)++B2++V:=by
       have:E.set k y=(U++V1)++y::(y::V2++B2++V):=by rw [e1];exact setMM _ _ _ _ (by simp;omega)
       rw [this];have:(U++V1)++y::(y::V2++B2++V)=(U++V1++[y])++y::(V2++B2++V):=by simp
       rw [this,setMM _ _ _ _ (by simp;omega)]
       simp
      simp only [<-hE,<-hk]at hlt ⊢;simp only [go_sem,hr,n2,hlt,g1,g2,b1,b2,q1,q2,s1,List.length_set];refine⟨by omega,by omega,by omega,by omega,(V1++[y],V2),za (by simp [bitvec_to_nat];omega) (Wi rfl),by simp only;rw [hV];simp,by simp only;omega⟩
 by_cases c2:B.length=1
 .have n1:¬x2-x1=1:=by omega
  have n2:x3-x2=1:=by omega
  obtain⟨m0,hm0⟩:∃m0,m0=U.length+A.length:=⟨_,rfl⟩;have hx2' : x2=(m0:Int):=by omega
  simp only [go_sem,ua,hr,fnV,hro,hs,hcm,n1,n2];obtain⟨x,hx⟩:∃x,D.getD m0 mo0=x:=⟨_,rfl⟩;refine⟨by omega,by omega,?_⟩
  refine ja (λp:Nat×Nat=>⟨mkV [(0,.one (.own 1048576 ver 5 0 len)),(2,.one (.lit (.int .i64 x2))),(4,.one (.lit (.func (.func fc) ⟨[]⟩ ⟨[]⟩))),(14,.one (.lit (.int .i64 p.1))),(15,.one (.lit (.int .i64 p.2)))],mkH [(1048576,⟨ver,some ⟨D.map mC,5,true⟩⟩)]⟩)
   (λp=>x1<=p.1/\p.1<=p.2/\p.2<=x2/\(x1<p.1->kM (D.getD (p.1-1) mo0)<=kM x)/\(p.2<x2->kM x<=kM (D.getD p.2 mo0))) (λp=>p.2-p.1) (x1.toNat,x2.toNat) ?_ ?_ ?_
  .exact za (by simp [bitvec_to_nat];omega) (Wi rfl)
  .exact⟨by simp only;omega,by simp only;omega,by simp only;omega,λh=>by simp only at h;omega,λh=>by simp only at h;omega⟩
  .rintro⟨i,j⟩ ⟨h1,h2,h3,h4,h5⟩;simp only at h1 h2 h3 h4 h5;by_cases hij:i<j
   .have hij' : (i:Int)<(j:Int):=by omega
    obtain⟨k,hk⟩:∃k,k=(i+j) / 2:=⟨_,rfl⟩;have hk' : (i:Int)+(j:Int)=((i+j:Nat):Int):=by omega
    have ok1:=okD k (by omega) (by omega)
    have ok2:=okD m0 (by omega) (by omega)
    rw [hx]at ok2;obtain⟨y,hy⟩:∃y,D.getD k mo0=y:=⟨_,rfl⟩;rw [hy]at ok1;have hkk:(i+j) % 18446744073709551616 / 2=k:=by omega
    simp only [go_sem,hr,hro,hs,hcm,hij',hk',hkk,hx2',hx,hy,ok1.1,ok1.2,ok2.1,ok2.2,XJ];refine⟨by omega,by omega,by omega,by omega,by omega,by omega,by omega,λhlt=>⟨(i,k),za (by simp [bitvec_to_nat]) (Wi rfl),⟨by simp only;omega,by simp only;omega,by simp only;omega,h4,λ_=>?_⟩,by simp only;omega⟩,λhge=>⟨by omega,(k+1,j),za (by simp [bitvec_to_nat]) (Wi rfl),⟨by simp only;omega,by simp only;omega,by simp only;omega,λ_=>?_,λh=>h5 (by simp only at h;omega)⟩,by simp only;omega⟩⟩
    .simp only;rw [hy];exact Nat.le_of_lt hlt
    .simp only [Nat.add_sub_cancel];rw [hy];exact Nat.not_lt.1 hge
   .obtain rfl:i=j:=by omega
    have hij' : ¬(i:Int)<(i:Int):=by omega
    simp only [go_sem,hr,hro,hs,hcm,hij'];obtain⟨t,ht⟩:∃t,t=i-U.length:=⟨_,rfl⟩;obtain⟨A1,hA1⟩:∃A1,A1=A.take t:=⟨_,rfl⟩;obtain⟨A2,hA2⟩:∃A2,A2=A.drop t:=⟨_,rfl⟩;have hA12:A=A1++A2:=by rw [hA1,hA2,List.take_append_drop]
    have lA1:A1.length=t:=by rw [hA1,List.length_take];omega
    have lA12:=congrArg List.length hA12;rw [List.length_append]at lA12;have hBx:B=[x]:=by
     match B,c2 with
     | [z],_=>
      have:=gB m0 0 (by omega) (by simp)
      rw [hx]at this;simpa using this.symm
    refine ja (λp:List Mo×List Mo=>⟨mkV [(0,.one (.own 1048576 ver 5 0 len)),(14,.one (.lit (.int .i64 i))),(17,.one (.lit (.int .i64 (i+p.1.length:Nat))))],mkH [(1048576,⟨ver,some ⟨(U++A1++(p.1++x::p.2)++V).map mC,5,true⟩⟩)]⟩)
     (λp=>A2=p.1++p.2) (λp=>p.1.length) (A2,[]) ?_ ?_ ?_
    .exact za (by simp [bitvec_to_nat];omega) (Wi (by rw [hD,hBx,hA12];simp))
    .simp
    .rintro⟨V1,V2⟩ hV;simp only at hV;have lV:=congrArg List.length hV;rw [List.length_append]at lV;rcases List.eq_nil_or_concat V1 with rfl | ⟨V1',y,rfl⟩
     .have hlt:¬(i:Int)<((i+([]:List Mo).length:Nat):Int):=by simp
      simp only [go_sem,hr,Nat.add_zero,Nat.lt_irrefl];rw [List.nil_append]at hV;subst hV;have hKK:=hK (A1++x::A2) ?_ ?_
      .have e:U++A1++x::A2++V=U++(A1++x::A2)++V:=by simp
       simp only [List.append_assoc,List.cons_append]at hKK ⊢;exact hKK
      .rw [hBx,hA12,List.append_assoc];refine List.Perm.append_left _ ?_;exact(List.perm_append_comm (l₁:=A2) (l₂:=[x]))
      .refine ju (by rw [hA1];exact ut (B:=A.drop t) (by rw [List.take_append_drop];exact hsA)) (List.pairwise_cons.2 ⟨?_,by rw [hA2];exact yq (A:=A.take t) (by rw [List.take_append_drop];exact hsA)⟩) ?_
       .intro z hz;rw [hA2]at hz;by_cases htl:t<A.length
        .refine xF hsA htl ?_ z hz;rw [<-gA i t (by omega) htl]
         exact h5 (by omega)
        .rw [List.drop_of_length_le (by omega)]at hz;simp at hz
       .have hle:∀z∈A1,kM z<=kM x:=by
         intro z hz;by_cases ht0:0<t
         .rw [hA1]at hz;refine VF hsA ht0 (by omega) ?_ z hz
          rw [<-gA (i-1) (t-1) (by omega) (by omega)]
          exact h4 (by omega)
         .have:A1=[]:=List.length_eq_zero_iff.1 (by omega)
          rw [this]at hz;simp at hz
        intro z hz w hw;rcases List.mem_cons.1 hw with rfl | hw
        .exact hle z hz
        .rw [hA12]at hsA;exact uq hsA z hz w hw
     .rw [List.concat_eq_append]at *
      rw [List.length_append,List.length_singleton]at lV;obtain⟨k,hk⟩:∃k,k=i+V1'.length:=⟨_,rfl⟩;have hk1:i+(V1'++[y]).length=k+1:=by simp;omega
      have hlt:i<k+1:=by omega
      have n3:((k+1:Nat):Int)-1=(k:Int):=by omega
      obtain⟨E,hE⟩:∃E,E=U++A1++(V1'++[y]++x::V2)++V:=⟨_,rfl⟩;have lE:E.length=D.length:=by
       rw [hE,hDl,c2];simp only [List.length_append,List.length_cons,List.length_nil];omega
      have e1:E=(U++A1++V1')++y::(x::V2++V):=by rw [hE];simp
      have e2:E=(U++A1++V1'++[y])++x::(V2++V):=by rw [hE];simp
      have g1:E.getD k mo0=y:=by rw [e1];exact getMM _ _ _ _ (by simp;omega)
      have g2:E.getD (k+1) mo0=x:=by rw [e2];exact getMM _ _ _ _ (by simp;omega)
      have b1:k<len:=by omega
      have b2:k+1<len:=by omega
      have q1:k<E.length:=by omega
      have q2:k+1<E.length:=by omega
      have s1:(E.set (k+1) y).set k x=U++A1++(V1'++x::(y::V2))++V:=by
       have:E.set (k+1) y=(U++A1++V1'++[y])++y::(V2++V):=by rw [e2];exact setMM _ _ _ _ (by simp;omega)
       rw [this];have:(U++A1++V1'++[y])++y::(V2++V)=(U++A1++V1')++y::(y::V2++V):=by simp
       rw [this,setMM _ _ _ _ (by simp;omega)]
       simp
      simp only [<-hE,hk1];simp only [go_sem,hr,n3,hlt,g1,g2,b1,b2,q1,q2,s1,List.length_set];refine⟨by omega,by omega,by omega,(V1',y::V2),za (by simp [bitvec_to_nat];omega) (Wi rfl),by simp only;rw [hV];simp,by simp⟩
 obtain⟨m0,hm0⟩:∃m0,m0=U.length+A.length:=⟨_,rfl⟩;obtain⟨b0,hb0⟩:∃b0,b0=U.length+A.length+B.length:=⟨_,rfl⟩;have hx2' : x2=(m0:Int):=by omega
 have hx3' : x3=(b0:Int):=by omega
 have n1:¬(m0:Int)-(U.length:Int)=1:=by omega
 have n2:¬(b0:Int)-(m0:Int)=1:=by omega
 obtain⟨md,hmd⟩:∃md,md=(U.length+b0) / 2:=⟨_,rfl⟩;have n3:(U.length:Int)+(b0:Int)=((U.length+b0:Nat):Int):=by omega
 have n4:(U.length+b0) % 18446744073709551616 / 2=md:=by omega
 have n5:(md:Int)+(m0:Int)=((md+m0:Nat):Int):=by omega
 rcases Nat.lt_or_ge md m0 with hgt | hgt
 case' inl=>
  have hgt' : (md:Int)<(m0:Int):=by omega
  simp only [go_sem,ua,hr,fnV,hro,hs,hcm,hx1,hx2',hx3',n1,n2,n3,n4,n5,hgt'];obtain⟨st0,hst⟩:∃st0,st0=md+m0-b0:=⟨_,rfl⟩;obtain⟨r0,hr0⟩:∃r0,r0=md:=⟨_,rfl⟩;refine⟨by omega,by omega,by omega,by omega,by omega,by omega,by omega,by omega,?_⟩
 case' inr=>
  have hgt' : ¬(md:Int)<(m0:Int):=by omega
  simp only [go_sem,ua,hr,fnV,hro,hs,hcm,hx1,hx2',hx3',n1,n2,n3,n4,n5,hgt'];obtain⟨st0,hst⟩:∃st0,st0=U.length:=⟨_,rfl⟩;obtain⟨r0,hr0⟩:∃r0,r0=m0:=⟨_,rfl⟩;refine⟨by omega,by omega,by omega,by omega,by omega,by omega,by omega,?_⟩
 all_goals
  have f1:U.length<=st0/\st0<=r0/\r0<=m0/\r0<=md/\md+m0<=b0+st0:=by omega
  have f2:st0=U.length∨md+m0=b0+st0:=by omega
  have f3:r0=m0∨r0=md:=by omega
  have n7:((md+m0:Nat):Int)-1=((md+m0-1:Nat):Int):=by omega
  refine ja (λp:Nat×Nat=>⟨mkV [(0,.one (.own 1048576 ver 5 0 len)),(1,.one (.lit (.int .i64 U.length))),(2,.one (.lit (.int .i64 m0))),(3,.one (.lit (.int .i64 b0))),(4,.one (.lit (.func (.func fc) ⟨[]⟩ ⟨[]⟩))),(18,.one (.lit (.int .i64 md))),(19,.one (.lit (.int .i64 (md+m0:Nat)))),(20,.one (.lit (.int .i64 p.1))),(21,.one (.lit (.int .i64 p.2))),(22,.one (.lit (.int .i64 (md+m0-1:Nat))))],mkH [(1048576,⟨ver,some ⟨D.map mC,5,true⟩⟩)]⟩)
   (λp=>st0<=p.1/\p.1<=p.2/\p.2<=r0/\(st0<p.1->kM (D.getD (p.1-1) mo0)<=kM (D.getD (md+m0-p.1) mo0))/\(p.2<r0->kM (D.getD (md+m0-1-p.2) mo0)<=kM (D.getD p.2 mo0))) (λp=>p.2-p.1) (st0,r0) ?_ ?_ ?_
  .exact za (by simp [bitvec_to_nat];omega) (Wi rfl)
  .exact⟨by simp only;omega,by simp only;omega,by simp only;omega,λh=>by simp only at h;omega,λh=>by simp only at h;omega⟩
  .rintro⟨i,j⟩ ⟨h1,h2,h3,h4,h5⟩;simp only at h1 h2 h3 h4 h5;by_cases hij:i<j
   .have hij' : (i:Int)<(j:Int):=by omega
    obtain⟨k,hk⟩:∃k,k=(i+j) / 2:=⟨_,rfl⟩;have hk' : (i:Int)+(j:Int)=((i+j:Nat):Int):=by omega
    have hkk:(i+j) % 18446744073709551616 / 2=k:=by omega
    obtain⟨q,hq⟩:∃q,q=md+m0-1-k:=⟨_,rfl⟩;have hq' : ((md+m0-1:Nat):Int)-(k:Int)=(q:Int):=by omega
    have ok1:=okD k (by omega) (by omega)
    have ok2:=okD q (by omega) (by omega)
    obtain⟨y,hy⟩:∃y,D.getD k mo0=y:=⟨_,rfl⟩;obtain⟨z,hz⟩:∃z,D.getD q mo0=z:=⟨_,rfl⟩;rw [hy]at ok1;rw [hz]at ok2;have q1:k<len:=by omega
    have q2:q<len:=by omega
    have q3:k<D.length:=by omega
    have q4:q<D.length:=by omega
    simp only [go_sem,hr,hro,hs,hcm,hij',hk',hkk,hq',hy,hz,ok1.1,ok1.2,ok2.1,ok2.2,XJ,q1,q2,q3,q4];refine⟨by omega,by omega,by omega,by omega,λhlt=>⟨(i,k),za (by simp [bitvec_to_nat]) (Wi rfl),⟨by simp only;omega,by simp only;omega,by simp only;omega,h4,λ_=>?_⟩,by simp only;omega⟩,λhge=>⟨by omega,(k+1,j),za (by simp [bitvec_to_nat]) (Wi rfl),⟨by simp only;omega,by simp only;omega,by simp only;omega,λ_=>?_,h5⟩,by simp only;omega⟩⟩
    .simp only;rw [<-hq,hy,hz];exact Nat.le_of_lt hlt
    .simp only [Nat.add_sub_cancel];have e:md+m0-(k+1)=q:=by omega
     rw [e,hy,hz];exact Nat.not_lt.1 hge
   .obtain rfl:i=j:=by omega
    have hij' : ¬(i:Int)<(i:Int):=by omega
    obtain⟨e,he⟩:∃e,e=md+m0-i:=⟨_,rfl⟩;have he' : ((md+m0:Nat):Int)-(i:Int)=(e:Int):=by omega
    obtain⟨t,ht⟩:∃t,t=i-U.length:=⟨_,rfl⟩;obtain⟨u,hu⟩:∃u,u=e-m0:=⟨_,rfl⟩;obtain⟨A1,hA1⟩:∃A1,A1=A.take t:=⟨_,rfl⟩;obtain⟨A2,hA2⟩:∃A2,A2=A.drop t:=⟨_,rfl⟩;obtain⟨B1,hB1⟩:∃B1,B1=B.take u:=⟨_,rfl⟩;obtain⟨B2,hB2⟩:∃B2,B2=B.drop u:=⟨_,rfl⟩;have hA12:A=A1++A2:=by rw [hA1,hA2,List.take_append_drop]
    have hB12:B=B1++B2:=by rw [hB1,hB2,List.take_append_drop]
    have lA1:A1.length=t:=by rw [hA1,List.length_take];omega
    have lB1:B1.length=u:=by rw [hB1,List.length_take];omega
    have lA2:A2.length=A.length-t:=by rw [hA2,List.length_drop]
    have lB2:B2.length=B.length-u:=by rw [hB2,List.length_drop]
    have X1:∀x∈A1,∀y∈B2,kM x<=kM y:=by
     intro x hx y hy;have l1:=List.length_pos_of_mem hx;have l2:=List.length_pos_of_mem hy;have hle:=h4 (by omega)
     rw [gA (i-1) (t-1) (by omega) (by omega),gB (md+m0-i) u (by omega) (by omega)]at hle
     rw [hA1]at hx;rw [hB2]at hy;exact Nat.le_trans (VF hsA (by omega) (by omega) hle x hx) (xF hsB (by omega) (Nat.le_refl _) y hy)
    have X2:∀x∈B1,∀y∈A2,kM x<=kM y:=by
     intro x hx y hy;have l1:=List.length_pos_of_mem hx;have l2:=List.length_pos_of_mem hy;have hle:=h5 (by omega)
     rw [gA i t (by omega) (by omega),gB (md+m0-1-i) (u-1) (by omega) (by omega)]at hle
     rw [hB1]at hx;rw [hA2]at hy;exact Nat.le_trans (VF hsB (by omega) (by omega) hle x hx) (xF hsA (by omega) (Nat.le_refl _) y hy)
    have sA1:SortM A1:=by rw [hA12]at hsA;exact ut hsA
    have sA2:SortM A2:=by rw [hA12]at hsA;exact yq hsA
    have sB1:SortM B1:=by rw [hB12]at hsB;exact ut hsB
    have sB2:SortM B2:=by rw [hB12]at hsB;exact yq hsB
    have oA1:okMs A1:=by rw [hA12]at hoA;exact(Jh.1 hoA).1
    have oA2:okMs A2:=by rw [hA12]at hoA;exact(Jh.1 hoA).2
    have oB1:okMs B1:=by rw [hB12]at hoB;exact(Jh.1 hoB).1
    have oB2:okMs B2:=by rw [hB12]at hoB;exact(Jh.1 hoB).2
    have XA:=λx hx y hy=>uq (A:=A1) (B:=A2) (hA12▸hsA) x hx y hy;have XB:=λx hx y hy=>uq (A:=B1) (B:=B2) (hB12▸hsB) x hx y hy;have hp0:(A++B).Perm ((A1++B1)++(A2++B2)):=by
     rw [hA12,hB12];simp only [List.append_assoc];refine List.Perm.append_left _ ?_;rw [<-List.append_assoc,<-List.append_assoc];exact List.Perm.append_right _ List.perm_append_comm
    have fin:∀C1 C2:List Mo,(A1++B1).Perm C1->SortM C1->(A2++B2).Perm C2->SortM C2->K (.tup []) (upd h r ⟨ver,some ⟨(U++C1++C2++V).map mC,5,true⟩⟩):=by
     intro C1 C2 p1 s1 p2 s2;have:=hK (C1++C2) (hp0.trans (p1.append p2)) (ju s1 s2 λx hx y hy=>by
      have hx':=p1.mem_iff.2 hx;have hy':=p2.mem_iff.2 hy;rcases List.mem_append.1 hx' with hx' | hx' <;> rcases List.mem_append.1 hy' with hy' | hy'
      .exact XA x hx' y hy'
      .exact X1 x hx' y hy'
      .exact X2 x hx' y hy'
      .exact XB x hx' y hy')
     rw [<-List.append_assoc]at this;exact this
    by_cases hrot:i<m0/\m0<e
    .have w1:(i:Int)<(m0:Int):=by omega
     have w2:(m0:Int)<(e:Int):=by omega
     simp only [go_sem,hr,hro,hs,hcm,hij',he',w1,w2];refine⟨by omega,?_⟩
     simp only [vB];refine⟨U++A1,A2,B1,B2++V,rfl,by simp;omega,by simp;omega,by simp;omega,λh=>?_,λh=>?_,by simp;omega,by simp;omega,by omega,by simp [qa,hD,hA12,hB12],?_⟩
     .have:=List.length_eq_zero_iff.2 h;omega
     .have:=List.length_eq_zero_iff.2 h;omega
     have eS:U++A1++B1++A2++(B2++V)=U++(A1++B1)++(A2++B2)++V:=by simp
     rw [eS];simp only [go_sem,hr,hro,hs,hcm];refine⟨λq1=>⟨λq2=>?_,λq2=>?_⟩,λq1=>?_⟩
     .simp only [kh];refine⟨U,A1,B1,(A2++B2)++V,rfl,rfl,by omega,by omega,λh=>?_,λh=>?_,by omega,by omega,by simp;omega,by omega,oA1,oB1,sA1,sB1,by simp [qa],λC1 p1 s1=>?_⟩
      .have:=List.length_eq_zero_iff.2 h;omega
      .have:=List.length_eq_zero_iff.2 h;omega
      have lC1:=p1.length_eq;rw [List.length_append]at lC1;try simp only [go_sem,hr]
      refine⟨λq3=>⟨λq4=>?_,λq4=>?_⟩,λq3=>?_⟩
      .try simp only [kh]
       refine⟨U++C1,A2,B2,V,rfl,by simp;omega,by simp;omega,by simp;omega,λh=>?_,λh=>?_,by omega,by simp;omega,by simp;omega,by omega,oA2,oB2,sA2,sB2,by simp [qa],λC2 p2 s2=>?_⟩
       .have:=List.length_eq_zero_iff.2 h;omega
       .have:=List.length_eq_zero_iff.2 h;omega
       try simp only [go_sem,hr]
       exact fin C1 C2 p1 s1 p2 s2
      .have s2:SortM (A2++B2):=by
        have:B2=[]:=List.length_eq_zero_iff.1 (by omega)
        rw [this,List.append_nil];exact sA2
       have:=fin C1 (A2++B2) p1 s1 (List.Perm.refl _) s2;simpa only [List.append_assoc] using this
      .have s2:SortM (A2++B2):=by
        have:A2=[]:=List.length_eq_zero_iff.1 (by omega)
        rw [this,List.nil_append];exact sB2
       have:=fin C1 (A2++B2) p1 s1 (List.Perm.refl _) s2;simpa only [List.append_assoc] using this
     .obtain⟨C1,hC1⟩:∃C1,C1=A1++B1:=⟨_,rfl⟩;have p1:(A1++B1).Perm C1:=by rw [hC1]
      have s1:SortM C1:=by
       have:B1=[]:=List.length_eq_zero_iff.1 (by omega)
       rw [hC1,this,List.append_nil];exact sA1
      have lC1:=p1.length_eq;rw [List.length_append]at lC1;rw [<-hC1];refine⟨λq3=>⟨λq4=>?_,λq4=>?_⟩,λq3=>?_⟩
      .try simp only [kh]
       refine⟨U++C1,A2,B2,V,rfl,by simp;omega,by simp;omega,by simp;omega,λh=>?_,λh=>?_,by omega,by simp;omega,by simp;omega,by omega,oA2,oB2,sA2,sB2,by simp [qa],λC2 p2 s2=>?_⟩
       .have:=List.length_eq_zero_iff.2 h;omega
       .have:=List.length_eq_zero_iff.2 h;omega
       try simp only [go_sem,hr]
       exact fin C1 C2 p1 s1 p2 s2
      .have s2:SortM (A2++B2):=by
        have:B2=[]:=List.length_eq_zero_iff.1 (by omega)
        rw [this,List.append_nil];exact sA2
       have:=fin C1 (A2++B2) p1 s1 (List.Perm.refl _) s2;simpa only [List.append_assoc] using this
      .have s2:SortM (A2++B2):=by
        have:A2=[]:=List.length_eq_zero_iff.1 (by omega)
        rw [this,List.nil_append];exact sB2
       have:=fin C1 (A2++B2) p1 s1 (List.Perm.refl _) s2;simpa only [List.append_assoc] using this
     .obtain⟨C1,hC1⟩:∃C1,C1=A1++B1:=⟨_,rfl⟩;have p1:(A1++B1).Perm C1:=by rw [hC1]
      have s1:SortM C1:=by
       have:A1=[]:=List.length_eq_zero_iff.1 (by omega)
       rw [hC1,this,List.nil_append];exact sB1
      have lC1:=p1.length_eq;rw [List.length_append]at lC1;rw [<-hC1];refine⟨λq3=>⟨λq4=>?_,λq4=>?_⟩,λq3=>?_⟩
      .try simp only [kh]
       refine⟨U++C1,A2,B2,V,rfl,by simp;omega,by simp;omega,by simp;omega,λh=>?_,λh=>?_,by omega,by simp;omega,by simp;omega,by omega,oA2,oB2,sA2,sB2,by simp [qa],λC2 p2 s2=>?_⟩
       .have:=List.length_eq_zero_iff.2 h;omega
       .have:=List.length_eq_zero_iff.2 h;omega
       try simp only [go_sem,hr]
       exact fin C1 C2 p1 s1 p2 s2
      .have s2:SortM (A2++B2):=by
        have:B2=[]:=List.length_eq_zero_iff.1 (by omega)
        rw [this,List.append_nil];exact sA2
       have:=fin C1 (A2++B2) p1 s1 (List.Perm.refl _) s2;simpa only [List.append_assoc] using this
      .have s2:SortM (A2++B2):=by
        have:A2=[]:=List.length_eq_zero_iff.1 (by omega)
        rw [this,List.nil_append];exact sB2
       have:=fin C1 (A2++B2) p1 s1 (List.Perm.refl _) s2;simpa only [List.append_assoc] using this
    .have eS:D=U++(A1++B1)++(A2++B2)++V:=by
      rw [hD,hA12,hB12];rcases Nat.lt_or_ge i m0 with hh | hh
      .have:B1=[]:=List.length_eq_zero_iff.1 (by omega)
       rw [this];simp
      .have:A2=[]:=List.length_eq_zero_iff.1 (by omega)
       rw [this];simp
     rw [eS];rcases Nat.lt_or_ge i m0 with hh | hh
     case' inl=>
      have w1:(i:Int)<(m0:Int):=by omega
      have w2:¬(m0:Int)<(e:Int):=by omega
      simp only [go_sem,hr,hro,hs,hcm,hij',he',w1,w2];refine⟨by omega,?_⟩
     case' inr=>
      have w1:¬(i:Int)<(m0:Int):=by omega
      simp only [go_sem,hr,hro,hs,hcm,hij',he',w1];refine⟨by omega,?_⟩
     all_goals
      refine⟨λq1=>⟨λq2=>?_,λq2=>?_⟩,λq1=>?_⟩
      .simp only [kh];refine⟨U,A1,B1,(A2++B2)++V,rfl,rfl,by omega,by omega,λh=>?_,λh=>?_,by omega,by omega,by simp;omega,by omega,oA1,oB1,sA1,sB1,by simp [qa],λC1 p1 s1=>?_⟩
       .have:=List.length_eq_zero_iff.2 h;omega
       .have:=List.length_eq_zero_iff.2 h;omega
       have lC1:=p1.length_eq;rw [List.length_append]at lC1;try simp only [go_sem,hr]
       refine⟨λq3=>⟨λq4=>?_,λq4=>?_⟩,λq3=>?_⟩
       .try simp only [kh]
        refine⟨U++C1,A2,B2,V,rfl,by simp;omega,by simp;omega,by simp;omega,λh=>?_,λh=>?_,by omega,by simp;omega,by simp;omega,by omega,oA2,oB2,sA2,sB2,by simp [qa],λC2 p2 s2=>?_⟩
        .have:=List.length_eq_zero_iff.2 h;omega
        .have:=List.length_eq_zero_iff.2 h;omega
        try simp only [go_sem,hr]
        exact fin C1 C2 p1 s1 p2 s2
       .have s2:SortM (A2++B2):=by
         have:B2=[]:=List.length_eq_zero_iff.1 (by omega)
         rw [this,List.append_nil];exact sA2
        have:=fin C1 (A2++B2) p1 s1 (List.Perm.refl _) s2;simpa only [List.append_assoc] using this
       .have s2:SortM (A2++B2):=by
         have:A2=[]:=List.length_eq_zero_iff.1 (by omega)
         rw [this,List.nil_append];exact sB2
        have:=fin C1 (A2++B2) p1 s1 (List.Perm.refl _) s2;simpa only [List.append_assoc] using this
      .obtain⟨C1,hC1⟩:∃C1,C1=A1++B1:=⟨_,rfl⟩;have p1:(A1++B1).Perm C1:=by rw [hC1]
       have s1:SortM C1:=by
        have:B1=[]:=List.length_eq_zero_iff.1 (by omega)
        rw [hC1,this,List.append_nil];exact sA1
       have lC1:=p1.length_eq;rw [List.length_append]at lC1;rw [<-hC1];refine⟨λq3=>⟨λq4=>?_,λq4=>?_⟩,λq3=>?_⟩
       .try simp only [kh]
        refine⟨U++C1,A2,B2,V,rfl,by simp;omega,by simp;omega,by simp;omega,λh=>?_,λh=>?_,by omega,by simp;omega,by simp;omega,by omega,oA2,oB2,sA2,sB2,by simp [qa],λC2 p2 s2=>?_⟩
        .have:=List.length_eq_zero_iff.2 h;omega
        .have:=List.length_eq_zero_iff.2 h;omega
        try simp only [go_sem,hr]
        exact fin C1 C2 p1 s1 p2 s2
       .have s2:SortM (A2++B2):=by
         have:B2=[]:=List.length_eq_zero_iff.1 (by omega)
         rw [this,List.append_nil];exact sA2
        have:=fin C1 (A2++B2) p1 s1 (List.Perm.refl _) s2;simpa only [List.append_assoc] using this
       .have s2:SortM (A2++B2):=by
         have:A2=[]:=List.length_eq_zero_iff.1 (by omega)
         rw [this,List.nil_append];exact sB2
        have:=fin C1 (A2++B2) p1 s1 (List.Perm.refl _) s2;simpa only [List.append_assoc] using this
      .obtain⟨C1,hC1⟩:∃C1,C1=A1++B1:=⟨_,rfl⟩;have p1:(A1++B1).Perm C1:=by rw [hC1]
       have s1:SortM C1:=by
        have:A1=[]:=List.length_eq_zero_iff.1 (by omega)
        rw [hC1,this,List.nil_append];exact sB1
       have lC1:=p1.length_eq;rw [List.length_append]at lC1;rw [<-hC1];refine⟨λq3=>⟨λq4=>?_,λq4=>?_⟩,λq3=>?_⟩
       .try simp only [kh]
        refine⟨U++C1,A2,B2,V,rfl,by simp;omega,by simp;omega,by simp;omega,λh=>?_,λh=>?_,by omega,by simp;omega,by simp;omega,by omega,oA2,oB2,sA2,sB2,by simp [qa],λC2 p2 s2=>?_⟩
        .have:=List.length_eq_zero_iff.2 h;omega
        .have:=List.length_eq_zero_iff.2 h;omega
        try simp only [go_sem,hr]
        exact fin C1 C2 p1 s1 p2 s2
       .have s2:SortM (A2++B2):=by
         have:B2=[]:=List.length_eq_zero_iff.1 (by omega)
         rw [this,List.append_nil];exact sA2
        have:=fin C1 (A2++B2) p1 s1 (List.Perm.refl _) s2;simpa only [List.append_assoc] using this
       .have s2:SortM (A2++B2):=by
         have:A2=[]:=List.length_eq_zero_iff.1 (by omega)
         rw [this,List.nil_append];exact sB2
        have:=fin C1 (A2++B2) p1 s1 (List.Perm.refl _) s2;simpa only [List.append_assoc] using this
end Go.Abs
end
