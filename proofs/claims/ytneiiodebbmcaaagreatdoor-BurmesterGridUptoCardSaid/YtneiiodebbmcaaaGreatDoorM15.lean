/-
  Parts of the proof, merged: IntF, IntG, IntH, IntK, PolyS, PolyU, PolyT, PolyV, RefB, RefC, RefD, RefE.
-/
import Derived.Test.YtneiiodebbmcaaaGreatDoorM14
import Derived.Lib.BitFns
set_option linter.unusedVariables false
set_option linter.unusedSimpArgs false
set_option maxRecDepth 100000
section
namespace Go.Abs
open Go.Num
variable {P:Program} {Γ:Nat->Spec}
def ym(f0:Nat):AC:=(.seq (.ops false [.m 6 .fa])
 (.fg [0,1,2] (.seq (.ops false [.m 7 (.c (.one (.lit (.int .u64 0)))),.m 8 (.c (.one (.lit (.int .u64 0))))])
 (.fg [0,1,2,7,8] (.seq (.seq (.ops false [.m 11 (.t 0),.u 12 (.len (.t 11)),.m 13 (.i 0)])
 (.fg [0,1,2,7,8,12,13] (.block 0 (.loop (.seq (.ops false [.u 14 (.bin .lss (.t 13) (.t 12))])
 (.fg [0,1,2,7,8,12,13,14] (.seq (.cond (.t 14) .skip (.exit 0))
 (.fg [0,1,2,7,8,12,13] (.seq (.block 1 (.seq (.ops false [.m 15 (.t 13),.m 9 (.t 15)])
 (.fg [0,1,2,7,8,9,12,13] (.seq (.ops false [.m 16 (.t 7),.m 17 (.t 2),.m 18 (.t 1),.m 19 (.t 9),.u 20 (.call f0 [(.t 18),(.t 19)]),.u 21 (.bin .mul (.t 17) (.t 20)),.u 22 (.bin .add (.t 16) (.t 21)),.m 7 (.t 22)])
 (.fg [0,1,2,7,8,9,12,13] (.seq (.ops false [.m 23 (.t 0),.m 24 (.t 9),.u 25 (.idx 1 (.t 23) (.t 24)),.u 26 (.ld none 1 false (.t 25)),.u 27 (.conv .u64 (.t 26)),.m 28 (.t 7),.u 29 (.conv .u32 (.t 28)),.u 30 (.conv .u64 (.t 29)),.u 31 (.bin .sub (.t 27) (.t 30)),.m 32 (.t 8),.u 33 (.bin .sub (.t 31) (.t 32)),.m 10 (.t 33)])
 (.fg [0,1,2,7,9,10,12,13] (.seq (.ops false [.m 34 (.t 0),.m 35 (.t 9),.m 36 (.t 10),.u 37 (.conv .u32 (.t 36)),.u 38 (.idx 1 (.t 34) (.t 35)),.n (.st none 1 (.t 38) (.t 37))])
 (.fg [0,1,2,7,10,12,13] (.seq (.ops false [.m 39 (.t 10),.u 40 (.bin .shr (.t 39) (.c (.one (.lit (.int .u64 63))))),.m 8 (.t 40)])
 (.fg [0,1,2,7,8,12,13] (.ops false [.m 41 (.t 7),.u 42 (.bin .shr (.t 41) (.c (.one (.lit (.int .u64 32))))),.m 7 (.t 42)]))))))))))))
 (.fg [0,1,2,7,8,12,13] (.ops false [.u 43 (.bin .add (.t 13) (.i 1)),.m 13 (.t 43)])))))))))))
 (.fg [8] (.seq (.ops false [.m 44 (.t 8),.u 45 (.bin .eql (.t 44) (.c (.one (.lit (.int .u64 1))))),.m 6 (.t 45)])
 .ret)))))))
def Yt(f0:Nat):AC:=(.seq (.ops false [.m 4 (.c (.one (.lit (.int .u64 0))))])
 (.fg [0,1,4] (.seq (.ops false [.m 6 (.t 0),.u 7 (.len (.t 6)),.m 8 (.i 0)])
 (.fg [0,1,4,7,8] (.block 0 (.loop (.seq (.ops false [.u 9 (.bin .lss (.t 8) (.t 7))])
 (.fg [0,1,4,7,8,9] (.seq (.cond (.t 9) .skip (.exit 0))
 (.fg [0,1,4,7,8] (.seq (.block 1 (.seq (.ops false [.m 10 (.t 8),.m 5 (.t 10)])
 (.fg [0,1,4,5,7,8] (.seq (.ops true [.m 11 (.t 4),.m 12 (.t 0),.m 13 (.t 5),.u 14 (.idx 1 (.t 12) (.t 13)),.u 15 (.ld none 1 false (.t 14)),.u 16 (.conv .u64 (.t 15)),.m 17 (.t 1),.m 18 (.t 5),.u 19 (.call f0 [(.t 17),(.t 18)]),.u 20 (.bin .add (.t 16) (.t 19)),.u 21 (.bin .add (.t 11) (.t 20)),.m 4 (.t 21)])
 (.fg [0,1,4,5,7,8] (.seq (.ops false [.m 22 (.t 0),.m 23 (.t 5),.m 24 (.t 4),.u 25 (.conv .u32 (.t 24)),.u 26 (.idx 1 (.t 22) (.t 23)),.n (.st none 1 (.t 26) (.t 25))])
 (.fg [0,1,4,7,8] (.ops false [.m 27 (.t 4),.u 28 (.bin .shr (.t 27) (.c (.one (.lit (.int .u64 32))))),.m 4 (.t 28)]))))))))
 (.fg [0,1,4,7,8] (.ops false [.u 29 (.bin .add (.t 8) (.i 1)),.m 8 (.t 29)])))))))))))))
theorem U1(hΓ:Holds P Γ){f fw:Nat}(hw:Γ fw=.dat true Jl)(hc:check P f=some (46,(ym fw).strip,[.tmp 6])):Sound P f (.own Up):=by
 refine Vg hc hΓ (λd args h K hG=>?_);unfold Up at hG;split at hG
 case h_2=>exact hG.elim
 rename_i r ver off len b n;obtain⟨v,rfl,hv,pre,seg,post,m,rfl,rfl,rfl,hr,hseg,hm,hvl,hlt,hsl,hK⟩:=hG;refine⟨[r],[⟨(pre++seg++post).map wc,1,true⟩],[.one (.own 1048576 ver 1 pre.length seg.length),wsA v,.one (.lit (.int .u64 m))],by simp,rfl,?_,?_,?_,λhfi=>⟨by simp,?_⟩⟩
 .intro i r' b h1 h2;cases i with
  | zero=>simp only [List.getElem?_cons_zero,Option.some.injEq]at h1 h2;subst h1 h2;exact⟨by rw [hr],rfl,of_eq_true (ve _)⟩
  | succ i=>simp at h1
 .simp [exA,exC,exB,nameOf,pinA,wsA,ws]
 .intro a ha;simp only [List.mem_cons,List.not_mem_nil,or_false]at ha;rcases ha with rfl | rfl | rfl
  .simp [pasA,pasC,pasB,nameOf,pinA]
  .exact .slice _ (of_eq_true (ve _))
  .exact .lit _
 simp only [go_sem,ym,hw,hr];intro h1;refine Xa (λp:List Nat×Nat×Nat×Nat=>⟨mkV [(0,.one (.own 1048576 ver 1 pre.length seg.length)),(1,wsA v),(2,.one (.lit (.int .u64 m))),(7,.one (.lit (.int .u64 p.2.1))),(8,.one (.lit (.int .u64 p.2.2.1))),(12,.one (.lit (.int .i64 seg.length))),(13,.one (.lit (.int .i64 p.1.length)))],
   mkH [(1048576,⟨ver,some ⟨(pre++(p.1++seg.drop p.1.length)++post).map wc,1,true⟩⟩)]⟩)
  (λp=>p.1.length<=seg.length/\WL p.1/\(p.2.1=0∨p.2.1<m)/\p.2.2.1<=1/\p.2.2.2+4294967296 ^ p.1.length*p.2.1=m*val (v.take p.1.length)/\val p.1+p.2.2.2=val (seg.take p.1.length)+4294967296 ^ p.1.length*p.2.2.1) (λp=>seg.length-p.1.length) ([],0,0,0) ?_ ?_ ?_
 .exact Qa (by simp [okS,okV,okC,okL,okH,okB,okE,ja,Va,qa,ka,wsA,ws]) (qj (by simp))
 .simp [zd,val]
 .rintro⟨o,c,bw,p⟩ ⟨hoN,ho,hc1,hb1,hp1,hp2⟩;simp only at hoN ho hc1 hb1 hp1 hp2;have hlen:(pre++(o++seg.drop o.length)++post).length=pre.length+seg.length+post.length:=by simp;omega
  simp only [go_sem,hw,hr,hlen];refine⟨λhlt2=>?_,λhge=>?_⟩
  .have g1:=Ub hseg o.length;have g2:=Ub hv o.length;obtain⟨s1,s2⟩:=XaY hm g2 hc1;have a1:=Ybe (B:=4294967296) (v:=v.getD o.length 0) hp1;have e1:m*v.getD o.length 0 % 18446744073709551616=m*v.getD o.length 0:=Nat.mod_eq_of_lt (by omega)
   have e2:seg.getD o.length 0 % 18446744073709551616=seg.getD o.length 0:=by omega
   rw [xaN _ _ _ _ hlt2,e1,e2,Nat.mod_eq_of_lt s1,kak _ _ _ _ _ hlt2];generalize hs:c+m*v.getD o.length 0=s at s1 s2 a1;have e3:s % 4294967296 % 18446744073709551616=s % 4294967296:=by omega
   rw [e3];obtain⟨t1,t2⟩:=xay (b:=s % 4294967296) g1 (by omega) hb1
   generalize sub64 (sub64 (seg.getD o.length 0) (s % 4294967296)) bw=d at t1 t2;have a2:=Jba hp2 t1;refine⟨hv,hlt2,by omega,hlt2,by omega,by omega,by omega,by omega,(o++[d % 4294967296],s / 4294967296,d / 9223372036854775808,p+4294967296 ^ o.length*(s % 4294967296)),Qa (by simp [okS,okV,okC,okL,okH,okB,okE,ja,Va,qa,ka,wsA,ws]) (qj rfl),⟨by simp;omega,ue.2 ⟨ho,xc.2 ⟨Nat.mod_lt _ (by omega),zd⟩⟩,s2,t2,?_,?_⟩,by simp;omega⟩
   .simp only [List.length_append,List.length_cons,List.length_nil,Nat.zero_add,Zc,Nat.pow_succ];exact a1
   .simp only [List.length_append,List.length_cons,List.length_nil,Nat.zero_add,Zc,Yc,xi,xm,Nat.mul_zero,Nat.add_zero,Nat.pow_succ];exact a2
  .have e:o.length=seg.length:=by omega
   rw [e]at hp1 hp2;rw [Wk hvl]at hp1;rw [Wk (Nat.le_refl _)]at hp2;obtain⟨t1,t2⟩:=wbq ho e hp1 hlt hp2 hb1;rw [List.drop_of_length_le (by omega),List.append_nil]
   rw [<-t1]at hK;have:(decide ((bw:Int)=1))=decide (val seg<m*val v):=by
    rw [decide_eq_decide,<-t2];omega
   rw [this];exact hK
theorem UaH(hΓ:Holds P Γ){f fw:Nat}(hw:Γ fw=.dat true Jl)(hc:check P f=some (30,(Yt fw).strip,[])):Sound P f (.own QF):=by
 refine Vg hc hΓ (λd args h K hG=>?_);unfold QF at hG;split at hG
 case h_2=>exact hG.elim
 rename_i r ver off len b;obtain⟨v,rfl,hv,pre,seg,post,rfl,rfl,hr,hseg,hvl,hsl,hK⟩:=hG;refine⟨[r],[⟨(pre++seg++post).map wc,1,true⟩],[.one (.own 1048576 ver 1 pre.length seg.length),wsA v],by simp,rfl,?_,?_,?_,λhfi=>⟨by simp,?_⟩⟩
 .intro i r' b h1 h2;cases i with
  | zero=>simp only [List.getElem?_cons_zero,Option.some.injEq]at h1 h2;subst h1 h2;exact⟨by rw [hr],rfl,of_eq_true (ve _)⟩
  | succ i=>simp at h1
 .simp [exA,exC,exB,nameOf,pinA,wsA,ws]
 .intro a ha;simp only [List.mem_cons,List.not_mem_nil,or_false]at ha;rcases ha with rfl | rfl
  .simp [pasA,pasC,pasB,nameOf,pinA]
  .exact .slice _ (of_eq_true (ve _))
 simp only [go_sem,Yt,hw,hr];intro h1;refine Xa (λp:List Nat×Nat=>⟨mkV [(0,.one (.own 1048576 ver 1 pre.length seg.length)),(1,wsA v),(4,.one (.lit (.int .u64 p.2))),(7,.one (.lit (.int .i64 seg.length))),(8,.one (.lit (.int .i64 p.1.length)))],
   mkH [(1048576,⟨ver,some ⟨(pre++(p.1++seg.drop p.1.length)++post).map wc,1,true⟩⟩)]⟩)
  (λp=>p.1.length<=seg.length/\WL p.1/\p.2<=1/\val p.1+4294967296 ^ p.1.length*p.2=val (seg.take p.1.length)+val (v.take p.1.length)) (λp=>seg.length-p.1.length) ([],0) ?_ ?_ ?_
 .exact Qa (by simp [okS,okV,okC,okL,okH,okB,okE,ja,Va,qa,ka,wsA,ws]) (qj (by simp))
 .simp [zd,val]
 .rintro⟨o,c⟩ ⟨hoN,ho,hc1,hp1⟩;simp only at hoN ho hc1 hp1;have hlen:(pre++(o++seg.drop o.length)++post).length=pre.length+seg.length+post.length:=by simp;omega
  simp only [go_sem,hw,hr,hlen];refine⟨λhlt2=>?_,λhge=>?_⟩
  .have g1:=Ub hseg o.length;have g2:=Ub hv o.length;have e2:seg.getD o.length 0 % 18446744073709551616=seg.getD o.length 0:=by omega
   rw [xaN _ _ _ _ hlt2,e2,Nat.mod_eq_of_lt (show seg.getD o.length 0+v.getD o.length 0<18446744073709551616 by omega),Nat.mod_eq_of_lt (show c+(seg.getD o.length 0+v.getD o.length 0)<18446744073709551616 by omega),kak _ _ _ _ _ hlt2]
   have a1:=qbe (B:=4294967296) (a:=seg.getD o.length 0) (b:=v.getD o.length 0) hp1 rfl;generalize hs:c+(seg.getD o.length 0+v.getD o.length 0)=s at a1;refine⟨hlt2,by omega,hv,hlt2,by omega,by omega,by omega,(o++[s % 4294967296],s / 4294967296),Qa (by simp [okS,okV,okC,okL,okH,okB,okE,ja,Va,qa,ka,wsA,ws]) (qj rfl),⟨by simp;omega,ue.2 ⟨ho,xc.2 ⟨Nat.mod_lt _ (by omega),zd⟩⟩,by simp only;omega,?_⟩,by simp;omega⟩
   simp only [List.length_append,List.length_cons,List.length_nil,Nat.zero_add,Zc,Yc,xi,xm,Nat.mul_zero,Nat.add_zero,Nat.pow_succ];exact a1
  .have e:o.length=seg.length:=by omega
   rw [e,Wk hvl,Wk (Nat.le_refl _)]at hp1;have t1:=wbb ho e hp1;rw [List.drop_of_length_le (by omega),List.append_nil]
   rw [<-t1]at hK;exact hK
end Go.Abs
end
section
namespace Go.Num
theorem uB:∀(a b X:Nat),dig (a+b) X=dig a X++dig b (X / 4294967296 ^ a)
 | 0,b,X=>by simp [dig]
 | a+1,b,X=>by
  rw [show a+1+b=(a+b)+1 by omega,dig,dig,uB a b,Nat.div_div_eq_div_mul,Nat.pow_succ,Nat.mul_comm 4294967296];simp
theorem yat:∀k,dig k 0=List.replicate k 0
 | 0=>rfl
 | k+1=>by rw [dig,Nat.zero_mod,Nat.zero_div,yat k,List.replicate_succ]
theorem ZW:∀(k i X:Nat),i<k->(dig k X).getD i 0=X / 4294967296 ^ i % 4294967296
 | k+1,0,X,_=>by simp [dig]
 | k+1,i+1,X,h=>by
  rw [dig,List.getD_cons_succ,ZW k i _ (by omega),Nat.div_div_eq_div_mul,Nat.pow_succ,Nat.mul_comm 4294967296]
theorem UV:∀(k X:Nat),dig k (X % 4294967296 ^ k)=dig k X:=by
 intro k X;refine zan (Wl _ _) (Wl _ _) (by rw [Zb,Zb]) ?_
 rw [Uk,Uk,Nat.mod_mod]
theorem vbu{j X Y:Nat}:dig j (X % 4294967296 ^ j+4294967296 ^ j*Y)=dig j X:=by
 rw [<-UV,Nat.add_mul_mod_self_left,Nat.mod_mod,UV]
theorem WJ{L j n X:Nat}(h:j+(n+1)<=L)(hX:X / 4294967296 ^ j<4294967296 ^ (n+1)) :
  dig L X=dig j X++dig (n+1) (X / 4294967296 ^ j)++List.replicate (L-(j+(n+1))) 0:=by
 conv=>lhs;rw [show L=j+(n+1)+(L-(j+(n+1))) by omega]
 rw [uB,uB,Nat.pow_add,<-Nat.div_div_eq_div_mul,Nat.div_eq_of_lt hX,yat]
theorem jay{L j n X R:Nat}(h:j+(n+1)<=L)(hR:R<4294967296 ^ (n+1)) :
  dig j X++dig (n+1) R++List.replicate (L-(j+(n+1))) 0=dig L (X % 4294967296 ^ j+4294967296 ^ j*R):=by
 have e:(X % 4294967296 ^ j+4294967296 ^ j*R) / 4294967296 ^ j=R:=by
  rw [Nat.add_mul_div_left _ _ (pow_pos j),Nat.div_eq_of_lt (Nat.mod_lt _ (pow_pos j)),Nat.zero_add]
 rw [WJ h (by rw [e];exact hR),e,vbu]
structure Step (B n V P top next head u2:Nat):Prop where
 hB:2<=B
 hn:2<=n
 vlow:∃l,V=(top*B+next)*B ^ (n-2)+l/\l<B ^ (n-2)
 plow:∃l,P=(head*B+u2)*B ^ (n-2)+l/\l<B ^ (n-2)
 nextB:next<B
 topB:top<B
 half:B<=2*top
 u2B:u2<B
 lt:P<V*B
namespace Step
variable {B n V P top next head u2:Nat}
theorem vpos(s:Step B n V P top next head u2):0<V:=by
 obtain⟨l,h,_⟩:=s.vlow;have:0<B ^ (n-2):=Nat.pow_pos (by have:=s.hB;omega)
 have h2:0<top*B+next:=by
  have:=Nat.mul_pos (show 0<top by have:=s.half;have:=s.hB;omega) (show 0<B by have:=s.hB;omega)
  omega
 have:=Nat.mul_pos h2 this;omega
theorem down(s:Step B n V P top next head u2){g r:Nat}(hg:g*top+r=head)(h:B<=g∨r*B+u2<g*next):P / V<g:=by
 rw [Nat.div_lt_iff_lt_mul s.vpos];rcases h with h | h
 .have h1:=Nat.mul_le_mul_right V h;have:=s.lt;rw [Nat.mul_comm V]at this;omega
 .obtain⟨lv,hv,hlv⟩:=s.vlow;obtain⟨lp,hp,hlp⟩:=s.plow;generalize B ^ (n-2)=p at hv hlv hp hlp;have h1:head*B+u2+1<=g*(top*B+next):=by
   rw [<-hg];have:(g*top+r)*B=g*(top*B)+r*B:=by rw [Nat.add_mul,Nat.mul_assoc]
   rw [this,Nat.mul_add];omega
  have h2:=Nat.mul_le_mul_right p h1;rw [Nat.add_mul,Nat.one_mul]at h2;have h3:g*(top*B+next)*p<=g*V:=by
   rw [Nat.mul_assoc];exact Nat.mul_le_mul_left _ (by omega)
  omega
theorem stop(s:Step B n V P top next head u2){g r:Nat}(hg:g*top+r=head)(hgB:g<=B)(h:B<=r∨(g<B/\g*next<=r*B+u2)):g*V<=P+V:=by
 obtain⟨lv,hv,hlv⟩:=s.vlow;obtain⟨lp,hp,hlp⟩:=s.plow;have hB:=s.hB;have hn:=s.hn;have hpp:0<B ^ (n-2):=Nat.pow_pos (by omega)
 have h1:g*(top*B+next)<=head*B+u2:=by
  rw [<-hg,Nat.add_mul,Nat.mul_add,Nat.mul_assoc];rcases h with h | h
  .have h3:g*next<=B*B:=Nat.mul_le_mul hgB (Nat.le_of_lt s.nextB)
   have h4:B*B<=r*B:=Nat.mul_le_mul_right _ h;omega
  .omega
 have hVtop:B*B ^ (n-2)<=V:=by
  have:B<=top*B:=Nat.le_mul_of_pos_left _ (by have:=s.half;omega)
  have:=Nat.mul_le_mul_right (B ^ (n-2)) (show B<=top*B+next by omega)
  omega
 generalize B ^ (n-2)=p at hv hlv hp hlp hpp hVtop;have h2:=Nat.mul_le_mul_right p h1;have h5:g*V<=g*((top*B+next)*p)+g*p:=by
  rw [hv,Nat.mul_add];exact Nat.add_le_add_left (Nat.mul_le_mul_left _ (Nat.le_of_lt hlv)) _
 have h6:g*p<=B*p:=Nat.mul_le_mul_right _ hgB;rw [<-Nat.mul_assoc]at h5;omega
theorem first(s:Step B n V P top next head u2):head / top<=B+1/\P / V<=head / top:=by
 have hB:=s.hB;have ht:0<top:=by have:=s.half;omega
 obtain⟨lv,hv,hlv⟩:=s.vlow;obtain⟨lp,hp,hlp⟩:=s.plow;have hlt:=s.lt;have hnext:=s.nextB;have hu2:=s.u2B;constructor
 .have h1:head<=top*B+next:=by
   rcases Nat.lt_or_ge (top*B+next) head with h | h
   .exfalso;have h2:=Nat.mul_le_mul_right (B ^ (n-2)) (Nat.mul_le_mul_right B h);have h3:(top*B+next+1)*B*B ^ (n-2)=((top*B+next)*B ^ (n-2)+B ^ (n-2))*B:=by
     generalize B ^ (n-2)=p;grind
    rw [Nat.succ_eq_add_one,h3]at h2;have h4:V*B<=((top*B+next)*B ^ (n-2)+B ^ (n-2))*B:=Nat.mul_le_mul_right _ (by omega)
    have h5:head*B*B ^ (n-2)<=P:=by
     rw [hp,Nat.add_mul];omega
    omega
   .exact h
  have h2:head<(B+2)*top:=by
   have:=s.half;have:(B+2)*top=top*B+2*top:=by rw [Nat.add_mul,Nat.mul_comm B]
   omega
  have:=(Nat.div_lt_iff_lt_mul ht).2 h2;omega
 .have:P / V<head / top+1:=by
   rw [Nat.div_lt_iff_lt_mul s.vpos];have h1:head<(head / top+1)*top:=by
    have:=Nat.div_add_mod head top;have:=Nat.mod_lt head ht;rw [Nat.add_mul,Nat.one_mul,Nat.mul_comm (head / top)];omega
   have h2:head+1<=(head / top+1)*top:=h1;have h3:=Nat.mul_le_mul_right (B ^ (n-2)) (Nat.mul_le_mul_right B h2);have h4:(head / top+1)*top*B*B ^ (n-2)<=(head / top+1)*V:=by
    rw [Nat.mul_assoc,Nat.mul_assoc];refine Nat.mul_le_mul_left _ ?_;rw [hv,Nat.add_mul,<-Nat.mul_assoc];omega
   have h5:P<(head+1)*B*B ^ (n-2):=by
    rw [hp];have:(head*B+u2+1)*B ^ (n-2)<=(head+1)*B*B ^ (n-2):=Nat.mul_le_mul_right _ (by rw [Nat.add_mul,Nat.one_mul];omega)
    rw [Nat.add_mul,Nat.one_mul]at this;omega
   omega
  omega
theorem left(s:Step B n V P top next head u2){g:Nat}(h1:P / V<=g)(h2:g*V<=P+V) :
  (P<g*V->g=P / V+1)/\(¬P<g*V->g=P / V):=by
 have hv:=s.vpos;have e:=Nat.div_add_mod P V;have m:=Nat.mod_lt P hv;constructor
 .intro h;have h3:g<=P / V+1:=by
   rcases Nat.lt_or_ge (P / V+1) g with h4 | h4
   .exfalso;have:=Nat.mul_le_mul_right V (show P / V+2<=g from h4);rw [Nat.add_mul,Nat.mul_comm (P / V)]at this;omega
   .exact h4
  have h5:P / V<g:=by rw [Nat.div_lt_iff_lt_mul hv];exact h
  omega
 .intro h;have:g<=P / V:=by rw [Nat.le_div_iff_mul_le hv];omega
  omega
theorem quot(s:Step B n V P top next head u2):P / V<B:=by
 rw [Nat.div_lt_iff_lt_mul s.vpos,Nat.mul_comm];exact s.lt
end Step
theorem Vbg(n k X:Nat):(dig (n+k) X).take n=dig n X:=by
 rw [uB,List.take_append_of_le_length (by rw [Zb];exact Nat.le_refl _),List.take_of_length_le (by rw [Zb];exact Nat.le_refl _)]
theorem uaH{t:Nat}(h0:0<t)(h:t<4294967296):Lib.bitLen t=Nat.log2 t+1:=by
 have h1:2 ^ Nat.log2 t<=t:=Nat.log2_self_le (by omega)
 have h2:t<2 ^ (Nat.log2 t+1):=Nat.lt_log2_self;rw [Lib.bitLen_shift _ _ h1 (by omega)]
 have:t / 2 ^ Nat.log2 t=1:=by
  rw [Nat.pow_succ]at h2;have hp:0<2 ^ Nat.log2 t:=Nat.pow_pos (by omega)
  generalize 2 ^ Nat.log2 t=p at h1 h2 hp;have a:t / p<2:=(Nat.div_lt_iff_lt_mul hp).2 (by omega)
  have b:1<=t / p:=(Nat.le_div_iff_mul_le hp).2 (by omega)
  omega
 rw [this];rfl
theorem jbw{t:Nat}(h0:0<t)(h:t<4294967296):∃s:Nat,s<32/\(32-(Lib.bitLen t:Int))=s/\2147483648<=t*2 ^ s/\(t+1)*2 ^ s<=4294967296:=by
 have h1:2 ^ Nat.log2 t<=t:=Nat.log2_self_le (by omega)
 have h2:t<2 ^ (Nat.log2 t+1):=Nat.lt_log2_self;have hl:Nat.log2 t<32:=by rw [Nat.log2_lt (by omega)];exact h
 rw [uaH h0 h];refine⟨31-Nat.log2 t,by omega,by omega,?_,?_⟩
 .have:=Nat.mul_le_mul_right (2 ^ (31-Nat.log2 t)) h1;rw [<-Nat.pow_add,show Nat.log2 t+(31-Nat.log2 t)=31 by omega]at this
  exact this
 .have:=Nat.mul_le_mul_right (2 ^ (31-Nat.log2 t)) (show t+1<=_ from h2);rw [<-Nat.pow_add,show Nat.log2 t+1+(31-Nat.log2 t)=32 by omega]at this
  exact this
theorem shifted{y:List Nat}{s:Nat}(hy:WL y)(hn:0<y.length)(h1:2147483648<=y.getD (y.length-1) 0*2 ^ s)(h2:(y.getD (y.length-1) 0+1)*2 ^ s<=4294967296) :
  val y*2 ^ s<4294967296 ^ y.length/\4294967296 ^ y.length<=2*(val y*2 ^ s):=by
 have e:=ZM y (y.length-1) (by omega)
 rw [List.drop_of_length_le (by omega),xm,Nat.mul_zero,Nat.add_zero]at e
 have hl:=ul (uy hy (y.length-1));rw [List.length_take,Nat.min_eq_left (by omega)]at hl
 rw [e,YI hn];generalize y.getD (y.length-1) 0=t at *
 generalize 4294967296 ^ (y.length-1)=p at *
 generalize val (y.take (y.length-1))=v at *
 have hs:0<2 ^ s:=Nat.pow_pos (by omega)
 generalize 2 ^ s=q at *
 have a1:=Nat.mul_le_mul_left p h1;have a2:=Nat.mul_le_mul_left p h2;have a3:=(Nat.mul_lt_mul_right hs).2 hl;rw [Nat.add_mul,Nat.one_mul,Nat.mul_add]at a2;rw [Nat.add_mul,Nat.mul_assoc p t q];constructor
 .omega
 .have:2*(p*2147483648)=p*(2*2147483648):=Nat.mul_left_comm _ _ _;rw [show 2*2147483648=4294967296 from rfl]at this;rw [<-this];exact Nat.mul_le_mul_left 2 (Nat.le_trans a1 (Nat.le_add_left _ _))
theorem Vbd{x y:List Nat}{s:Nat}(hx:WL x)(hs:s<32)(hV:4294967296 ^ y.length<=2*(val y*2 ^ s))(hl:y.length<=x.length+1) :
  val x*2 ^ s<val y*2 ^ s*4294967296 ^ (x.length+1-y.length):=by
 have h1:=ul hx;have h2:=jX hs;have h3:4294967296 ^ x.length*4294967296=4294967296 ^ y.length*4294967296 ^ (x.length+1-y.length):=by
  rw [<-Nat.pow_succ,<-Nat.pow_add];congr 1;omega
 have h4:=Nat.mul_le_mul_right (4294967296 ^ (x.length+1-y.length)) hV;rw [<-h3,Nat.mul_assoc]at h4;have h5:val x*2 ^ s<4294967296 ^ x.length*2147483648:=
  Nat.lt_of_lt_of_le ((Nat.mul_lt_mul_right (Nat.pow_pos (by omega))).2 h1) (Nat.mul_le_mul_left _ h2)
 omega
theorem vby{n V P:Nat}(hn:2<=n)(hV1:V<4294967296 ^ n)(hV2:4294967296 ^ n<=2*V)(hP:P<V*4294967296) :
  Step 4294967296 n V P (V / 4294967296 ^ (n-1) % 4294967296) (V / 4294967296 ^ (n-2) % 4294967296) (P / 4294967296 ^ n % 4294967296*4294967296+P / 4294967296 ^ (n-1) % 4294967296) (P / 4294967296 ^ (n-2) % 4294967296):=by
 have e1:4294967296 ^ n=4294967296 ^ (n-1)*4294967296:=YI (by omega)
 have e2:4294967296 ^ (n-1)=4294967296 ^ (n-2)*4294967296:=by rw [YI (show 0<n-1 by omega),show n-1-1=n-2 by omega]
 have hp:=pow_pos (n-2);have ht:V / 4294967296 ^ (n-1)<4294967296:=by
  rw [Nat.div_lt_iff_lt_mul (pow_pos _),Nat.mul_comm,<-e1];exact hV1
 have hh:P / 4294967296 ^ n<4294967296:=by
  rw [Nat.div_lt_iff_lt_mul (pow_pos _)];have:=(Nat.mul_lt_mul_right (show 0<4294967296 by omega)).2 hV1
  rw [Nat.mul_comm (4294967296 ^ n)]at this;omega
 have q1:V / 4294967296 ^ (n-1)=V / 4294967296 ^ (n-2) / 4294967296:=by rw [e2,Nat.div_div_eq_div_mul]
 have q2:P / 4294967296 ^ (n-1)=P / 4294967296 ^ (n-2) / 4294967296:=by rw [e2,Nat.div_div_eq_div_mul]
 have q3:P / 4294967296 ^ n=P / 4294967296 ^ (n-1) / 4294967296:=by rw [e1,Nat.div_div_eq_div_mul]
 refine⟨by omega,hn,⟨V % 4294967296 ^ (n-2),?_,Nat.mod_lt _ hp⟩,⟨P % 4294967296 ^ (n-2),?_,Nat.mod_lt _ hp⟩,Nat.mod_lt _ (by omega),Nat.mod_lt _ (by omega),?_,Nat.mod_lt _ (by omega),hP⟩
 .rw [Nat.mod_eq_of_lt ht,q1];rw [Nat.div_add_mod' (V / 4294967296 ^ (n-2)),Nat.mul_comm];exact(Nat.div_add_mod _ _).symm
 .rw [Nat.mod_eq_of_lt hh,q3,q2];rw [Nat.div_add_mod' (P / 4294967296 ^ (n-2) / 4294967296),Nat.div_add_mod' (P / 4294967296 ^ (n-2)),Nat.mul_comm];exact(Nat.div_add_mod _ _).symm
 .rw [Nat.mod_eq_of_lt ht];have:2147483648<=V / 4294967296 ^ (n-1):=by
   rw [Nat.le_div_iff_mul_le (pow_pos _)];rw [e1]at hV2;generalize 4294967296 ^ (n-1)=p at hV2 ⊢;omega
  omega
theorem xba{a b:Nat}(h:¬a<b):(ordN a b<0)=False:=by
 unfold ordN;rw [if_neg h];split <;> simp
theorem uau{j X V A q Q:Nat}(hV:0<V)(hA:A=X+V*4294967296 ^ (j+1)*Q)(hq:q=X / 4294967296 ^ j / V) :
  A=(X % 4294967296 ^ j+4294967296 ^ j*(X / 4294967296 ^ j % V))+V*4294967296 ^ j*(q+4294967296*Q)/\X % 4294967296 ^ j+4294967296 ^ j*(X / 4294967296 ^ j % V)<V*4294967296 ^ j:=by
 have hp:=pow_pos j;rw [Nat.pow_succ]at hA;generalize 4294967296 ^ j=p at *
 have e1:=Nat.div_add_mod X p;have e2:=Nat.div_add_mod (X / p) V;have m1:=Nat.mod_lt X hp;have m2:=Nat.mod_lt (X / p) hV;rw [<-hq]at e2;generalize X % p=r at *
 generalize hS:X / p % V=S at *
 generalize X / p=Z at *
 generalize 4294967296=B at hA ⊢;subst hA e2 e1;constructor
 .grind
 .have:p*(S+1)<=p*V:=Nat.mul_le_mul_left _ m2;rw [Nat.mul_add,Nat.mul_one]at this;rw [Nat.mul_comm V];omega
theorem UT(k X:Nat):dig k (X+4294967296 ^ k)=dig k X:=by
 rw [<-UV,Nat.add_mod_right,UV]
theorem jbk{k P V g:Nat}(hg:g=P / V):dig k (P+4294967296 ^ k-g*V)=dig k (P % V):=by
 have e:g*V+P % V=P:=by rw [hg,Nat.mul_comm];exact Nat.div_add_mod P V
 clear hg;generalize P % V=r at *
 generalize hp:4294967296 ^ k=p;rw [show P+p-g*V=r+p by omega,<-hp,UT]
theorem Ybk{k P V g:Nat}(hg:g=P / V+1)(hb:P<g*V)(hk:g*V<4294967296 ^ k):dig k (val (dig k (P+4294967296 ^ k-g*V))+V)=dig k (P % V):=by
 have e:P / V*V+P % V=P:=by rw [Nat.mul_comm];exact Nat.div_add_mod P V
 have:g*V=P / V*V+V:=by rw [hg,Nat.add_mul,Nat.one_mul]
 rw [Uk,Nat.mod_eq_of_lt (by omega)]
 clear hg;generalize P / V*V=q at *
 generalize P % V=r at *
 generalize g*V=gv at *
 generalize hp:4294967296 ^ k=p at *
 rw [show P+p-gv+V=r+p by omega,<-hp,UT]
theorem VaN{a b:Nat}(ha:a<4294967296)(hb:b<4294967296):a*b<18446744073709551616:=by
 have h:=Yaw ha hb (c:=0) (d:=0) (by decide) (by decide)
 rwa [Nat.zero_add,Nat.add_zero]at h
theorem yP{q:Nat}(h:q<4294967296):sub64 (q+1) 1=q:=by rw [jC (by omega) (by omega)];omega
theorem jbv{r:Nat}(h:r<4294967296):r*4294967296 % 18446744073709551616=r*4294967296:=by omega
end Go.Num
end
section
namespace Go.Abs
open Go.Num
variable {P:Program} {Γ:Nat->Spec}
def Xi(f0 f1 f2 f3 f4 f5 f6 f7:Nat):AC:=(.seq (.ops false [.m 4 (.c (.one .emp)),.m 5 (.c (.one .emp))])
 (.fg [0,1] (.seq (.seq (.ops false [.m 19 (.t 0),.m 20 (.t 1),.u 21 (.call f0 [(.t 19),(.t 20)]),.u 22 (.bin .lss (.t 21) (.i 0))])
 (.fg [0,1,22] (.cond (.t 22) (.seq (.ops false [.m 23 (.t 0),.u 24 (.call f1 [(.t 23)]),.m 4 (.c (.one .emp)),.m 5 (.t 24)])
 .ret) .skip)))
 (.fg [0,1] (.seq (.seq (.ops false [.m 25 (.t 1),.u 26 (.len (.t 25)),.u 27 (.bin .eql (.t 26) (.i 1))])
 (.fg [0,1,27] (.cond (.t 27) (.seq (.ops false [.m 29 (.t 0),.m 30 (.t 1),.u 31 (.idx 1 (.t 30) (.i 0)),.u 32 (.ld none 1 false (.t 31)),.u 33 (.call f2 [(.t 29),(.t 32)]),.m 28 (.t 33),.u 34 (.ext 0 (.t 28)),.u 35 (.ext 1 (.t 28)),.m 6 (.t 34),.m 7 (.t 35)])
 (.fg [6,7] (.seq (.ops false [.m 36 (.t 6),.m 37 (.t 7),.u 38 (.row 1 [[.x 1 (.t 37)]]),.u 39 (.call f1 [(.t 38)]),.m 4 (.t 36),.m 5 (.t 39)])
 .ret))) .skip)))
 (.fg [0,1] (.seq (.ops false [.m 40 (.t 1),.m 41 (.t 1),.u 42 (.len (.t 41)),.u 43 (.bin .sub (.t 42) (.i 1)),.u 44 (.idx 1 (.t 40) (.t 43)),.u 45 (.ld none 1 false (.t 44)),.u 46 (.call f3 [(.t 45)]),.m 8 (.t 46)])
 (.fg [0,1,8] (.seq (.ops true [.m 47 (.t 1),.m 48 (.t 8),.u 49 (.callf f4 [(.t 47),(.t 48)]),.m 50 (.t 1),.u 51 (.len (.t 50)),.u 52 (.sl 1 (.t 49) none (some (.t 51))),.m 53 (.t 0),.m 54 (.t 8),.u 55 (.callf f4 [(.t 53),(.t 54)]),.m 9 (.t 52),.m 10 (.t 55)])
 (.fg [8,9,10] (.fz [9] (.seq (.ops false [.m 56 (.t 10),.u 57 (.len (.t 56)),.m 58 (.t 9),.u 59 (.len (.t 58)),.u 60 (.bin .sub (.t 57) (.t 59)),.u 61 (.mk 1 [(.lit (.int .u32 0))] (.t 60) (.t 60)),.m 11 (.t 61)])
 (.fg [8,9,10,11] (.seq (.ops true [.m 62 (.t 9),.m 63 (.t 9),.u 64 (.len (.t 63)),.u 65 (.bin .sub (.t 64) (.i 1)),.u 66 (.idx 1 (.t 62) (.t 65)),.u 67 (.ld none 1 false (.t 66)),.u 68 (.conv .u64 (.t 67)),.m 69 (.t 9),.m 70 (.t 9),.u 71 (.len (.t 70)),.u 72 (.bin .sub (.t 71) (.i 2)),.u 73 (.idx 1 (.t 69) (.t 72)),.u 74 (.ld none 1 false (.t 73)),.u 75 (.conv .u64 (.t 74)),.m 12 (.t 68),.m 13 (.t 75)])
 (.fg [8,9,10,11,12,13] (.seq (.seq (.ops false [.m 76 (.t 11),.u 77 (.len (.t 76)),.u 78 (.bin .sub (.t 77) (.i 1)),.m 14 (.t 78)])
 (.fg [8,9,10,11,12,13,14] (.block 0 (.loop (.seq (.seq (.ops false [.m 79 (.t 14),.u 80 (.bin .geq (.t 79) (.i 0))])
 (.fg [8,9,10,11,12,13,14,80] (.cond (.t 80) .skip (.exit 0))))
 (.fg [8,9,10,11,12,13,14] (.seq (.block 1 (.seq (.ops false [.m 83 (.t 10),.m 84 (.t 14),.m 85 (.t 14),.m 86 (.t 9),.u 87 (.len (.t 86)),.u 88 (.bin .add (.t 85) (.t 87)),.u 89 (.bin .add (.t 88) (.i 1)),.u 90 (.sl 1 (.t 83) (some (.t 84)) (some (.t 89))),.m 15 (.t 90)])
 (.fg [8,9,10,11,12,13,14,15] (.seq (.ops true [.m 91 (.t 15),.m 92 (.t 9),.u 93 (.len (.t 92)),.u 94 (.idx 1 (.t 91) (.t 93)),.u 95 (.ld none 1 false (.t 94)),.u 96 (.conv .u64 (.t 95)),.u 97 (.bin .shl (.t 96) (.c (.one (.lit (.int .u64 32))))),.m 98 (.t 15),.m 99 (.t 9),.u 100 (.len (.t 99)),.u 101 (.bin .sub (.t 100) (.i 1)),.u 102 (.idx 1 (.t 98) (.t 101)),.u 103 (.ld none 1 false (.t 102)),.u 104 (.conv .u64 (.t 103)),.u 105 (.bin .or (.t 97) (.t 104)),.m 16 (.t 105)])
 (.fg [8,9,10,11,12,13,14,15,16] (.seq (.ops true [.m 106 (.t 16),.m 107 (.t 12),.u 108 (.bin .quo (.t 106) (.t 107)),.m 109 (.t 16),.m 110 (.t 12),.u 111 (.bin .rem (.t 109) (.t 110)),.m 17 (.t 108),.m 18 (.t 111)])
 (.fg [8,9,10,11,12,13,14,15,17,18] (.seq (.block 2 (.loop (.seq (.seq (.ops false [.m 112 (.t 18),.u 113 (.bin .lss (.t 112) (.c (.one (.lit (.int .u64 4294967296))))),.m 114 (.t 113),.w 115 114 true (.mv (.t 17)),.w 116 114 true (.bin .geq (.t 115) (.c (.one (.lit (.int .u64 4294967296))))),.w 117 114 true (.mv (.t 116)),.w 118 117 false (.mv (.t 17)),.w 119 117 false (.mv (.t 13)),.w 120 117 false (.bin .mul (.t 118) (.t 119)),.w 121 117 false (.mv (.t 18)),.w 122 117 false (.bin .shl (.t 121) (.c (.one (.lit (.int .u64 32))))),.w 123 117 false (.mv (.t 15)),.w 124 117 false (.mv (.t 9)),.w 125 117 false (.len (.t 124)),.w 126 117 false (.bin .sub (.t 125) (.i 2)),.w 127 117 false (.idx 1 (.t 123) (.t 126)),.w 128 117 false (.ld none 1 false (.t 127)),.w 129 117 false (.conv .u64 (.t 128)),.w 130 117 false (.bin .or (.t 122) (.t 129)),.w 131 117 false (.bin .gtr (.t 120) (.t 130)),.w 132 114 true (.pick (.t 117) .tr (.t 131)),.u 133 (.pick (.t 114) (.t 132) .fa)])
 (.fg [8,9,10,11,12,13,14,15,17,18,133] (.cond (.t 133) .skip (.exit 2))))
 (.fg [8,9,10,11,12,13,14,15,17,18] (.block 3 (.seq (.ops false [.m 134 (.t 17),.u 135 (.bin .sub (.t 134) (.c (.one (.lit (.int .u64 1))))),.m 17 (.t 135)])
 (.fg [8,9,10,11,12,13,14,15,17,18] (.ops false [.m 136 (.t 18),.m 137 (.t 12),.u 138 (.bin .add (.t 136) (.t 137)),.m 18 (.t 138)]))))))))
 (.fg [8,9,10,11,12,13,14,15,17] (.seq (.seq (.ops false [.m 139 (.t 15),.m 140 (.t 9),.m 141 (.t 17),.u 142 (.call f5 [(.t 139),(.t 140),(.t 141)])])
 (.fg [8,9,10,11,12,13,14,15,17,142] (.cond (.t 142) (.seq (.ops false [.m 143 (.t 17),.u 144 (.bin .sub (.t 143) (.c (.one (.lit (.int .u64 1))))),.m 17 (.t 144)])
 (.fg [8,9,10,11,12,13,14,15,17] (.ops false [.m 145 (.t 15),.m 146 (.t 9),.u 147 (.call f6 [(.t 145),(.t 146)])]))) .skip)))
 (.fg [8,9,10,11,12,13,14,17] (.ops false [.m 148 (.t 11),.m 149 (.t 14),.m 150 (.t 17),.u 151 (.conv .u32 (.t 150)),.u 152 (.idx 1 (.t 148) (.t 149)),.n (.st none 1 (.t 152) (.t 151))]))))))))))))
 (.fg [8,9,10,11,12,13,14] (.ops false [.m 81 (.t 14),.u 82 (.bin .sub (.t 81) (.i 1)),.m 14 (.t 82)])))))))))
 (.fg [8,10,11] (.seq (.ops false [.m 153 (.t 11),.u 154 (.call f1 [(.t 153)]),.m 155 (.t 10),.m 156 (.t 8),.u 157 (.call f7 [(.t 155),(.t 156)]),.m 4 (.t 154),.m 5 (.t 157)])
 .ret))))))))))))))))))
set_option maxHeartbeats 4000000 in
theorem J2(hΓ:Holds P Γ){f fcmp ftrim fshort flz fup frem fback fdown:Nat}(h1:Γ fcmp=.dat false Ji)(h2:Γ ftrim=.dat false xt)(h3:Γ fshort=.dat false Yv)(h4:Γ flz=.dat true lz_G)
  (h5:Γ fup=.fresh 1 up_G) (h6:Γ frem=.own Up) (h7:Γ fback=.own QF) (h8:Γ fdown=.dat false vE)
  (hc:check P f=some (158,(Xi fcmp ftrim fshort flz fup frem fback fdown).strip,[.tmp 4,.tmp 5])):Sound P f (.dat false vh):=by
 refine Wa hc YJ hΓ (λargs K hcl hfi hG=>?_);match args,hG with
 | [a,b],hG=>
  obtain⟨x,rfl,hx,y,rfl,hy,hzx,hzy,hy0,hxl,hyl,hK⟩:=hG;refine⟨by simp,?_⟩
  have hn:0<y.length:=by cases y with | nil=>exact(hy0 rfl).elim | cons=>simp
  have ht0:y.getD (y.length-1) 0≠0:=by
   intro e;refine hzy ?_;rw [List.getLast?_eq_getElem?];rw [List.getD_eq_getElem?_getD,List.getElem?_eq_getElem (by omega)]at e
   rw [List.getElem?_eq_getElem (by omega)]
   simpa using e
  have htB:=Ub hy (y.length-1);obtain⟨s,hs32,hs,hs1,hs2⟩:=jbw (Nat.pos_of_ne_zero ht0) htB;have hlast:((y.length:Int)-1).toNat=y.length-1:=by omega
  have hle:(y.length<=y.length+1)=True:=eq_true (by omega)
  obtain⟨hV1,hV2⟩:=shifted hy hn hs1 hs2;by_cases hlt:val x<val y
  .simp only [go_sem,Xi,h1,h2,h3,h4,h5,h8,zZ hlt];refine⟨hx,hy,hzx,hzy,λ_=>⟨hx,by omega,?_⟩,λh=>absurd (show(-1:Int)<0 by omega) h⟩
   rw [Nat.div_eq_of_lt hlt,Nat.mod_eq_of_lt hlt,yb]at hK;exact hK
  have hlen:y.length<=x.length:=by
   rcases Nat.lt_or_ge x.length y.length with h | h
   .exact absurd (YN hx hzy h) hlt
   .exact h
  obtain⟨M,hM⟩:∃M,M=x.length+1-y.length:=⟨_,rfl⟩;have hM2:((x.length+1:Nat):Int)-(y.length:Int)=(M:Int):=by omega
  simp only [go_sem,Xi,h1,h2,h3,h4,h5,h8,hlast,hs,Zb,Vbg,hle,xba hlt,hM2];refine⟨hx,hy,hzx,hzy,λ_=>⟨λhone=>?_,λhone=>?_⟩⟩
  .have hone:y.length=1:=by omega
   match y,hone with
   | [t],_=>
    simp only [List.length_singleton,Nat.sub_self,List.getD_cons_zero]at ht0 htB ⊢;refine⟨by omega,by omega,hx,by omega,by omega,by omega,xc.2 ⟨Nat.lt_trans (Nat.mod_lt _ (by omega)) htB,zd⟩,?_⟩
    simpa [val] using hK
  have hone:2<=y.length:=by omega
  generalize hV:val y*2 ^ s=V at hV1 hV2;generalize hA:val x*2 ^ s=A;generalize hnn:y.length=n at *
  generalize hLL:x.length+1=L at *
  have hV0:0<V:=by have:=pow_pos n;omega
  have htop:(dig n V).getD (n-1) 0=V / 4294967296 ^ (n-1) % 4294967296:=ZW _ _ _ (by omega)
  have hnext:(dig n V).getD ((n:Int)-2).toNat 0=V / 4294967296 ^ (n-2) % 4294967296:=by
   rw [show((n:Int)-2).toNat=n-2 by omega];exact ZW _ _ _ (by omega)
  have hvv:val (dig n V)=V:=by rw [Uk,Nat.mod_eq_of_lt hV1]
  repeat first | refine Ja (by omega) ?_ | refine Ja (by assumption) ?_ | refine Ja rfl ?_ | refine Ja ⟨rfl,by omega⟩ ?_ | refine Ja ⟨rfl,by omega,by omega⟩ ?_ | intro _
  obtain⟨top,htd⟩:∃t,t=V / 4294967296 ^ (n-1) % 4294967296:=⟨_,rfl⟩;obtain⟨next,hnd⟩:∃t,t=V / 4294967296 ^ (n-2) % 4294967296:=⟨_,rfl⟩
  have htB:top<4294967296:=by rw [htd];exact Nat.mod_lt _ (by omega)
  have hnB:next<4294967296:=by rw [hnd];exact Nat.mod_lt _ (by omega)
  rw [htop,hnext,<-htd,<-hnd,Nat.mod_eq_of_lt (show top<18446744073709551616 by omega),Nat.mod_eq_of_lt (show next<18446744073709551616 by omega)]
  have hstart:=Vbd hx hs32 (y:=y) (by rw [hnn,hV];exact hV2) (by omega)
  rw [hV,hA,hLL,hnn,<-hM]at hstart;refine Xa (λp:Nat×Nat×List Nat=>⟨mkV [(8,.one (.lit (.int .i64 s))),(9,wsA (dig n V)),(10,.one (.own 55 1 1 0 L)),(11,.one (.own 61 1 1 0 M)),(12,.one (.lit (.int .u64 top))),(13,.one (.lit (.int .u64 next))),(14,.one (.lit (.int .i64 ((p.1:Int)-1))))],
    mkH [(55,⟨1,some ⟨(dig L p.2.1).map wc,1,true⟩⟩),(61,⟨1,some ⟨(List.replicate p.1 0++p.2.2).map wc,1,true⟩⟩)]⟩)
   (λp=>p.1<=M/\p.2.1<V*4294967296 ^ p.1/\A=p.2.1+V*4294967296 ^ p.1*val p.2.2/\WL p.2.2/\p.2.2.length=M-p.1) (λp=>p.1) (M,A,[]) ?_ ?_ ?_
  .exact Qa (by simp [okS,okV,okC,okL,okH,okB,okE,ja,Va,qa,ka,wsA,ws]) ⟨kb rfl,kb (by simp),trivial⟩
  .exact⟨Nat.le_refl _,hstart,by simp [val],zd,by simp⟩
  .rintro⟨j1,X,qd⟩ ⟨hj,hX,hAX,hqd,hqdl⟩;simp only at hj hX hAX hqd hqdl;have hql:(List.replicate j1 0++qd).length=M:=by simp;omega
   rcases Nat.eq_zero_or_pos j1 with hj0 | hj0
   .subst hj0;simp only [Nat.pow_zero,Nat.mul_one]at hX hAX;have h0f:((0:Int)<=((0:Nat):Int)-1)=False:=eq_false (by omega)
    simp only [go_sem,h1,h2,h3,h4,h5,h8,Zb,hql,h0f];refine⟨hqd,by omega,Wl _ _,by omega,by omega,?_⟩
    have hXL:X<4294967296 ^ L:=Nat.lt_trans hX (Nat.lt_of_lt_of_le hV1 (Nat.pow_le_pow_right (by omega) (by omega)))
    rw [Uk,Nat.mod_eq_of_lt hXL];have hs0:0<2 ^ s:=Nat.pow_pos (by omega)
    have hA2:=(Nat.div_mod_unique hV0 (a:=A) (c:=X) (d:=val qd)).2 ⟨hAX.symm,hX⟩;have e1:val x / val y=val qd:=by rw [<-hA2.1,<-hA,<-hV,Nat.mul_div_mul_right _ _ hs0]
    have e2:val x % val y=X / 2 ^ s:=by
     rw [<-hA2.2,<-hA,<-hV,Nat.mul_mod_mul_right,Nat.mul_div_cancel _ hs0]
    rw [e1,e2]at hK;exact hK
   .obtain⟨j,rfl⟩:∃j,j1=j+1:=⟨j1-1,by omega⟩
    have hj1:(((j+1:Nat):Int)-1)=(j:Int):=by omega
    simp only [hj1];generalize hPP:X / 4294967296 ^ j=P';have hPV:P' < V*4294967296:=by
     rw [<-hPP,Nat.div_lt_iff_lt_mul (pow_pos _),Nat.mul_assoc,Nat.mul_comm 4294967296,<-Nat.pow_succ];exact hX
    have hPL:P' < 4294967296 ^ (n+1):=by
     have:=(Nat.mul_lt_mul_right (show 0<4294967296 by omega)).2 hV1
     rw [Nat.pow_succ];exact Nat.lt_trans hPV this
    have st:=vby hone hV1 hV2 hPV;rw [<-htd,<-hnd]at st;have hread:∀k,k<=n->(dig L X).getD (j+k) 0=P' / 4294967296 ^ k % 4294967296:=by
     intro k hk;rw [ZW _ _ _ (by omega),Nat.pow_add,<-Nat.div_div_eq_div_mul,hPP]
    have hr0:=hread n (Nat.le_refl _);have hr1:=hread (n-1) (by omega)
    have hr2:=hread (n-2) (by omega)
    obtain⟨a,ha⟩:∃a,a=P' / 4294967296 ^ n % 4294967296:=⟨_,rfl⟩;obtain⟨b,hb⟩:∃b,b=P' / 4294967296 ^ (n-1) % 4294967296:=⟨_,rfl⟩;obtain⟨u2,hu⟩:∃u2,u2=P' / 4294967296 ^ (n-2) % 4294967296:=⟨_,rfl⟩;rw [<-ha]at hr0 st;rw [<-hb]at hr1 st;rw [<-hu]at hr2 st;have haB:a<4294967296:=by rw [ha];exact Nat.mod_lt _ (by omega)
    have hbB:b<4294967296:=by rw [hb];exact Nat.mod_lt _ (by omega)
    have huB:u2<4294967296:=by rw [hu];exact Nat.mod_lt _ (by omega)
    have htop0:0<top:=by have:=st.half;omega
    have hsub:j+n+1-j=n+1:=by omega
    have hsub1:((n:Int)-1).toNat=n-1:=by omega
    have hsub2:((n:Int)-2).toNat=n-2:=by omega
    have ea1:a % 18446744073709551616=a:=by omega
    have ea2:a*4294967296 % 18446744073709551616=a*4294967296:=by omega
    have eb1:b % 18446744073709551616=b:=by omega
    have eu1:u2 % 18446744073709551616=u2:=by omega
    have eor:=or32 a b hbB;simp only [go_sem,h1,h2,h3,h4,h5,h8,Zb,hql,hsub,hsub1,hsub2,hr0,hr1,hr2,ea1,ea2,eb1,eor];repeat first | refine Ja (by omega) ?_ | refine Ja (by assumption) ?_ | refine Ja rfl ?_ | refine Ja ⟨rfl,by omega⟩ ?_ | refine Ja ⟨rfl,by omega,by omega⟩ ?_ | intro _
    obtain⟨q1,q2⟩:=st.first
    generalize hhead:a*4294967296+b=head at *
    have hqB:=st.quot;rw [Nat.mod_eq_of_lt (show head / top<18446744073709551616 by omega)]
    refine Xa (λp:Nat×Nat=>⟨mkV [(8,.one (.lit (.int .i64 s))),(9,wsA (dig n V)),(10,.one (.own 55 1 1 0 L)),(11,.one (.own 61 1 1 0 M)),(12,.one (.lit (.int .u64 top))),(13,.one (.lit (.int .u64 next))),(14,.one (.lit (.int .i64 j))),(15,.one (.own 55 1 1 j (n+1))),(17,.one (.lit (.int .u64 p.1))),(18,.one (.lit (.int .u64 p.2)))],
      mkH [(55,⟨1,some ⟨(dig L X).map wc,1,true⟩⟩),(61,⟨1,some ⟨(List.replicate (j+1) 0++qd).map wc,1,true⟩⟩)]⟩)
     (λp=>p.1*top+p.2=head/\P' / V<=p.1/\p.1<=4294967297/\p.2<8589934592/\(4294967296<p.1->p.2<4294967296)) (λp=>p.1) (head / top,head % top) ?_ ?_ ?_
    .exact Qa (by simp [okS,okV,okC,okL,okH,okB,okE,ja,Va,qa,ka,wsA,ws]) ⟨kb rfl,kb rfl,trivial⟩
    .have m1:=Nat.mod_lt head htop0;exact⟨Nat.div_add_mod' head top,q2,q1,by simp only;omega,λ_=>by simp only;omega⟩
    .rintro⟨g,r⟩ ⟨hg,hqg,hgB,hrB,hgr⟩;simp only at hg hqg hgB hrB hgr;rcases Nat.lt_or_ge r 4294967296 with hr | hr
     .have hr' : ((r:Int)<4294967296)=True:=eq_true (by omega)
      rcases Nat.lt_or_ge g 4294967296 with hgl | hgl
      .have hg' : ((4294967296:Int)<=(g:Int))=False:=eq_false (by omega)
       have hm:g*next<18446744073709551616:=VaN hgl hnB
       have em:g*next % 18446744073709551616=g*next:=by rw [Nat.mod_eq_of_lt hm]
       have er:=jbv hr;have eo:=or32 r u2 huB;by_cases hcmp:r*4294967296+u2<g*next
       .simp only [go_sem,h1,h2,h3,h4,h5,h6,h7,h8,Zb,hql,hsub,hsub1,hsub2,hr0,hr1,hr2,eu1,hr',hg',em,er,eo,hcmp];repeat first | refine Ja (by omega) ?_ | refine Ja (by assumption) ?_ | refine Ja rfl ?_ | refine Ja ⟨rfl,by omega⟩ ?_ | refine Ja ⟨rfl,by omega,by omega⟩ ?_ | intro _
        have hdown:4294967296<=g∨r*4294967296+u2<g*next:=.inr hcmp
        have hdn:=st.down hg hdown;have hg0:1<=g:=Nat.lt_of_le_of_lt (Nat.zero_le _) hdn;have hqg1:P' / V<=g-1:=Nat.le_sub_one_of_lt hdn;have hg1:sub64 g 1=g-1:=jC hg0 (by omega)
        refine⟨(g-1,r+top),Qa (by simp [okS,okV,okC,okL,okH,okB,okE,ja,Va,qa,ka,wsA,ws,hg1];omega) ⟨kb rfl,kb rfl,trivial⟩,⟨?_,hqg1,by simp only;omega,by simp only;omega,λ_=>by simp only at *;omega⟩,by simp only;omega⟩
        simp only;obtain⟨g',rfl⟩:∃g',g=g' + 1:=⟨g-1,by omega⟩
        rw [Nat.add_sub_cancel,<-hg,Nat.add_mul];omega
       .simp only [go_sem,h1,h2,h3,h4,h5,h6,h7,h8,Zb,hql,hsub,hsub1,hsub2,hr0,hr1,hr2,eu1,hr',hg',em,er,eo,hcmp];repeat first | refine Ja (by omega) ?_ | refine Ja (by assumption) ?_ | refine Ja rfl ?_ | refine Ja ⟨rfl,by omega⟩ ?_ | refine Ja ⟨rfl,by omega,by omega⟩ ?_ | intro _
        have hstop:4294967296<=r∨(g<4294967296/\g*next<=r*4294967296+u2):=.inr ⟨hgl,by omega⟩
        have hgB2:g<=4294967296:=by omega
        have hle:=st.stop hg hgB2 hstop;obtain⟨l1,l2⟩:=st.left hqg hle;have hgV:g*V<4294967296 ^ (n+1):=by
         have a1:=Nat.mul_le_mul_right V hgB2;have a2:=(Nat.mul_lt_mul_left (show 0<4294967296 by omega)).2 hV1
         rw [Nat.pow_succ,Nat.mul_comm (4294967296 ^ n)];exact Nat.lt_of_le_of_lt a1 a2
        have hsplit:=WJ (L:=L) (j:=j) (n:=n) (X:=X) (by omega) (by rw [hPP];exact hPL)
        rw [hPP]at hsplit;have hvp:val (dig (n+1) P')=P':=by rw [Uk,Nat.mod_eq_of_lt hPL]
        have hrl:P' % V<4294967296 ^ (n+1):=Nat.lt_of_le_of_lt (Nat.mod_le _ _) hPL;have hjoin:=jay (L:=L) (j:=j) (n:=n) (X:=X) (by omega) hrl
        have hdiv:=uau (j:=j) (q:=P' / V) hV0 hAX (by rw [hPP])
        rw [hPP]at hdiv;simp only [Up,XH];refine⟨Wl _ _,dig j X,dig (n+1) P',List.replicate (L-(j+(n+1))) 0,g,(Zb _ _).symm,(Zb _ _).symm,rfl,by simp only [qa,↓reduceIte,Nat.reduceEqDiff];rw [hsplit],Wl _ _,hgB2,by rw [Zb,Zb];omega,by rw [hvv,Zb];exact hgV,by rw [Zb];omega,?_⟩
        rw [hvp,hvv,Zb];by_cases hb:P' < g*V
        .have hgq:=l1 hb;simp only [go_sem,h1,h2,h3,h4,h5,h7,h8,hb,hql];simp only [QF,XH];refine⟨Wl _ _,dig j X,dig (n+1) (P' + 4294967296 ^ (n+1)-g*V),List.replicate (L-(j+(n+1))) 0,(Zb _ _).symm,(Zb _ _).symm,by simp only [qa,↓reduceIte,Nat.reduceEqDiff],Wl _ _,by rw [Zb,Zb];omega,by rw [Zb];omega,?_⟩
         rw [Zb,hvv,Ybk hgq hb hgV,hjoin];have hg1:sub64 g 1=P' / V:=by rw [hgq];exact yP hqB
         simp only [go_sem,h1,h2,h3,h4,h5,h7,h8,hql,hg1];rw [Nat.mod_eq_of_lt hqB];have hset:=ut (n:=j+1) qd (P' / V) (by omega)
         rw [Nat.add_sub_cancel]at hset;rw [hset];repeat first | refine Ja (by omega) ?_ | refine Ja (by assumption) ?_ | refine Ja rfl ?_ | refine Ja ⟨rfl,by omega⟩ ?_ | refine Ja ⟨rfl,by omega,by omega⟩ ?_ | intro _
         exact⟨(j,X % 4294967296 ^ j+4294967296 ^ j*(P' % V),P' / V::qd),Qa (by simp [okS,okV,okC,okL,okH,okB,okE,ja,Va,qa,ka,wsA,ws]) ⟨kb rfl,kb rfl,trivial⟩,⟨by simp only;omega,hdiv.2,hdiv.1,xc.2 ⟨hqB,hqd⟩,by simp only [List.length_cons];omega⟩,by simp only;omega⟩
        .have hgq:=l2 hb;rw [jbk hgq,hjoin];simp only [go_sem,h1,h2,h3,h4,h5,h7,h8,hb,hql];rw [hgq,Nat.mod_eq_of_lt hqB];have hset:=ut (n:=j+1) qd (P' / V) (by omega)
         rw [Nat.add_sub_cancel]at hset;rw [hset];repeat first | refine Ja (by omega) ?_ | refine Ja (by assumption) ?_ | refine Ja rfl ?_ | refine Ja ⟨rfl,by omega⟩ ?_ | refine Ja ⟨rfl,by omega,by omega⟩ ?_ | intro _
         exact⟨(j,X % 4294967296 ^ j+4294967296 ^ j*(P' % V),P' / V::qd),Qa (by simp [okS,okV,okC,okL,okH,okB,okE,ja,Va,qa,ka,wsA,ws]) ⟨kb rfl,kb rfl,trivial⟩,⟨by simp only;omega,hdiv.2,hdiv.1,xc.2 ⟨hqB,hqd⟩,by simp only [List.length_cons];omega⟩,by simp only;omega⟩
      .have hg' : ((4294967296:Int)<=(g:Int))=True:=eq_true (by omega)
       simp only [go_sem,h1,h2,h3,h4,h5,h6,h7,h8,Zb,hql,hsub,hsub1,hsub2,hr0,hr1,hr2,eu1,hr',hg'];repeat first | refine Ja (by omega) ?_ | refine Ja (by assumption) ?_ | refine Ja rfl ?_ | refine Ja ⟨rfl,by omega⟩ ?_ | refine Ja ⟨rfl,by omega,by omega⟩ ?_ | intro _
       have hdown:4294967296<=g∨r*4294967296+u2<g*next:=.inl hgl
       have hdn:=st.down hg hdown;have hg0:1<=g:=Nat.lt_of_le_of_lt (Nat.zero_le _) hdn;have hqg1:P' / V<=g-1:=Nat.le_sub_one_of_lt hdn;have hg1:sub64 g 1=g-1:=jC hg0 (by omega)
       refine⟨(g-1,r+top),Qa (by simp [okS,okV,okC,okL,okH,okB,okE,ja,Va,qa,ka,wsA,ws,hg1];omega) ⟨kb rfl,kb rfl,trivial⟩,⟨?_,hqg1,by simp only;omega,by simp only;omega,λ_=>by simp only at *;omega⟩,by simp only;omega⟩
       simp only;obtain⟨g',rfl⟩:∃g',g=g' + 1:=⟨g-1,by omega⟩
       rw [Nat.add_sub_cancel,<-hg,Nat.add_mul];omega
     .have hr' : ((r:Int)<4294967296)=False:=eq_false (by omega)
      simp only [go_sem,h1,h2,h3,h4,h5,h6,h7,h8,Zb,hql,hsub,hsub1,hsub2,hr0,hr1,hr2,eu1,hr'];repeat first | refine Ja (by omega) ?_ | refine Ja (by assumption) ?_ | refine Ja rfl ?_ | refine Ja ⟨rfl,by omega⟩ ?_ | refine Ja ⟨rfl,by omega,by omega⟩ ?_ | intro _
      have hstop:4294967296<=r∨(g<4294967296/\g*next<=r*4294967296+u2):=.inl hr
      have hgB2:g<=4294967296:=by omega
      have hle:=st.stop hg hgB2 hstop;obtain⟨l1,l2⟩:=st.left hqg hle;have hgV:g*V<4294967296 ^ (n+1):=by
       have a1:=Nat.mul_le_mul_right V hgB2;have a2:=(Nat.mul_lt_mul_left (show 0<4294967296 by omega)).2 hV1
       rw [Nat.pow_succ,Nat.mul_comm (4294967296 ^ n)];exact Nat.lt_of_le_of_lt a1 a2
      have hsplit:=WJ (L:=L) (j:=j) (n:=n) (X:=X) (by omega) (by rw [hPP];exact hPL)
      rw [hPP]at hsplit;have hvp:val (dig (n+1) P')=P':=by rw [Uk,Nat.mod_eq_of_lt hPL]
      have hrl:P' % V<4294967296 ^ (n+1):=Nat.lt_of_le_of_lt (Nat.mod_le _ _) hPL;have hjoin:=jay (L:=L) (j:=j) (n:=n) (X:=X) (by omega) hrl
      have hdiv:=uau (j:=j) (q:=P' / V) hV0 hAX (by rw [hPP])
      rw [hPP]at hdiv;simp only [Up,XH];refine⟨Wl _ _,dig j X,dig (n+1) P',List.replicate (L-(j+(n+1))) 0,g,(Zb _ _).symm,(Zb _ _).symm,rfl,by simp only [qa,↓reduceIte,Nat.reduceEqDiff];rw [hsplit],Wl _ _,hgB2,by rw [Zb,Zb];omega,by rw [hvv,Zb];exact hgV,by rw [Zb];omega,?_⟩
      rw [hvp,hvv,Zb];by_cases hb:P' < g*V
      .have hgq:=l1 hb;simp only [go_sem,h1,h2,h3,h4,h5,h7,h8,hb,hql];simp only [QF,XH];refine⟨Wl _ _,dig j X,dig (n+1) (P' + 4294967296 ^ (n+1)-g*V),List.replicate (L-(j+(n+1))) 0,(Zb _ _).symm,(Zb _ _).symm,by simp only [qa,↓reduceIte,Nat.reduceEqDiff],Wl _ _,by rw [Zb,Zb];omega,by rw [Zb];omega,?_⟩
       rw [Zb,hvv,Ybk hgq hb hgV,hjoin];have hg1:sub64 g 1=P' / V:=by rw [hgq];exact yP hqB
       simp only [go_sem,h1,h2,h3,h4,h5,h7,h8,hql,hg1];rw [Nat.mod_eq_of_lt hqB];have hset:=ut (n:=j+1) qd (P' / V) (by omega)
       rw [Nat.add_sub_cancel]at hset;rw [hset];repeat first | refine Ja (by omega) ?_ | refine Ja (by assumption) ?_ | refine Ja rfl ?_ | refine Ja ⟨rfl,by omega⟩ ?_ | refine Ja ⟨rfl,by omega,by omega⟩ ?_ | intro _
       exact⟨(j,X % 4294967296 ^ j+4294967296 ^ j*(P' % V),P' / V::qd),Qa (by simp [okS,okV,okC,okL,okH,okB,okE,ja,Va,qa,ka,wsA,ws]) ⟨kb rfl,kb rfl,trivial⟩,⟨by simp only;omega,hdiv.2,hdiv.1,xc.2 ⟨hqB,hqd⟩,by simp only [List.length_cons];omega⟩,by simp only;omega⟩
      .have hgq:=l2 hb;rw [jbk hgq,hjoin];simp only [go_sem,h1,h2,h3,h4,h5,h7,h8,hb,hql];rw [hgq,Nat.mod_eq_of_lt hqB];have hset:=ut (n:=j+1) qd (P' / V) (by omega)
       rw [Nat.add_sub_cancel]at hset;rw [hset];repeat first | refine Ja (by omega) ?_ | refine Ja (by assumption) ?_ | refine Ja rfl ?_ | refine Ja ⟨rfl,by omega⟩ ?_ | refine Ja ⟨rfl,by omega,by omega⟩ ?_ | intro _
       exact⟨(j,X % 4294967296 ^ j+4294967296 ^ j*(P' % V),P' / V::qd),Qa (by simp [okS,okV,okC,okL,okH,okB,okE,ja,Va,qa,ka,wsA,ws]) ⟨kb rfl,kb rfl,trivial⟩,⟨by simp only;omega,hdiv.2,hdiv.1,xc.2 ⟨hqB,hqd⟩,by simp only [List.length_cons];omega⟩,by simp only;omega⟩
end Go.Abs
end
section
namespace Go.Abs
open Go.Num
variable {P:Program} {Γ:Nat->Spec}
def kk:AC:=(.seq (.ops false [.u 1 (.box 2 (.t 0)),.m 2 .fa])
 (.fg [1] (.seq (.seq (.ops false [.u 3 (.fa 1 (.t 1)),.u 4 (.ld none 1 false (.t 3)),.u 5 (.len (.t 4)),.u 6 (.bin .eql (.t 5) (.i 0))])
 (.fg [1,6] (.cond (.t 6) (.seq (.ops false [.u 7 (.fa 0 (.t 1)),.u 8 (.ld none 1 false (.t 7)),.u 9 (.un .not (.t 8)),.m 2 (.t 9)])
 .ret) .skip)))
 (.fg [1] (.seq (.ops false [.u 10 (.fa 1 (.t 1)),.u 11 (.ld none 1 false (.t 10)),.u 12 (.fa 1 (.t 1)),.u 13 (.ld none 1 false (.t 12)),.u 14 (.len (.t 13)),.u 15 (.bin .sub (.t 14) (.i 1)),.u 16 (.idx 1 (.t 11) (.t 15)),.u 17 (.ld none 1 false (.t 16)),.u 18 (.bin .neq (.t 17) (.c (.one (.lit (.int .u32 0))))),.m 2 (.t 18)])
 .ret)))))
def Yn(f0:Nat):AC:=(.seq (.ops false [.u 1 (.box 2 (.t 0)),.m 2 (.c (.one .emp))])
 (.fg [1] (.seq (.seq (.ops false [.u 3 (.ld none 2 true (.t 1)),.u 4 (.call f0 [(.t 3)]),.u 5 (.un .not (.t 4))])
 (.fg [1,5] (.cond (.t 5) (.seq (.ops false [.m 2 (.c (.one .emp))])
 .ret) .skip)))
 (.fg [1] (.seq (.ops false [.u 6 (.fa 1 (.t 1)),.u 7 (.ld none 1 false (.t 6)),.m 2 (.t 7)])
 .ret)))))
def yn(f0:Nat):AC:=(.seq (.ops false [.u 1 (.box 2 (.t 0)),.m 2 .fa])
 (.fg [1] (.seq (.ops false [.u 3 (.ld none 2 true (.t 1)),.u 4 (.call f0 [(.t 3)]),.m 5 (.t 4),.w 6 5 true (.fa 0 (.t 1)),.w 7 5 true (.ld none 1 false (.t 6)),.u 8 (.pick (.t 5) (.t 7) .fa),.m 2 (.t 8)])
 .ret)))
def jp(f0:Nat):AC:=(.seq (.ops false [.u 4 (.alloc [(.lit (.bool false)),.emp])])
 (.fg [0,1,4] (.seq (.ops false [.m 5 (.t 1),.u 6 (.call f0 [(.t 5)]),.m 1 (.t 6)])
 (.fg [0,1,4] (.seq (.ops false [.m 7 (.t 0),.m 8 (.t 7),.w 9 8 true (.mv (.t 1)),.w 10 8 true (.len (.t 9)),.w 11 8 true (.bin .gtr (.t 10) (.i 0)),.u 12 (.pick (.t 8) (.t 11) .fa),.m 13 (.t 1),.u 14 (.build [.x 1 (.t 12),.x 1 (.t 13)]),.n (.st none 2 (.t 4) (.t 14))])
 .ret)))))
def Zq(f0:Nat):AC:=(.seq (.ops false [.u 2 (.alloc [(.lit (.bool false)),.emp])])
 (.fg [0,2] (.seq (.ops false [.m 4 (.t 0),.u 5 (.conv .u64 (.t 4)),.m 3 (.t 5)])
 (.fg [0,2,3] (.seq (.seq (.ops false [.m 6 (.t 0),.u 7 (.bin .lss (.t 6) (.i 0))])
 (.fg [0,2,3,7] (.cond (.t 7) (.ops false [.m 8 (.t 3),.u 9 (.un .neg (.t 8)),.m 3 (.t 9)]) .skip)))
 (.fg [0,2,3] (.seq (.ops false [.m 10 (.t 0),.u 11 (.bin .lss (.t 10) (.i 0)),.m 12 (.t 3),.u 13 (.conv .u32 (.t 12)),.m 14 (.t 3),.u 15 (.bin .shr (.t 14) (.c (.one (.lit (.int .u64 32))))),.u 16 (.conv .u32 (.t 15)),.u 17 (.row 1 [[.x 1 (.t 13)],[.x 1 (.t 16)]]),.u 18 (.call f0 [(.t 11),(.t 17)]),.n (.st none 2 (.t 2) (.t 18))])
 .ret)))))))
def qt(f0:Nat):AC:=(.seq (.ops false [.u 1 (.box 2 (.t 0)),.m 2 (.i 0)])
 (.fg [1] (.seq (.block 0 (.seq (.ops false [.u 4 (.ld none 2 true (.t 1)),.u 5 (.call f0 [(.t 4)]),.u 6 (.len (.t 5)),.u 7 (.bin .eql (.t 6) (.i 0)),.m 3 (.t 7)])
 (.fg [1,3] (.cond (.t 3) (.seq (.ops false [.m 2 (.i 0)])
 .ret) (.seq (.ops false [.u 9 (.fa 0 (.t 1)),.u 10 (.ld none 1 false (.t 9)),.m 8 (.t 10)])
 (.fg [8] (.cond (.t 8) (.seq (.ops false [.m 2 (.i (-1))])
 .ret) .skip)))))))
 (.fg [] (.seq (.ops false [.m 2 (.i 1)])
 .ret)))))
def qw(f0 f1 f2 f3:Nat):AC:=(.seq (.ops false [.u 2 (.box 2 (.t 0)),.u 3 (.box 2 (.t 1)),.m 4 (.i 0)])
 (.fg [2,3] (.seq (.seq (.ops true [.u 8 (.ld none 2 true (.t 2)),.u 9 (.call f0 [(.t 8)]),.u 10 (.ld none 2 true (.t 3)),.u 11 (.call f0 [(.t 10)]),.m 5 (.t 9),.m 6 (.t 11)])
 (.fg [2,3,5,6] (.seq (.ops false [.m 12 (.t 5),.m 13 (.t 6),.u 14 (.bin .neq (.t 12) (.t 13))])
 (.fg [2,3,5,6,14] (.cond (.t 14) (.seq (.seq (.ops false [.m 15 (.t 5),.m 16 (.t 6),.u 17 (.bin .lss (.t 15) (.t 16))])
 (.fg [17] (.cond (.t 17) (.seq (.ops false [.m 4 (.i (-1))])
 .ret) .skip)))
 (.fg [] (.seq (.ops false [.m 4 (.i 1)])
 .ret))) .skip)))))
 (.fg [2,3] (.seq (.ops true [.u 18 (.ld none 2 true (.t 2)),.u 19 (.call f1 [(.t 18)]),.u 20 (.ld none 2 true (.t 3)),.u 21 (.call f1 [(.t 20)]),.u 22 (.call f2 [(.t 19),(.t 21)]),.m 7 (.t 22)])
 (.fg [2,7] (.seq (.seq (.ops false [.u 23 (.ld none 2 true (.t 2)),.u 24 (.call f3 [(.t 23)])])
 (.fg [7,24] (.cond (.t 24) (.seq (.ops false [.m 25 (.t 7),.u 26 (.un .neg (.t 25)),.m 4 (.t 26)])
 .ret) .skip)))
 (.fg [7] (.seq (.ops false [.m 27 (.t 7),.m 4 (.t 27)])
 .ret)))))))))
def kn(f0 f1 f2:Nat):AC:=(.seq (.ops false [.u 1 (.box 2 (.t 0)),.u 2 (.alloc [(.lit (.bool false)),.emp])])
 (.fg [1,2] (.seq (.ops true [.u 3 (.ld none 2 true (.t 1)),.u 4 (.call f0 [(.t 3)]),.u 5 (.un .not (.t 4)),.u 6 (.ld none 2 true (.t 1)),.u 7 (.call f1 [(.t 6)]),.u 8 (.call f2 [(.t 5),(.t 7)]),.n (.st none 2 (.t 2) (.t 8))])
 .ret)))
def Zv(f0 f1 f2 f3 f4 f5:Nat):AC:=(.seq (.ops false [.u 2 (.box 2 (.t 0)),.u 3 (.box 2 (.t 1)),.u 4 (.alloc [(.lit (.bool false)),.emp])])
 (.fg [2,3,4] (.seq (.ops true [.u 7 (.ld none 2 true (.t 2)),.u 8 (.call f0 [(.t 7)]),.u 9 (.ld none 2 true (.t 3)),.u 10 (.call f0 [(.t 9)]),.m 5 (.t 8),.m 6 (.t 10)])
 (.fg [2,3,4,5,6] (.seq (.block 0 (.seq (.ops true [.u 12 (.ld none 2 true (.t 2)),.u 13 (.call f1 [(.t 12)]),.u 14 (.ld none 2 true (.t 3)),.u 15 (.call f1 [(.t 14)]),.u 16 (.binb .eql (.t 13) (.t 15)),.m 11 (.t 16)])
 (.fg [2,3,4,5,6,11] (.cond (.t 11) (.seq (.ops false [.u 17 (.ld none 2 true (.t 2)),.u 18 (.call f1 [(.t 17)]),.m 19 (.t 5),.m 20 (.t 6),.u 21 (.call f2 [(.t 19),(.t 20)]),.u 22 (.call f3 [(.t 18),(.t 21)]),.n (.st none 2 (.t 4) (.t 22))])
 .ret) (.seq (.ops false [.m 24 (.t 5),.m 25 (.t 6),.u 26 (.call f4 [(.t 24),(.t 25)]),.u 27 (.bin .geq (.t 26) (.i 0)),.m 23 (.t 27)])
 (.fg [2,3,4,5,6,23] (.cond (.t 23) (.seq (.ops false [.u 28 (.ld none 2 true (.t 2)),.u 29 (.call f1 [(.t 28)]),.m 30 (.t 5),.m 31 (.t 6),.u 32 (.call f5 [(.t 30),(.t 31)]),.u 33 (.call f3 [(.t 29),(.t 32)]),.n (.st none 2 (.t 4) (.t 33))])
 .ret) .skip)))))))
 (.fg [3,4,5,6] (.seq (.ops false [.u 34 (.ld none 2 true (.t 3)),.u 35 (.call f1 [(.t 34)]),.m 36 (.t 6),.m 37 (.t 5),.u 38 (.call f5 [(.t 36),(.t 37)]),.u 39 (.call f3 [(.t 35),(.t 38)]),.n (.st none 2 (.t 4) (.t 39))])
 .ret)))))))
def uv(f0 f1 f2 f3:Nat):AC:=(.seq (.ops false [.u 2 (.box 2 (.t 0)),.u 3 (.box 2 (.t 1)),.u 4 (.alloc [(.lit (.bool false)),.emp])])
 (.fg [2,3,4] (.seq (.ops true [.u 5 (.ld none 2 true (.t 2)),.u 6 (.call f0 [(.t 5)]),.u 7 (.ld none 2 true (.t 3)),.u 8 (.call f0 [(.t 7)]),.u 9 (.binb .neq (.t 6) (.t 8)),.u 10 (.ld none 2 true (.t 2)),.u 11 (.call f1 [(.t 10)]),.u 12 (.ld none 2 true (.t 3)),.u 13 (.call f1 [(.t 12)]),.u 14 (.call f2 [(.t 11),(.t 13)]),.u 15 (.call f3 [(.t 9),(.t 14)]),.n (.st none 2 (.t 4) (.t 15))])
 .ret)))
def Uu(f0 f1 f2:Nat):AC:=(.seq (.ops false [.u 2 (.box 2 (.t 0)),.u 3 (.box 2 (.t 1)),.u 4 (.alloc [(.lit (.bool false)),.emp])])
 (.fg [2,3,4] (.seq (.ops true [.u 9 (.ld none 2 true (.t 2)),.u 10 (.call f0 [(.t 9)]),.u 11 (.ld none 2 true (.t 3)),.u 12 (.call f0 [(.t 11)]),.m 5 (.t 10),.m 6 (.t 12)])
 (.fg [4,5,6] (.seq (.block 0 (.loop (.seq (.seq (.ops false [.m 13 (.t 6),.u 14 (.len (.t 13)),.u 15 (.bin .gtr (.t 14) (.i 0))])
 (.fg [4,5,6,15] (.cond (.t 15) .skip (.exit 0))))
 (.fg [4,5,6] (.block 1 (.seq (.ops false [.m 17 (.t 5),.m 18 (.t 6),.u 19 (.call f1 [(.t 17),(.t 18)]),.m 16 (.t 19),.u 20 (.ext 0 (.t 16)),.u 21 (.ext 1 (.t 16)),.m 7 (.t 20),.m 8 (.t 21)])
 (.fg [4,6,8] (.ops false [.m 22 (.t 6),.m 23 (.t 8),.m 5 (.t 22),.m 6 (.t 23)]))))))))
 (.fg [4,5] (.seq (.ops false [.m 24 (.t 5),.u 25 (.call f2 [.fa,(.t 24)]),.n (.st none 2 (.t 4) (.t 25))])
 .ret)))))))
def zw(f0 f1 f2 f3 f4 f5 tE:Nat):AC:=(.seq (.ops false [.u 2 (.box 2 (.t 0)),.u 3 (.box 2 (.t 1)),.u 4 (.alloc [(.lit (.bool false)),.emp]),.u 5 (.alloc [(.lit (.bool false)),.emp]),.m 6 (.c (.one (.lit .nilIface)))])
 (.fg [2,3,4,5] (.seq (.ops false [.u 10 (.ld none 2 true (.t 3)),.u 11 (.call f0 [(.t 10)]),.m 7 (.t 11)])
 (.fg [2,3,4,5,7] (.seq (.seq (.ops false [.m 12 (.t 7),.u 13 (.len (.t 12)),.u 14 (.bin .eql (.t 13) (.i 0))])
 (.fg [2,3,4,5,7,14] (.cond (.t 14) (.seq (.ops false [.u 15 (.build [.z [(.lit (.bool false)),.emp]]),.u 16 (.build [.z [(.lit (.bool false)),.emp]]),.u 17 (.iface tE (.i 8)),.n (.st none 2 (.t 4) (.t 15)),.n (.st none 2 (.t 5) (.t 16)),.m 6 (.t 17)])
 .ret) .skip)))
 (.fg [2,3,4,5,7] (.seq (.ops false [.u 19 (.ld none 2 true (.t 2)),.u 20 (.call f0 [(.t 19)]),.m 21 (.t 7),.u 22 (.call f1 [(.t 20),(.t 21)]),.m 18 (.t 22),.u 23 (.ext 0 (.t 18)),.u 24 (.ext 1 (.t 18)),.m 8 (.t 23),.m 9 (.t 24)])
 (.fg [2,3,4,5,7,8,9] (.seq (.seq (.ops false [.u 25 (.ld none 2 true (.t 2)),.u 26 (.call f2 [(.t 25)]),.m 27 (.t 26),.w 28 27 true (.mv (.t 9)),.w 29 27 true (.len (.t 28)),.w 30 27 true (.bin .gtr (.t 29) (.i 0)),.u 31 (.pick (.t 27) (.t 30) .fa)])
 (.fg [2,3,4,5,7,8,9,31] (.cond (.t 31) (.ops false [.m 32 (.t 8),.u 33 (.row 1 [[.x 1 (.c (.one (.lit (.int .u32 1))))]]),.u 34 (.call f3 [(.t 32),(.t 33)]),.m 35 (.t 7),.m 36 (.t 9),.u 37 (.call f4 [(.t 35),(.t 36)]),.m 8 (.t 34),.m 9 (.t 37)]) .skip)))
 (.fg [2,3,4,5,8,9] (.seq (.ops true [.u 38 (.ld none 2 true (.t 2)),.u 39 (.call f2 [(.t 38)]),.u 40 (.ld none 2 true (.t 3)),.u 41 (.call f2 [(.t 40)]),.u 42 (.binb .neq (.t 39) (.t 41)),.m 43 (.t 8),.u 44 (.call f5 [(.t 42),(.t 43)]),.m 45 (.t 9),.u 46 (.call f5 [.fa,(.t 45)]),.n (.st none 2 (.t 4) (.t 44)),.n (.st none 2 (.t 5) (.t 46)),.m 6 (.c (.one (.lit .nilIface)))])
 .ret)))))))))))
theorem wH(hΓ:Holds P Γ){f:Nat}(hc:check P f=some (19,kk.strip,[.tmp 2])):Sound P f (.dat true zj):=by
 refine Wa hc Ual hΓ (λargs K hcl hfi hG=>?_);match args,hG with
 | [a],hG=>
  obtain⟨w,rfl,hw,hK⟩:=hG;refine⟨by simp,?_⟩
  simp only [go_sem,kk,Ybq,yaH];unfold vldW at hK;intro hlen;refine⟨λh=>?_,λh _=>?_⟩
  .rw [if_pos (List.length_eq_zero_iff.1 h)]at hK;exact hK
  .have hn:w.2≠[]:=λe=>h (by rw [e];rfl)
   rw [if_neg hn]at hK;refine⟨⟨by omega,by omega⟩,by omega,by omega,?_⟩
   have e1:((w.2.length:Int)-1).toNat=w.2.length-1:=by omega
   rw [e1];have e2:(!decide (w.2.getD (w.2.length-1) 0=0))=decide (NZ w.2):=by
    rw [<-decide_not,decide_eq_decide];unfold NZ;rw [List.getLast?_eq_getElem?,List.getElem?_eq_getElem (by omega),List.getD_eq_getElem?_getD,List.getElem?_eq_getElem (by omega)]
    simp
   rw [e2];exact hK
theorem qP(hΓ:Holds P Γ){f fv:Nat}(hv:Γ fv=.dat true zj)(hc:check P f=some (8,(Yn fv).strip,[.tmp 2])):Sound P f (.dat false vj):=by
 refine Wa hc kaO hΓ (λargs K hcl hfi hG=>?_);match args,hG with
 | [a],hG=>
  obtain⟨w,rfl,hw,hK⟩:=hG;refine⟨by simp,?_⟩
  simp only [go_sem,Yn,hv,hw];rw [<-qbM hw]at hK;refine⟨λh=>?_,λh=>?_⟩
  .rw [if_pos h]at hK;exact hK
  .rw [if_neg (by rw [h];simp)]at hK;exact hK
theorem vN(hΓ:Holds P Γ){f fv:Nat}(hv:Γ fv=.dat true zj)(hc:check P f=some (9,(yn fv).strip,[.tmp 2])):Sound P f (.dat true Yf):=by
 refine Wa hc qaG hΓ (λargs K hcl hfi hG=>?_);match args,hG with
 | [a],hG=>
  obtain⟨w,rfl,hw,hK⟩:=hG;refine⟨by simp,?_⟩
  simp only [go_sem,yn,hv,hw];rw [<-ja9 hw]at hK;refine⟨λh=>?_,λh=>?_⟩
  .rw [h,Bool.true_and]at hK;exact hK
  .rw [h,Bool.false_and]at hK;exact hK
theorem Xal(hΓ:Holds P Γ){f ft:Nat}(ht:Γ ft=.dat false xt)(hc:check P f=some (15,(jp ft).strip,[.cell 4 2 true])):Sound P f (.dat false Jf):=by
 refine Wa hc uS hΓ (λargs K hcl hfi hG=>?_);match args,hG with
 | [a,m],hG=>
  obtain⟨b,rfl,hG⟩:=Zx hG;obtain⟨l,rfl,hl,hlen,hK⟩:=hG;refine⟨by simp,?_⟩
  simp only [go_sem,jp,ht];rw [<-vP]at hK;refine⟨hl,hlen,λh _=>?_,λh=>?_⟩
  .rw [h,Bool.true_and]at hK;exact hK
  .rw [h,Bool.false_and]at hK;exact hK
theorem V5(hΓ:Holds P Γ){f fw:Nat}(hw:Γ fw=.dat false Jf)(hc:check P f=some (19,(Zq fw).strip,[.cell 2 2 true])):Sound P f (.dat false UH):=by
 refine Wa hc vbe hΓ (λargs K hcl hfi hG=>?_);match args,hG with
 | [a],hG=>
  obtain⟨k,n,rfl,rfl,hn1,hn2,hK⟩:=vb hG;refine⟨by simp,?_⟩
  simp only [go_sem,Zq,hw];have e0:(18446744073709551616:Int)=((18446744073709551616:Nat):Int):=rfl;have key:∀(x:Nat) (b:Bool),x<18446744073709551616->sg b x=n->
    onWs (λl=>l.length<=68719476736/\K (AV.agg [zb (zcan (sg b (val l))),zm (zcan (sg b (val l)))]))
     (AV.one (C.slice [[C.lit (Value.int IntKind.u32 ((x:Int) % 4294967296))],[C.lit (Value.int IntKind.u32 ((x:Int) / 2 ^ 32 % 4294967296))]])):=by
   intro x b hx hs;have e1:((x:Int) % 4294967296)=((x % 4294967296:Nat):Int):=by omega
   have e2:((x:Int) / 2 ^ 32 % 4294967296)=((x / 4294967296:Nat):Int):=by omega
   rw [e1,e2,jaY];refine⟨?_,by simp,?_⟩
   .rw [xc,xc];exact⟨by omega,by omega,zd⟩
   .have:val [x % 4294967296,x / 4294967296]=x:=by
     simp only [xi,xm];omega
    rw [this,hs];exact hK
  refine⟨λh=>⟨⟨by omega,by omega,by decide⟩,?_⟩,λh=>⟨⟨by omega,by omega,by decide⟩,?_⟩⟩
  .have e:(-(n % 18446744073709551616) % 18446744073709551616:Int)=((-n).toNat:Int):=by omega
   rw [e];refine key _ _ (by omega) ?_
   rw [decide_eq_true h];unfold sg;rw [if_pos rfl];omega
  .have e:(n % 18446744073709551616:Int)=(n.toNat:Int):=by omega
   rw [e];refine key _ _ (by omega) ?_
   rw [decide_eq_false h];unfold sg;rw [if_neg (by simp)];omega
theorem vak(hΓ:Holds P Γ){f fm:Nat}(hm:Γ fm=.dat false vj)(hc:check P f=some (11,(qt fm).strip,[.tmp 2])):Sound P f (.dat true Zh):=by
 refine Wa hc yO hΓ (λargs K hcl hfi hG=>?_);match args,hG with
 | [a],hG=>
  obtain⟨w,rfl,hw,hK⟩:=hG;refine⟨by simp,?_⟩
  simp only [go_sem,qt,hm,hw,Ybq,yaH];intro _;show((digs (zv w).natAbs).length=0->_)/\(¬(digs (zv w).natAbs).length=0->_);have h0:(digs (zv w).natAbs).length=0↔zv w=0:=qx;rw [h0];refine⟨λh=>?_,λh=>⟨λhb=>?_,λhb=>?_⟩⟩
  .rw [h]at hK;exact hK
  .have:zv w<0:=by
    have:=ja9 hw;rw [hb,Bool.and_true]at this;have hv:vldW w=true:=by
     cases hv:vldW w with
     | true=>rfl
     | false=>exact absurd (Wak hv) h
    rw [hv]at this;simpa using this.symm
   rw [Int.sign_eq_neg_one_of_neg this]at hK;exact hK
  .have:¬zv w<0:=by
    have:=ja9 hw;rw [hb,Bool.and_false]at this;simpa using this.symm
   rw [Int.sign_eq_one_of_pos (by omega)]at hK;exact hK
theorem ZaF(hΓ:Holds P Γ){f fs fm fc fn:Nat}(hs:Γ fs=.dat true Zh)(hm:Γ fm=.dat false vj)(hc' : Γ fc=.dat false Ji)(hn:Γ fn=.dat true Yf)
  (hc:check P f=some (28,(qw fs fm fc fn).strip,[.tmp 4])):Sound P f (.dat true XC):=by
 refine Wa hc uaM hΓ (λargs K hcl hfi hG=>?_);match args,hG with
 | [a,b],hG=>
  obtain⟨v,rfl,hv,w,rfl,hw,hK⟩:=hG;refine⟨by simp,?_⟩
  simp only [go_sem,qw,hs,hm,hc',hn,hv,hw];simp only [jb];have hs:∀n:Int,Int.sign n=if n<0 then -1 else if n=0 then 0 else 1:=by
   intro n;split
   .exact Int.sign_eq_neg_one_of_neg ‹_›
   .split
    .rename_i h;rw [h];rfl
    .exact Int.sign_eq_one_of_pos (by omega)
  rw [hs,hs];generalize zv v=x at hK ⊢;generalize zv w=y at hK ⊢;refine⟨λh=>⟨qb _,qb _,Uo _,Uo _,λhx=>⟨?_,?_⟩,λhx=>?_⟩,λh=>⟨λh'=>?_,λh'=>?_⟩⟩
  .unfold ordN;split <;> (try split) <;> omega
  .have e:-ordN x.natAbs y.natAbs=ordI x y:=by
    unfold ordN ordI;rw [if_pos hx]at h;have hy:y<0:=by
     split at h
     .assumption
     .split at h <;> omega
    split <;> (try split) <;> (try split) <;> (try split) <;> omega
   rw [e];exact hK
  .have e:ordN x.natAbs y.natAbs=ordI x y:=by
    unfold ordN ordI;rw [if_neg hx]at h;have hy:¬y<0:=by
     intro hy;rw [if_pos hy]at h;split at h <;> omega
    split <;> (try split) <;> (try split) <;> (try split) <;> omega
   rw [e];exact hK
  .have e:ordI x y = -1:=Xbu (by
    split at h' <;> split at h' <;> (try split at h') <;> (try split at h') <;> omega)
   rw [e]at hK;exact hK
  .have e:ordI x y=1:=kbw (by
    split at h' <;> split at h' <;> (try split at h') <;> (try split at h') <;> (try split at h) <;> (try split at h) <;> (try split at h) <;> (try split at h) <;> omega)
   rw [e]at hK;exact hK
theorem JR(hΓ:Holds P Γ){f fn fm fw:Nat}(hn:Γ fn=.dat true Yf)(hm:Γ fm=.dat false vj)(hw' : Γ fw=.dat false Jf)(hc:check P f=some (9,(kn fn fm fw).strip,[.cell 2 2 true])):Sound P f (.dat false yu):=by
 refine Wa hc Ya1 hΓ (λargs K hcl hfi hG=>?_);match args,hG with
 | [a],hG=>
  obtain⟨w,rfl,hw,hz,hK⟩:=hG;refine⟨by simp,?_⟩
  simp only [go_sem,kn,hn,hm,hw',hw];rw [jb];refine⟨qb _,hz,?_⟩;have e:sg (!decide (zv w<0)) (zv w).natAbs = -zv w:=by
   unfold sg;by_cases h:zv w<0 <;> simp [h] <;> omega
  rw [e];exact hK
theorem VaE(hΓ:Holds P Γ){f fn fm ft fw:Nat}(hn:Γ fn=.dat true Yf)(hm:Γ fm=.dat false vj)(ht:Γ ft=.dat false Vz)(hw' : Γ fw=.dat false Jf)(hc:check P f=some (16,(uv fn fm ft fw).strip,[.cell 4 2 true])):Sound P f (.dat false yA):=by
 refine Wa hc ka2 hΓ (λargs K hcl hfi hG=>?_);match args,hG with
 | [a,b],hG=>
  obtain⟨v,rfl,hv,w,rfl,hw,hz,hz',hK⟩:=hG;refine⟨by simp,?_⟩
  simp only [go_sem,uv,hn,hm,ht,hw',hw,hv];simp only [jb];have e:sg (!(decide (zv v<0) == decide (zv w<0))) ((zv v).natAbs*(zv w).natAbs)=zv v*zv w:=WbC _ _;rw [e];refine⟨qb _,qb _,hz,hz',qb _,?_,hK⟩;have:=jt (zv v) (zv w);unfold zs at *
  rw [<-Int.natAbs_mul];omega
theorem UaG(hΓ:Holds P Γ){f fn fm fp fw fc fl:Nat}(hn:Γ fn=.dat true Yf)(hm:Γ fm=.dat false vj)(hp:Γ fp=.dat false Vp)(hw' : Γ fw=.dat false Jf)(hc' : Γ fc=.dat false Ji)(hl:Γ fl=.dat false Ys)(hc:check P f=some (40,(Zv fm fn fp fw fc fl).strip,[.cell 4 2 true])):Sound P f (.dat false jx):=by
 refine Wa hc Uab hΓ (λargs K hcl hfi hG=>?_);match args,hG with
 | [a,b],hG=>
  obtain⟨v,rfl,hv,w,rfl,hw,hz,hz',hK⟩:=hG;refine⟨by simp,?_⟩
  simp only [go_sem,Zv,hn,hm,hp,hw',hc',hl,hw,hv];simp only [jb];have hsz:=vL (zv v) (zv w);refine⟨λh=>⟨qb _,qb _,hz,hz',qb _,?_,?_⟩,λh=>⟨qb _,qb _,Uo _,Uo _,λho=>⟨qb _,qb _,by unfold zs at hz;omega,?_,qb _,?_,?_⟩,λho=>⟨qb _,qb _,by unfold zs at hz';omega,?_,qb _,?_,?_⟩⟩⟩
  .have e:=Wy (Wi h);rw [show(zv v).natAbs+(zv w).natAbs=(zv v+zv w).natAbs by have:=Wi h;omega]
   unfold zs at *;omega
  .rw [Wy (Wi h)];exact hK
  .exact(Qw.1 ho)
  .have:=Ua (Nat.sub_le (zv v).natAbs (zv w).natAbs);unfold zs at *;omega
  .have h1:=Qw.1 ho;rw [Jau (Vr h) h1];exact hK
  .have:=mt Qw.2 ho;omega
  .have:=Ua (Nat.sub_le (zv w).natAbs (zv v).natAbs);unfold zs at *;omega
  .have h1:=mt Qw.2 ho;rw [Jau (λe=>Vr h e.symm) (by omega),Int.add_comm];exact hK
theorem vaG(hΓ:Holds P Γ){f fn fm fp fw fd fl tE:Nat}(hn:Γ fn=.dat true Yf)(hm:Γ fm=.dat false vj)(hp:Γ fp=.dat false Vp)(hw' : Γ fw=.dat false Jf)(hd:Γ fd=.dat false vh)(hl:Γ fl=.dat false Ys)(hc:check P f=some (47,(zw fm fd fn fp fl fw tE).strip,[.cell 4 2 true,.cell 5 2 true,.tmp 6])):Sound P f (.dat false YG):=by
 refine Wa hc ya5 hΓ (λargs K hcl hfi hG=>?_);match args,hG with
 | [a,b],hG=>
  obtain⟨v,rfl,hv,w,rfl,hw,hz,hz',h0,hK⟩:=hG;refine⟨by simp,?_⟩
  simp only [go_sem,zw,hn,hm,hp,hw',hd,hl,hw,hv];simp only [jb];have hne:¬(digs (zv w).natAbs).length=0:=λe=>h0 (qx.1 e);intro _;refine⟨λe=>absurd e hne,λ_=>⟨qb _,qb _,Uo _,Uo _,λe=>hne (by rw [e];rfl),hz,hz',?_⟩⟩
  have hq:(digs ((zv v).natAbs / (zv w).natAbs)).length<=17179869184:=Nat.le_trans (Ua (Nat.div_le_self _ _)) hz;have hr:(digs ((zv v).natAbs % (zv w).natAbs)).length<=17179869184:=Nat.le_trans (Ua (Nat.mod_le _ _)) hz;have hz'' : (digs (zv w).natAbs).length<=17179869184:=hz';have hlt:=Nat.mod_lt (zv v).natAbs (show 0<(zv w).natAbs by omega)
  have hfin:(0<=zv v∨(zv v).natAbs % (zv w).natAbs=0)->K (AV.tup
    [AV.agg [zb (zcan (sg (!(decide (zv v<0) == decide (zv w<0))) ((zv v).natAbs / (zv w).natAbs))),zm (zcan (sg (!(decide (zv v<0) == decide (zv w<0))) ((zv v).natAbs / (zv w).natAbs)))],
     AV.agg [zb (zcan (sg false ((zv v).natAbs % (zv w).natAbs))),zm (zcan (sg false ((zv v).natAbs % (zv w).natAbs)))],AV.one (C.lit Value.nilIface)]):=by
   intro h;obtain⟨e1,e2⟩:=yaz h0 h;have e1' : sg (!(decide (zv v<0) == decide (zv w<0))) ((zv v).natAbs / (zv w).natAbs)=zv v / zv w:=e1;have e2' : sg false ((zv v).natAbs % (zv w).natAbs)=zv v % zv w:=e2;rw [e1',e2'];exact hK
  refine⟨λhneg _=>⟨λhp=>⟨qb _,(yaA _ 1).mpr ⟨xc.2 ⟨by decide,zd⟩,hq,by decide,qb _,qb _,by omega,by omega,qb _,?_,qb _,?_,?_⟩⟩,λhp=>⟨qb _,by omega,qb _,by omega,hfin (.inr ?_)⟩⟩,λhneg=>⟨qb _,by omega,qb _,by omega,hfin (.inl (by omega))⟩⟩
  .have hv1:val [1]=1:=rfl;rw [hv1];have h1:zs 1<=2:=Xo (by decide)
   have:=vL (((zv v).natAbs / (zv w).natAbs:Nat):Int) 1;have e:(((zv v).natAbs / (zv w).natAbs:Nat):Int)+1=(((zv v).natAbs / (zv w).natAbs+1:Nat):Int):=by omega
   rw [e]at this;have h3:zs (((zv v).natAbs / (zv w).natAbs:Nat):Int)=(digs ((zv v).natAbs / (zv w).natAbs)).length:=rfl;have h4:zs (((zv v).natAbs / (zv w).natAbs+1:Nat):Int)=(digs ((zv v).natAbs / (zv w).natAbs+1)).length:=rfl;rw [h3,h4]at this;omega
  .have:=Ua (Nat.sub_le (zv w).natAbs ((zv v).natAbs % (zv w).natAbs));omega
  .have hv1:val [1]=1:=rfl;rw [hv1];have hne' : (zv v).natAbs % (zv w).natAbs≠0:=by
    intro e;rw [e,yb]at hp;simp at hp
   obtain⟨e1,e2⟩:=xaB h0 hneg hne';have e1' : sg (!(decide (zv v<0) == decide (zv w<0))) ((zv v).natAbs / (zv w).natAbs+1)=zv v / zv w:=e1;have e2' : sg false ((zv w).natAbs-(zv v).natAbs % (zv w).natAbs)=zv v % zv w:=e2;rw [e1',e2'];exact hK
  .have:digs ((zv v).natAbs % (zv w).natAbs)=[]:=List.eq_nil_of_length_eq_zero (by omega)
   exact xf.1 this
theorem uaD(hΓ:Holds P Γ){f fm fd fw:Nat}(hm:Γ fm=.dat false vj)(hw' : Γ fw=.dat false Jf)(hd:Γ fd=.dat false vh)(hc:check P f=some (26,(Uu fm fd fw).strip,[.cell 4 2 true])):Sound P f (.dat false Xt):=by
 refine Wa hc U7 hΓ (λargs K hcl hfi hG=>?_);match args,hG with
 | [a,b],hG=>
  obtain⟨v,rfl,hv,w,rfl,hw,hz,hz',hK⟩:=hG;refine⟨by simp,?_⟩
  simp only [go_sem,Uu,hm,hw',hd,hw,hv];refine Xa (λp:Nat×Nat=>⟨mkV [(4,.one (.ptr 4 1 0 0)),(5,.one (ws (digs p.1))),(6,.one (ws (digs p.2)))],mkH [(4,⟨1,some ⟨[[.lit (.bool false),.emp]],2,true⟩⟩)]⟩)
   (λp=>(digs p.1).length<=17179869184/\(digs p.2).length<=17179869184/\Nat.gcd p.1 p.2=Int.gcd (zv v) (zv w)) (λp=>p.2) ((zv v).natAbs,(zv w).natAbs) ?_ ?_ ?_
  .exact Qa (by simp [okS,okV,okC,okL,okH,okB,okE,ja,Va,qa,ka,wsA,ws]) ⟨⟨⟨rfl,rfl⟩,.inr ⟨⟨rfl,trivial,trivial⟩,trivial⟩⟩,trivial⟩
  .exact⟨hz,hz',rfl⟩
  .rintro⟨a,b⟩ ⟨ha,hb,hg⟩;simp only at ha hb hg;simp only [go_sem,hm,hw',hd,ws];simp only [jb];refine λ_=>⟨λh=>⟨qb _,qb _,Uo _,Uo _,λe=>by rw [e]at h;simp at h,ha,hb,?_⟩,λh=>⟨qb _,by omega,?_⟩⟩
   .have hb0:0<b:=by
     rcases Nat.eq_zero_or_pos b with e | e
     .rw [e,yb]at h;simp at h
     .exact e
    refine⟨(b,a % b),Qa (by simp [okS,okV,okC,okL,okH,okB,okE,ja,Va,qa,ka,wsA,ws]) ⟨⟨⟨rfl,rfl⟩,.inr ⟨⟨rfl,trivial,trivial⟩,trivial⟩⟩,trivial⟩,⟨hb,Nat.le_trans (Ua (Nat.mod_le _ _)) ha,?_⟩,Nat.mod_lt _ hb0⟩
    rw [<-hg];show Nat.gcd b (a % b)=_;rw [Nat.gcd_comm b,<-Nat.gcd_rec,Nat.gcd_comm]
   .have:digs b=[]:=List.eq_nil_of_length_eq_zero (by omega)
    rw [xf.1 this,Nat.gcd_zero_right]at hg;rw [hg];exact hK
end Go.Abs
end
section
namespace Go.Num
theorem getMM{α:Type}(U V:List α)(x d:α){n:Nat}(h:U.length=n):(U++x::V).getD n d=x:=by
 subst h;simp [List.getD_eq_getElem?_getD]
theorem setMM{α:Type}(U V:List α)(x y:α){n:Nat}(h:U.length=n):(U++x::V).set n y=U++y::V:=by
 subst h;rw [List.set_append_right _ _ (Nat.le_refl _),Nat.sub_self,List.set_cons_zero]
end Go.Num
namespace Go.Abs
open Go.Num
variable {P:Program} {Γ:Nat->Spec}
def zD(fc:Nat)(d:Option Nat)(args:List AV)(h:Nat->HB)(K:AV->(Nat->HB)->Prop):Prop:=
 match args with
 | [.one (.own r ver 5 0 len),.one (.lit (.int .i64 a)),.one (.lit (.int .i64 b)),.one (.lit (.int .i64 n)),c]=>∃(U A M B V:List Mo),c=fnV fc/\a=U.length/\b=(U.length+A.length+M.length:Nat)/\n=A.length/\A.length=B.length/\
   U.length+A.length+M.length+B.length<=len/\len<=U.length+A.length+M.length+B.length+V.length/\len<=68719476736/\
   h r=⟨ver,some ⟨(U++A++M++B++V).map mC,5,true⟩⟩/\K (.tup []) (upd h r ⟨ver,some ⟨(U++B++M++A++V).map mC,5,true⟩⟩)
 | _=>False
@[congr] theorem vbV {fc:Nat} {d:Option Nat} {l l' : List AV} {h h' : Nat->HB} {K:AV->(Nat->HB)->Prop} (e1:l=l') (e2:h=h'):zD fc d l h K=zD fc d l' h' K:=by subst e1;subst e2;rfl
def yE(fc:Nat)(d:Option Nat)(args:List AV)(h:Nat->HB)(K:AV->(Nat->HB)->Prop):Prop:=
 match args with
 | [.one (.own r ver 5 0 len),.one (.lit (.int .i64 a)),.one (.lit (.int .i64 m)),.one (.lit (.int .i64 b)),c]=>∃(U A B V:List Mo),c=fnV fc/\a=U.length/\m=(U.length+A.length:Nat)/\b=(U.length+A.length+B.length:Nat)/\A≠[]/\B≠[]/\
   U.length+A.length+B.length<=len/\len<=U.length+A.length+B.length+V.length/\len<=68719476736/\
   h r=⟨ver,some ⟨(U++A++B++V).map mC,5,true⟩⟩/\K (.tup []) (upd h r ⟨ver,some ⟨(U++B++A++V).map mC,5,true⟩⟩)
 | _=>False
@[congr] theorem jbT {fc:Nat} {d:Option Nat} {l l' : List AV} {h h' : Nat->HB} {K:AV->(Nat->HB)->Prop} (e1:l=l') (e2:h=h'):yE fc d l h K=yE fc d l' h' K:=by subst e1;subst e2;rfl
def ki(fc N:Nat)(d:Option Nat)(args:List AV)(h:Nat->HB)(K:AV->(Nat->HB)->Prop):Prop:=
 match args with
 | [.one (.own r ver 5 0 len),.one (.lit (.int .i64 a)),.one (.lit (.int .i64 m)),.one (.lit (.int .i64 b)),c]=>∃(U A B V:List Mo),c=fnV fc/\a=U.length/\m=(U.length+A.length:Nat)/\b=(U.length+A.length+B.length:Nat)/\A≠[]/\B≠[]/\A.length+B.length<=N/\
   U.length+A.length+B.length<=len/\len<=U.length+A.length+B.length+V.length/\len<=1073741824/\okMs A/\okMs B/\SortM A/\SortM B/\
   h r=⟨ver,some ⟨(U++A++B++V).map mC,5,true⟩⟩/\∀C:List Mo,(A++B).Perm C->SortM C->K (.tup []) (upd h r ⟨ver,some ⟨(U++C++V).map mC,5,true⟩⟩)
 | _=>False
@[congr] theorem zbW {fc N:Nat} {d:Option Nat} {l l' : List AV} {h h' : Nat->HB} {K:AV->(Nat->HB)->Prop} (e1:l=l') (e2:h=h'):ki fc N d l h K=ki fc N d l' h' K:=by subst e1;subst e2;rfl
def wd:AC:=(.seq (.ops false [.m 10 (.i 0)])
 (.fg [0,1,2,3,10] (.block 0 (.loop (.seq (.seq (.ops false [.m 11 (.t 10),.m 12 (.t 3),.u 13 (.bin .lss (.t 11) (.t 12))])
 (.fg [0,1,2,3,10,13] (.cond (.t 13) .skip (.exit 0))))
 (.fg [0,1,2,3,10] (.seq (.block 1 (.ops true [.m 16 (.t 0),.m 17 (.t 1),.m 18 (.t 10),.u 19 (.bin .add (.t 17) (.t 18)),.m 20 (.t 0),.m 21 (.t 2),.m 22 (.t 10),.u 23 (.bin .add (.t 21) (.t 22)),.m 24 (.t 0),.m 25 (.t 2),.m 26 (.t 10),.u 27 (.bin .add (.t 25) (.t 26)),.u 28 (.idx 5 (.t 24) (.t 27)),.u 29 (.ld none 5 true (.t 28)),.m 30 (.t 0),.m 31 (.t 1),.m 32 (.t 10),.u 33 (.bin .add (.t 31) (.t 32)),.u 34 (.idx 5 (.t 30) (.t 33)),.u 35 (.ld none 5 true (.t 34)),.u 36 (.idx 5 (.t 16) (.t 19)),.n (.st none 5 (.t 36) (.t 29)),.u 37 (.idx 5 (.t 20) (.t 23)),.n (.st none 5 (.t 37) (.t 35))]))
 (.fg [0,1,2,3,10] (.ops false [.m 14 (.t 10),.u 15 (.bin .add (.t 14) (.i 1)),.m 10 (.t 15)])))))))))
def we(f0:Nat):AC:=(.seq (.ops false [.m 12 (.t 2),.m 13 (.t 1),.u 14 (.bin .sub (.t 12) (.t 13)),.m 10 (.t 14)])
 (.fg [0,2,3,4,10] (.seq (.ops false [.m 15 (.t 3),.m 16 (.t 2),.u 17 (.bin .sub (.t 15) (.t 16)),.m 11 (.t 17)])
 (.fg [0,2,4,10,11] (.seq (.block 0 (.loop (.seq (.seq (.ops false [.m 18 (.t 10),.m 19 (.t 11),.u 20 (.bin .neq (.t 18) (.t 19))])
 (.fg [0,2,4,10,11,20] (.cond (.t 20) .skip (.exit 0))))
 (.fg [0,2,4,10,11] (.block 1 (.seq (.ops false [.m 21 (.t 10),.m 22 (.t 11),.u 23 (.bin .gtr (.t 21) (.t 22))])
 (.fg [0,2,4,10,11,23] (.cond (.t 23) (.seq (.ops false [.m 24 (.t 0),.m 25 (.t 2),.m 26 (.t 10),.u 27 (.bin .sub (.t 25) (.t 26)),.m 28 (.t 2),.m 29 (.t 11),.m 30 (.t 4),.u 31 (.call f0 [(.t 24),(.t 27),(.t 28),(.t 29),(.t 30)])])
 (.fg [0,2,4,10,11] (.ops false [.m 32 (.t 10),.m 33 (.t 11),.u 34 (.bin .sub (.t 32) (.t 33)),.m 10 (.t 34)]))) (.seq (.ops false [.m 35 (.t 0),.m 36 (.t 2),.m 37 (.t 10),.u 38 (.bin .sub (.t 36) (.t 37)),.m 39 (.t 2),.m 40 (.t 11),.u 41 (.bin .add (.t 39) (.t 40)),.m 42 (.t 10),.u 43 (.bin .sub (.t 41) (.t 42)),.m 44 (.t 10),.m 45 (.t 4),.u 46 (.call f0 [(.t 35),(.t 38),(.t 43),(.t 44),(.t 45)])])
 (.fg [0,2,4,10,11] (.ops false [.m 47 (.t 11),.m 48 (.t 10),.u 49 (.bin .sub (.t 47) (.t 48)),.m 11 (.t 49)])))))))))))
 (.fg [0,2,4,10] (.ops false [.m 50 (.t 0),.m 51 (.t 2),.m 52 (.t 10),.u 53 (.bin .sub (.t 51) (.t 52)),.m 54 (.t 2),.m 55 (.t 10),.m 56 (.t 4),.u 57 (.call f0 [(.t 50),(.t 53),(.t 54),(.t 55),(.t 56)])])))))))
def Jb(f0 f1:Nat):AC:=(.seq (.seq (.ops false [.m 25 (.t 2),.m 26 (.t 1),.u 27 (.bin .sub (.t 25) (.t 26)),.u 28 (.bin .eql (.t 27) (.i 1))])
 (.fg [0,1,2,3,4,28] (.cond (.t 28) (.seq (.ops false [.m 29 (.t 2),.m 10 (.t 29)])
 (.fg [0,1,3,4,10] (.seq (.ops false [.m 30 (.t 3),.m 11 (.t 30)])
 (.fg [0,1,4,10,11] (.seq (.block 0 (.loop (.seq (.seq (.ops false [.m 31 (.t 10),.m 32 (.t 11),.u 33 (.bin .lss (.t 31) (.t 32))])
 (.fg [0,1,4,10,11,33] (.cond (.t 33) .skip (.exit 0))))
 (.fg [0,1,4,10,11] (.block 1 (.seq (.ops false [.m 34 (.t 10),.m 35 (.t 11),.u 36 (.bin .add (.t 34) (.t 35)),.u 37 (.conv .u64 (.t 36)),.u 38 (.bin .shr (.t 37) (.c (.one (.lit (.int .u64 1))))),.u 39 (.conv .i64 (.t 38)),.m 12 (.t 39)])
 (.fg [0,1,4,10,11,12] (.seq (.ops true [.m 40 (.t 4),.m 41 (.t 0),.m 42 (.t 12),.u 43 (.idx 5 (.t 41) (.t 42)),.u 44 (.ld none 5 true (.t 43)),.m 45 (.t 0),.m 46 (.t 1),.u 47 (.idx 5 (.t 45) (.t 46)),.u 48 (.ld none 5 true (.t 47)),.u 49 (.callv (.t 40) [(.t 44),(.t 48)]),.u 50 (.bin .lss (.t 49) (.i 0))])
 (.fg [0,1,4,10,11,12,50] (.cond (.t 50) (.ops false [.m 51 (.t 12),.u 52 (.bin .add (.t 51) (.i 1)),.m 10 (.t 52)]) (.ops false [.m 53 (.t 12),.m 11 (.t 53)])))))))))))
 (.fg [0,1,10] (.seq (.seq (.ops false [.m 54 (.t 1),.m 13 (.t 54)])
 (.fg [0,10,13] (.block 2 (.loop (.seq (.seq (.ops false [.m 55 (.t 13),.m 56 (.t 10),.u 57 (.bin .sub (.t 56) (.i 1)),.u 58 (.bin .lss (.t 55) (.t 57))])
 (.fg [0,10,13,58] (.cond (.t 58) .skip (.exit 2))))
 (.fg [0,10,13] (.seq (.block 3 (.ops true [.m 61 (.t 0),.m 62 (.t 13),.m 63 (.t 0),.m 64 (.t 13),.u 65 (.bin .add (.t 64) (.i 1)),.m 66 (.t 0),.m 67 (.t 13),.u 68 (.bin .add (.t 67) (.i 1)),.u 69 (.idx 5 (.t 66) (.t 68)),.u 70 (.ld none 5 true (.t 69)),.m 71 (.t 0),.m 72 (.t 13),.u 73 (.idx 5 (.t 71) (.t 72)),.u 74 (.ld none 5 true (.t 73)),.u 75 (.idx 5 (.t 61) (.t 62)),.n (.st none 5 (.t 75) (.t 70)),.u 76 (.idx 5 (.t 63) (.t 65)),.n (.st none 5 (.t 76) (.t 74))]))
 (.fg [0,10,13] (.ops false [.m 59 (.t 13),.u 60 (.bin .add (.t 59) (.i 1)),.m 13 (.t 60)])))))))))
 .ret))))))) .skip)))
 (.fg [0,1,2,3,4] (.seq (.seq (.ops false [.m 77 (.t 3),.m 78 (.t 2),.u 79 (.bin .sub (.t 77) (.t 78)),.u 80 (.bin .eql (.t 79) (.i 1))])
 (.fg [0,1,2,3,4,80] (.cond (.t 80) (.seq (.ops false [.m 81 (.t 1),.m 14 (.t 81)])
 (.fg [0,2,4,14] (.seq (.ops false [.m 82 (.t 2),.m 15 (.t 82)])
 (.fg [0,2,4,14,15] (.seq (.block 4 (.loop (.seq (.seq (.ops false [.m 83 (.t 14),.m 84 (.t 15),.u 85 (.bin .lss (.t 83) (.t 84))])
 (.fg [0,2,4,14,15,85] (.cond (.t 85) .skip (.exit 4))))
 (.fg [0,2,4,14,15] (.block 5 (.seq (.ops false [.m 86 (.t 14),.m 87 (.t 15),.u 88 (.bin .add (.t 86) (.t 87)),.u 89 (.conv .u64 (.t 88)),.u 90 (.bin .shr (.t 89) (.c (.one (.lit (.int .u64 1))))),.u 91 (.conv .i64 (.t 90)),.m 16 (.t 91)])
 (.fg [0,2,4,14,15,16] (.seq (.ops true [.m 92 (.t 4),.m 93 (.t 0),.m 94 (.t 2),.u 95 (.idx 5 (.t 93) (.t 94)),.u 96 (.ld none 5 true (.t 95)),.m 97 (.t 0),.m 98 (.t 16),.u 99 (.idx 5 (.t 97) (.t 98)),.u 100 (.ld none 5 true (.t 99)),.u 101 (.callv (.t 92) [(.t 96),(.t 100)]),.u 102 (.bin .lss (.t 101) (.i 0)),.u 103 (.un .not (.t 102))])
 (.fg [0,2,4,14,15,16,103] (.cond (.t 103) (.ops false [.m 104 (.t 16),.u 105 (.bin .add (.t 104) (.i 1)),.m 14 (.t 105)]) (.ops false [.m 106 (.t 16),.m 15 (.t 106)])))))))))))
 (.fg [0,2,14] (.seq (.seq (.ops false [.m 107 (.t 2),.m 17 (.t 107)])
 (.fg [0,14,17] (.block 6 (.loop (.seq (.seq (.ops false [.m 108 (.t 17),.m 109 (.t 14),.u 110 (.bin .gtr (.t 108) (.t 109))])
 (.fg [0,14,17,110] (.cond (.t 110) .skip (.exit 6))))
 (.fg [0,14,17] (.seq (.block 7 (.ops true [.m 113 (.t 0),.m 114 (.t 17),.m 115 (.t 0),.m 116 (.t 17),.u 117 (.bin .sub (.t 116) (.i 1)),.m 118 (.t 0),.m 119 (.t 17),.u 120 (.bin .sub (.t 119) (.i 1)),.u 121 (.idx 5 (.t 118) (.t 120)),.u 122 (.ld none 5 true (.t 121)),.m 123 (.t 0),.m 124 (.t 17),.u 125 (.idx 5 (.t 123) (.t 124)),.u 126 (.ld none 5 true (.t 125)),.u 127 (.idx 5 (.t 113) (.t 114)),.n (.st none 5 (.t 127) (.t 122)),.u 128 (.idx 5 (.t 115) (.t 117)),.n (.st none 5 (.t 128) (.t 126))]))
 (.fg [0,14,17] (.ops false [.m 111 (.t 17),.u 112 (.bin .sub (.t 111) (.i 1)),.m 17 (.t 112)])))))))))
 .ret))))))) .skip)))
 (.fg [0,1,2,3,4] (.seq (.ops false [.m 129 (.t 1),.m 130 (.t 3),.u 131 (.bin .add (.t 129) (.t 130)),.u 132 (.conv .u64 (.t 131)),.u 133 (.bin .shr (.t 132) (.c (.one (.lit (.int .u64 1))))),.u 134 (.conv .i64 (.t 133)),.m 18 (.t 134)])
 (.fg [0,1,2,3,4,18] (.seq (.ops false [.m 135 (.t 18),.m 136 (.t 2),.u 137 (.bin .add (.t 135) (.t 136)),.m 19 (.t 137)])
 (.fg [0,1,2,3,4,18,19] (.seq (.ops false [.m 20 (.i 0),.m 21 (.i 0)])
 (.fg [0,1,2,3,4,18,19] (.seq (.seq (.ops false [.m 138 (.t 2),.m 139 (.t 18),.u 140 (.bin .gtr (.t 138) (.t 139))])
 (.fg [0,1,2,3,4,18,19,140] (.cond (.t 140) (.seq (.ops false [.m 141 (.t 19),.m 142 (.t 3),.u 143 (.bin .sub (.t 141) (.t 142)),.m 20 (.t 143)])
 (.fg [0,1,2,3,4,18,19,20] (.ops false [.m 144 (.t 18),.m 21 (.t 144)]))) (.seq (.ops false [.m 145 (.t 1),.m 20 (.t 145)])
 (.fg [0,1,2,3,4,18,19,20] (.ops false [.m 146 (.t 2),.m 21 (.t 146)]))))))
 (.fg [0,1,2,3,4,18,19,20,21] (.seq (.ops false [.m 147 (.t 19),.u 148 (.bin .sub (.t 147) (.i 1)),.m 22 (.t 148)])
 (.fg [0,1,2,3,4,18,19,20,21,22] (.seq (.block 8 (.loop (.seq (.seq (.ops false [.m 149 (.t 20),.m 150 (.t 21),.u 151 (.bin .lss (.t 149) (.t 150))])
 (.fg [0,1,2,3,4,18,19,20,21,22,151] (.cond (.t 151) .skip (.exit 8))))
 (.fg [0,1,2,3,4,18,19,20,21,22] (.block 9 (.seq (.ops false [.m 152 (.t 20),.m 153 (.t 21),.u 154 (.bin .add (.t 152) (.t 153)),.u 155 (.conv .u64 (.t 154)),.u 156 (.bin .shr (.t 155) (.c (.one (.lit (.int .u64 1))))),.u 157 (.conv .i64 (.t 156)),.m 23 (.t 157)])
 (.fg [0,1,2,3,4,18,19,20,21,22,23] (.seq (.ops true [.m 158 (.t 4),.m 159 (.t 0),.m 160 (.t 22),.m 161 (.t 23),.u 162 (.bin .sub (.t 160) (.t 161)),.u 163 (.idx 5 (.t 159) (.t 162)),.u 164 (.ld none 5 true (.t 163)),.m 165 (.t 0),.m 166 (.t 23),.u 167 (.idx 5 (.t 165) (.t 166)),.u 168 (.ld none 5 true (.t 167)),.u 169 (.callv (.t 158) [(.t 164),(.t 168)]),.u 170 (.bin .lss (.t 169) (.i 0)),.u 171 (.un .not (.t 170))])
 (.fg [0,1,2,3,4,18,19,20,21,22,23,171] (.cond (.t 171) (.ops false [.m 172 (.t 23),.u 173 (.bin .add (.t 172) (.i 1)),.m 20 (.t 173)]) (.ops false [.m 174 (.t 23),.m 21 (.t 174)])))))))))))
 (.fg [0,1,2,3,4,18,19,20] (.seq (.ops false [.m 175 (.t 19),.m 176 (.t 20),.u 177 (.bin .sub (.t 175) (.t 176)),.m 24 (.t 177)])
 (.fg [0,1,2,3,4,18,20,24] (.seq (.seq (.ops false [.m 178 (.t 20),.m 179 (.t 2),.u 180 (.bin .lss (.t 178) (.t 179)),.m 181 (.t 180),.w 182 181 true (.mv (.t 2)),.w 183 181 true (.mv (.t 24)),.w 184 181 true (.bin .lss (.t 182) (.t 183)),.u 185 (.pick (.t 181) (.t 184) .fa)])
 (.fg [0,1,2,3,4,18,20,24,185] (.cond (.t 185) (.ops false [.m 186 (.t 0),.m 187 (.t 20),.m 188 (.t 2),.m 189 (.t 24),.m 190 (.t 4),.u 191 (.call f0 [(.t 186),(.t 187),(.t 188),(.t 189),(.t 190)])]) .skip)))
 (.fg [0,1,3,4,18,20,24] (.seq (.seq (.ops false [.m 192 (.t 1),.m 193 (.t 20),.u 194 (.bin .lss (.t 192) (.t 193)),.m 195 (.t 194),.w 196 195 true (.mv (.t 20)),.w 197 195 true (.mv (.t 18)),.w 198 195 true (.bin .lss (.t 196) (.t 197)),.u 199 (.pick (.t 195) (.t 198) .fa)])
 (.fg [0,1,3,4,18,20,24,199] (.cond (.t 199) (.ops false [.m 200 (.t 0),.m 201 (.t 1),.m 202 (.t 20),.m 203 (.t 18),.m 204 (.t 4),.u 205 (.call f1 [(.t 200),(.t 201),(.t 202),(.t 203),(.t 204)])]) .skip)))
 (.fg [0,3,4,18,24] (.seq (.ops false [.m 206 (.t 18),.m 207 (.t 24),.u 208 (.bin .lss (.t 206) (.t 207)),.m 209 (.t 208),.w 210 209 true (.mv (.t 24)),.w 211 209 true (.mv (.t 3)),.w 212 209 true (.bin .lss (.t 210) (.t 211)),.u 213 (.pick (.t 209) (.t 212) .fa)])
 (.fg [0,3,4,18,24,213] (.cond (.t 213) (.ops false [.m 214 (.t 0),.m 215 (.t 18),.m 216 (.t 24),.m 217 (.t 3),.m 218 (.t 4),.u 219 (.call f1 [(.t 214),(.t 215),(.t 216),(.t 217),(.t 218)])]) .skip)))))))))))))))))))))))))
theorem uaI(hΓ:Holds P Γ){f fc:Nat}(hc:check P f=some (38,wd.strip,[])):Sound P f (.own (zD fc)):=by
 refine Vg hc hΓ (λd args h K hG=>?_);unfold zD at hG;split at hG
 case h_2=>exact hG.elim
 rename_i r ver len x1 x2 x3 c;obtain⟨U,A,M,B,V,rfl,hx1,hx2,hx3,hAB,hlen,hlen2,hroom,hr,hK⟩:=hG;obtain⟨D,hD⟩:∃D,D=U++A++M++B++V:=⟨_,rfl⟩;rw [<-hD]at hr;have hDl:D.length=U.length+A.length+M.length+B.length+V.length:=by rw [hD];simp [Nat.add_assoc]
 refine⟨[r],[⟨D.map mC,5,true⟩],[.one (.own 1048576 ver 5 0 len),.one (.lit (.int .i64 x1)),.one (.lit (.int .i64 x2)),.one (.lit (.int .i64 x3)),fnV fc],by simp,rfl,?_,?_,?_,λhfi=>⟨by simp,?_⟩⟩
 .intro i r' b h1 h2;cases i with
  | zero=>simp only [List.getElem?_cons_zero,Option.some.injEq]at h1 h2;subst h1 h2;exact⟨by rw [hr],rfl,of_eq_true (uf _)⟩
  | succ i=>simp at h1
 .simp [exA,exC,exB,nameOf,pinA,fnV]
 .intro a ha;simp only [List.mem_cons,List.not_mem_nil,or_false]at ha;rcases ha with rfl | rfl | rfl | rfl | rfl
  .simp [pasA,pasC,pasB,nameOf,pinA]
  .exact .lit _
  .exact .lit _
  .exact .lit _
  .exact .lit _
 simp only [go_sem,wd,hr,fnV];refine Xa (λp:List Mo×List Mo×List Mo×List Mo=>⟨mkV [(0,.one (.own 1048576 ver 5 0 len)),(1,.one (.lit (.int .i64 x1))),(2,.one (.lit (.int .i64 x2))),(3,.one (.lit (.int .i64 x3))),(10,.one (.lit (.int .i64 p.1.length)))],mkH [(1048576,⟨ver,some ⟨(U++(p.2.2.1++p.2.1)++M++(p.1++p.2.2.2)++V).map mC,5,true⟩⟩)]⟩)
  (λp=>A=p.1++p.2.1/\B=p.2.2.1++p.2.2.2/\p.1.length=p.2.2.1.length) (λp=>p.2.1.length) ([],A,[],B) ?_ ?_ ?_
 .exact Qa (by simp [okS,okV,okC,okL,okH,okB,okE,ja,Va,qa,ka,wsA,ws]) (Vj (by simp [hD]))
 .exact⟨rfl,rfl,rfl⟩
 .rintro⟨A1,A2,B1,B2⟩ ⟨hA,hB,h1⟩;simp only at hA hB h1;have lA:=congrArg List.length hA;have lB:=congrArg List.length hB;simp only [List.length_append]at lA lB;rcases A2 with _ | ⟨x,A2⟩
  .have hlt:¬((A1.length:Int)<x3):=by simp only [List.length_nil]at lA;omega
   simp only [go_sem,hr,hlt];rcases B2 with _ | ⟨y,B2⟩
   .simp only [List.append_nil]at hA hB ⊢;subst hA hB;exact hK
   .simp only [List.length_nil,List.length_cons]at *;omega
  .rcases B2 with _ | ⟨y,B2⟩
   .simp only [List.length_nil,List.length_cons]at *;omega
   .simp only [List.length_cons]at lA lB;have hlt:(A1.length:Int)<x3:=by omega
    obtain⟨E,hE⟩:∃E,E=U++(B1++x::A2)++M++(A1++y::B2)++V:=⟨_,rfl⟩;have hEl:E.length=D.length:=by rw [hE,hDl];simp only [List.length_append,List.length_cons];omega
    have e1:E=(U++B1)++x::(A2++M++(A1++y::B2)++V):=by rw [hE];simp
    have e2:E=(U++(B1++x::A2)++M++A1)++y::(B2++V):=by rw [hE];simp
    obtain⟨i1,hi1⟩:∃i1:Nat,i1=U.length+A1.length:=⟨_,rfl⟩;obtain⟨i2,hi2⟩:∃i2:Nat,i2=U.length+A.length+M.length+A1.length:=⟨_,rfl⟩;have n1:x1+(A1.length:Int)=(i1:Int):=by omega
    have n2:x2+(A1.length:Int)=(i2:Int):=by omega
    have g1:E.getD i1 mo0=x:=by rw [e1];exact getMM _ _ _ _ (by simp;omega)
    have g2:E.getD i2 mo0=y:=by rw [e2];exact getMM _ _ _ _ (by simp;omega)
    have b1:i1<len:=by omega
    have b2:i2<len:=by omega
    have c1:i1<E.length:=by omega
    have c2:i2<E.length:=by omega
    have s1:(E.set i1 y).set i2 x=U++((B1++[y])++A2)++M++((A1++[x])++B2)++V:=by
     have:E.set i1 y=(U++B1)++y::(A2++M++(A1++y::B2)++V):=by rw [e1];exact setMM _ _ _ _ (by simp;omega)
     rw [this];have:(U++B1)++y::(A2++M++(A1++y::B2)++V)=(U++(B1++y::A2)++M++A1)++y::(B2++V):=by simp
     rw [this,setMM _ _ _ _ (by simp;omega)]
     simp
    simp only [<-hE];simp only [go_sem,hr,hlt,n1,n2,g1,g2,b1,b2,c1,c2,s1,List.length_set];refine⟨by omega,by omega,by omega,by omega,by omega,(A1++[x],A2,B1++[y],B2),Qa (by simp [okS,okV,okC,okL,okH,okB,okE,ja,Va,qa,ka,wsA,ws]) (Vj rfl),⟨by rw [hA];simp,by rw [hB];simp,by simp [h1]⟩,by simp⟩
theorem kaF(hΓ:Holds P Γ){f fs fc:Nat}(hs:Γ fs=.own (zD fc))(hc:check P f=some (58,(we fs).strip,[])):Sound P f (.own (yE fc)):=by
 refine Vg hc hΓ (λd args h K hG=>?_);unfold yE at hG;split at hG
 case h_2=>exact hG.elim
 rename_i r ver len x1 x2 x3 c;obtain⟨U,A,B,V,rfl,hx1,hx2,hx3,hA0,hB0,hlen,hlen2,hroom,hr,hK⟩:=hG;obtain⟨D,hD⟩:∃D,D=U++A++B++V:=⟨_,rfl⟩;rw [<-hD]at hr;have hDl:D.length=U.length+A.length+B.length+V.length:=by rw [hD];simp [Nat.add_assoc]
 have hAp:=List.length_pos_iff.2 hA0;have hBp:=List.length_pos_iff.2 hB0;refine⟨[r],[⟨D.map mC,5,true⟩],[.one (.own 1048576 ver 5 0 len),.one (.lit (.int .i64 x1)),.one (.lit (.int .i64 x2)),.one (.lit (.int .i64 x3)),fnV fc],by simp,rfl,?_,?_,?_,λhfi=>⟨by simp,?_⟩⟩
 .intro i r' b h1 h2;cases i with
  | zero=>simp only [List.getElem?_cons_zero,Option.some.injEq]at h1 h2;subst h1 h2;exact⟨by rw [hr],rfl,of_eq_true (uf _)⟩
  | succ i=>simp at h1
 .simp [exA,exC,exB,nameOf,pinA,fnV]
 .intro a ha;simp only [List.mem_cons,List.not_mem_nil,or_false]at ha;rcases ha with rfl | rfl | rfl | rfl | rfl
  .simp [pasA,pasC,pasB,nameOf,pinA]
  .exact .lit _
  .exact .lit _
  .exact .lit _
  .exact .lit _
 have n1:x2-x1=(A.length:Int):=by omega
 have n2:x3-x2=(B.length:Int):=by omega
 simp only [go_sem,we,hr,fnV,hs,n1,n2];refine⟨by omega,by omega,?_⟩
 refine Xa (λp:List Mo×List Mo×List Mo×List Mo=>⟨mkV [(0,.one (.own 1048576 ver 5 0 len)),(2,.one (.lit (.int .i64 x2))),(4,.one (.lit (.func (.func fc) ⟨[]⟩ ⟨[]⟩))),(10,.one (.lit (.int .i64 p.2.1.length))),(11,.one (.lit (.int .i64 p.2.2.1.length)))],mkH [(1048576,⟨ver,some ⟨(p.1++p.2.1++p.2.2.1++p.2.2.2).map mC,5,true⟩⟩)]⟩)
  (λp=>p.1++p.2.2.1++p.2.1++p.2.2.2=U++B++A++V/\x2=(p.1.length+p.2.1.length:Nat)/\p.2.1≠[]/\p.2.2.1≠[]/\(p.2.1.length+p.2.2.1.length<=A.length+B.length)/\x2+p.2.2.1.length<=x3) (λp=>p.2.1.length+p.2.2.1.length) (U,A,B,V) ?_ ?_ ?_
 .exact Qa (by simp [okS,okV,okC,okL,okH,okB,okE,ja,Va,qa,ka,wsA,ws]) (Vj (by simp [hD]))
 .exact⟨rfl,by simp only;omega,hA0,hB0,Nat.le_refl _,by simp only;omega⟩
 .rintro⟨U',A',B',V'⟩ ⟨hT,hx2',hA1,hB1,hsz,hx3'⟩;simp only at hT hx2' hA1 hB1 hsz hx3';have hTl:=congrArg List.length hT;simp only [List.length_append]at hTl;have hAp':=List.length_pos_iff.2 hA1;have hBp':=List.length_pos_iff.2 hB1;have n1:x2-(A'.length:Int)=(U'.length:Int):=by omega
  by_cases heq:A'.length=B'.length
  .have heq' : (A'.length:Int)=(B'.length:Int):=by omega
   simp only [go_sem,hr,hs,fnV,n1,<-heq',ne_eq,not_true_eq_false];refine⟨by omega,?_⟩
   simp only [zD];refine⟨U',A',[],B',V',rfl,rfl,by simp;omega,rfl,heq,by simp;omega,by simp;omega,by omega,by simp [qa],?_⟩
   simp only [go_sem,hr];have:U'++B'++[]++A'++V' = U++B++A++V:=by rw [<-hT];simp
   rw [List.append_nil]at this;rw [this];exact hK
  .have heq' : ¬(A'.length:Int)=(B'.length:Int):=by omega
   by_cases hgt:B'.length<A'.length
   .have hgt' : (B'.length:Int)<(A'.length:Int):=by omega
    simp only [go_sem,hr,hs,fnV,n1,heq',hgt',ne_eq];obtain⟨A1,A2,rfl,hA1l⟩:∃A1 A2,A' = A1++A2/\A1.length=B'.length:=⟨A'.take B'.length,A'.drop B'.length,(List.take_append_drop _ _).symm,by rw [List.length_take];omega⟩
    have hA12:(A1++A2).length=A1.length+A2.length:=List.length_append;have n3:((A1++A2).length:Int)-(B'.length:Int)=(A2.length:Int):=by omega
    refine⟨by omega,?_⟩
    simp only [zD];refine⟨U',A1,A2,B',V',rfl,rfl,by omega,by omega,hA1l,by omega,by omega,by omega,by simp [qa],?_⟩
    rw [n3];simp only [go_sem,hr];have z1:A2.length≠0:=by omega
    have z2:A1.length≠0:=by omega
    refine⟨by omega,(U'++B',A2,A1,V'),Qa (by simp [okS,okV,okC,okL,okH,okB,okE,ja,Va,qa,ka,wsA,ws];omega) (Vj rfl),⟨by simp only;rw [<-hT];simp,by simp only [List.length_append];omega,?_,?_,by simp only;omega,by simp only;omega⟩,by simp only;omega⟩
    .exact λh=>z1 (List.length_eq_zero_iff.2 h)
    .exact λh=>z2 (List.length_eq_zero_iff.2 h)
   .have hgt' : ¬(B'.length:Int)<(A'.length:Int):=by omega
    simp only [go_sem,hr,hs,fnV,n1,heq',hgt',ne_eq];obtain⟨B1,B2,rfl,hB2l⟩:∃B1 B2,B' = B1++B2/\B2.length=A'.length:=⟨B'.take (B'.length-A'.length),B'.drop (B'.length-A'.length),(List.take_append_drop _ _).symm,by rw [List.length_drop];omega⟩
    have hB12:(B1++B2).length=B1.length+B2.length:=List.length_append;have n3:((B1++B2).length:Int)-(A'.length:Int)=(B1.length:Int):=by omega
    refine⟨by omega,by omega,by omega,?_⟩
    simp only [zD];refine⟨U',A',B1,B2,V',rfl,rfl,by omega,by omega,by omega,by omega,by omega,by omega,by simp [qa],?_⟩
    rw [n3];simp only [go_sem,hr];have z1:B1.length≠0:=by omega
    have z2:B2.length≠0:=by omega
    refine⟨by omega,(U',B2,B1,A'++V'),Qa (by simp [okS,okV,okC,okL,okH,okB,okE,ja,Va,qa,ka,wsA,ws];omega) (Vj (by simp)),⟨by simp only;rw [<-hT];simp,by simp only;omega,?_,?_,by simp only;omega,by simp only;omega⟩,by simp only;omega⟩
    .exact λh=>z2 (List.length_eq_zero_iff.2 h)
    .exact λh=>z1 (List.length_eq_zero_iff.2 h)
theorem Ux{A B:List Mo}(hA:SortM A)(hB:SortM B)(h:∀x∈A,∀y∈B,kM x<=kM y):SortM (A++B):=
 List.pairwise_append.2 ⟨hA,hB,h⟩
theorem Qy{A B:List Mo}(h:SortM (A++B)):SortM A:=(List.pairwise_append.1 h).1
theorem Vu{A B:List Mo}(h:SortM (A++B)):SortM B:=(List.pairwise_append.1 h).2.1
theorem Wu{A B:List Mo}(h:SortM (A++B)):∀x∈A,∀y∈B,kM x<=kM y:=(List.pairwise_append.1 h).2.2
theorem xR{A:List Mo}(h:SortM A){i j:Nat}(hi:i<A.length)(hj:j<A.length)(hij:i<=j):kM (A[i])<=kM (A[j]):=by
 by_cases e:i=j
 .subst e;exact Nat.le_refl _
 .exact List.pairwise_iff_getElem.1 h i j hi hj (by omega)
theorem WI{A:List Mo}(hA:SortM A){s:Nat}(hs:0<s)(hsl:s<=A.length){q:Nat}(h:kM (A.getD (s-1) mo0)<=q):∀x∈A.take s,kM x<=q:=by
 intro x hx;obtain⟨i,hi,rfl⟩:=List.mem_iff_getElem.1 hx;rw [List.length_take]at hi;rw [List.getElem_take];refine Nat.le_trans (xR hA (by omega) (show s-1<A.length by omega) (by omega)) ?_
 rw [List.getD_eq_getElem?_getD,List.getElem?_eq_getElem (by omega)]at h
 exact h
theorem qJ{A:List Mo}(hA:SortM A){s:Nat}(hsl:s<A.length){q:Nat}(h:q<=kM (A.getD s mo0)):∀x∈A.drop s,q<=kM x:=by
 intro x hx;obtain⟨i,hi,rfl⟩:=List.mem_iff_getElem.1 hx;rw [List.length_drop]at hi;rw [List.getElem_drop];refine Nat.le_trans ?_ (xR hA hsl (show s+i<A.length by omega) (by omega))
 rw [List.getD_eq_getElem?_getD,List.getElem?_eq_getElem (by omega)]at h
 exact h
theorem getLM(U A V:List Mo){k i:Nat}(h1:k=U.length+i)(h2:i<A.length):(U++A++V).getD k mo0=A.getD i mo0:=by
 subst h1;simp only [List.getD_eq_getElem?_getD];rw [List.getElem?_append_left (by simp;omega),List.getElem?_append_right (by omega)]
 congr 2;omega
end Go.Abs
end
section
namespace Go.Num
def PcsM(k:Nat)(Ls:List (List Mo)):Prop:=∀c∈Ls,c.length=k/\SortM c
theorem vG{k:Nat}:∀{Ls:List (List Mo)},PcsM k Ls->Ls.flatten.length=k*Ls.length
 | [],_=>by simp
 | c::Ls,h=>by
  have:=vG (Ls:=Ls) λd hd=>h d (by simp [hd])
  have hc:=(h c (by simp)).1
  rw [List.flatten_cons,List.length_append,this,hc,List.length_cons,Nat.mul_succ,Nat.add_comm]
theorem yab{k:Nat}{Ls:List (List Mo)}{c:List Mo}(h:PcsM k Ls)(h1:c.length=k)(h2:SortM c):PcsM k (Ls++[c]):=by
 intro d hd;rcases List.mem_append.1 hd with hd | hd
 .exact h d hd
 .rw [List.mem_singleton]at hd;subst hd;exact⟨h1,h2⟩
end Go.Num
namespace Go.Abs
open Go.Num
variable {P:Program} {Γ:Nat->Spec}
set_option maxHeartbeats 4000000 in
theorem Qag(hΓ:Holds P Γ){f fi fm fc m N:Nat}(hmN:m<=N)(hm30:m<=1073741824)(hi:Γ fi=.own (UE fc))(hg:Γ fm=.own (ki fc N))(hc:check P f=some (63,(Ve fi fm).strip,[])):Sound P f (.own (uA fc m)):=by
 refine Vg hc hΓ (λd args h K hG=>?_);unfold uA at hG;split at hG
 case h_2=>exact hG.elim
 rename_i r ver len n c;obtain⟨rfl,l,post,rfl,rfl,hlen,hr,hok,hK⟩:=hG;refine⟨[r],[⟨(l++post).map mC,5,true⟩],[.one (.own 1048576 ver 5 0 l.length),.one (.lit (.int .i64 l.length)),fnV fc],by simp,rfl,?_,?_,?_,λhfi=>⟨by simp,?_⟩⟩
 .intro i r' b h1 h2;cases i with
  | zero=>simp only [List.getElem?_cons_zero,Option.some.injEq]at h1 h2;subst h1 h2;exact⟨by rw [hr],rfl,of_eq_true (uf _)⟩
  | succ i=>simp at h1
 .simp [exA,exC,exB,nameOf,pinA,fnV]
 .intro a ha;simp only [List.mem_cons,List.not_mem_nil,or_false]at ha;rcases ha with rfl | rfl | rfl
  .simp [pasA,pasC,pasB,nameOf,pinA]
  .exact .lit _
  .exact .lit _
 simp only [go_sem,Ve,hr,fnV,hi,hg];refine Xa (λp:List (List Mo)×List Mo=>⟨mkV [(0,.one (.own 1048576 ver 5 0 l.length)),(1,.one (.lit (.int .i64 l.length))),(2,.one (.lit (.func (.func fc) ⟨[]⟩ ⟨[]⟩))),(6,.one (.lit (.int .i64 20))),(7,.one (.lit (.int .i64 (20*p.1.length:Nat)))),(8,.one (.lit (.int .i64 (20*p.1.length+20:Nat))))],mkH [(1048576,⟨ver,some ⟨(p.1.flatten++p.2++post).map mC,5,true⟩⟩)]⟩)
  (λp=>PcsM 20 p.1/\l.Perm (p.1.flatten++p.2)) (λp=>p.2.length) ([],l) ?_ ?_ ?_
 .exact Qa (by simp [okS,okV,okC,okL,okH,okB,okE,ja,Va,qa,ka,wsA,ws]) (Vj (by simp))
 .exact⟨λc hc=>by simp at hc,by simp⟩
 .rintro⟨Ls,R⟩ ⟨hL,hp⟩;simp only at hL hp;have lL:=vG hL;have hpl:=hp.length_eq;rw [List.length_append,lL]at hpl;have hokp:=xN hp hok;obtain⟨hokL,hokR⟩:=Yh.1 hokp;by_cases hR:20<=R.length
  .have hle:((20*Ls.length+20:Nat):Int)<=(l.length:Int):=by omega
   obtain⟨S,R',rfl,hS⟩:∃S R',R=S++R'/\S.length=20:=⟨R.take 20,R.drop 20,(List.take_append_drop _ _).symm,by rw [List.length_take];omega⟩
   rw [List.length_append]at hpl;simp only [go_sem,hr,hi,hg,hle];simp only [UE];refine⟨Ls.flatten,S,R'++post,rfl,by rw [lL],by rw [lL,hS],by rw [lL,hS,List.length_append];omega,by omega,by omega,by simp [qa],(Yh.1 hokR).1,λS' hpS hS'=>?_⟩
   have lS':=hpS.length_eq;simp only [go_sem,hr,hi,hg];refine⟨by omega,(Ls++[S'],R'),Qa (by simp [okS,okV,okC,okL,okH,okB,okE,ja,Va,qa,ka,wsA,ws];omega) (Vj (by simp)),⟨yab hL (by omega) hS',?_⟩,by simp only;rw [List.length_append];omega⟩
   simp only;refine hp.trans ?_;simp only [List.flatten_append,List.flatten_cons,List.flatten_nil,List.append_nil,List.append_assoc];exact List.Perm.append_left _ (List.Perm.append_right _ hpS)
  .have hle:¬((20*Ls.length+20:Nat):Int)<=(l.length:Int):=by omega
   simp only [go_sem,hr,hi,hg,hle];simp only [UE];refine⟨Ls.flatten,R,post,rfl,by rw [lL],by rw [lL];omega,by rw [lL];omega,by omega,by omega,by simp [qa],hokR,λR' hpR hR'=>?_⟩
   have lR':=hpR.length_eq;simp only [go_sem,hr,hi,hg];refine Xa (λp:Nat×List (List Mo)×List Mo=>⟨mkV [(0,.one (.own 1048576 ver 5 0 l.length)),(1,.one (.lit (.int .i64 l.length))),(2,.one (.lit (.func (.func fc) ⟨[]⟩ ⟨[]⟩))),(6,.one (.lit (.int .i64 p.1)))],mkH [(1048576,⟨ver,some ⟨(p.2.1.flatten++p.2.2++post).map mC,5,true⟩⟩)]⟩)
    (λp=>PcsM p.1 p.2.1/\SortM p.2.2/\p.2.2.length<p.1/\p.1<=2147483648/\l.Perm (p.2.1.flatten++p.2.2)) (λp=>4294967296-p.1) (20,Ls,R') ?_ ?_ ?_
   .exact Qa (by simp [okS,okV,okC,okL,okH,okB,okE,ja,Va,qa,ka,wsA,ws]) (Vj (by simp))
   .exact⟨hL,hR',by simp only;omega,by simp only;omega,hp.trans (List.Perm.append_left _ hpR)⟩
   .rintro⟨bs,Ks,Q⟩ ⟨hKs,hQ,hQl,hbs,hpK⟩;simp only at hKs hQ hQl hbs hpK;have lK:=vG hKs;have hpl2:=hpK.length_eq;rw [List.length_append,lK]at hpl2;by_cases hdone:bs<l.length
    .have hd' : (bs:Int)<(l.length:Int):=by omega
     have n2:(2:Int)*(bs:Int)=((2*bs:Nat):Int):=by omega
     simp only [go_sem,hr,hi,hg,hd',n2];refine⟨by omega,?_⟩
     refine Xa (λp:Nat×List (List Mo)×List (List Mo)=>⟨mkV [(0,.one (.own 1048576 ver 5 0 l.length)),(1,.one (.lit (.int .i64 l.length))),(2,.one (.lit (.func (.func fc) ⟨[]⟩ ⟨[]⟩))),(6,.one (.lit (.int .i64 bs))),(7,.one (.lit (.int .i64 p.1))),(8,.one (.lit (.int .i64 (p.1+2*bs:Nat))))],mkH [(1048576,⟨ver,some ⟨(p.2.1.flatten++p.2.2.flatten++Q++post).map mC,5,true⟩⟩)]⟩)
      (λp=>(p.1=p.2.1.flatten.length/\PcsM (2*bs) p.2.1)/\PcsM bs p.2.2/\l.Perm (p.2.1.flatten++p.2.2.flatten++Q)) (λp=>p.2.2.length) (0,[],Ks) ?_ ?_ ?_
     .exact Qa (by simp [okS,okV,okC,okL,okH,okB,okE,ja,Va,qa,ka,wsA,ws]) (Vj (by simp))
     .exact⟨⟨rfl,λc hc=>by simp at hc⟩,hKs,by simpa using hpK⟩
     .rintro⟨g,Ms,Js⟩ ⟨⟨hg0,hMs⟩,hJs,hpJ⟩;simp only at hg0 hMs hJs hpJ;have lM:=vG hMs;have lJ:=vG hJs;have hpl3:=hpJ.length_eq;rw [List.length_append,List.length_append,<-hg0]at hpl3;have hokJ:=xN hpJ hok;have n3:(g:Int)+(bs:Int)=((g+bs:Nat):Int):=by omega
      match Js,hJs,lJ,hpl3,hpJ,hokJ with
      | X::Y::Js,hJs,lJ,hpl3,hpJ,hokJ=>
       have hX:=hJs X (by simp)
       have hY:=hJs Y (by simp)
       have hJ' : PcsM bs Js:=λc hc=>hJs c (by simp [hc])
       simp only [List.flatten_cons,List.length_append,hX.1,hY.1]at hpl3;have hle:((g+2*bs:Nat):Int)<=(l.length:Int):=by omega
       simp only [List.flatten_cons,List.append_assoc,Yh]at hokJ;simp only [go_sem,hr,hi,hg,hle,n2,n3];refine⟨by omega,?_⟩
       simp only [ki];refine⟨Ms.flatten,X,Y,Js.flatten++Q++post,rfl,by rw [<-hg0],by rw [<-hg0,hX.1],by rw [<-hg0,hX.1,hY.1];omega,λh=>?_,λh=>?_,by omega,by omega,by simp only [List.length_append];omega,by omega,hokJ.2.1,hokJ.2.2.1,hX.2,hY.2,by simp [qa],λC hpC hsC=>?_⟩
       .rw [h]at hX;simp only [List.length_nil]at hX;omega
       .rw [h]at hY;simp only [List.length_nil]at hY;omega
       have lC:=hpC.length_eq;rw [List.length_append,hX.1,hY.1]at lC;simp only [go_sem,hr,hi,hg,n2,n3];have lMC:(Ms++[C]).flatten.length=g+2*bs:=by simp only [List.flatten_append,List.flatten_cons,List.flatten_nil,List.append_nil,List.length_append];omega
       refine⟨by omega,by omega,(g+2*bs,Ms++[C],Js),Qa (by simp [okS,okV,okC,okL,okH,okB,okE,ja,Va,qa,ka,wsA,ws]) (Vj (by simp)),⟨⟨lMC.symm,yab hMs (by omega) hsC⟩,hJ',?_⟩,by simp only;omega⟩
       refine hpJ.trans ?_;simp only [List.flatten_append,List.flatten_cons,List.flatten_nil,List.append_nil,List.append_assoc];refine List.Perm.append_left _ ?_;rw [<-List.append_assoc];exact List.Perm.append_right _ hpC
      | [X],hJs,lJ,hpl3,hpJ,hokJ=>
       have hX:=hJs X (by simp)
       simp only [List.flatten_cons,List.flatten_nil,List.append_nil,hX.1]at hpl3;have hle:¬((g+2*bs:Nat):Int)<=(l.length:Int):=by omega
       simp only [List.flatten_cons,List.flatten_nil,List.append_nil,List.append_assoc,Yh]at hokJ hpJ;by_cases hQ0:Q=[]
       .have hlt:¬((g+bs:Nat):Int)<(l.length:Int):=by rw [hQ0,List.length_nil]at hpl3;omega
        simp only [go_sem,hr,hi,hg,hle,n2,n3,hlt];have n4:(bs:Int)*2=((2*bs:Nat):Int):=by omega
        simp only [n4];refine⟨by omega,by omega,(2*bs,Ms,X),Qa (by simp [okS,okV,okC,okL,okH,okB,okE,ja,Va,qa,ka,wsA,ws]) (Vj (by simp [hQ0])),⟨hMs,hX.2,by simp only [hX.1];omega,by simp only;omega,by simp only;rw [hQ0,List.append_nil]at hpJ;exact hpJ⟩,by simp only;omega⟩
       .have hQp:=List.length_pos_iff.2 hQ0;have hlt:((g+bs:Nat):Int)<(l.length:Int):=by omega
        simp only [go_sem,hr,hi,hg,hle,n2,n3,hlt];refine⟨by omega,?_⟩
        simp only [ki];refine⟨Ms.flatten,X,Q,post,rfl,by rw [<-hg0],by rw [<-hg0,hX.1],by rw [<-hg0,hX.1];omega,λh=>?_,hQ0,by omega,by omega,by omega,by omega,hokJ.2.1,hokJ.2.2,hX.2,hQ,by simp [qa],λC hpC hsC=>?_⟩
        .rw [h]at hX;simp only [List.length_nil]at hX;omega
        have lC:=hpC.length_eq;rw [List.length_append,hX.1]at lC;simp only [go_sem,hr,hi,hg,n2,n3];have n4:(bs:Int)*2=((2*bs:Nat):Int):=by omega
        simp only [n4];refine⟨by omega,(2*bs,Ms,C),Qa (by simp [okS,okV,okC,okL,okH,okB,okE,ja,Va,qa,ka,wsA,ws]) (Vj (by simp)),⟨hMs,hsC,by simp only;omega,by simp only;omega,hpJ.trans (List.Perm.append_left _ hpC)⟩,by simp only;omega⟩
      | [],hJs,lJ,hpl3,hpJ,hokJ=>
       simp only [List.flatten_nil,List.length_nil]at hpl3;have hle:¬((g+2*bs:Nat):Int)<=(l.length:Int):=by omega
       have hlt:¬((g+bs:Nat):Int)<(l.length:Int):=by omega
       simp only [go_sem,hr,hi,hg,hle,n2,n3,hlt];have n4:(bs:Int)*2=((2*bs:Nat):Int):=by omega
       simp only [n4];refine⟨by omega,by omega,(2*bs,Ms,Q),Qa (by simp [okS,okV,okC,okL,okH,okB,okE,ja,Va,qa,ka,wsA,ws]) (Vj (by simp)),⟨hMs,hQ,by simp only;omega,by simp only;omega,by simpa using hpJ⟩,by simp only;omega⟩
    .have hd' : ¬(bs:Int)<(l.length:Int):=by omega
     simp only [go_sem,hr,hi,hg,hd'];refine hK _ hpK ?_;match Ks,hKs,lK,hpl2 with
     | [],_,_,_=>exact hQ
     | [X],hKs,lK,hpl2=>
      have:Q=[]:=List.length_eq_zero_iff.1 (by simp only [List.length_singleton,Nat.mul_one]at hpl2;omega)
      rw [this];simp only [List.flatten_cons,List.flatten_nil,List.append_nil];exact(hKs X (by simp)).2
     | X::Y::Ks,hKs,lK,hpl2=>
      exfalso;simp only [List.length_cons]at hpl2;have h2:bs*2<=bs*(Ks.length+1+1):=Nat.mul_le_mul_left _ (by omega)
      omega
end Go.Abs
end
section
namespace Go.Abs
open Go.Num
variable {P:Program} {Γ:Nat->Spec}
set_option maxHeartbeats 4000000 in
theorem xaG(hΓ:Holds P Γ){f fr fs fc N:Nat}(hro:Γ fr=.own (yE fc))(hs:Γ fs=.own (ki fc N))(hcm:Γ fc=.dat true Ww)(hc:check P f=some (220,(Jb fr fs).strip,[])):Sound P f (.own (ki fc (N+1))):=by
 refine Vg hc hΓ (λd args h K hG=>?_);unfold ki at hG;split at hG
 case h_2=>exact hG.elim
 rename_i r ver len x1 x2 x3 c;obtain⟨U,A,B,V,rfl,hx1,hx2,hx3,hA0,hB0,hN,hlen,hlen2,hroom,hoA,hoB,hsA,hsB,hr,hK⟩:=hG;obtain⟨D,hD⟩:∃D,D=U++A++B++V:=⟨_,rfl⟩;rw [<-hD]at hr;have hDl:D.length=U.length+A.length+B.length+V.length:=by rw [hD];simp [Nat.add_assoc]
 have hAp:=List.length_pos_iff.2 hA0;have hBp:=List.length_pos_iff.2 hB0;have gA:∀k i,k=U.length+i->i<A.length->D.getD k mo0=A.getD i mo0:=by
  intro k i h1 h2;rw [hD,List.append_assoc (U++A)];exact getLM U A (B++V) h1 h2
 have gB:∀k i,k=U.length+A.length+i->i<B.length->D.getD k mo0=B.getD i mo0:=by
  intro k i h1 h2;rw [hD];exact getLM (U++A) B V (by rw [List.length_append];exact h1) h2
 have okD:∀k,U.length<=k->k<U.length+A.length+B.length->okM (D.getD k mo0):=by
  intro k h1 h2;by_cases h3:k<U.length+A.length
  .rw [gA k (k-U.length) (by omega) (by omega)]
   exact Xay hoA (by omega)
  .rw [gB k (k-U.length-A.length) (by omega) (by omega)]
   exact Xay hoB (by omega)
 refine⟨[r],[⟨D.map mC,5,true⟩],[.one (.own 1048576 ver 5 0 len),.one (.lit (.int .i64 x1)),.one (.lit (.int .i64 x2)),.one (.lit (.int .i64 x3)),fnV fc],by simp,rfl,?_,?_,?_,λhfi=>⟨by simp,?_⟩⟩
 .intro i r' b h1 h2;cases i with
  | zero=>simp only [List.getElem?_cons_zero,Option.some.injEq]at h1 h2;subst h1 h2;exact⟨by rw [hr],rfl,of_eq_true (uf _)⟩
  | succ i=>simp at h1
 .simp [exA,exC,exB,nameOf,pinA,fnV]
 .intro a ha;simp only [List.mem_cons,List.not_mem_nil,or_false]at ha;rcases ha with rfl | rfl | rfl | rfl | rfl
  .simp [pasA,pasC,pasB,nameOf,pinA]
  .exact .lit _
  .exact .lit _
  .exact .lit _
  .exact .lit _
 by_cases c1:A.length=1
 .have n1:x2-x1=1:=by omega
  simp only [go_sem,Jb,hr,fnV,hro,hs,hcm,n1];obtain⟨x,hx⟩:∃x,D.getD U.length mo0=x:=⟨_,rfl⟩;refine⟨by omega,?_⟩
  refine Xa (λp:Nat×Nat=>⟨mkV [(0,.one (.own 1048576 ver 5 0 len)),(1,.one (.lit (.int .i64 x1))),(4,.one (.lit (.func (.func fc) ⟨[]⟩ ⟨[]⟩))),(10,.one (.lit (.int .i64 p.1))),(11,.one (.lit (.int .i64 p.2)))],mkH [(1048576,⟨ver,some ⟨D.map mC,5,true⟩⟩)]⟩)
   (λp=>x2<=p.1/\p.1<=p.2/\p.2<=x3/\(x2<p.1->kM (D.getD (p.1-1) mo0)<=kM x)/\(p.2<x3->kM x<=kM (D.getD p.2 mo0))) (λp=>p.2-p.1) (x2.toNat,x3.toNat) ?_ ?_ ?_
  .exact Qa (by simp [okS,okV,okC,okL,okH,okB,okE,ja,Va,qa,ka,wsA,ws];omega) (Vj rfl)
  .exact⟨by simp only;omega,by simp only;omega,by simp only;omega,λh=>by simp only at h;omega,λh=>by simp only at h;omega⟩
  .rintro⟨i,j⟩ ⟨h1,h2,h3,h4,h5⟩;simp only at h1 h2 h3 h4 h5;by_cases hij:i<j
   .have hij' : (i:Int)<(j:Int):=by omega
    obtain⟨k,hk⟩:∃k,k=(i+j) / 2:=⟨_,rfl⟩;have hk' : (i:Int)+(j:Int)=((i+j:Nat):Int):=by omega
    have ok1:=okD k (by omega) (by omega)
    have ok2:=okD U.length (by omega) (by omega)
    rw [hx]at ok2;obtain⟨y,hy⟩:∃y,D.getD k mo0=y:=⟨_,rfl⟩;rw [hy]at ok1;have hkk:(i+j) % 18446744073709551616 / 2=k:=by omega
    simp only [go_sem,hr,hro,hs,hcm,hij',hk',hkk,hx1,hx,hy,ok1.1,ok1.2,ok2.1,ok2.2,JK];refine⟨by omega,by omega,by omega,by omega,by omega,by omega,by omega,λhlt=>⟨by omega,(k+1,j),Qa (by simp [okS,okV,okC,okL,okH,okB,okE,ja,Va,qa,ka,wsA,ws]) (Vj rfl),⟨by simp only;omega,by simp only;omega,by simp only;omega,λ_=>?_,h5⟩,by simp only;omega⟩,λhge=>⟨(i,k),Qa (by simp [okS,okV,okC,okL,okH,okB,okE,ja,Va,qa,ka,wsA,ws]) (Vj rfl),⟨by simp only;omega,by simp only;omega,by simp only;omega,h4,λ_=>?_⟩,by simp only;omega⟩⟩
    .simp only [Nat.add_sub_cancel];rw [hy];exact Nat.le_of_lt hlt
    .simp only;rw [hy];exact Nat.not_lt.1 hge
   .obtain rfl:i=j:=by omega
    have hij' : ¬(i:Int)<(i:Int):=by omega
    simp only [go_sem,hr,hro,hs,hcm,hij'];obtain⟨t,ht⟩:∃t,t=i-(U.length+1):=⟨_,rfl⟩;obtain⟨B1,hB1⟩:∃B1,B1=B.take t:=⟨_,rfl⟩;obtain⟨B2,hB2⟩:∃B2,B2=B.drop t:=⟨_,rfl⟩;have hB12:B=B1++B2:=by rw [hB1,hB2,List.take_append_drop]
    have lB1:B1.length=t:=by rw [hB1,List.length_take];omega
    have hAx:A=[x]:=by
     match A,c1 with
     | [z],_=>
      have:=gA U.length 0 (by omega) (by simp)
      rw [hx]at this;simpa using this.symm
    refine Xa (λp:List Mo×List Mo=>⟨mkV [(0,.one (.own 1048576 ver 5 0 len)),(10,.one (.lit (.int .i64 i))),(13,.one (.lit (.int .i64 (U.length+p.1.length:Nat))))],mkH [(1048576,⟨ver,some ⟨(U++(p.1++x::p.2)++B2++V).map mC,5,true⟩⟩)]⟩)
     (λp=>B1=p.1++p.2) (λp=>p.2.length) ([],B1) ?_ ?_ ?_
    .exact Qa (by simp [okS,okV,okC,okL,okH,okB,okE,ja,Va,qa,ka,wsA,ws];omega) (Vj (by rw [hD,hAx,hB12];simp))
    .rfl
    .rintro⟨V1,V2⟩ hV;simp only at hV;have lV:=congrArg List.length hV;rw [List.length_append]at lV;have n2:(i:Int)-1=((U.length+t:Nat):Int):=by omega
     rcases V2 with _ | ⟨y,V2⟩
     .have hlt:¬((U.length+V1.length:Nat):Int)<((U.length+t:Nat):Int):=by simp only [List.length_nil]at lV;omega
      simp only [go_sem,hr,n2,hlt];rw [List.append_nil]at hV;subst hV;have hKK:=hK (B1++x::B2) ?_ ?_
      .have e:U++(B1++[x])++B2++V=U++(B1++x::B2)++V:=by simp
       rw [e];exact⟨by omega,hKK⟩
      .rw [hAx,hB12];show(x::(B1++B2)).Perm _;exact List.perm_middle.symm
      .refine Ux (by rw [hB1];exact Qy (B:=B.drop t) (by rw [List.take_append_drop];exact hsB)) (List.pairwise_cons.2 ⟨?_,by rw [hB2];exact Vu (A:=B.take t) (by rw [List.take_append_drop];exact hsB)⟩) ?_
       .intro z hz;rw [hB2]at hz;by_cases htl:t<B.length
        .refine qJ hsB htl ?_ z hz;rw [<-gB i t (by omega) htl]
         exact h5 (by omega)
        .rw [List.drop_of_length_le (by omega)]at hz;simp at hz
       .have hle:∀z∈B1,kM z<=kM x:=by
         intro z hz;by_cases ht0:0<t
         .rw [hB1]at hz;refine WI hsB ht0 (by omega) ?_ z hz
          rw [<-gB (i-1) (t-1) (by omega) (by omega)]
          exact h4 (by omega)
         .have:B1=[]:=List.length_eq_zero_iff.1 (by omega)
          rw [this]at hz;simp at hz
        intro z hz w hw;rcases List.mem_cons.1 hw with rfl | hw
        .exact hle z hz
        .rw [hB12]at hsB;exact Wu hsB z hz w hw
     .rw [List.length_cons]at lV;have hlt:((U.length+V1.length:Nat):Int)<((U.length+t:Nat):Int):=by omega
      obtain⟨E,hE⟩:∃E,E=U++(V1++x::y::V2)++B2++V:=⟨_,rfl⟩;have lE:E.length=D.length:=by
       rw [hE,hDl,c1];have:=congrArg List.length hB12;simp only [List.length_append,List.length_cons]at this ⊢;omega
      obtain⟨k,hk⟩:∃k,k=U.length+V1.length:=⟨_,rfl⟩;have e1:E=(U++V1)++x::(y::V2++B2++V):=by rw [hE];simp
      have e2:E=(U++V1++[x])++y::(V2++B2++V):=by rw [hE];simp
      have g1:E.getD k mo0=x:=by rw [e1];exact getMM _ _ _ _ (by simp;omega)
      have g2:E.getD (k+1) mo0=y:=by rw [e2];exact getMM _ _ _ _ (by simp;omega)
      have b1:k<len:=by omega
      have b2:k+1<len:=by omega
      have q1:k<E.length:=by omega
      have q2:k+1<E.length:=by omega
      have s1:(E.set k y).set (k+1) x=U++((V1++[y])++x::V2)++B2++V:=by
       have:E.set k y=(U++V1)++y::(y::V2++B2++V):=by rw [e1];exact setMM _ _ _ _ (by simp;omega)
       rw [this];have:(U++V1)++y::(y::V2++B2++V)=(U++V1++[y])++y::(V2++B2++V):=by simp
       rw [this,setMM _ _ _ _ (by simp;omega)]
       simp
      simp only [<-hE,<-hk]at hlt ⊢;simp only [go_sem,hr,n2,hlt,g1,g2,b1,b2,q1,q2,s1,List.length_set];refine⟨by omega,by omega,by omega,by omega,(V1++[y],V2),Qa (by simp [okS,okV,okC,okL,okH,okB,okE,ja,Va,qa,ka,wsA,ws];omega) (Vj rfl),by simp only;rw [hV];simp,by simp only;omega⟩
 by_cases c2:B.length=1
 .have n1:¬x2-x1=1:=by omega
  have n2:x3-x2=1:=by omega
  obtain⟨m0,hm0⟩:∃m0,m0=U.length+A.length:=⟨_,rfl⟩;have hx2' : x2=(m0:Int):=by omega
  simp only [go_sem,Jb,hr,fnV,hro,hs,hcm,n1,n2];obtain⟨x,hx⟩:∃x,D.getD m0 mo0=x:=⟨_,rfl⟩;refine⟨by omega,by omega,?_⟩
  refine Xa (λp:Nat×Nat=>⟨mkV [(0,.one (.own 1048576 ver 5 0 len)),(2,.one (.lit (.int .i64 x2))),(4,.one (.lit (.func (.func fc) ⟨[]⟩ ⟨[]⟩))),(14,.one (.lit (.int .i64 p.1))),(15,.one (.lit (.int .i64 p.2)))],mkH [(1048576,⟨ver,some ⟨D.map mC,5,true⟩⟩)]⟩)
   (λp=>x1<=p.1/\p.1<=p.2/\p.2<=x2/\(x1<p.1->kM (D.getD (p.1-1) mo0)<=kM x)/\(p.2<x2->kM x<=kM (D.getD p.2 mo0))) (λp=>p.2-p.1) (x1.toNat,x2.toNat) ?_ ?_ ?_
  .exact Qa (by simp [okS,okV,okC,okL,okH,okB,okE,ja,Va,qa,ka,wsA,ws];omega) (Vj rfl)
  .exact⟨by simp only;omega,by simp only;omega,by simp only;omega,λh=>by simp only at h;omega,λh=>by simp only at h;omega⟩
  .rintro⟨i,j⟩ ⟨h1,h2,h3,h4,h5⟩;simp only at h1 h2 h3 h4 h5;by_cases hij:i<j
   .have hij' : (i:Int)<(j:Int):=by omega
    obtain⟨k,hk⟩:∃k,k=(i+j) / 2:=⟨_,rfl⟩;have hk' : (i:Int)+(j:Int)=((i+j:Nat):Int):=by omega
    have ok1:=okD k (by omega) (by omega)
    have ok2:=okD m0 (by omega) (by omega)
    rw [hx]at ok2;obtain⟨y,hy⟩:∃y,D.getD k mo0=y:=⟨_,rfl⟩;rw [hy]at ok1;have hkk:(i+j) % 18446744073709551616 / 2=k:=by omega
    simp only [go_sem,hr,hro,hs,hcm,hij',hk',hkk,hx2',hx,hy,ok1.1,ok1.2,ok2.1,ok2.2,JK];refine⟨by omega,by omega,by omega,by omega,by omega,by omega,by omega,λhlt=>⟨(i,k),Qa (by simp [okS,okV,okC,okL,okH,okB,okE,ja,Va,qa,ka,wsA,ws]) (Vj rfl),⟨by simp only;omega,by simp only;omega,by simp only;omega,h4,λ_=>?_⟩,by simp only;omega⟩,λhge=>⟨by omega,(k+1,j),Qa (by simp [okS,okV,okC,okL,okH,okB,okE,ja,Va,qa,ka,wsA,ws]) (Vj rfl),⟨by simp only;omega,by simp only;omega,by simp only;omega,λ_=>?_,λh=>h5 (by simp only at h;omega)⟩,by simp only;omega⟩⟩
    .simp only;rw [hy];exact Nat.le_of_lt hlt
    .simp only [Nat.add_sub_cancel];rw [hy];exact Nat.not_lt.1 hge
   .obtain rfl:i=j:=by omega
    have hij' : ¬(i:Int)<(i:Int):=by omega
    simp only [go_sem,hr,hro,hs,hcm,hij'];obtain⟨t,ht⟩:∃t,t=i-U.length:=⟨_,rfl⟩;obtain⟨A1,hA1⟩:∃A1,A1=A.take t:=⟨_,rfl⟩;obtain⟨A2,hA2⟩:∃A2,A2=A.drop t:=⟨_,rfl⟩;have hA12:A=A1++A2:=by rw [hA1,hA2,List.take_append_drop]
    have lA1:A1.length=t:=by rw [hA1,List.length_take];omega
    have lA12:=congrArg List.length hA12;rw [List.length_append]at lA12;have hBx:B=[x]:=by
     match B,c2 with
     | [z],_=>
      have:=gB m0 0 (by omega) (by simp)
      rw [hx]at this;simpa using this.symm
    refine Xa (λp:List Mo×List Mo=>⟨mkV [(0,.one (.own 1048576 ver 5 0 len)),(14,.one (.lit (.int .i64 i))),(17,.one (.lit (.int .i64 (i+p.1.length:Nat))))],mkH [(1048576,⟨ver,some ⟨(U++A1++(p.1++x::p.2)++V).map mC,5,true⟩⟩)]⟩)
     (λp=>A2=p.1++p.2) (λp=>p.1.length) (A2,[]) ?_ ?_ ?_
    .exact Qa (by simp [okS,okV,okC,okL,okH,okB,okE,ja,Va,qa,ka,wsA,ws];omega) (Vj (by rw [hD,hBx,hA12];simp))
    .simp
    .rintro⟨V1,V2⟩ hV;simp only at hV;have lV:=congrArg List.length hV;rw [List.length_append]at lV;rcases List.eq_nil_or_concat V1 with rfl | ⟨V1',y,rfl⟩
     .have hlt:¬(i:Int)<((i+([]:List Mo).length:Nat):Int):=by simp
      simp only [go_sem,hr,Nat.add_zero,Nat.lt_irrefl];rw [List.nil_append]at hV;subst hV;have hKK:=hK (A1++x::A2) ?_ ?_
      .have e:U++A1++x::A2++V=U++(A1++x::A2)++V:=by simp
       simp only [List.append_assoc,List.cons_append]at hKK ⊢;exact hKK
      .rw [hBx,hA12,List.append_assoc];refine List.Perm.append_left _ ?_;exact(List.perm_append_comm (l₁:=A2) (l₂:=[x]))
      .refine Ux (by rw [hA1];exact Qy (B:=A.drop t) (by rw [List.take_append_drop];exact hsA)) (List.pairwise_cons.2 ⟨?_,by rw [hA2];exact Vu (A:=A.take t) (by rw [List.take_append_drop];exact hsA)⟩) ?_
       .intro z hz;rw [hA2]at hz;by_cases htl:t<A.length
        .refine qJ hsA htl ?_ z hz;rw [<-gA i t (by omega) htl]
         exact h5 (by omega)
        .rw [List.drop_of_length_le (by omega)]at hz;simp at hz
       .have hle:∀z∈A1,kM z<=kM x:=by
         intro z hz;by_cases ht0:0<t
         .rw [hA1]at hz;refine WI hsA ht0 (by omega) ?_ z hz
          rw [<-gA (i-1) (t-1) (by omega) (by omega)]
          exact h4 (by omega)
         .have:A1=[]:=List.length_eq_zero_iff.1 (by omega)
          rw [this]at hz;simp at hz
        intro z hz w hw;rcases List.mem_cons.1 hw with rfl | hw
        .exact hle z hz
        .rw [hA12]at hsA;exact Wu hsA z hz w hw
     .rw [List.concat_eq_append]at *
      rw [List.length_append,List.length_singleton]at lV;obtain⟨k,hk⟩:∃k,k=i+V1'.length:=⟨_,rfl⟩;have hk1:i+(V1'++[y]).length=k+1:=by simp;omega
      have hlt:i<k+1:=by omega
      have n3:((k+1:Nat):Int)-1=(k:Int):=by omega
      obtain⟨E,hE⟩:∃E,E=U++A1++(V1'++[y]++x::V2)++V:=⟨_,rfl⟩;have lE:E.length=D.length:=by
       rw [hE,hDl,c2];simp only [List.length_append,List.length_cons,List.length_nil];omega
      have e1:E=(U++A1++V1')++y::(x::V2++V):=by rw [hE];simp
      have e2:E=(U++A1++V1'++[y])++x::(V2++V):=by rw [hE];simp
      have g1:E.getD k mo0=y:=by rw [e1];exact getMM _ _ _ _ (by simp;omega)
      have g2:E.getD (k+1) mo0=x:=by rw [e2];exact getMM _ _ _ _ (by simp;omega)
      have b1:k<len:=by omega
      have b2:k+1<len:=by omega
      have q1:k<E.length:=by omega
      have q2:k+1<E.length:=by omega
      have s1:(E.set (k+1) y).set k x=U++A1++(V1'++x::(y::V2))++V:=by
       have:E.set (k+1) y=(U++A1++V1'++[y])++y::(V2++V):=by rw [e2];exact setMM _ _ _ _ (by simp;omega)
       rw [this];have:(U++A1++V1'++[y])++y::(V2++V)=(U++A1++V1')++y::(y::V2++V):=by simp
       rw [this,setMM _ _ _ _ (by simp;omega)]
       simp
      simp only [<-hE,hk1];simp only [go_sem,hr,n3,hlt,g1,g2,b1,b2,q1,q2,s1,List.length_set];refine⟨by omega,by omega,by omega,(V1',y::V2),Qa (by simp [okS,okV,okC,okL,okH,okB,okE,ja,Va,qa,ka,wsA,ws];omega) (Vj rfl),by simp only;rw [hV];simp,by simp⟩
 obtain⟨m0,hm0⟩:∃m0,m0=U.length+A.length:=⟨_,rfl⟩;obtain⟨b0,hb0⟩:∃b0,b0=U.length+A.length+B.length:=⟨_,rfl⟩;have hx2' : x2=(m0:Int):=by omega
 have hx3' : x3=(b0:Int):=by omega
 have n1:¬(m0:Int)-(U.length:Int)=1:=by omega
 have n2:¬(b0:Int)-(m0:Int)=1:=by omega
 obtain⟨md,hmd⟩:∃md,md=(U.length+b0) / 2:=⟨_,rfl⟩;have n3:(U.length:Int)+(b0:Int)=((U.length+b0:Nat):Int):=by omega
 have n4:(U.length+b0) % 18446744073709551616 / 2=md:=by omega
 have n5:(md:Int)+(m0:Int)=((md+m0:Nat):Int):=by omega
 rcases Nat.lt_or_ge md m0 with hgt | hgt
 case' inl=>
  have hgt' : (md:Int)<(m0:Int):=by omega
  simp only [go_sem,Jb,hr,fnV,hro,hs,hcm,hx1,hx2',hx3',n1,n2,n3,n4,n5,hgt'];obtain⟨st0,hst⟩:∃st0,st0=md+m0-b0:=⟨_,rfl⟩;obtain⟨r0,hr0⟩:∃r0,r0=md:=⟨_,rfl⟩;refine⟨by omega,by omega,by omega,by omega,by omega,by omega,by omega,by omega,?_⟩
 case' inr=>
  have hgt' : ¬(md:Int)<(m0:Int):=by omega
  simp only [go_sem,Jb,hr,fnV,hro,hs,hcm,hx1,hx2',hx3',n1,n2,n3,n4,n5,hgt'];obtain⟨st0,hst⟩:∃st0,st0=U.length:=⟨_,rfl⟩;obtain⟨r0,hr0⟩:∃r0,r0=m0:=⟨_,rfl⟩;refine⟨by omega,by omega,by omega,by omega,by omega,by omega,by omega,?_⟩
 all_goals
  have f1:U.length<=st0/\st0<=r0/\r0<=m0/\r0<=md/\md+m0<=b0+st0:=by omega
  have f2:st0=U.length∨md+m0=b0+st0:=by omega
  have f3:r0=m0∨r0=md:=by omega
  have n7:((md+m0:Nat):Int)-1=((md+m0-1:Nat):Int):=by omega
  refine Xa (λp:Nat×Nat=>⟨mkV [(0,.one (.own 1048576 ver 5 0 len)),(1,.one (.lit (.int .i64 U.length))),(2,.one (.lit (.int .i64 m0))),(3,.one (.lit (.int .i64 b0))),(4,.one (.lit (.func (.func fc) ⟨[]⟩ ⟨[]⟩))),(18,.one (.lit (.int .i64 md))),(19,.one (.lit (.int .i64 (md+m0:Nat)))),(20,.one (.lit (.int .i64 p.1))),(21,.one (.lit (.int .i64 p.2))),(22,.one (.lit (.int .i64 (md+m0-1:Nat))))],mkH [(1048576,⟨ver,some ⟨D.map mC,5,true⟩⟩)]⟩)
   (λp=>st0<=p.1/\p.1<=p.2/\p.2<=r0/\(st0<p.1->kM (D.getD (p.1-1) mo0)<=kM (D.getD (md+m0-p.1) mo0))/\(p.2<r0->kM (D.getD (md+m0-1-p.2) mo0)<=kM (D.getD p.2 mo0))) (λp=>p.2-p.1) (st0,r0) ?_ ?_ ?_
  .exact Qa (by simp [okS,okV,okC,okL,okH,okB,okE,ja,Va,qa,ka,wsA,ws];omega) (Vj rfl)
  .exact⟨by simp only;omega,by simp only;omega,by simp only;omega,λh=>by simp only at h;omega,λh=>by simp only at h;omega⟩
  .rintro⟨i,j⟩ ⟨h1,h2,h3,h4,h5⟩;simp only at h1 h2 h3 h4 h5;by_cases hij:i<j
   .have hij' : (i:Int)<(j:Int):=by omega
    obtain⟨k,hk⟩:∃k,k=(i+j) / 2:=⟨_,rfl⟩;have hk' : (i:Int)+(j:Int)=((i+j:Nat):Int):=by omega
    have hkk:(i+j) % 18446744073709551616 / 2=k:=by omega
    obtain⟨q,hq⟩:∃q,q=md+m0-1-k:=⟨_,rfl⟩;have hq' : ((md+m0-1:Nat):Int)-(k:Int)=(q:Int):=by omega
    have ok1:=okD k (by omega) (by omega)
    have ok2:=okD q (by omega) (by omega)
    obtain⟨y,hy⟩:∃y,D.getD k mo0=y:=⟨_,rfl⟩;obtain⟨z,hz⟩:∃z,D.getD q mo0=z:=⟨_,rfl⟩;rw [hy]at ok1;rw [hz]at ok2;have q1:k<len:=by omega
    have q2:q<len:=by omega
    have q3:k<D.length:=by omega
    have q4:q<D.length:=by omega
    simp only [go_sem,hr,hro,hs,hcm,hij',hk',hkk,hq',hy,hz,ok1.1,ok1.2,ok2.1,ok2.2,JK,q1,q2,q3,q4];refine⟨by omega,by omega,by omega,by omega,λhlt=>⟨(i,k),Qa (by simp [okS,okV,okC,okL,okH,okB,okE,ja,Va,qa,ka,wsA,ws]) (Vj rfl),⟨by simp only;omega,by simp only;omega,by simp only;omega,h4,λ_=>?_⟩,by simp only;omega⟩,λhge=>⟨by omega,(k+1,j),Qa (by simp [okS,okV,okC,okL,okH,okB,okE,ja,Va,qa,ka,wsA,ws]) (Vj rfl),⟨by simp only;omega,by simp only;omega,by simp only;omega,λ_=>?_,h5⟩,by simp only;omega⟩⟩
    .simp only;rw [<-hq,hy,hz];exact Nat.le_of_lt hlt
    .simp only [Nat.add_sub_cancel];have e:md+m0-(k+1)=q:=by omega
     rw [e,hy,hz];exact Nat.not_lt.1 hge
   .obtain rfl:i=j:=by omega
    have hij' : ¬(i:Int)<(i:Int):=by omega
    obtain⟨e,he⟩:∃e,e=md+m0-i:=⟨_,rfl⟩;have he' : ((md+m0:Nat):Int)-(i:Int)=(e:Int):=by omega
    obtain⟨t,ht⟩:∃t,t=i-U.length:=⟨_,rfl⟩;obtain⟨u,hu⟩:∃u,u=e-m0:=⟨_,rfl⟩;obtain⟨A1,hA1⟩:∃A1,A1=A.take t:=⟨_,rfl⟩;obtain⟨A2,hA2⟩:∃A2,A2=A.drop t:=⟨_,rfl⟩;obtain⟨B1,hB1⟩:∃B1,B1=B.take u:=⟨_,rfl⟩;obtain⟨B2,hB2⟩:∃B2,B2=B.drop u:=⟨_,rfl⟩;have hA12:A=A1++A2:=by rw [hA1,hA2,List.take_append_drop]
    have hB12:B=B1++B2:=by rw [hB1,hB2,List.take_append_drop]
    have lA1:A1.length=t:=by rw [hA1,List.length_take];omega
    have lB1:B1.length=u:=by rw [hB1,List.length_take];omega
    have lA2:A2.length=A.length-t:=by rw [hA2,List.length_drop]
    have lB2:B2.length=B.length-u:=by rw [hB2,List.length_drop]
    have X1:∀x∈A1,∀y∈B2,kM x<=kM y:=by
     intro x hx y hy;have l1:=List.length_pos_of_mem hx;have l2:=List.length_pos_of_mem hy;have hle:=h4 (by omega)
     rw [gA (i-1) (t-1) (by omega) (by omega),gB (md+m0-i) u (by omega) (by omega)]at hle
     rw [hA1]at hx;rw [hB2]at hy;exact Nat.le_trans (WI hsA (by omega) (by omega) hle x hx) (qJ hsB (by omega) (Nat.le_refl _) y hy)
    have X2:∀x∈B1,∀y∈A2,kM x<=kM y:=by
     intro x hx y hy;have l1:=List.length_pos_of_mem hx;have l2:=List.length_pos_of_mem hy;have hle:=h5 (by omega)
     rw [gA i t (by omega) (by omega),gB (md+m0-1-i) (u-1) (by omega) (by omega)]at hle
     rw [hB1]at hx;rw [hA2]at hy;exact Nat.le_trans (WI hsB (by omega) (by omega) hle x hx) (qJ hsA (by omega) (Nat.le_refl _) y hy)
    have sA1:SortM A1:=by rw [hA12]at hsA;exact Qy hsA
    have sA2:SortM A2:=by rw [hA12]at hsA;exact Vu hsA
    have sB1:SortM B1:=by rw [hB12]at hsB;exact Qy hsB
    have sB2:SortM B2:=by rw [hB12]at hsB;exact Vu hsB
    have oA1:okMs A1:=by rw [hA12]at hoA;exact(Yh.1 hoA).1
    have oA2:okMs A2:=by rw [hA12]at hoA;exact(Yh.1 hoA).2
    have oB1:okMs B1:=by rw [hB12]at hoB;exact(Yh.1 hoB).1
    have oB2:okMs B2:=by rw [hB12]at hoB;exact(Yh.1 hoB).2
    have XA:=λx hx y hy=>Wu (A:=A1) (B:=A2) (hA12▸hsA) x hx y hy;have XB:=λx hx y hy=>Wu (A:=B1) (B:=B2) (hB12▸hsB) x hx y hy;have hp0:(A++B).Perm ((A1++B1)++(A2++B2)):=by
     rw [hA12,hB12];simp only [List.append_assoc];refine List.Perm.append_left _ ?_;rw [<-List.append_assoc,<-List.append_assoc];exact List.Perm.append_right _ List.perm_append_comm
    have fin:∀C1 C2:List Mo,(A1++B1).Perm C1->SortM C1->(A2++B2).Perm C2->SortM C2->K (.tup []) (upd h r ⟨ver,some ⟨(U++C1++C2++V).map mC,5,true⟩⟩):=by
     intro C1 C2 p1 s1 p2 s2;have:=hK (C1++C2) (hp0.trans (p1.append p2)) (Ux s1 s2 λx hx y hy=>by
      have hx':=p1.mem_iff.2 hx;have hy':=p2.mem_iff.2 hy;rcases List.mem_append.1 hx' with hx' | hx' <;> rcases List.mem_append.1 hy' with hy' | hy'
      .exact XA x hx' y hy'
      .exact X1 x hx' y hy'
      .exact X2 x hx' y hy'
      .exact XB x hx' y hy')
     rw [<-List.append_assoc]at this;exact this
    by_cases hrot:i<m0/\m0<e
    .have w1:(i:Int)<(m0:Int):=by omega
     have w2:(m0:Int)<(e:Int):=by omega
     simp only [go_sem,hr,hro,hs,hcm,hij',he',w1,w2];refine⟨by omega,?_⟩
     simp only [yE];refine⟨U++A1,A2,B1,B2++V,rfl,by simp;omega,by simp;omega,by simp;omega,λh=>?_,λh=>?_,by simp;omega,by simp;omega,by omega,by simp [qa,hD,hA12,hB12],?_⟩
     .have:=List.length_eq_zero_iff.2 h;omega
     .have:=List.length_eq_zero_iff.2 h;omega
     have eS:U++A1++B1++A2++(B2++V)=U++(A1++B1)++(A2++B2)++V:=by simp
     rw [eS];simp only [go_sem,hr,hro,hs,hcm];refine⟨λq1=>⟨λq2=>?_,λq2=>?_⟩,λq1=>?_⟩
     .simp only [ki];refine⟨U,A1,B1,(A2++B2)++V,rfl,rfl,by omega,by omega,λh=>?_,λh=>?_,by omega,by omega,by simp;omega,by omega,oA1,oB1,sA1,sB1,by simp [qa],λC1 p1 s1=>?_⟩
      .have:=List.length_eq_zero_iff.2 h;omega
      .have:=List.length_eq_zero_iff.2 h;omega
      have lC1:=p1.length_eq;rw [List.length_append]at lC1;try simp only [go_sem,hr]
      refine⟨λq3=>⟨λq4=>?_,λq4=>?_⟩,λq3=>?_⟩
      .try simp only [ki]
       refine⟨U++C1,A2,B2,V,rfl,by simp;omega,by simp;omega,by simp;omega,λh=>?_,λh=>?_,by omega,by simp;omega,by simp;omega,by omega,oA2,oB2,sA2,sB2,by simp [qa],λC2 p2 s2=>?_⟩
       .have:=List.length_eq_zero_iff.2 h;omega
       .have:=List.length_eq_zero_iff.2 h;omega
       try simp only [go_sem,hr]
       exact fin C1 C2 p1 s1 p2 s2
      .have s2:SortM (A2++B2):=by
        have:B2=[]:=List.length_eq_zero_iff.1 (by omega)
        rw [this,List.append_nil];exact sA2
       have:=fin C1 (A2++B2) p1 s1 (List.Perm.refl _) s2;simpa only [List.append_assoc] using this
      .have s2:SortM (A2++B2):=by
        have:A2=[]:=List.length_eq_zero_iff.1 (by omega)
        rw [this,List.nil_append];exact sB2
       have:=fin C1 (A2++B2) p1 s1 (List.Perm.refl _) s2;simpa only [List.append_assoc] using this
     .obtain⟨C1,hC1⟩:∃C1,C1=A1++B1:=⟨_,rfl⟩;have p1:(A1++B1).Perm C1:=by rw [hC1]
      have s1:SortM C1:=by
       have:B1=[]:=List.length_eq_zero_iff.1 (by omega)
       rw [hC1,this,List.append_nil];exact sA1
      have lC1:=p1.length_eq;rw [List.length_append]at lC1;rw [<-hC1];refine⟨λq3=>⟨λq4=>?_,λq4=>?_⟩,λq3=>?_⟩
      .try simp only [ki]
       refine⟨U++C1,A2,B2,V,rfl,by simp;omega,by simp;omega,by simp;omega,λh=>?_,λh=>?_,by omega,by simp;omega,by simp;omega,by omega,oA2,oB2,sA2,sB2,by simp [qa],λC2 p2 s2=>?_⟩
       .have:=List.length_eq_zero_iff.2 h;omega
       .have:=List.length_eq_zero_iff.2 h;omega
       try simp only [go_sem,hr]
       exact fin C1 C2 p1 s1 p2 s2
      .have s2:SortM (A2++B2):=by
        have:B2=[]:=List.length_eq_zero_iff.1 (by omega)
        rw [this,List.append_nil];exact sA2
       have:=fin C1 (A2++B2) p1 s1 (List.Perm.refl _) s2;simpa only [List.append_assoc] using this
      .have s2:SortM (A2++B2):=by
        have:A2=[]:=List.length_eq_zero_iff.1 (by omega)
        rw [this,List.nil_append];exact sB2
       have:=fin C1 (A2++B2) p1 s1 (List.Perm.refl _) s2;simpa only [List.append_assoc] using this
     .obtain⟨C1,hC1⟩:∃C1,C1=A1++B1:=⟨_,rfl⟩;have p1:(A1++B1).Perm C1:=by rw [hC1]
      have s1:SortM C1:=by
       have:A1=[]:=List.length_eq_zero_iff.1 (by omega)
       rw [hC1,this,List.nil_append];exact sB1
      have lC1:=p1.length_eq;rw [List.length_append]at lC1;rw [<-hC1];refine⟨λq3=>⟨λq4=>?_,λq4=>?_⟩,λq3=>?_⟩
      .try simp only [ki]
       refine⟨U++C1,A2,B2,V,rfl,by simp;omega,by simp;omega,by simp;omega,λh=>?_,λh=>?_,by omega,by simp;omega,by simp;omega,by omega,oA2,oB2,sA2,sB2,by simp [qa],λC2 p2 s2=>?_⟩
       .have:=List.length_eq_zero_iff.2 h;omega
       .have:=List.length_eq_zero_iff.2 h;omega
       try simp only [go_sem,hr]
       exact fin C1 C2 p1 s1 p2 s2
      .have s2:SortM (A2++B2):=by
        have:B2=[]:=List.length_eq_zero_iff.1 (by omega)
        rw [this,List.append_nil];exact sA2
       have:=fin C1 (A2++B2) p1 s1 (List.Perm.refl _) s2;simpa only [List.append_assoc] using this
      .have s2:SortM (A2++B2):=by
        have:A2=[]:=List.length_eq_zero_iff.1 (by omega)
        rw [this,List.nil_append];exact sB2
       have:=fin C1 (A2++B2) p1 s1 (List.Perm.refl _) s2;simpa only [List.append_assoc] using this
    .have eS:D=U++(A1++B1)++(A2++B2)++V:=by
      rw [hD,hA12,hB12];rcases Nat.lt_or_ge i m0 with hh | hh
      .have:B1=[]:=List.length_eq_zero_iff.1 (by omega)
       rw [this];simp
      .have:A2=[]:=List.length_eq_zero_iff.1 (by omega)
       rw [this];simp
     rw [eS];rcases Nat.lt_or_ge i m0 with hh | hh
     case' inl=>
      have w1:(i:Int)<(m0:Int):=by omega
      have w2:¬(m0:Int)<(e:Int):=by omega
      simp only [go_sem,hr,hro,hs,hcm,hij',he',w1,w2];refine⟨by omega,?_⟩
     case' inr=>
      have w1:¬(i:Int)<(m0:Int):=by omega
      simp only [go_sem,hr,hro,hs,hcm,hij',he',w1];refine⟨by omega,?_⟩
     all_goals
      refine⟨λq1=>⟨λq2=>?_,λq2=>?_⟩,λq1=>?_⟩
      .simp only [ki];refine⟨U,A1,B1,(A2++B2)++V,rfl,rfl,by omega,by omega,λh=>?_,λh=>?_,by omega,by omega,by simp;omega,by omega,oA1,oB1,sA1,sB1,by simp [qa],λC1 p1 s1=>?_⟩
       .have:=List.length_eq_zero_iff.2 h;omega
       .have:=List.length_eq_zero_iff.2 h;omega
       have lC1:=p1.length_eq;rw [List.length_append]at lC1;try simp only [go_sem,hr]
       refine⟨λq3=>⟨λq4=>?_,λq4=>?_⟩,λq3=>?_⟩
       .try simp only [ki]
        refine⟨U++C1,A2,B2,V,rfl,by simp;omega,by simp;omega,by simp;omega,λh=>?_,λh=>?_,by omega,by simp;omega,by simp;omega,by omega,oA2,oB2,sA2,sB2,by simp [qa],λC2 p2 s2=>?_⟩
        .have:=List.length_eq_zero_iff.2 h;omega
        .have:=List.length_eq_zero_iff.2 h;omega
        try simp only [go_sem,hr]
        exact fin C1 C2 p1 s1 p2 s2
       .have s2:SortM (A2++B2):=by
         have:B2=[]:=List.length_eq_zero_iff.1 (by omega)
         rw [this,List.append_nil];exact sA2
        have:=fin C1 (A2++B2) p1 s1 (List.Perm.refl _) s2;simpa only [List.append_assoc] using this
       .have s2:SortM (A2++B2):=by
         have:A2=[]:=List.length_eq_zero_iff.1 (by omega)
         rw [this,List.nil_append];exact sB2
        have:=fin C1 (A2++B2) p1 s1 (List.Perm.refl _) s2;simpa only [List.append_assoc] using this
      .obtain⟨C1,hC1⟩:∃C1,C1=A1++B1:=⟨_,rfl⟩;have p1:(A1++B1).Perm C1:=by rw [hC1]
       have s1:SortM C1:=by
        have:B1=[]:=List.length_eq_zero_iff.1 (by omega)
        rw [hC1,this,List.append_nil];exact sA1
       have lC1:=p1.length_eq;rw [List.length_append]at lC1;rw [<-hC1];refine⟨λq3=>⟨λq4=>?_,λq4=>?_⟩,λq3=>?_⟩
       .try simp only [ki]
        refine⟨U++C1,A2,B2,V,rfl,by simp;omega,by simp;omega,by simp;omega,λh=>?_,λh=>?_,by omega,by simp;omega,by simp;omega,by omega,oA2,oB2,sA2,sB2,by simp [qa],λC2 p2 s2=>?_⟩
        .have:=List.length_eq_zero_iff.2 h;omega
        .have:=List.length_eq_zero_iff.2 h;omega
        try simp only [go_sem,hr]
        exact fin C1 C2 p1 s1 p2 s2
       .have s2:SortM (A2++B2):=by
         have:B2=[]:=List.length_eq_zero_iff.1 (by omega)
         rw [this,List.append_nil];exact sA2
        have:=fin C1 (A2++B2) p1 s1 (List.Perm.refl _) s2;simpa only [List.append_assoc] using this
       .have s2:SortM (A2++B2):=by
         have:A2=[]:=List.length_eq_zero_iff.1 (by omega)
         rw [this,List.nil_append];exact sB2
        have:=fin C1 (A2++B2) p1 s1 (List.Perm.refl _) s2;simpa only [List.append_assoc] using this
      .obtain⟨C1,hC1⟩:∃C1,C1=A1++B1:=⟨_,rfl⟩;have p1:(A1++B1).Perm C1:=by rw [hC1]
       have s1:SortM C1:=by
        have:A1=[]:=List.length_eq_zero_iff.1 (by omega)
        rw [hC1,this,List.nil_append];exact sB1
       have lC1:=p1.length_eq;rw [List.length_append]at lC1;rw [<-hC1];refine⟨λq3=>⟨λq4=>?_,λq4=>?_⟩,λq3=>?_⟩
       .try simp only [ki]
        refine⟨U++C1,A2,B2,V,rfl,by simp;omega,by simp;omega,by simp;omega,λh=>?_,λh=>?_,by omega,by simp;omega,by simp;omega,by omega,oA2,oB2,sA2,sB2,by simp [qa],λC2 p2 s2=>?_⟩
        .have:=List.length_eq_zero_iff.2 h;omega
        .have:=List.length_eq_zero_iff.2 h;omega
        try simp only [go_sem,hr]
        exact fin C1 C2 p1 s1 p2 s2
       .have s2:SortM (A2++B2):=by
         have:B2=[]:=List.length_eq_zero_iff.1 (by omega)
         rw [this,List.append_nil];exact sA2
        have:=fin C1 (A2++B2) p1 s1 (List.Perm.refl _) s2;simpa only [List.append_assoc] using this
       .have s2:SortM (A2++B2):=by
         have:A2=[]:=List.length_eq_zero_iff.1 (by omega)
         rw [this,List.nil_append];exact sB2
        have:=fin C1 (A2++B2) p1 s1 (List.Perm.refl _) s2;simpa only [List.append_assoc] using this
end Go.Abs
end
section
namespace Go.Abs
open Go.Num
variable {P:Program} {L:List (Nat×Spec)}
theorem QaZ{f fc:Nat}(hE:Enters P f):Sound P f (.own (ki fc 0)):=by
 refine⟨hE,λE args vals w I m h d K _ _ hG=>?_⟩;unfold ki at hG;split at hG
 .obtain⟨U,A,B,V,_,_,_,_,hA,_,hN,_⟩:=hG;have:=List.length_pos_iff.2 hA;omega
 .exact hG.elim
theorem UY(hΓ:Holds P (Gl L)){f fr fc N:Nat}(hn1:fr≠f)(hn2:fc≠f)(hro:Gl L fr=.own (yE fc))(hcm:Gl L fc=.dat true Ww)(hc:check P f=some (220,(Jb fr f).strip,[])):Sound P f (.own (ki fc N)):=by
 induction N with
 | zero=>
  obtain⟨fn,c,h1,h2,h3,_⟩:=Uw hc;exact QaZ (Jx h1 h2 (by rw [h3];rfl))
 | succ N ih=>
  have hh:Holds P (Gl ((f,.own (ki fc N))::L)):=Za hΓ ih;refine xaG (Γ:=Gl ((f,.own (ki fc N))::L)) hh (fs:=f) ?_ ?_ ?_ hc
  .unfold Gl;rw [if_neg hn1];exact hro
  .unfold Gl;rw [if_pos rfl]
  .unfold Gl;rw [if_neg hn2];exact hcm
end Go.Abs
end
section
namespace Go.Abs
open Go.Num
variable {P:Program} {Γ:Nat->Spec}
def vd:AC:=(.seq (.ops false [.m 2 (.c (.one .emp))])
 (.fg [0] (.seq (.ops false [.m 4 (.c (.one .emp)),.m 5 (.t 0),.u 6 (.app0 1 (.t 4) (.t 5)),.m 3 (.t 6)])
 (.fg [3] (.seq (.block 0 (.loop (.seq (.seq (.ops false [.m 7 (.t 3),.u 8 (.len (.t 7)),.u 9 (.bin .gtr (.t 8) (.i 0)),.m 10 (.t 9),.w 11 10 true (.mv (.t 3)),.w 12 10 true (.mv (.t 3)),.w 13 10 true (.len (.t 12)),.w 14 10 true (.bin .sub (.t 13) (.i 1)),.w 15 10 true (.idx 1 (.t 11) (.t 14)),.w 16 10 true (.ld none 1 false (.t 15)),.w 17 10 true (.bin .eql (.t 16) (.c (.one (.lit (.int .u32 0))))),.u 18 (.pick (.t 10) (.t 17) .fa)])
 (.fg [3,18] (.cond (.t 18) .skip (.exit 0))))
 (.fg [3] (.block 1 (.ops false [.m 19 (.t 3),.m 20 (.t 3),.u 21 (.len (.t 20)),.u 22 (.bin .sub (.t 21) (.i 1)),.u 23 (.sl 1 (.t 19) none (some (.t 22))),.m 3 (.t 23)]))))))
 (.fg [3] (.seq (.ops false [.m 24 (.t 3),.m 2 (.t 24)])
 .ret)))))))
def kh(f0 f1:Nat):AC:=(.seq (.ops false [.m 4 (.c (.one .emp))])
 (.fg [0,1] (.seq (.ops false [.m 5 (.c (.one .emp))])
 (.fg [0,1,5] (.seq (.ops false [.m 6 (.c (.one (.lit (.int .u64 0))))])
 (.fg [0,1,5,6] (.seq (.seq (.ops false [.m 9 (.t 0),.u 10 (.len (.t 9)),.m 11 (.t 1),.u 12 (.len (.t 11)),.u 13 (.max [(.t 10),(.t 12)]),.u 14 (.bin .add (.t 13) (.i 1)),.m 15 (.i 0)])
 (.fg [0,1,5,6,14,15] (.block 0 (.loop (.seq (.ops false [.u 16 (.bin .lss (.t 15) (.t 14))])
 (.fg [0,1,5,6,14,15,16] (.seq (.cond (.t 16) .skip (.exit 0))
 (.fg [0,1,5,6,14,15] (.seq (.block 1 (.seq (.ops false [.m 17 (.t 15),.m 7 (.t 17)])
 (.fg [0,1,5,6,7,14,15] (.seq (.ops false [.m 18 (.t 0),.m 19 (.t 7),.u 20 (.call f0 [(.t 18),(.t 19)]),.m 21 (.t 1),.m 22 (.t 7),.u 23 (.call f0 [(.t 21),(.t 22)]),.u 24 (.bin .add (.t 20) (.t 23)),.m 25 (.t 6),.u 26 (.bin .add (.t 24) (.t 25)),.m 8 (.t 26)])
 (.fg [0,1,5,8,14,15] (.ops false [.m 27 (.t 5),.m 28 (.t 8),.u 29 (.conv .u32 (.t 28)),.u 30 (.row 1 [[.x 1 (.t 29)]]),.u 31 (.app 1 (.t 27) (.t 30)),.m 32 (.t 8),.u 33 (.bin .shr (.t 32) (.c (.one (.lit (.int .u64 32))))),.m 5 (.t 31),.m 6 (.t 33)]))))))
 (.fg [0,1,5,6,14,15] (.ops false [.u 34 (.bin .add (.t 15) (.i 1)),.m 15 (.t 34)])))))))))))
 (.fg [5] (.seq (.ops false [.m 35 (.t 5),.u 36 (.callf f1 [(.t 35)]),.m 4 (.t 36)])
 .ret)))))))))
def Qh(f0 f1:Nat):AC:=(.seq (.ops false [.m 4 (.c (.one .emp))])
 (.fg [0,1] (.seq (.ops false [.m 5 (.c (.one .emp))])
 (.fg [0,1,5] (.seq (.ops false [.m 6 (.c (.one (.lit (.int .u64 0))))])
 (.fg [0,1,5,6] (.seq (.seq (.ops false [.m 9 (.t 0),.u 10 (.len (.t 9)),.m 11 (.i 0)])
 (.fg [0,1,5,6,10,11] (.block 0 (.loop (.seq (.ops false [.u 12 (.bin .lss (.t 11) (.t 10))])
 (.fg [0,1,5,6,10,11,12] (.seq (.cond (.t 12) .skip (.exit 0))
 (.fg [0,1,5,6,10,11] (.seq (.block 1 (.seq (.ops false [.m 13 (.t 11),.m 7 (.t 13)])
 (.fg [0,1,5,6,7,10,11] (.seq (.ops false [.m 14 (.t 0),.m 15 (.t 7),.u 16 (.call f0 [(.t 14),(.t 15)]),.u 17 (.bin .add (.c (.one (.lit (.int .u64 4294967296)))) (.t 16)),.m 18 (.t 1),.m 19 (.t 7),.u 20 (.call f0 [(.t 18),(.t 19)]),.u 21 (.bin .sub (.t 17) (.t 20)),.m 22 (.t 6),.u 23 (.bin .sub (.t 21) (.t 22)),.m 8 (.t 23)])
 (.fg [0,1,5,8,10,11] (.ops false [.m 24 (.t 5),.m 25 (.t 8),.u 26 (.conv .u32 (.t 25)),.u 27 (.row 1 [[.x 1 (.t 26)]]),.u 28 (.app 1 (.t 24) (.t 27)),.m 29 (.t 8),.u 30 (.bin .shr (.t 29) (.c (.one (.lit (.int .u64 32))))),.u 31 (.bin .sub (.c (.one (.lit (.int .u64 1)))) (.t 30)),.m 5 (.t 28),.m 6 (.t 31)]))))))
 (.fg [0,1,5,6,10,11] (.ops false [.u 32 (.bin .add (.t 11) (.i 1)),.m 11 (.t 32)])))))))))))
 (.fg [5] (.seq (.ops false [.m 33 (.t 5),.u 34 (.callf f1 [(.t 33)]),.m 4 (.t 34)])
 .ret)))))))))
def vf(f0:Nat):AC:=(.seq (.ops false [.m 4 (.i 0)])
 (.fg [0,1] (.seq (.seq (.ops false [.m 6 (.t 0),.u 7 (.len (.t 6)),.m 8 (.t 1),.u 9 (.len (.t 8)),.u 10 (.max [(.t 7),(.t 9)]),.u 11 (.bin .sub (.t 10) (.i 1)),.m 5 (.t 11)])
 (.fg [0,1,5] (.block 0 (.loop (.seq (.seq (.ops false [.m 12 (.t 5),.u 13 (.bin .geq (.t 12) (.i 0))])
 (.fg [0,1,5,13] (.cond (.t 13) .skip (.exit 0))))
 (.fg [0,1,5] (.seq (.block 1 (.seq (.ops false [.m 16 (.t 0),.m 17 (.t 5),.u 18 (.call f0 [(.t 16),(.t 17)]),.m 19 (.t 1),.m 20 (.t 5),.u 21 (.call f0 [(.t 19),(.t 20)]),.u 22 (.bin .neq (.t 18) (.t 21))])
 (.fg [0,1,5,22] (.cond (.t 22) (.seq (.seq (.ops false [.m 23 (.t 0),.m 24 (.t 5),.u 25 (.call f0 [(.t 23),(.t 24)]),.m 26 (.t 1),.m 27 (.t 5),.u 28 (.call f0 [(.t 26),(.t 27)]),.u 29 (.bin .lss (.t 25) (.t 28))])
 (.fg [29] (.cond (.t 29) (.seq (.ops false [.m 4 (.i (-1))])
 .ret) .skip)))
 (.fg [] (.seq (.ops false [.m 4 (.i 1)])
 .ret))) .skip))))
 (.fg [0,1,5] (.ops false [.m 14 (.t 5),.u 15 (.bin .sub (.t 14) (.i 1)),.m 5 (.t 15)])))))))))
 (.fg [] (.seq (.ops false [.m 4 (.i 0)])
 .ret)))))
def Zi:AC:=(.seq (.ops false [.m 2 (.i 0)])
 (.fg [0] (.seq (.seq (.ops false [.m 5 (.t 0),.u 6 (.len (.t 5)),.u 7 (.bin .eql (.t 6) (.i 0))])
 (.fg [0,7] (.cond (.t 7) (.seq (.ops false [.m 2 (.i 0)])
 .ret) .skip)))
 (.fg [0] (.seq (.ops false [.m 8 (.t 0),.u 9 (.len (.t 8)),.u 10 (.bin .sub (.t 9) (.i 1)),.u 11 (.bin .mul (.i 32) (.t 10)),.m 3 (.t 11)])
 (.fg [0,3] (.seq (.seq (.ops false [.m 12 (.t 0),.m 13 (.t 0),.u 14 (.len (.t 13)),.u 15 (.bin .sub (.t 14) (.i 1)),.u 16 (.idx 1 (.t 12) (.t 15)),.u 17 (.ld none 1 false (.t 16)),.m 4 (.t 17)])
 (.fg [3,4] (.block 0 (.loop (.seq (.seq (.ops false [.m 18 (.t 4),.u 19 (.bin .gtr (.t 18) (.c (.one (.lit (.int .u32 0)))))])
 (.fg [3,4,19] (.cond (.t 19) .skip (.exit 0))))
 (.fg [3,4] (.seq (.block 1 (.ops false [.m 22 (.t 3),.u 23 (.bin .add (.t 22) (.i 1)),.m 3 (.t 23)]))
 (.fg [3,4] (.ops false [.m 20 (.t 4),.u 21 (.bin .shr (.t 20) (.c (.one (.lit (.int .u64 1))))),.m 4 (.t 21)])))))))))
 (.fg [3] (.seq (.ops false [.m 24 (.t 3),.m 2 (.t 24)])
 .ret)))))))))
theorem QaF(hΓ:Holds P Γ){f:Nat}(hc:check P f=some (25,vd.strip,[.tmp 2])):Sound P f (.fresh 1 Qx):=by
 refine Xm hc qaW hΓ (λargs K hcl hfi hG=>?_);match args,hG with
 | [a],hG=>
  obtain⟨l,ha,hl,hlen,hK⟩:=hG;refine⟨by simp,?_⟩
  rcases ha with rfl | rfl | ⟨rfl,h0⟩
  .simp only [go_sem,vd,ws];refine⟨hlen,?_⟩;refine Xa (λn:Nat=>⟨mkV [(3,.one (.own 6 1 1 0 n))],mkH [(6,⟨1,some ⟨l.map wc,1,true⟩⟩)]⟩) (λn=>n<=l.length/\val (l.take n)=val l) id l.length ?_ ?_ ?_
   .first | exact Qa (by simp [okS,okV,okC,okL,okH,okB,okE,ja,Va,qa,ka,wsA,ws]) (qj rfl) | (subst h0;exact Qa (by simp [okS,okV,okC,okL,okH,okB,okE,ja,Va,qa,ka,wsA,ws]) (qj (l:=[]) rfl))
   .simp
   .rintro n ⟨hn,ht⟩;simp only [go_sem];refine λhm=>⟨λh=>?_,λh=>?_⟩
    .rw [show((n:Int)-1).toNat=n-1 by omega]
     refine λ_=>⟨by omega,by omega,by omega,λh0=>λ_=>⟨by omega,by omega,by omega,n-1,Qa (by simp [okS,okV,okC,okL,okH,okB,okE,ja,Va,qa,ka,wsA,ws]) (qj rfl),⟨by omega,?_⟩,?_⟩,λh0=>?_⟩
     .have:=Zc l (n-1);rw [show n-1+1=n by omega,h0,Nat.mul_zero,Nat.add_zero]at this
      rw [<-this];exact ht
     .simp only [id];omega
     .have:=Je (uy hl n) (yJ h hn h0);rw [ht]at this;rw [this]at hK;exact⟨hn,hK⟩
    .have h1:n=0:=by omega
     subst h1;have:val l=0:=by rw [<-ht];simp [val]
     rw [this,yb]at hK;exact⟨by omega,hK⟩
  .simp only [go_sem,vd,ws];refine⟨hlen,?_⟩;refine Xa (λn:Nat=>⟨mkV [(3,.one (.own 6 1 1 0 n))],mkH [(6,⟨1,some ⟨l.map wc,1,true⟩⟩)]⟩) (λn=>n<=l.length/\val (l.take n)=val l) id l.length ?_ ?_ ?_
   .first | exact Qa (by simp [okS,okV,okC,okL,okH,okB,okE,ja,Va,qa,ka,wsA,ws]) (qj rfl) | (subst h0;exact Qa (by simp [okS,okV,okC,okL,okH,okB,okE,ja,Va,qa,ka,wsA,ws]) (qj (l:=[]) rfl))
   .simp
   .rintro n ⟨hn,ht⟩;simp only [go_sem];refine λhm=>⟨λh=>?_,λh=>?_⟩
    .rw [show((n:Int)-1).toNat=n-1 by omega]
     refine λ_=>⟨by omega,by omega,by omega,λh0=>λ_=>⟨by omega,by omega,by omega,n-1,Qa (by simp [okS,okV,okC,okL,okH,okB,okE,ja,Va,qa,ka,wsA,ws]) (qj rfl),⟨by omega,?_⟩,?_⟩,λh0=>?_⟩
     .have:=Zc l (n-1);rw [show n-1+1=n by omega,h0,Nat.mul_zero,Nat.add_zero]at this
      rw [<-this];exact ht
     .simp only [id];omega
     .have:=Je (uy hl n) (yJ h hn h0);rw [ht]at this;rw [this]at hK;exact⟨hn,hK⟩
    .have h1:n=0:=by omega
     subst h1;have:val l=0:=by rw [<-ht];simp [val]
     rw [this,yb]at hK;exact⟨by omega,hK⟩
  .simp only [go_sem,vd,ws];refine⟨by simp,?_⟩
   refine Xa (λn:Nat=>⟨mkV [(3,.one (.own 6 1 1 0 n))],mkH [(6,⟨1,some ⟨l.map wc,1,true⟩⟩)]⟩) (λn=>n<=l.length/\val (l.take n)=val l) id l.length ?_ ?_ ?_
   .first | exact Qa (by simp [okS,okV,okC,okL,okH,okB,okE,ja,Va,qa,ka,wsA,ws]) (qj rfl) | (subst h0;exact Qa (by simp [okS,okV,okC,okL,okH,okB,okE,ja,Va,qa,ka,wsA,ws]) (qj (l:=[]) rfl))
   .simp
   .rintro n ⟨hn,ht⟩;simp only [go_sem];refine λhm=>⟨λh=>?_,λh=>?_⟩
    .rw [show((n:Int)-1).toNat=n-1 by omega]
     refine λ_=>⟨by omega,by omega,by omega,λh0=>λ_=>⟨by omega,by omega,by omega,n-1,Qa (by simp [okS,okV,okC,okL,okH,okB,okE,ja,Va,qa,ka,wsA,ws]) (qj rfl),⟨by omega,?_⟩,?_⟩,λh0=>?_⟩
     .have:=Zc l (n-1);rw [show n-1+1=n by omega,h0,Nat.mul_zero,Nat.add_zero]at this
      rw [<-this];exact ht
     .simp only [id];omega
     .have:=Je (uy hl n) (yJ h hn h0);rw [ht]at this;rw [this]at hK;exact⟨hn,hK⟩
    .have h1:n=0:=by omega
     subst h1;have:val l=0:=by rw [<-ht];simp [val]
     rw [this,yb]at hK;exact⟨by omega,hK⟩
theorem kaa(hΓ:Holds P Γ){f fw ft:Nat}(hw:Γ fw=.dat true Jl)(ht:Γ ft=.fresh 1 Qx)(hc:check P f=some (37,(kh fw ft).strip,[.tmp 4])):Sound P f (.dat false Vp):=by
 refine Wa hc Uaa hΓ (λargs K hcl hfi hG=>?_);match args,hG with
 | [a,b],hG=>
  obtain⟨x,rfl,hx,y,rfl,hy,hxl,hyl,hK⟩:=hG;refine⟨by simp,?_⟩
  simp only [go_sem,kh,hw,ht];intro h1 h2;refine⟨by omega,?_⟩
  generalize hN:max x.length y.length+1=N;refine Xa (λp:List Nat×Nat=>match p.1 with
    | []=>⟨mkV [(0,wsA x),(1,wsA y),(5,.one .emp),(6,.one (.lit (.int .u64 p.2))),(14,.one (.lit (.int .i64 N))),(15,.one (.lit (.int .i64 0)))],mkH []⟩
    | a::r=>⟨mkV [(0,wsA x),(1,wsA y),(5,.one (.own 31 1 1 0 (r.length+1))),(6,.one (.lit (.int .u64 p.2))),(14,.one (.lit (.int .i64 N))),(15,.one (.lit (.int .i64 (r.length+1:Nat))))],mkH [(31,⟨1,some ⟨(a::r).map wc,1,true⟩⟩)]⟩)
   (λp=>p.1.length<=N/\WL p.1/\p.2<=1/\val p.1+4294967296 ^ p.1.length*p.2=val (x.take p.1.length)+val (y.take p.1.length)) (λp=>N-p.1.length) ([],0) ?_ ?_ ?_
  .exact Qa (by simp [okS,okV,okC,okL,okH,okB,okE,ja,Va,qa,ka,wsA,ws]) trivial
  .simp [zd,val]
  .rintro⟨o,c⟩ ⟨hoN,ho,hc1,hval⟩;simp only at hoN ho hc1 hval;cases o with
   | nil=>
    simp only [go_sem,hw,ht];refine⟨λhlt=>?_,λhge=>by omega⟩
    have g1:=Ub hx 0;have g2:=Ub hy 0;rw [Nat.mod_eq_of_lt (show x.getD 0 0+y.getD 0 0<18446744073709551616 by omega),Nat.mod_eq_of_lt (show x.getD 0 0+y.getD 0 0+c<18446744073709551616 by omega)]
    generalize hs:x.getD 0 0+y.getD 0 0+c=s;refine⟨hx,by omega,hy,by omega,by simp,by decide,by decide,([s % 4294967296],s / 4294967296),Qa (by simp [okS,okV,okC,okL,okH,okB,okE,ja,Va,qa,ka,wsA,ws]) (qj (l:=[s % 4294967296]) rfl),⟨by simp;omega,xc.2 ⟨Nat.mod_lt _ (by omega),zd⟩,by simp only;omega,?_⟩,by simp;omega⟩
    have t1:=Zc x 0;have t2:=Zc y 0;simp only [List.length_cons,List.length_nil,Nat.zero_add,List.take_zero,xm,xi,Nat.pow_zero,Nat.pow_one,Nat.mul_zero]at t1 t2 hval ⊢;omega
   | cons a r=>
    simp only [go_sem,hw,ht];refine⟨λhlt=>?_,λhge=>?_⟩
    .have g1:=Ub hx (r.length+1);have g2:=Ub hy (r.length+1);rw [Nat.mod_eq_of_lt (show x.getD (r.length+1) 0+y.getD (r.length+1) 0<18446744073709551616 by omega),Nat.mod_eq_of_lt (show x.getD (r.length+1) 0+y.getD (r.length+1) 0+c<18446744073709551616 by omega)]
     generalize hs:x.getD (r.length+1) 0+y.getD (r.length+1) 0+c=s;refine⟨hx,hy,by simp,by omega,by decide,by omega,(a::(r++[s % 4294967296]),s / 4294967296),Qa (by simp [okS,okV,okC,okL,okH,okB,okE,ja,Va,qa,ka,wsA,ws]) (Qaa (l':=a::(r++[s % 4294967296])) (by simp [wc])),⟨by simp;omega,?_,by simp only;omega,?_⟩,by simp;omega⟩
     .exact ue (a:=a::r) |>.2 ⟨ho,xc.2 ⟨Nat.mod_lt _ (by omega),zd⟩⟩
     .have t1:=Zc x (r.length+1);have t2:=Zc y (r.length+1);have e:a::(r++[s % 4294967296])=(a::r)++[s % 4294967296]:=rfl;simp only [e,List.length_append,List.length_cons,List.length_nil,Nat.zero_add,Yc,t1,t2];simp only [List.length_cons]at hval;rw [show val [s % 4294967296]=s % 4294967296 from by simp [val],Nat.pow_succ 4294967296 (r.length+1)]
      exact ubd hval (by rw [Nat.mod_add_div,hs])
    .have e:r.length+1=N:=by simp only [List.length_cons]at hoN;omega
     have hv:val (a::r)=val x+val y:=by
      rw [List.length_cons,e,Wk (by omega),Wk (by omega)]at hval
      exact waq hx hy (by omega) (by omega) (by omega) hval
     refine(UZ _ (a::r)).mpr ⟨ho,by simp only [List.length_cons];omega,?_⟩
     rw [hv];exact hK
theorem kV(hΓ:Holds P Γ){f fw ft:Nat}(hw:Γ fw=.dat true Jl)(ht:Γ ft=.fresh 1 Qx)(hc:check P f=some (35,(Qh fw ft).strip,[.tmp 4])):Sound P f (.dat false Ys):=by
 refine Wa hc vad hΓ (λargs K hcl hfi hG=>?_);match args,hG with
 | [a,b],hG=>
  obtain⟨x,rfl,hx,y,rfl,hy,hxl,hle,hK⟩:=hG;refine⟨by simp,?_⟩
  simp only [go_sem,Qh,hw,ht];intro h1;generalize hN:x.length=N at *
  refine Xa (λp:List Nat×Nat=>match p.1 with
    | []=>⟨mkV [(0,wsA x),(1,wsA y),(5,.one .emp),(6,.one (.lit (.int .u64 p.2))),(10,.one (.lit (.int .i64 N))),(11,.one (.lit (.int .i64 0)))],mkH []⟩
    | a::r=>⟨mkV [(0,wsA x),(1,wsA y),(5,.one (.own 28 1 1 0 (r.length+1))),(6,.one (.lit (.int .u64 p.2))),(10,.one (.lit (.int .i64 N))),(11,.one (.lit (.int .i64 (r.length+1:Nat))))],mkH [(28,⟨1,some ⟨(a::r).map wc,1,true⟩⟩)]⟩)
   (λp=>p.1.length<=N/\WL p.1/\p.2<=1/\val p.1+val (y.take p.1.length)=val (x.take p.1.length)+4294967296 ^ p.1.length*p.2) (λp=>N-p.1.length) ([],0) ?_ ?_ ?_
  .exact Qa (by simp [okS,okV,okC,okL,okH,okB,okE,ja,Va,qa,ka,wsA,ws]) trivial
  .simp [zd,val]
  .rintro⟨o,c⟩ ⟨hoN,ho,hc1,hval⟩;simp only at hoN ho hc1 hval;cases o with
   | nil=>
    have g1:=Ub hx 0;have g2:=Ub hy 0;obtain⟨s,e1,e2,e3,e4⟩:=QV g1 g2 hc1;simp only [go_sem,hw,ht,e1,e2];refine⟨λhlt=>?_,λhge=>?_⟩
    .refine⟨hx,by omega,hy,by omega,by simp,⟨by omega,by decide⟩,by decide,([s % 4294967296],1-s / 4294967296),Qa (by simp [okS,okV,okC,okL,okH,okB,okE,ja,Va,qa,ka,wsA,ws,e2]) (Qaa (l':=[s % 4294967296]) (by simp [wc])),⟨by simp;omega,xc.2 ⟨Nat.mod_lt _ (by omega),zd⟩,e4,?_⟩,by simp;omega⟩
     have t1:=Zc x 0;have t2:=Zc y 0;simp only [List.length_cons,List.length_nil,Nat.zero_add,List.take_zero,xm,xi,Nat.pow_zero,Nat.pow_one,Nat.mul_zero]at t1 t2 hval ⊢;omega
    .have hx0:x=[]:=List.eq_nil_of_length_eq_zero (by omega)
     have:val x-val y=val []:=by rw [hx0];simp [val]
     rw [<-this];exact hK
   | cons a r=>
    have g1:=Ub hx (r.length+1);have g2:=Ub hy (r.length+1);obtain⟨s,e1,e2,e3,e4⟩:=QV g1 g2 hc1;simp only [go_sem,hw,ht,e1,e2];refine⟨λhlt=>?_,λhge=>?_⟩
    .refine⟨hx,hy,by simp,by omega,⟨by omega,by decide⟩,by omega,(a::(r++[s % 4294967296]),1-s / 4294967296),Qa (by simp [okS,okV,okC,okL,okH,okB,okE,ja,Va,qa,ka,wsA,ws,e2]) (Qaa (l':=a::(r++[s % 4294967296])) (by simp [wc])),⟨by simp;omega,?_,e4,?_⟩,by simp;omega⟩
     .exact ue (a:=a::r) |>.2 ⟨ho,xc.2 ⟨Nat.mod_lt _ (by omega),zd⟩⟩
     .have e:a::(r++[s % 4294967296])=(a::r)++[s % 4294967296]:=rfl;simp only [List.length_cons]at hval;simp only [e,List.length_append,List.length_cons,List.length_nil,Nat.zero_add,Zc x (r.length+1),Zc y (r.length+1),Yc,xi (s % 4294967296),xm,Nat.mul_zero,Nat.add_zero,Nat.pow_succ 4294967296 (r.length+1)];exact xI hval e3
    .have e:(a::r).length=N:=by simp only [List.length_cons]at hoN ⊢;omega
     have hv:=JI ho hx (by omega) hle hval
     refine(UZ _ (a::r)).mpr ⟨ho,by omega,?_⟩
     rw [hv];exact hK
theorem Yal(hΓ:Holds P Γ){f fw:Nat}(hw:Γ fw=.dat true Jl)(hc:check P f=some (30,(vf fw).strip,[.tmp 4])):Sound P f (.dat true Qt):=by
 refine Wa hc YaH hΓ (λargs K hcl hfi hG=>?_);match args,hG with
 | [a,b],hG=>
  obtain⟨x,rfl,hx,y,rfl,hy,hK⟩:=hG;refine⟨by simp,?_⟩
  simp only [go_sem,vf,hw];intro h1 h2;refine⟨⟨by omega,by omega⟩,?_⟩
  refine Xa (λn:Nat=>⟨mkV [(0,wsA x),(1,wsA y),(5,.one (.lit (.int .i64 ((n:Int)-1))))],mkH []⟩) (λn=>n<=max x.length y.length/\val (x.drop n)=val (y.drop n)) id (max x.length y.length) ?_ ?_ ?_
  .exact Qa (by simp [okS,okV,okC,okL,okH,okB,okE,ja,Va,qa,ka,wsA,ws]) trivial
  .refine⟨Nat.le_refl _,?_⟩;rw [List.drop_of_length_le (by omega),List.drop_of_length_le (by omega)]
  .rintro n ⟨hn,hd⟩;simp only [go_sem,hw];refine⟨λh=>?_,λh=>?_⟩
   .have e:((n:Int)-1).toNat=n-1:=by omega
    have e1:=QC x (n-1);have e2:=QC y (n-1);have e3:n-1+1=n:=by omega
    rw [e3]at e1 e2;rw [e];refine⟨hx,h,hy,h,λhe=>⟨by omega,n-1,Qa (by simp [okS,okV,okC,okL,okH,okB,okE,ja,Va,qa,ka,wsA,ws];omega) trivial,⟨by omega,by rw [e1,e2,hd,he]⟩,by simp only [id];omega⟩,λhe=>⟨hx,h,hy,h,λhlt=>?_,λhge=>?_⟩⟩
    .rw [zZ (zbk hx (by rw [e3];exact hd) hlt)]at hK;exact hK
    .rw [Uaj (zbk (m:=n-1) hy (by rw [e3];exact hd.symm) (by omega))]at hK;exact hK
   .have:n=0:=by omega
    subst this;have:val x=val y:=hd;rw [this,Ya2]at hK;exact hK
theorem Zaf(hΓ:Holds P Γ){f:Nat}(hc:check P f=some (25,Zi.strip,[.tmp 2])):Sound P f (.dat true Wr):=by
 refine Wa hc Xam hΓ (λargs K hcl hfi hG=>?_);match args,hG with
 | [a],hG=>
  obtain⟨x,rfl,hx,hxl,hK⟩:=hG;refine⟨by simp,?_⟩
  simp only [go_sem,Zi];intro h1;refine⟨λh=>?_,λh _=>⟨by omega,by omega,λ_=>⟨by omega,by omega,by omega,?_⟩⟩⟩
  .rw [if_pos h]at hK;exact hK
  rw [if_neg h]at hK;have e:((x.length:Int)-1).toNat=x.length-1:=by omega
  rw [e];have hb:=Ub hx (x.length-1);generalize x.getD (x.length-1) 0=w at *
  have hb32:bln w<=32:=kbm (by omega)
  refine Xa (λp:Nat×Nat=>⟨mkV [(3,.one (.lit (.int .i64 (32*((x.length:Int)-1)+p.1)))),(4,.one (.lit (.int .u32 p.2)))],mkH []⟩) (λp=>p.2<4294967296/\p.1+bln p.2=bln w) (λp=>p.2) (0,w) ?_ ?_ ?_
  .exact Qa (by simp [okS,okV,okC,okL,okH,okB,okE,ja,Va,qa,ka,wsA,ws]) trivial
  .exact⟨hb,by simp⟩
  .rintro⟨i,m⟩ ⟨hm,hi⟩;simp only at hm hi;simp only [go_sem];refine⟨λh=>?_,λh=>?_⟩
   .have e:=Jal (n:=m) (by omega)
    refine⟨by omega,by decide,(i+1,m / 2),Qa (by simp [okS,okV,okC,okL,okH,okB,okE,ja,Va,qa,ka,wsA,ws];omega) trivial,⟨by simp only;omega,by simp only;omega⟩,by simp only;omega⟩
   .have:m=0:=by omega
    subst this;rw [jI]at hi;have e:(32*((x.length:Int)-1)+(i:Int))=((32*(x.length-1)+bln w:Nat):Int):=by omega
    rw [e];exact hK
end Go.Abs
end
section
namespace Go.Abs
open Go.Num
variable {P:Program} {Γ:Nat->Spec}
def yj:AC:=(.seq (.ops false [.m 2 (.c (.one .emp))])
 (.fg [0] (.seq (.block 0 (.loop (.seq (.seq (.ops false [.m 3 (.t 0),.u 4 (.len (.t 3)),.u 5 (.bin .gtr (.t 4) (.i 0)),.m 6 (.t 5),.w 7 6 true (.mv (.t 0)),.w 8 6 true (.mv (.t 0)),.w 9 6 true (.len (.t 8)),.w 10 6 true (.bin .sub (.t 9) (.i 1)),.w 11 6 true (.idx 1 (.t 7) (.t 10)),.w 12 6 true (.ld none 1 false (.t 11)),.w 13 6 true (.bin .eql (.t 12) (.c (.one (.lit (.int .u32 0))))),.u 14 (.pick (.t 6) (.t 13) .fa)])
 (.fg [0,14] (.cond (.t 14) .skip (.exit 0))))
 (.fg [0] (.block 1 (.ops false [.m 15 (.t 0),.m 16 (.t 0),.u 17 (.len (.t 16)),.u 18 (.bin .sub (.t 17) (.i 1)),.u 19 (.sl 1 (.t 15) none (some (.t 18))),.m 0 (.t 19)]))))))
 (.fg [0] (.seq (.ops false [.m 20 (.t 0),.m 2 (.t 20)])
 .ret)))))
def xg(f0 f1:Nat):AC:=(.seq (.ops false [.m 2 (.c (.one .emp))])
 (.fg [0] (.seq (.seq (.ops false [.m 4 (.t 0),.u 5 (.len (.t 4)),.m 6 (.i 0)])
 (.fg [0,5,6] (.block 0 (.loop (.seq (.ops false [.u 7 (.bin .lss (.t 6) (.t 5))])
 (.fg [0,5,6,7] (.seq (.cond (.t 7) .skip (.exit 0))
 (.fg [0,5,6] (.seq (.block 1 (.seq (.ops false [.m 8 (.t 6),.m 3 (.t 8)])
 (.fg [0,3,5,6] (.ops false [.m 9 (.t 0),.m 10 (.t 3),.m 11 (.t 0),.m 12 (.t 3),.u 13 (.call f0 [(.t 11),(.t 12)]),.u 14 (.bin .shr (.t 13) (.c (.one (.lit (.int .u64 1))))),.m 15 (.t 0),.m 16 (.t 3),.u 17 (.bin .add (.t 16) (.i 1)),.u 18 (.call f0 [(.t 15),(.t 17)]),.u 19 (.bin .shl (.t 18) (.c (.one (.lit (.int .u64 31))))),.u 20 (.bin .or (.t 14) (.t 19)),.u 21 (.conv .u32 (.t 20)),.u 22 (.idx 1 (.t 9) (.t 10)),.n (.st none 1 (.t 22) (.t 21))]))))
 (.fg [0,5,6] (.ops false [.u 23 (.bin .add (.t 6) (.i 1)),.m 6 (.t 23)])))))))))))
 (.fg [0] (.seq (.ops false [.m 24 (.t 0),.u 25 (.call f1 [(.t 24)]),.m 2 (.t 25)])
 .ret)))))
def xe(f0:Nat):AC:=(.seq (.ops false [.m 4 (.c (.one (.lit (.int .u64 0))))])
 (.fg [0,1,4] (.seq (.ops false [.m 7 (.t 0),.u 8 (.len (.t 7)),.m 9 (.i 0)])
 (.fg [0,1,4,8,9] (.block 0 (.loop (.seq (.ops false [.u 10 (.bin .lss (.t 9) (.t 8))])
 (.fg [0,1,4,8,9,10] (.seq (.cond (.t 10) .skip (.exit 0))
 (.fg [0,1,4,8,9] (.seq (.block 1 (.seq (.ops false [.m 11 (.t 9),.m 5 (.t 11)])
 (.fg [0,1,4,5,8,9] (.seq (.ops false [.m 12 (.t 0),.m 13 (.t 5),.u 14 (.call f0 [(.t 12),(.t 13)]),.u 15 (.bin .add (.c (.one (.lit (.int .u64 4294967296)))) (.t 14)),.m 16 (.t 1),.m 17 (.t 5),.u 18 (.call f0 [(.t 16),(.t 17)]),.u 19 (.bin .sub (.t 15) (.t 18)),.m 20 (.t 4),.u 21 (.bin .sub (.t 19) (.t 20)),.m 6 (.t 21)])
 (.fg [0,1,5,6,8,9] (.ops false [.m 22 (.t 0),.m 23 (.t 5),.m 24 (.t 6),.u 25 (.conv .u32 (.t 24)),.m 26 (.t 6),.u 27 (.bin .shr (.t 26) (.c (.one (.lit (.int .u64 32))))),.u 28 (.bin .sub (.c (.one (.lit (.int .u64 1)))) (.t 27)),.u 29 (.idx 1 (.t 22) (.t 23)),.n (.st none 1 (.t 29) (.t 25)),.m 4 (.t 28)]))))))
 (.fg [0,1,4,8,9] (.ops false [.u 30 (.bin .add (.t 9) (.i 1)),.m 9 (.t 30)])))))))))))))
theorem va8(hΓ:Holds P Γ){f:Nat}(hc:check P f=some (21,yj.strip,[.tmp 2])):Sound P f (.own Z9):=by
 refine Vg hc hΓ (λd args h K hG=>?_);unfold Z9 at hG;split at hG
 case h_2=>exact hG.elim
 rename_i r ver len;obtain⟨l,post,rfl,hr,hl,hll,hK⟩:=hG;refine⟨[r],[⟨(l++post).map wc,1,true⟩],[.one (.own 1048576 ver 1 0 l.length)],by simp,rfl,?_,?_,?_,λhfi=>⟨by simp,?_⟩⟩
 .intro i r' b h1 h2;cases i with
  | zero=>simp only [List.getElem?_cons_zero,Option.some.injEq]at h1 h2;subst h1 h2;exact⟨by rw [hr],rfl,of_eq_true (ve _)⟩
  | succ i=>simp at h1
 .simp [exA,exC,exB,nameOf,pinA,wsA,ws]
 .intro a ha;simp only [List.mem_cons,List.not_mem_nil,or_false]at ha;subst ha;simp [pasA,pasC,pasB,nameOf,pinA]
 simp only [go_sem,yj,hr];refine Xa (λn:Nat=>⟨mkV [(0,.one (.own 1048576 ver 1 0 n))],mkH [(1048576,⟨ver,some ⟨(l++post).map wc,1,true⟩⟩)]⟩)
  (λn=>n<=l.length/\val (l.take n)=val l) id l.length ?_ ?_ ?_
 .exact Qa (by simp [okS,okV,okC,okL,okH,okB,okE,ja,Va,qa,ka,wsA,ws]) (qj (by simp))
 .simp
 .rintro n ⟨hn,ht⟩;simp only [go_sem,hr];rw [show((n:Int)-1).toNat=n-1 by omega]
  refine λ_=>⟨λh=>λ_=>⟨by omega,by omega,by simp;omega,?_,?_⟩,λh=>?_⟩
  .rw [zaO (by omega)]
   refine λh0 _=>⟨by omega,by omega,by omega,n-1,Qa (by simp [okS,okV,okC,okL,okH,okB,okE,ja,Va,qa,ka,wsA,ws]) (qj rfl),⟨by omega,?_⟩,by simp only [id];omega⟩
   have:=Zc l (n-1);rw [show n-1+1=n by omega,h0,Nat.mul_zero,Nat.add_zero]at this
   rw [<-this];exact ht
  .rw [zaO (by omega)]
   intro h0;have:=Je (uy hl n) (yJ h hn h0);rw [ht]at this;have h2:=hK (l.drop n++post);rw [this,List.length_take,Nat.min_eq_left hn,<-List.append_assoc,List.take_append_drop]at h2;exact h2
  .have h1:n=0:=by omega
   subst h1;have:val l=0:=by rw [<-ht];simp [val]
   have h2:=hK (l++post);rw [this,yb]at h2;exact h2
theorem Xak(hΓ:Holds P Γ){f fw fc:Nat}(hw:Γ fw=.dat true Jl)(hc' : Γ fc=.own Z9)(hc:check P f=some (26,(xg fw fc).strip,[.tmp 2])):Sound P f (.own uo):=by
 refine Vg hc hΓ (λd args h K hG=>?_);unfold uo at hG;split at hG
 case h_2=>exact hG.elim
 rename_i r ver len;obtain⟨l,post,rfl,hr,hl,hll,hK⟩:=hG;refine⟨[r],[⟨(l++post).map wc,1,true⟩],[.one (.own 1048576 ver 1 0 l.length)],by simp,rfl,?_,?_,?_,λhfi=>⟨by simp,?_⟩⟩
 .intro i r' b h1 h2;cases i with
  | zero=>simp only [List.getElem?_cons_zero,Option.some.injEq]at h1 h2;subst h1 h2;exact⟨by rw [hr],rfl,of_eq_true (ve _)⟩
  | succ i=>simp at h1
 .simp [exA,exC,exB,nameOf,pinA,wsA,ws]
 .intro a ha;simp only [List.mem_cons,List.not_mem_nil,or_false]at ha;subst ha;simp [pasA,pasC,pasB,nameOf,pinA]
 simp only [go_sem,xg,hr];intro h1;refine Xa (λo:List Nat=>⟨mkV [(0,.one (.own 1048576 ver 1 0 l.length)),(5,.one (.lit (.int .i64 l.length))),(6,.one (.lit (.int .i64 o.length)))],mkH [(1048576,⟨ver,some ⟨(o++(l.drop o.length++post)).map wc,1,true⟩⟩)]⟩)
  (λo=>o.length<=l.length/\WL o/\val o=val l / 2 % 4294967296 ^ o.length) (λo=>l.length-o.length) [] ?_ ?_ ?_
 .exact Qa (by simp [okS,okV,okC,okL,okH,okB,okE,ja,Va,qa,ka,wsA,ws]) (qj (by simp))
 .simp [zd,val];omega
 .rintro o ⟨hoN,ho,hval⟩;have hw2:=qbr ho hl;simp only [go_sem,hr,hw,hc',Ya5 hoN,kaj hoN,Nat.le_add_right,yav,VY];refine⟨λhlt=>⟨hw2,by decide,by omega,hw2,by decide,⟨rfl,by have:=Ub hl o.length;omega,by omega⟩,hlt,by omega,by omega,?_⟩,λhge=>?_⟩
  .have hd:=Ybf (Ub hl o.length) (Ub hl (o.length+1));rw [Y9 hl (by omega),Nat.pow_one]at hd
   rw [hd,Yav _ hlt];generalize hv:val l / 2 / 4294967296 ^ o.length % 4294967296=v;have hvB:v<4294967296:=by rw [<-hv];exact Nat.mod_lt _ (by omega)
   refine⟨o++[v],Qa (by simp [okS,okV,okC,okL,okH,okB,okE,ja,Va,qa,ka,wsA,ws]) (qj rfl),⟨by simp;omega,ue.2 ⟨ho,xc.2 ⟨hvB,zd⟩⟩,?_⟩,by simp;omega⟩
   rw [Yc,List.length_append,List.length_singleton,uH,hv,<-hval];simp [val]
  .have e:o.length=l.length:=by omega
   have hlt:val l / 2<4294967296 ^ l.length:=Nat.lt_of_le_of_lt (Nat.div_le_self _ _) (ul hl);rw [e,Nat.mod_eq_of_lt hlt]at hval;rw [List.drop_of_length_le (by omega),List.nil_append,<-e]
   refine⟨o,post,rfl,by simp [qa],ho,by omega,λpost'=>?_⟩
   simp only [go_sem];rw [hval];exact hK post'
theorem WaE(hΓ:Holds P Γ){f fw:Nat}(hw:Γ fw=.dat true Jl)(hc:check P f=some (31,(xe fw).strip,[])):Sound P f (.own kw):=by
 refine Vg hc hΓ (λd args h K hG=>?_);unfold kw at hG;split at hG
 case h_3=>exact hG.elim
 case h_2=>
  rename_i r ver len b _;obtain⟨y,rfl,hy,l,post,rfl,hr,hl,hll,hle,hK⟩:=hG;refine⟨[r],[⟨(l++post).map wc,1,true⟩],[.one (.own 1048576 ver 1 0 l.length),wsA y],by simp,rfl,?_,?_,?_,λhfi=>⟨by simp,?_⟩⟩
  .intro i r' b h1 h2;cases i with
   | zero=>simp only [List.getElem?_cons_zero,Option.some.injEq]at h1 h2;subst h1 h2;exact⟨by rw [hr],rfl,of_eq_true (ve _)⟩
   | succ i=>simp at h1
  .simp [exA,exC,exB,nameOf,pinA,wsA,ws]
  .intro a ha;simp only [List.mem_cons,List.not_mem_nil,or_false]at ha;rcases ha with rfl | rfl
   .simp [pasA,pasC,pasB,nameOf,pinA]
   .exact .slice _ (of_eq_true (ve _))
  simp only [go_sem,xe,hr];intro h1;refine Xa (λp:List Nat×Nat=>⟨mkV [(0,.one (.own 1048576 ver 1 0 l.length)),(1,wsA y),(4,.one (.lit (.int .u64 p.2))),(8,.one (.lit (.int .i64 l.length))),(9,.one (.lit (.int .i64 p.1.length)))],
    mkH [(1048576,⟨ver,some ⟨(p.1++(l.drop p.1.length++post)).map wc,1,true⟩⟩)]⟩)
   (λp=>p.1.length<=l.length/\WL p.1/\p.2<=1/\val p.1+val (y.take p.1.length)=val (l.take p.1.length)+4294967296 ^ p.1.length*p.2) (λp=>l.length-p.1.length) ([],0) ?_ ?_ ?_
  .exact Qa (by simp [okS,okV,okC,okL,okH,okB,okE,ja,Va,qa,ka,wsA,ws]) (qj (by simp))
  .simp [zd,val]
  .rintro⟨o,c⟩ ⟨hoN,ho,hc1,hval⟩;simp only at hoN ho hc1 hval;have hw2:=qbr ho hl;simp only [go_sem,hr,hw,Ya5 hoN,kaj hoN,Nat.le_add_right,yav,VY];refine⟨λhlt=>?_,λhge=>?_⟩
   .obtain⟨s,e1,e2,e3,e4⟩:=QV (Ub hl o.length) (Ub hy o.length) hc1;simp only [e1,e2,Va9,Yav _ hlt];refine⟨hw2,hy,⟨by omega,by decide,by decide⟩,hlt,by omega,by omega,(o++[s % 4294967296],1-s / 4294967296),Qa (by simp [okS,okV,okC,okL,okH,okB,okE,ja,Va,qa,ka,wsA,ws,e2]) (by first | exact Qaa rfl | exact⟨XaP rfl,kb rfl,trivial⟩),⟨by simp;omega,ue.2 ⟨ho,xc.2 ⟨Nat.mod_lt _ (by omega),zd⟩⟩,e4,?_⟩,by simp;omega⟩
    simp only [List.length_append,List.length_cons,List.length_nil,Nat.zero_add,Zc,Yc,xi,xm,Nat.mul_zero,Nat.add_zero,Nat.pow_succ];exact xI hval e3
   .have e:o.length=l.length:=by omega
    have hv:=JI ho hl e hle hval;have hd:=VD ho;rw [hv,e]at hd;rw [hd]at hK;rw [List.drop_of_length_le (by omega),List.nil_append]
    exact hK
 case h_1=>
  rename_i r ver len r2 ver2 len2;obtain⟨l,post,y,posty,hne,rfl,hr,hl,hll,rfl,hr2,hy,hle,hK⟩:=hG;refine⟨[r,r2],[⟨(l++post).map wc,1,true⟩,⟨(y++posty).map wc,1,true⟩],[.one (.own 1048576 ver 1 0 l.length),.one (.own 1048577 ver2 1 0 y.length)],by simp [hne],rfl,?_,?_,?_,λhfi=>⟨by simp,?_⟩⟩
  .intro i r' b h1 h2;cases i with
   | zero=>simp only [List.getElem?_cons_zero,Option.some.injEq]at h1 h2;subst h1 h2;exact⟨by rw [hr],rfl,of_eq_true (ve _)⟩
   | succ i=>
    cases i with
    | zero=>simp only [List.getElem?_cons_zero,List.getElem?_cons_succ,Option.some.injEq]at h1 h2;subst h1 h2;exact⟨by rw [hr2],rfl,of_eq_true (ve _)⟩
    | succ i=>simp at h1
  .simp [exA,exC,exB,nameOf,pinA,wsA,ws]
  .intro a ha;simp only [List.mem_cons,List.not_mem_nil,or_false]at ha;rcases ha with rfl | rfl
   .simp [pasA,pasC,pasB,nameOf,pinA]
   .simp [pasA,pasC,pasB,nameOf,pinA]
  simp only [go_sem,xe,hr,hr2];intro h1;refine Xa (λp:List Nat×Nat=>⟨mkV [(0,.one (.own 1048576 ver 1 0 l.length)),(1,.one (.own 1048577 ver2 1 0 y.length)),(4,.one (.lit (.int .u64 p.2))),(8,.one (.lit (.int .i64 l.length))),(9,.one (.lit (.int .i64 p.1.length)))],
    mkH [(1048576,⟨ver,some ⟨(p.1++(l.drop p.1.length++post)).map wc,1,true⟩⟩),(1048577,⟨ver2,some ⟨(y++posty).map wc,1,true⟩⟩)]⟩)
   (λp=>p.1.length<=l.length/\WL p.1/\p.2<=1/\val p.1+val (y.take p.1.length)=val (l.take p.1.length)+4294967296 ^ p.1.length*p.2) (λp=>l.length-p.1.length) ([],0) ?_ ?_ ?_
  .exact Qa (by simp [okS,okV,okC,okL,okH,okB,okE,ja,Va,qa,ka,wsA,ws]) ⟨kb (by simp),kb rfl,trivial⟩
  .simp [zd,val]
  .rintro⟨o,c⟩ ⟨hoN,ho,hc1,hval⟩;simp only at hoN ho hc1 hval;have hw2:=qbr ho hl;simp only [go_sem,hr,hr2,hw,Ya5 hoN,kaj hoN,Nat.le_add_right,yav,VY,List.length_append,List.take_left];refine⟨λhlt=>?_,λhge=>?_⟩
   .obtain⟨s,e1,e2,e3,e4⟩:=QV (Ub hl o.length) (Ub hy o.length) hc1;simp only [e1,e2,Va9,Yav _ hlt];refine⟨hw2,hy,⟨by omega,by decide,by decide⟩,hlt,by omega,by omega,(o++[s % 4294967296],1-s / 4294967296),Qa (by simp [okS,okV,okC,okL,okH,okB,okE,ja,Va,qa,ka,wsA,ws,e2]) (by first | exact Qaa rfl | exact⟨XaP rfl,kb rfl,trivial⟩),⟨by simp;omega,ue.2 ⟨ho,xc.2 ⟨Nat.mod_lt _ (by omega),zd⟩⟩,e4,?_⟩,by simp;omega⟩
    simp only [List.length_append,List.length_cons,List.length_nil,Nat.zero_add,Zc,Yc,xi,xm,Nat.mul_zero,Nat.add_zero,Nat.pow_succ];exact xI hval e3
   .have e:o.length=l.length:=by omega
    have hv:=JI ho hl e hle hval;have hd:=VD ho;rw [hv,e]at hd;rw [hd]at hK;rw [List.drop_of_length_le (by omega),List.nil_append]
    exact hK
end Go.Abs
end
section
namespace Go.Abs
open Go.Num
variable {P:Program} {Γ:Nat->Spec}
def Uj(f0 f1 f2 f3 f4 f5:Nat):AC:=(.seq (.ops false [.m 4 (.c (.one .emp))])
 (.fg [0,1] (.seq (.ops false [.m 6 (.t 0),.u 7 (.callf f0 [(.t 6)]),.m 8 (.t 1),.u 9 (.callf f0 [(.t 8)]),.m 0 (.t 7),.m 1 (.t 9)])
 (.fg [0,1] (.seq (.seq (.ops false [.m 10 (.t 0),.u 11 (.len (.t 10)),.u 12 (.bin .eql (.t 11) (.i 0))])
 (.fg [0,1,12] (.cond (.t 12) (.seq (.ops false [.m 13 (.t 1),.m 4 (.t 13)])
 .ret) .skip)))
 (.fg [0,1] (.seq (.seq (.ops false [.m 14 (.t 1),.u 15 (.len (.t 14)),.u 16 (.bin .eql (.t 15) (.i 0))])
 (.fg [0,1,16] (.cond (.t 16) (.seq (.ops false [.m 17 (.t 0),.m 4 (.t 17)])
 .ret) .skip)))
 (.fg [0,1] (.seq (.ops false [.m 5 (.i 0)])
 (.fg [0,1,5] (.seq (.block 0 (.loop (.seq (.seq (.ops false [.m 18 (.t 0),.u 19 (.idx 1 (.t 18) (.i 0)),.u 20 (.ld none 1 false (.t 19)),.u 21 (.bin .and (.t 20) (.c (.one (.lit (.int .u32 1))))),.u 22 (.bin .eql (.t 21) (.c (.one (.lit (.int .u32 0))))),.m 23 (.t 22),.w 24 23 true (.mv (.t 1)),.w 25 23 true (.idx 1 (.t 24) (.i 0)),.w 26 23 true (.ld none 1 false (.t 25)),.w 27 23 true (.bin .and (.t 26) (.c (.one (.lit (.int .u32 1))))),.w 28 23 true (.bin .eql (.t 27) (.c (.one (.lit (.int .u32 0))))),.u 29 (.pick (.t 23) (.t 28) .fa)])
 (.fg [0,1,5,29] (.cond (.t 29) .skip (.exit 0))))
 (.fg [0,1,5] (.block 1 (.seq (.ops false [.m 30 (.t 0),.u 31 (.call f1 [(.t 30)]),.m 32 (.t 1),.u 33 (.call f1 [(.t 32)]),.m 0 (.t 31),.m 1 (.t 33)])
 (.fg [0,1,5] (.ops false [.m 34 (.t 5),.u 35 (.bin .add (.t 34) (.i 1)),.m 5 (.t 35)]))))))))
 (.fg [0,1,5] (.seq (.block 2 (.loop (.seq (.seq (.ops false [.m 36 (.t 0),.u 37 (.len (.t 36)),.u 38 (.bin .gtr (.t 37) (.i 0))])
 (.fg [0,1,5,38] (.cond (.t 38) .skip (.exit 2))))
 (.fg [0,1,5] (.block 3 (.seq (.block 4 (.loop (.seq (.seq (.ops false [.m 39 (.t 0),.u 40 (.idx 1 (.t 39) (.i 0)),.u 41 (.ld none 1 false (.t 40)),.u 42 (.bin .and (.t 41) (.c (.one (.lit (.int .u32 1))))),.u 43 (.bin .eql (.t 42) (.c (.one (.lit (.int .u32 0)))))])
 (.fg [0,1,5,43] (.cond (.t 43) .skip (.exit 4))))
 (.fg [0,1,5] (.block 5 (.ops false [.m 44 (.t 0),.u 45 (.call f1 [(.t 44)]),.m 0 (.t 45)]))))))
 (.fg [0,1,5] (.seq (.block 6 (.loop (.seq (.seq (.ops false [.m 46 (.t 1),.u 47 (.idx 1 (.t 46) (.i 0)),.u 48 (.ld none 1 false (.t 47)),.u 49 (.bin .and (.t 48) (.c (.one (.lit (.int .u32 1))))),.u 50 (.bin .eql (.t 49) (.c (.one (.lit (.int .u32 0)))))])
 (.fg [0,1,5,50] (.cond (.t 50) .skip (.exit 6))))
 (.fg [0,1,5] (.block 7 (.ops false [.m 51 (.t 1),.u 52 (.call f1 [(.t 51)]),.m 1 (.t 52)]))))))
 (.fg [0,1,5] (.seq (.seq (.ops false [.m 53 (.t 0),.m 54 (.t 1),.u 55 (.call f2 [(.t 53),(.t 54)]),.u 56 (.bin .lss (.t 55) (.i 0))])
 (.fg [0,1,5,56] (.cond (.t 56) (.ops false [.m 57 (.t 1),.m 58 (.t 0),.m 0 (.t 57),.m 1 (.t 58)]) .skip)))
 (.fg [0,1,5] (.seq (.ops false [.m 59 (.t 0),.m 60 (.t 1),.u 61 (.call f3 [(.t 59),(.t 60)])])
 (.fg [0,1,5] (.ops false [.m 62 (.t 0),.u 63 (.call f4 [(.t 62)]),.m 0 (.t 63)]))))))))))))))
 (.fg [1,5] (.seq (.seq (.ops false [.m 64 (.t 5),.m 65 (.i 0)])
 (.fg [1,64,65] (.fz [1] (.block 8 (.loop (.seq (.ops false [.u 66 (.bin .lss (.t 65) (.t 64))])
 (.fg [1,64,65,66] (.seq (.cond (.t 66) .skip (.exit 8))
 (.fg [1,64,65] (.seq (.block 9 (.ops false [.m 67 (.t 1),.m 68 (.t 1),.u 69 (.call f5 [(.t 67),(.t 68)]),.m 1 (.t 69)]))
 (.fg [1,64,65] (.ops false [.u 70 (.bin .add (.t 65) (.i 1)),.m 65 (.t 70)]))))))))))))
 (.fg [1] (.seq (.ops false [.m 71 (.t 1),.m 4 (.t 71)])
 .ret)))))))))))))))))
theorem Yah(hΓ:Holds P Γ){f ft fh fc fk fu fp:Nat}(ht:Γ ft=.fresh 1 Qx)(hh:Γ fh=.own uo)(hcm:Γ fc=.dat true Qt)(hk:Γ fk=.own kw)(hu:Γ fu=.own Z9)(hp:Γ fp=.dat false Vp)
    (hc:check P f=some (72,(Uj ft fh fc fk fu fp).strip,[.tmp 4])):Sound P f (.dat false yx):=by
  refine Wa hc JaG hΓ (λargs K hcl hfi hG=>?_);match args,hG with
  | [a,b],hG=>
    obtain⟨x,rfl,hx,y,rfl,hy,hxl,hyl,hK⟩:=hG;refine⟨by simp,?_⟩
    simp only [go_sem,Uj,ht,hh,hcm,hk,hu,hp];have hxv:=xz (ul hx);have hyv:=xz (ul hy);refine⟨hx,by omega,hy,by omega,λ_=>⟨λh0=>?_,λh0 _=>⟨λh1=>?_,λh1=>?_⟩⟩⟩
    . rw [uw.1 h0,Nat.gcd_zero_left]at hK;exact hK
    . rw [uw.1 h1,Nat.gcd_zero_right]at hK;exact hK
    rw [uw]at h0 h1;refine Xa (λp:(Nat×List Nat)×(Nat×List Nat)×Nat=>⟨mkV [(0,.one (.own 7 1 1 0 (digs p.1.1).length)),(1,.one (.own 9 1 1 0 (digs p.2.1.1).length)),(5,.one (.lit (.int .i64 p.2.2)))],mkH [(7,⟨1,some ⟨(digs p.1.1++p.1.2).map wc,1,true⟩⟩),(9,⟨1,some ⟨(digs p.2.1.1++p.2.1.2).map wc,1,true⟩⟩)]⟩)
      (λp=>p.1.1≠0/\p.2.1.1≠0/\p.1.1<=val x/\p.2.1.1<=val y/\p.1.1*2 ^ p.2.2<=val x/\Nat.gcd p.1.1 p.2.1.1*2 ^ p.2.2=Nat.gcd (val x) (val y)) (λp=>p.1.1) ((val x,[]),(val y,[]),0) ?_ ?_ ?_
    . exact Qa (by simp [okS,okV,okC,okL,okH,okB,okE,ja,Va,qa,ka,wsA,ws]) ⟨kb (by simp),kb (by simp),trivial⟩
    . exact⟨h0,h1,Nat.le_refl _,Nat.le_refl _,by simp,by simp⟩
    . rintro⟨⟨a,pa⟩,⟨b,pb⟩,k⟩ ⟨ha,hb,hax,hby,hak,hg⟩
      simp only at ha hb hax hby hak hg;have hkb:k<32*x.length:=kbp (n:=val x) (Nat.le_trans (Nat.le_mul_of_pos_left _ (by omega)) hak) (ul hx)
      have hal:=Nat.le_trans (Ua hax) hxv;have hbl:=Nat.le_trans (Ua hby) hyv;have hap:=Zl ha;have hbp:=Zl hb;simp only [go_sem,hh,hcm,hk,hu,hp,km,vw ha,vw hb,hap,hbp,List.length_append];refine share4 (by omega) (by omega) (Nat.mod_lt _ (by omega)) (by omega) (by omega) (Nat.mod_lt _ (by omega)) (λhae hbe=>?_) (λhodd=>?_)
      . simp only [uo]
        refine⟨digs a,pa,rfl,by simp [qa],qb _,by omega,λpa'=>?_⟩
        refine⟨digs b,pb,rfl,by simp [upd,qa],qb _,by omega,λpb'=>?_⟩
        simp only [go_sem,jb];refine⟨by omega,((a / 2,pa'),(b / 2,pb'),k+1),Qa (by simp [okS,okV,okC,okL,okH,okB,okE,ja,Va,qa,ka,wsA,ws]) ⟨kb rfl,kb rfl,trivial⟩,⟨by simp only;omega,by simp only;omega,by simp only;omega,by simp only;omega,?_,vbN (by omega) (by omega) hg⟩,by simp only;omega⟩
        simp only;refine Nat.le_trans ?_ hak;rw [Nat.pow_succ,Nat.mul_comm (2 ^ k) 2,<-Nat.mul_assoc];exact Nat.mul_le_mul_right _ (by omega)
      . refine Xa (λp : Bool × (Nat × List Nat) × (Nat × List Nat) => match p.1 with
            | false=>⟨mkV [(0,.one (.own 7 1 1 0 (digs p.2.1.1).length)),(1,.one (.own 9 1 1 0 (digs p.2.2.1).length)),(5,.one (.lit (.int .i64 k)))],mkH [(7,⟨1,some ⟨(digs p.2.1.1++p.2.1.2).map wc,1,true⟩⟩),(9,⟨1,some ⟨(digs p.2.2.1++p.2.2.2).map wc,1,true⟩⟩)]⟩
            | true=>⟨mkV [(0,.one (.own 9 1 1 0 (digs p.2.1.1).length)),(1,.one (.own 7 1 1 0 (digs p.2.2.1).length)),(5,.one (.lit (.int .i64 k)))],mkH [(9,⟨1,some ⟨(digs p.2.1.1++p.2.1.2).map wc,1,true⟩⟩),(7,⟨1,some ⟨(digs p.2.2.1++p.2.2.2).map wc,1,true⟩⟩)]⟩)
          (λp=>p.2.2.1≠0/\(p.2.1.1 % 2≠0∨p.2.2.1 % 2≠0)/\(digs p.2.1.1).length<=17179869184/\(digs p.2.2.1).length<=17179869184/\Nat.gcd p.2.1.1 p.2.2.1*2 ^ k=Nat.gcd (val x) (val y)) (λp=>p.2.1.1+p.2.2.1) (false,(a,pa),(b,pb)) ?_ ?_ ?_
        . exact Qa (by simp [okS,okV,okC,okL,okH,okB,okE,ja,Va,qa,ka,wsA,ws]) ⟨kb rfl,kb rfl,trivial⟩
        . exact⟨hb,by simp only;omega,by simp only;omega,by simp only;omega,hg⟩
        clear hax hby hak hal hbl hap hbp hg ha hb hodd;rintro⟨sw,⟨a,pa⟩,⟨b,pb⟩⟩ ⟨hb,hodd,hal,hbl,hg⟩;simp only at hb hodd hal hbl hg;cases sw with
        | false=>
          simp only [go_sem,hh,hcm,hk,hu,hp,km,jb,List.length_append,Nat.le_add_right,List.take_left];refine λ_=>⟨λhap=>?_,λhap=>?_⟩
          . have ha:a≠0:=λe=>by rw [e,yb]at hap;simp at hap
            refine Xa (λp:Nat×List Nat=>⟨mkV [(0,.one (.own 7 1 1 0 (digs p.1).length)),(1,.one (.own 9 1 1 0 (digs b).length)),(5,.one (.lit (.int .i64 k)))],mkH [(7,⟨1,some ⟨(digs p.1++p.2).map wc,1,true⟩⟩),(9,⟨1,some ⟨(digs b++pb).map wc,1,true⟩⟩)]⟩)
              (λp=>p.1≠0/\p.1<=a/\(p.1 % 2≠0∨b % 2≠0)/\Nat.gcd p.1 b*2 ^ k=Nat.gcd (val x) (val y)) (λp=>p.1) (a,pa) ?_ ?_ ?_
            . exact Qa (by simp [okS,okV,okC,okL,okH,okB,okE,ja,Va,qa,ka,wsA,ws]) ⟨kb rfl,kb rfl,trivial⟩
            . exact⟨ha,Nat.le_refl _,hodd,hg⟩
            . rintro⟨a',pa⟩ ⟨ha',haa,hodd,hg⟩
              simp only at ha' haa hodd hg;have hap:=Zl ha';simp only [go_sem,hh,hcm,hk,hu,hp,km,jb,List.length_append,Nat.le_add_right,List.take_left,vw ha',hap];refine⟨by omega,by omega,Nat.mod_lt _ (by omega),λhe=>?_,λhao=>?_⟩
              . simp only [uo]
                refine⟨digs a',pa,rfl,by simp [qa],qb _,by have:=Ua haa;omega,λpa'=>?_⟩
                simp only [go_sem,hh,hcm,hk,hu,hp,km,jb,List.length_append,Nat.le_add_right,List.take_left];refine⟨(a' / 2,pa'),Qa (by simp [okS,okV,okC,okL,okH,okB,okE,ja,Va,qa,ka,wsA,ws]) ⟨kb rfl,kb rfl,trivial⟩,⟨by simp only;omega,by simp only;omega,.inr (by omega),?_⟩,by simp only;omega⟩
                rw [<-hg];simp only;rw [ya4 (by omega) (by omega)]
              . refine Xa (λp:Nat×List Nat=>⟨mkV [(0,.one (.own 7 1 1 0 (digs a').length)),(1,.one (.own 9 1 1 0 (digs p.1).length)),(5,.one (.lit (.int .i64 k)))],mkH [(7,⟨1,some ⟨(digs a'++pa).map wc,1,true⟩⟩),(9,⟨1,some ⟨(digs p.1++p.2).map wc,1,true⟩⟩)]⟩)
                  (λp=>p.1≠0/\p.1<=b/\Nat.gcd a' p.1*2 ^ k=Nat.gcd (val x) (val y)) (λp=>p.1) (b,pb) ?_ ?_ ?_
                . exact Qa (by simp [okS,okV,okC,okL,okH,okB,okE,ja,Va,qa,ka,wsA,ws]) ⟨kb rfl,kb rfl,trivial⟩
                . exact⟨hb,Nat.le_refl _,hg⟩
                . rintro⟨b',pb⟩ ⟨hb',hbb,hg⟩
                  simp only at hb' hbb hg;have hbp:=Zl hb';simp only [go_sem,hh,hcm,hk,hu,hp,km,jb,List.length_append,Nat.le_add_right,List.take_left,vw hb',hbp];refine⟨by omega,by omega,Nat.mod_lt _ (by omega),λhe=>?_,λhbo=>?_⟩
                  . simp only [uo]
                    refine⟨digs b',pb,rfl,by simp [qa],qb _,by have:=Ua hbb;omega,λpb'=>?_⟩
                    simp only [go_sem,hh,hcm,hk,hu,hp,km,jb,List.length_append,Nat.le_add_right,List.take_left];refine⟨(b' / 2,pb'),Qa (by simp [okS,okV,okC,okL,okH,okB,okE,ja,Va,qa,ka,wsA,ws]) ⟨kb rfl,kb rfl,trivial⟩,⟨by simp only;omega,by simp only;omega,?_⟩,by simp only;omega⟩
                    rw [<-hg];simp only;rw [Ubj (by omega) (by omega)]
                  . have hlb:=Ua hbb
                    have hla:=Ua haa;refine⟨qb _,qb _,λhlt=>?_,λhge=>?_⟩
                    . have hlt:=QI.1 hlt
                      simp only [kw];have e:val (dig (digs b').length (val (digs b')-val (digs a')))=b' - a':=by
                        rw [Uk,jb,jb,Nat.mod_eq_of_lt];exact Nat.lt_of_le_of_lt (Nat.sub_le _ _) (Xk b')
                      refine⟨digs b',pb,digs a',pa,by decide,rfl,by simp [qa],qb _,by omega,rfl,by simp [qa],qb _,by rw [jb,jb];omega,?_⟩
                      refine⟨dig (digs b').length (val (digs b')-val (digs a')),pb,(Zb _ _).symm,by simp [upd,qa],Wl _ _,by omega,λpost'=>?_⟩
                      simp only [go_sem,e];have hle:=Nat.le_trans (Ua (Nat.sub_le b' a')) (Ua hbb);refine⟨(true,(b' - a',post'),(a',pa)),Qa (by simp [okS,okV,okC,okL,okH,okB,okE,ja,Va,qa,ka,wsA,ws]) ⟨kb rfl,kb rfl,trivial⟩,⟨ha',.inr (by simp only;omega),by simp only;omega,by simp only;omega,?_⟩,by simp only;omega⟩
                      simp only;rw [xX (by omega),Nat.gcd_comm];exact hg
                    . have hge:=mt QI.2 hge
                      simp only [kw];have e:val (dig (digs a').length (val (digs a')-val (digs b')))=a' - b':=by
                        rw [Uk,jb,jb,Nat.mod_eq_of_lt];exact Nat.lt_of_le_of_lt (Nat.sub_le _ _) (Xk a')
                      refine⟨digs a',pa,digs b',pb,by decide,rfl,by simp [qa],qb _,by omega,rfl,by simp [qa],qb _,by rw [jb,jb];omega,?_⟩
                      refine⟨dig (digs a').length (val (digs a')-val (digs b')),pa,(Zb _ _).symm,by simp [upd,qa],Wl _ _,by omega,λpost'=>?_⟩
                      simp only [go_sem,e];have hle:=Nat.le_trans (Ua (Nat.sub_le a' b')) (Ua haa);refine⟨(false,(a' - b',post'),(b',pb)),Qa (by simp [okS,okV,okC,okL,okH,okB,okE,ja,Va,qa,ka,wsA,ws]) ⟨kb rfl,kb rfl,trivial⟩,⟨hb',.inr (by simp only;omega),by simp only;omega,by simp only;omega,?_⟩,by simp only;omega⟩
                      simp only;rw [xX (by omega)];exact hg
          . have ha:a=0:=uw.1 (by omega)
            rw [ha,Nat.gcd_zero_left]at hg;refine Xa (λj:Nat=>⟨mkV [(1,.one (ws (digs (b*2 ^ j)))),(64,.one (.lit (.int .i64 k))),(65,.one (.lit (.int .i64 j)))],mkH []⟩) (λj=>j<=k) (λj=>k-j) 0 ?_ ?_ ?_
            . exact Qa (by simp [okS,okV,okC,okL,okH,okB,okE,ja,Va,qa,ka,wsA,ws]) trivial
            . exact Nat.zero_le _
            . rintro j hj
              simp only [go_sem,hh,hcm,hk,hu,hp,km,jb,List.length_append,Nat.le_add_right,List.take_left];refine⟨λhlt=>?_,λhge=>?_⟩
              . have hj1:b*2 ^ (j+1)<=val x:=by
                  refine Nat.le_trans (Nat.mul_le_mul_left b (Nat.pow_le_pow_right (by omega) hlt)) ?_
                  rw [hg];exact Nat.le_of_dvd (by omega) (Nat.gcd_dvd_left _ _)
                have e:b*2 ^ j+b*2 ^ j=b*2 ^ (j+1):=by rw [Nat.pow_succ,<-Nat.mul_assoc];omega
                have hl1:=Nat.le_trans (Ua (show b*2 ^ j<=val x by omega)) hxv
                rw [e];refine⟨qb _,qb _,by omega,by omega,by omega,j+1,Qa (by simp [okS,okV,okC,okL,okH,okB,okE,ja,Va,qa,ka,wsA,ws]) trivial,by omega,by omega⟩
              . have e:j=k:=by omega
                rw [e,hg];exact hK
        | true=>
          simp only [go_sem,hh,hcm,hk,hu,hp,km,jb,List.length_append,Nat.le_add_right,List.take_left];refine λ_=>⟨λhap=>?_,λhap=>?_⟩
          . have ha:a≠0:=λe=>by rw [e,yb]at hap;simp at hap
            refine Xa (λp:Nat×List Nat=>⟨mkV [(0,.one (.own 9 1 1 0 (digs p.1).length)),(1,.one (.own 7 1 1 0 (digs b).length)),(5,.one (.lit (.int .i64 k)))],mkH [(9,⟨1,some ⟨(digs p.1++p.2).map wc,1,true⟩⟩),(7,⟨1,some ⟨(digs b++pb).map wc,1,true⟩⟩)]⟩)
              (λp=>p.1≠0/\p.1<=a/\(p.1 % 2≠0∨b % 2≠0)/\Nat.gcd p.1 b*2 ^ k=Nat.gcd (val x) (val y)) (λp=>p.1) (a,pa) ?_ ?_ ?_
            . exact Qa (by simp [okS,okV,okC,okL,okH,okB,okE,ja,Va,qa,ka,wsA,ws]) ⟨kb rfl,kb rfl,trivial⟩
            . exact⟨ha,Nat.le_refl _,hodd,hg⟩
            . rintro⟨a',pa⟩ ⟨ha',haa,hodd,hg⟩
              simp only at ha' haa hodd hg;have hap:=Zl ha';simp only [go_sem,hh,hcm,hk,hu,hp,km,jb,List.length_append,Nat.le_add_right,List.take_left,vw ha',hap];refine⟨by omega,by omega,Nat.mod_lt _ (by omega),λhe=>?_,λhao=>?_⟩
              . simp only [uo]
                refine⟨digs a',pa,rfl,by simp [qa],qb _,by have:=Ua haa;omega,λpa'=>?_⟩
                simp only [go_sem,hh,hcm,hk,hu,hp,km,jb,List.length_append,Nat.le_add_right,List.take_left];refine⟨(a' / 2,pa'),Qa (by simp [okS,okV,okC,okL,okH,okB,okE,ja,Va,qa,ka,wsA,ws]) ⟨kb rfl,kb rfl,trivial⟩,⟨by simp only;omega,by simp only;omega,.inr (by omega),?_⟩,by simp only;omega⟩
                rw [<-hg];simp only;rw [ya4 (by omega) (by omega)]
              . refine Xa (λp:Nat×List Nat=>⟨mkV [(0,.one (.own 9 1 1 0 (digs a').length)),(1,.one (.own 7 1 1 0 (digs p.1).length)),(5,.one (.lit (.int .i64 k)))],mkH [(9,⟨1,some ⟨(digs a'++pa).map wc,1,true⟩⟩),(7,⟨1,some ⟨(digs p.1++p.2).map wc,1,true⟩⟩)]⟩)
                  (λp=>p.1≠0/\p.1<=b/\Nat.gcd a' p.1*2 ^ k=Nat.gcd (val x) (val y)) (λp=>p.1) (b,pb) ?_ ?_ ?_
                . exact Qa (by simp [okS,okV,okC,okL,okH,okB,okE,ja,Va,qa,ka,wsA,ws]) ⟨kb rfl,kb rfl,trivial⟩
                . exact⟨hb,Nat.le_refl _,hg⟩
                . rintro⟨b',pb⟩ ⟨hb',hbb,hg⟩
                  simp only at hb' hbb hg;have hbp:=Zl hb';simp only [go_sem,hh,hcm,hk,hu,hp,km,jb,List.length_append,Nat.le_add_right,List.take_left,vw hb',hbp];refine⟨by omega,by omega,Nat.mod_lt _ (by omega),λhe=>?_,λhbo=>?_⟩
                  . simp only [uo]
                    refine⟨digs b',pb,rfl,by simp [qa],qb _,by have:=Ua hbb;omega,λpb'=>?_⟩
                    simp only [go_sem,hh,hcm,hk,hu,hp,km,jb,List.length_append,Nat.le_add_right,List.take_left];refine⟨(b' / 2,pb'),Qa (by simp [okS,okV,okC,okL,okH,okB,okE,ja,Va,qa,ka,wsA,ws]) ⟨kb rfl,kb rfl,trivial⟩,⟨by simp only;omega,by simp only;omega,?_⟩,by simp only;omega⟩
                    rw [<-hg];simp only;rw [Ubj (by omega) (by omega)]
                  . have hlb:=Ua hbb
                    have hla:=Ua haa;refine⟨qb _,qb _,λhlt=>?_,λhge=>?_⟩
                    . have hlt:=QI.1 hlt
                      simp only [kw];have e:val (dig (digs b').length (val (digs b')-val (digs a')))=b' - a':=by
                        rw [Uk,jb,jb,Nat.mod_eq_of_lt];exact Nat.lt_of_le_of_lt (Nat.sub_le _ _) (Xk b')
                      refine⟨digs b',pb,digs a',pa,by decide,rfl,by simp [qa],qb _,by omega,rfl,by simp [qa],qb _,by rw [jb,jb];omega,?_⟩
                      refine⟨dig (digs b').length (val (digs b')-val (digs a')),pb,(Zb _ _).symm,by simp [upd,qa],Wl _ _,by omega,λpost'=>?_⟩
                      simp only [go_sem,e];have hle:=Nat.le_trans (Ua (Nat.sub_le b' a')) (Ua hbb);refine⟨(false,(b' - a',post'),(a',pa)),Qa (by simp [okS,okV,okC,okL,okH,okB,okE,ja,Va,qa,ka,wsA,ws]) ⟨kb rfl,kb rfl,trivial⟩,⟨ha',.inr (by simp only;omega),by simp only;omega,by simp only;omega,?_⟩,by simp only;omega⟩
                      simp only;rw [xX (by omega),Nat.gcd_comm];exact hg
                    . have hge:=mt QI.2 hge
                      simp only [kw];have e:val (dig (digs a').length (val (digs a')-val (digs b')))=a' - b':=by
                        rw [Uk,jb,jb,Nat.mod_eq_of_lt];exact Nat.lt_of_le_of_lt (Nat.sub_le _ _) (Xk a')
                      refine⟨digs a',pa,digs b',pb,by decide,rfl,by simp [qa],qb _,by omega,rfl,by simp [qa],qb _,by rw [jb,jb];omega,?_⟩
                      refine⟨dig (digs a').length (val (digs a')-val (digs b')),pa,(Zb _ _).symm,by simp [upd,qa],Wl _ _,by omega,λpost'=>?_⟩
                      simp only [go_sem,e];have hle:=Nat.le_trans (Ua (Nat.sub_le a' b')) (Ua haa);refine⟨(true,(a' - b',post'),(b',pb)),Qa (by simp [okS,okV,okC,okL,okH,okB,okE,ja,Va,qa,ka,wsA,ws]) ⟨kb rfl,kb rfl,trivial⟩,⟨hb',.inr (by simp only;omega),by simp only;omega,by simp only;omega,?_⟩,by simp only;omega⟩
                      simp only;rw [xX (by omega)];exact hg
          . have ha:a=0:=uw.1 (by omega)
            rw [ha,Nat.gcd_zero_left]at hg;refine Xa (λj:Nat=>⟨mkV [(1,.one (ws (digs (b*2 ^ j)))),(64,.one (.lit (.int .i64 k))),(65,.one (.lit (.int .i64 j)))],mkH []⟩) (λj=>j<=k) (λj=>k-j) 0 ?_ ?_ ?_
            . exact Qa (by simp [okS,okV,okC,okL,okH,okB,okE,ja,Va,qa,ka,wsA,ws]) trivial
            . exact Nat.zero_le _
            . rintro j hj
              simp only [go_sem,hh,hcm,hk,hu,hp,km,jb,List.length_append,Nat.le_add_right,List.take_left];refine⟨λhlt=>?_,λhge=>?_⟩
              . have hj1:b*2 ^ (j+1)<=val x:=by
                  refine Nat.le_trans (Nat.mul_le_mul_left b (Nat.pow_le_pow_right (by omega) hlt)) ?_
                  rw [hg];exact Nat.le_of_dvd (by omega) (Nat.gcd_dvd_left _ _)
                have e:b*2 ^ j+b*2 ^ j=b*2 ^ (j+1):=by rw [Nat.pow_succ,<-Nat.mul_assoc];omega
                have hl1:=Nat.le_trans (Ua (show b*2 ^ j<=val x by omega)) hxv
                rw [e];refine⟨qb _,qb _,by omega,by omega,by omega,j+1,Qa (by simp [okS,okV,okC,okL,okH,okB,okE,ja,Va,qa,ka,wsA,ws]) trivial,by omega,by omega⟩
              . have e:j=k:=by omega
                rw [e,hg];exact hK
end Go.Abs
end
section
namespace Go.Abs
open Go.Num
variable {P:Program} {Γ:Nat->Spec}
def zg(f0 f1 f2 f3:Nat):AC:=(.seq (.ops false [.m 4 (.c (.one .emp)),.m 5 (.c (.one .emp))])
 (.fg [0,1] (.seq (.ops false [.m 11 (.t 0),.u 12 (.len (.t 11)),.u 13 (.mk 1 [(.lit (.int .u32 0))] (.t 12) (.t 12)),.m 6 (.t 13)])
 (.fg [0,1,6] (.seq (.ops false [.m 14 (.t 1),.u 15 (.len (.t 14)),.u 16 (.bin .add (.t 15) (.i 1)),.u 17 (.mk 1 [(.lit (.int .u32 0))] (.t 16) (.t 16)),.m 7 (.t 17)])
 (.fg [0,1,6,7] (.seq (.seq (.ops false [.m 18 (.t 0),.u 19 (.call f0 [(.t 18)]),.u 20 (.bin .sub (.t 19) (.i 1)),.m 8 (.t 20)])
 (.fg [0,1,6,7,8] (.block 0 (.loop (.seq (.seq (.ops false [.m 21 (.t 8),.u 22 (.bin .geq (.t 21) (.i 0))])
 (.fg [0,1,6,7,8,22] (.cond (.t 22) .skip (.exit 0))))
 (.fg [0,1,6,7,8] (.seq (.block 1 (.seq (.ops false [.m 25 (.t 0),.m 26 (.t 8),.u 27 (.bin .quo (.t 26) (.i 32)),.u 28 (.idx 1 (.t 25) (.t 27)),.u 29 (.ld none 1 false (.t 28)),.m 30 (.t 8),.u 31 (.bin .rem (.t 30) (.i 32)),.u 32 (.bin .shr (.t 29) (.t 31)),.u 33 (.bin .and (.t 32) (.c (.one (.lit (.int .u32 1))))),.m 9 (.t 33)])
 (.fg [0,1,6,7,8,9] (.seq (.seq (.ops false [.m 34 (.t 7),.u 35 (.len (.t 34)),.m 36 (.i 0)])
 (.fg [0,1,6,7,8,9,35,36] (.block 2 (.loop (.seq (.ops false [.u 37 (.bin .lss (.t 36) (.t 35))])
 (.fg [0,1,6,7,8,9,35,36,37] (.seq (.cond (.t 37) .skip (.exit 2))
 (.fg [0,1,6,7,8,9,35,36] (.seq (.block 3 (.seq (.ops false [.m 38 (.t 36),.m 10 (.t 38)])
 (.fg [0,1,6,7,8,9,10,35,36] (.ops true [.m 39 (.t 7),.m 40 (.t 10),.m 41 (.t 7),.m 42 (.t 10),.u 43 (.idx 1 (.t 41) (.t 42)),.u 44 (.ld none 1 false (.t 43)),.u 45 (.bin .shl (.t 44) (.c (.one (.lit (.int .u64 1))))),.m 46 (.t 9),.u 47 (.bin .or (.t 45) (.t 46)),.m 48 (.t 7),.m 49 (.t 10),.u 50 (.idx 1 (.t 48) (.t 49)),.u 51 (.ld none 1 false (.t 50)),.u 52 (.bin .shr (.t 51) (.c (.one (.lit (.int .u64 31))))),.u 53 (.idx 1 (.t 39) (.t 40)),.n (.st none 1 (.t 53) (.t 47)),.m 9 (.t 52)]))))
 (.fg [0,1,6,7,8,9,35,36] (.ops false [.u 54 (.bin .add (.t 36) (.i 1)),.m 36 (.t 54)])))))))))))
 (.fg [0,1,6,7,8] (.seq (.ops false [.m 55 (.t 7),.m 56 (.t 1),.u 57 (.call f1 [(.t 55),(.t 56)]),.u 58 (.bin .geq (.t 57) (.i 0))])
 (.fg [0,1,6,7,8,58] (.cond (.t 58) (.seq (.ops false [.m 59 (.t 7),.m 60 (.t 1),.u 61 (.call f2 [(.t 59),(.t 60)])])
 (.fg [0,1,6,7,8] (.ops true [.m 62 (.t 6),.m 63 (.t 8),.u 64 (.bin .quo (.t 63) (.i 32)),.u 65 (.idx 1 (.t 62) (.t 64)),.u 66 (.ld none 1 false (.t 65)),.m 67 (.t 8),.u 68 (.bin .rem (.t 67) (.i 32)),.u 69 (.bin .shl (.c (.one (.lit (.int .u32 1)))) (.t 68)),.u 70 (.bin .or (.t 66) (.t 69)),.u 71 (.idx 1 (.t 62) (.t 64)),.n (.st none 1 (.t 71) (.t 70))]))) .skip))))))))
 (.fg [0,1,6,7,8] (.ops false [.m 23 (.t 8),.u 24 (.bin .sub (.t 23) (.i 1)),.m 8 (.t 24)])))))))))
 (.fg [6,7] (.seq (.ops false [.m 72 (.t 6),.u 73 (.callf f3 [(.t 72)]),.m 74 (.t 7),.u 75 (.callf f3 [(.t 74)]),.m 4 (.t 73),.m 5 (.t 75)])
 .ret)))))))))
theorem VO(hΓ:Holds P Γ){f fb fc fk ft:Nat}(hb:Γ fb=.dat true Wr)(hcm:Γ fc=.dat true Qt)(hk:Γ fk=.own kw)(ht:Γ ft=.fresh 1 Qx)
  (hc:check P f=some (76,(zg fb fc fk ft).strip,[.tmp 4,.tmp 5])):Sound P f (.dat false vh):=by
 refine Wa hc YJ hΓ (λargs K hcl hfi hG=>?_);match args,hG with
 | [a,b],hG=>
  obtain⟨x,rfl,hx,y,rfl,hy,hnx,hny,hy0,hxl,hyl,hK⟩:=hG;refine⟨by simp,?_⟩
  simp only [go_sem,zg,hb,hcm,hk,ht];intro h1;refine⟨by omega,λ_=>⟨by omega,by omega,hx,by omega,?_⟩⟩
  obtain⟨n,hn⟩:∃n,(if x.length=0 then 0 else 32*(x.length-1)+bln (x.getD (x.length-1) 0))=n:=⟨_,rfl⟩
  have hnlt:val x<2 ^ n:=by
   rw [<-hn];split
   .rename_i h0;rw [List.eq_nil_of_length_eq_zero h0];simp [val]
   .exact Qbs hx ‹_›
  have hnb:n<=32*x.length:=by
   rw [<-hn];split
   .omega
   .have:=kbm (k:=32) (n:=x.getD (x.length-1) 0) (Ub hx _);omega
  have hy1:0<val y:=by
   have:=Zd hny hy0;omega
  rw [hn];refine⟨by omega,?_⟩
  refine Xa (λp:Nat×List Nat×List Nat=>⟨mkV [(0,wsA x),(1,wsA y),(6,.one (.own 13 1 1 0 x.length)),(7,.one (.own 17 1 1 0 (y.length+1))),(8,.one (.lit (.int .i64 ((p.1:Int)-1))))],mkH [(13,⟨1,some ⟨p.2.1.map wc,1,true⟩⟩),(17,⟨1,some ⟨p.2.2.map wc,1,true⟩⟩)]⟩)
   (λp=>p.1<=n/\WL p.2.1/\p.2.1.length=x.length/\val p.2.1=val x / 2 ^ p.1 / val y*2 ^ p.1/\WL p.2.2/\p.2.2.length=y.length+1/\val p.2.2=val x / 2 ^ p.1 % val y) (λp=>p.1) (n,List.replicate x.length 0,List.replicate (y.length+1) 0) ?_ ?_ ?_
  .exact Qa (by simp [okS,okV,okC,okL,okH,okB,okE,ja,Va,qa,ka,wsA,ws]) ⟨kb (by simp),kb (by simp),trivial⟩
  .simp [ybl,Wam,Nat.div_eq_of_lt hnlt]
  .rintro⟨n',q,r⟩ ⟨hn',hq,hql,hqv,hr,hrl,hrv⟩;simp only at hn' hq hql hqv hr hrl hrv;cases n' with
   | zero=>
    have e:((0:Nat):Int)-1 = -1:=rfl;have e' : ((0:Int)<=-1)=False:=by simp
    simp only [go_sem,hb,hcm,hk,ht,e,e',hql,hrl];simp only [Nat.pow_zero,Nat.div_one,Nat.mul_one]at hqv hrv;rw [hqv,hrv];exact⟨hq,by omega,hr,by omega,hK⟩
   | succ i=>
    have e:((i+1:Nat):Int)-1=(i:Int):=by omega
    have e1:(i:Int) / 32=((i / 32:Nat):Int):=rfl;have e2:(i:Int) % 32=((i % 32:Nat):Int):=rfl;have e3:=QbN hx i;have hi32:i / 32<x.length:=by omega
    have hib:i % 32<32:=Nat.mod_lt _ (by omega)
    simp only [go_sem,hb,hcm,hk,ht,e,e1,e2,e3,km,hql,hrl];have g1:=Ub hx (i / 32);have g2:x.getD (i / 32) 0 / 2 ^ (i % 32)<2 ^ IntKind.u32.bits:=Nat.lt_of_le_of_lt (Nat.div_le_self _ _) g1;have g3:((i % 32:Nat):Int)<=IntKind.u32.bits:=by have:IntKind.u32.bits=32:=rfl;omega
    refine⟨by decide,by omega,hi32,by decide,by omega,g2,λhyl'=>?_⟩
    generalize hbit:val x / 2 ^ i % 2=bit;have hbit1:bit<=1:=by omega
    refine Xa (λp:List Nat×Nat=>⟨mkV [(0,wsA x),(1,wsA y),(6,.one (.own 13 1 1 0 x.length)),(7,.one (.own 17 1 1 0 (y.length+1))),(8,.one (.lit (.int .i64 i))),(9,.one (.lit (.int .u32 p.2))),(35,.one (.lit (.int .i64 (y.length+1:Nat)))),(36,.one (.lit (.int .i64 p.1.length)))],
      mkH [(13,⟨1,some ⟨q.map wc,1,true⟩⟩),(17,⟨1,some ⟨(p.1++r.drop p.1.length).map wc,1,true⟩⟩)]⟩)
     (λp=>p.1.length<=r.length/\WL p.1/\p.2<=1/\val p.1+4294967296 ^ p.1.length*p.2=2*val (r.take p.1.length)+bit) (λp=>r.length-p.1.length) ([],bit) ?_ ?_ ?_
    .exact Qa (by simp [okS,okV,okC,okL,okH,okB,okE,ja,Va,qa,ka,wsA,ws]) ⟨kb rfl,kb (by simp),trivial⟩
    .simp [zd,val,hbit1]
    .rintro⟨o,c⟩ ⟨hol,ho,hc1,hov⟩;simp only at hol ho hc1 hov;by_cases hlt:o.length<y.length+1
     .have g4:=Ub hr o.length;simp only [go_sem,hb,hcm,hk,ht,xbo hol,hrl,hlt,VY,not_true,vbG hc1,kbx _ (show o.length<r.length by omega)]
      refine⟨⟨rfl,by decide,by decide⟩,⟨rfl,Nat.mod_lt _ (by omega),by omega⟩,⟨by decide,by decide⟩,by omega,(o++[r.getD o.length 0*2 % 4294967296+c],r.getD o.length 0 / 2147483648),Qa (by simp [okS,okV,okC,okL,okH,okB,okE,ja,Va,qa,ka,wsA,ws]) ⟨kb rfl,kb rfl,trivial⟩,⟨by simp;omega,ue.2 ⟨ho,xc.2 ⟨by omega,zd⟩⟩,by simp only;omega,?_⟩,by simp;omega⟩
      simp only [List.length_append,List.length_cons,List.length_nil,Nat.zero_add,Zc,Yc,xi,xm,Nat.mul_zero,Nat.add_zero,Nat.pow_succ];exact kbd hov g4
     .have hoe:o.length=y.length+1:=by omega
      have hd:r.drop (y.length+1)=[]:=List.drop_of_length_le (by omega)
      simp only [go_sem,hb,hcm,hk,ht,hd,hoe,Nat.lt_irrefl,e1,e2];have hrlt:val r<val y:=by rw [hrv];exact Nat.mod_lt _ hy1
      have hylt:=ul hy;rw [List.take_of_length_le (by omega),hoe,Nat.pow_succ]at hov
      have hc0:c=0:=by
       rcases Nat.eq_zero_or_pos c with h | h
       .exact h
       .exfalso;have:4294967296 ^ y.length*4294967296*1<=4294967296 ^ y.length*4294967296*c:=Nat.mul_le_mul_left _ h;omega
      subst hc0;rw [Nat.mul_zero,Nat.add_zero]at hov;refine⟨ho,hy,λh=>?_,λh=>?_⟩
      .have hge:=Qw.1 h;have hs:=xaW hy1 hbit hqv hrv (by omega)
       simp only [kw,XH];refine⟨hy,o,[],hoe.symm,by simp [qa],ho,by omega,hge,?_⟩
       have hp32:2 ^ (i % 32)<4294967296:=Nat.lt_of_lt_of_le (Nat.pow_lt_pow_right (by omega) hib) (by decide)
       have e4:(1*2 ^ (i % 32) % 4294967296:Int)=((2 ^ (i % 32):Nat):Int):=by
        rw [Int.one_mul,show((2:Int) ^ (i % 32))=((2 ^ (i % 32):Nat):Int) by rw [Int.natCast_pow];rfl]
        generalize 2 ^ (i % 32)=w at hp32 ⊢;omega
       have e5:=zbx hib (Ubf hq hqv);have g5:=Ub hq (i / 32);simp only [go_sem,e1,e2,hql,Zb,hoe,e4,e5];have hsv:=qZ q (i / 32) (q.getD (i / 32) 0+2 ^ (i % 32)) (by omega)
       have hpp:=UM i;rw [Nat.mul_add]at hsv;have hv2:val (q.set (i / 32) (q.getD (i / 32) 0+2 ^ (i % 32)))=val q+2 ^ i:=by omega
       have hsum:q.getD (i / 32) 0+2 ^ (i % 32)<4294967296:=by
        rw [<-e5];exact Nat.or_lt_two_pow (n:=32) g5 hp32
       refine⟨by decide,by omega,hi32,hi32,by decide,⟨rfl,by decide,by omega⟩,⟨rfl,g5,hp32⟩,hi32,hi32,⟨by omega,by omega⟩,(i,q.set (i / 32) (q.getD (i / 32) 0+2 ^ (i % 32)),dig (y.length+1) (val o-val y)),Qa (by simp [okS,okV,okC,okL,okH,okB,okE,ja,Va,qa,ka,wsA,ws]) ⟨kb rfl,kb rfl,trivial⟩,⟨by simp only;omega,waU hq _ hsum,by simp [hql],?_,Wl _ _,Zb _ _,?_⟩,by simp only;omega⟩
       .simp only;rw [hv2];exact hs.1
       .simp only;rw [Uk,hov,hs.2,Nat.mod_eq_of_lt];have:=Nat.mod_lt (val x / 2 ^ i) hy1;have h6:(4294967296:Nat) ^ y.length<=4294967296 ^ (y.length+1):=Nat.pow_le_pow_right (by omega) (by omega)
        omega
      .have hlt2:=mt Qw.2 h;have hs:=yaL hy1 hbit hqv hrv (by omega)
       refine⟨by omega,(i,q,o),Qa (by simp [okS,okV,okC,okL,okH,okB,okE,ja,Va,qa,ka,wsA,ws]) ⟨kb rfl,kb rfl,trivial⟩,⟨by simp only;omega,hq,hql,hs.1,ho,hoe,by simp only;rw [hov];exact hs.2⟩,by simp only;omega⟩
end Go.Abs
end
