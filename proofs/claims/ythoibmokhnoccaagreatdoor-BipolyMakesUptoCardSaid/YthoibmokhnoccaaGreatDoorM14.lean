/-
  Parts of the proof, merged: PolyS, PolyU, PolyT, PolyV, RefB, RefC, RefD, RefE, RefF.
-/
import Derived.Test.YthoibmokhnoccaaGreatDoorM13
set_option linter.unusedVariables false
set_option linter.unusedSimpArgs false
set_option maxRecDepth 100000
section
namespace Go.Num
theorem getMM{α:Type}(U V:List α)(x d:α){n:Nat}(h:U.length=n):(U++x::V).getD n d=x:=by
 subst h;simp [List.getD_eq_getElem?_getD]
theorem setMM{α:Type}(U V:List α)(x y:α){n:Nat}(h:U.length=n):(U++x::V).set n y=U++y::V:=by
 subst h;rw [List.set_append_right _ _ (Nat.le_refl _),Nat.sub_self,List.set_cons_zero]
end Go.Num
namespace Go.Abs
open Go.Num
variable {P:Program} {Γ:Nat->Spec}
def Wz(fc:Nat)(d:Option Nat)(args:List AV)(h:Nat->HB)(K:AV->(Nat->HB)->Prop):Prop:=
 match args with
 | [.one (.own r ver 5 0 len),.one (.lit (.int .i64 a)),.one (.lit (.int .i64 b)),.one (.lit (.int .i64 n)),c]=>∃(U A M B V:List Mo),c=fnV fc/\a=U.length/\b=(U.length+A.length+M.length:Nat)/\n=A.length/\A.length=B.length/\
   U.length+A.length+M.length+B.length<=len/\len<=U.length+A.length+M.length+B.length+V.length/\len<=68719476736/\
   h r=⟨ver,some ⟨(U++A++M++B++V).map mC,5,true⟩⟩/\K (.tup []) (upd h r ⟨ver,some ⟨(U++B++M++A++V).map mC,5,true⟩⟩)
 | _=>False
@[congr] theorem vbX {fc:Nat} {d:Option Nat} {l l' : List AV} {h h' : Nat->HB} {K:AV->(Nat->HB)->Prop} (e1:l=l') (e2:h=h'):Wz fc d l h K=Wz fc d l' h' K:=by subst e1;subst e2;rfl
def YA(fc:Nat)(d:Option Nat)(args:List AV)(h:Nat->HB)(K:AV->(Nat->HB)->Prop):Prop:=
 match args with
 | [.one (.own r ver 5 0 len),.one (.lit (.int .i64 a)),.one (.lit (.int .i64 m)),.one (.lit (.int .i64 b)),c]=>∃(U A B V:List Mo),c=fnV fc/\a=U.length/\m=(U.length+A.length:Nat)/\b=(U.length+A.length+B.length:Nat)/\A≠[]/\B≠[]/\
   U.length+A.length+B.length<=len/\len<=U.length+A.length+B.length+V.length/\len<=68719476736/\
   h r=⟨ver,some ⟨(U++A++B++V).map mC,5,true⟩⟩/\K (.tup []) (upd h r ⟨ver,some ⟨(U++B++A++V).map mC,5,true⟩⟩)
 | _=>False
@[congr] theorem XbZ {fc:Nat} {d:Option Nat} {l l' : List AV} {h h' : Nat->HB} {K:AV->(Nat->HB)->Prop} (e1:l=l') (e2:h=h'):YA fc d l h K=YA fc d l' h' K:=by subst e1;subst e2;rfl
def Jh(fc N:Nat)(d:Option Nat)(args:List AV)(h:Nat->HB)(K:AV->(Nat->HB)->Prop):Prop:=
 match args with
 | [.one (.own r ver 5 0 len),.one (.lit (.int .i64 a)),.one (.lit (.int .i64 m)),.one (.lit (.int .i64 b)),c]=>∃(U A B V:List Mo),c=fnV fc/\a=U.length/\m=(U.length+A.length:Nat)/\b=(U.length+A.length+B.length:Nat)/\A≠[]/\B≠[]/\A.length+B.length<=N/\
   U.length+A.length+B.length<=len/\len<=U.length+A.length+B.length+V.length/\len<=1073741824/\okMs A/\okMs B/\SortM A/\SortM B/\
   h r=⟨ver,some ⟨(U++A++B++V).map mC,5,true⟩⟩/\∀C:List Mo,(A++B).Perm C->SortM C->K (.tup []) (upd h r ⟨ver,some ⟨(U++C++V).map mC,5,true⟩⟩)
 | _=>False
@[congr] theorem ybV {fc N:Nat} {d:Option Nat} {l l' : List AV} {h h' : Nat->HB} {K:AV->(Nat->HB)->Prop} (e1:l=l') (e2:h=h'):Jh fc N d l h K=Jh fc N d l' h' K:=by subst e1;subst e2;rfl
def Xc:AC:=(.o [.N 10 0] [0,1,2,3,10] (.block 0 (.loop (.f (.o [.M 11 10,.M 12 3,.B 13 .lss 11 12] [0,1,2,3,10,13] (.cond (.t 13) .skip (.exit 0))) [0,1,2,3,10] (.f (.block 1 (.y [.M 16 0,.M 17 1,.M 18 10,.B 19 .add 17 18,.M 20 0,.M 21 2,.M 22 10,.B 23 .add 21 22,.M 24 0,.M 25 2,.M 26 10,.B 27 .add 25 26,.J 28 5 24 27,.L 29 5 28,.M 30 0,.M 31 1,.M 32 10,.B 33 .add 31 32,.J 34 5 30 33,.L 35 5 34,.J 36 5 16 19,.S 5 36 29,.J 37 5 20 23,.S 5 37 35])) [0,1,2,3,10] (.p [.M 14 10,.I 15 .add 14 1,.M 10 15]))))))
def Xd(f0:Nat):AC:=(.o [.M 12 2,.M 13 1,.B 14 .sub 12 13,.M 10 14] [0,2,3,4,10] (.o [.M 15 3,.M 16 2,.B 17 .sub 15 16,.M 11 17] [0,2,4,10,11] (.f (.block 0 (.loop (.f (.o [.M 18 10,.M 19 11,.B 20 .neq 18 19] [0,2,4,10,11,20] (.cond (.t 20) .skip (.exit 0))) [0,2,4,10,11] (.block 1 (.o [.M 21 10,.M 22 11,.B 23 .gtr 21 22] [0,2,4,10,11,23] (.cond (.t 23) (.o [.M 24 0,.M 25 2,.M 26 10,.B 27 .sub 25 26,.M 28 2,.M 29 11,.M 30 4,.u 31 (.call f0 [(.t 24),(.t 27),(.t 28),(.t 29),(.t 30)])] [0,2,4,10,11] (.p [.M 32 10,.M 33 11,.B 34 .sub 32 33,.M 10 34])) (.o [.M 35 0,.M 36 2,.M 37 10,.B 38 .sub 36 37,.M 39 2,.M 40 11,.B 41 .add 39 40,.M 42 10,.B 43 .sub 41 42,.M 44 10,.M 45 4,.u 46 (.call f0 [(.t 35),(.t 38),(.t 43),(.t 44),(.t 45)])] [0,2,4,10,11] (.p [.M 47 11,.M 48 10,.B 49 .sub 47 48,.M 11 49])))))))) [0,2,4,10] (.p [.M 50 0,.M 51 2,.M 52 10,.B 53 .sub 51 52,.M 54 2,.M 55 10,.M 56 4,.u 57 (.call f0 [(.t 50),(.t 53),(.t 54),(.t 55),(.t 56)])]))))
def Xa(f0 f1:Nat):AC:=(.f (.o [.M 25 2,.M 26 1,.B 27 .sub 25 26,.I 28 .eql 27 1] [0,1,2,3,4,28] (.cond (.t 28) (.o [.M 29 2,.M 10 29] [0,1,3,4,10] (.o [.M 30 3,.M 11 30] [0,1,4,10,11] (.f (.block 0 (.loop (.f (.o [.M 31 10,.M 32 11,.B 33 .lss 31 32] [0,1,4,10,11,33] (.cond (.t 33) .skip (.exit 0))) [0,1,4,10,11] (.block 1 (.o [.M 34 10,.M 35 11,.B 36 .add 34 35,.u 37 (.conv .u64 (.t 36)),.u 38 (.bin .shr (.t 37) (.c (.one (.lit (.int .u64 1))))),.u 39 (.conv .i64 (.t 38)),.M 12 39] [0,1,4,10,11,12] (.f (.y [.M 40 4,.M 41 0,.M 42 12,.J 43 5 41 42,.L 44 5 43,.M 45 0,.M 46 1,.J 47 5 45 46,.L 48 5 47,.u 49 (.callv (.t 40) [(.t 44),(.t 48)]),.I 50 .lss 49 0]) [0,1,4,10,11,12,50] (.cond (.t 50) (.p [.M 51 12,.I 52 .add 51 1,.M 10 52]) (.p [.M 53 12,.M 11 53])))))))) [0,1,10] (.seq (.o [.M 54 1,.M 13 54] [0,10,13] (.block 2 (.loop (.f (.o [.M 55 13,.M 56 10,.I 57 .sub 56 1,.B 58 .lss 55 57] [0,10,13,58] (.cond (.t 58) .skip (.exit 2))) [0,10,13] (.f (.block 3 (.y [.M 61 0,.M 62 13,.M 63 0,.M 64 13,.I 65 .add 64 1,.M 66 0,.M 67 13,.I 68 .add 67 1,.J 69 5 66 68,.L 70 5 69,.M 71 0,.M 72 13,.J 73 5 71 72,.L 74 5 73,.J 75 5 61 62,.S 5 75 70,.J 76 5 63 65,.S 5 76 74])) [0,10,13] (.p [.M 59 13,.I 60 .add 59 1,.M 13 60])))))) .ret)))) .skip)) [0,1,2,3,4] (.f (.o [.M 77 3,.M 78 2,.B 79 .sub 77 78,.I 80 .eql 79 1] [0,1,2,3,4,80] (.cond (.t 80) (.o [.M 81 1,.M 14 81] [0,2,4,14] (.o [.M 82 2,.M 15 82] [0,2,4,14,15] (.f (.block 4 (.loop (.f (.o [.M 83 14,.M 84 15,.B 85 .lss 83 84] [0,2,4,14,15,85] (.cond (.t 85) .skip (.exit 4))) [0,2,4,14,15] (.block 5 (.o [.M 86 14,.M 87 15,.B 88 .add 86 87,.u 89 (.conv .u64 (.t 88)),.u 90 (.bin .shr (.t 89) (.c (.one (.lit (.int .u64 1))))),.u 91 (.conv .i64 (.t 90)),.M 16 91] [0,2,4,14,15,16] (.f (.y [.M 92 4,.M 93 0,.M 94 2,.J 95 5 93 94,.L 96 5 95,.M 97 0,.M 98 16,.J 99 5 97 98,.L 100 5 99,.u 101 (.callv (.t 92) [(.t 96),(.t 100)]),.I 102 .lss 101 0,.u 103 (.un .not (.t 102))]) [0,2,4,14,15,16,103] (.cond (.t 103) (.p [.M 104 16,.I 105 .add 104 1,.M 14 105]) (.p [.M 106 16,.M 15 106])))))))) [0,2,14] (.seq (.o [.M 107 2,.M 17 107] [0,14,17] (.block 6 (.loop (.f (.o [.M 108 17,.M 109 14,.B 110 .gtr 108 109] [0,14,17,110] (.cond (.t 110) .skip (.exit 6))) [0,14,17] (.f (.block 7 (.y [.M 113 0,.M 114 17,.M 115 0,.M 116 17,.I 117 .sub 116 1,.M 118 0,.M 119 17,.I 120 .sub 119 1,.J 121 5 118 120,.L 122 5 121,.M 123 0,.M 124 17,.J 125 5 123 124,.L 126 5 125,.J 127 5 113 114,.S 5 127 122,.J 128 5 115 117,.S 5 128 126])) [0,14,17] (.p [.M 111 17,.I 112 .sub 111 1,.M 17 112])))))) .ret)))) .skip)) [0,1,2,3,4] (.o [.M 129 1,.M 130 3,.B 131 .add 129 130,.u 132 (.conv .u64 (.t 131)),.u 133 (.bin .shr (.t 132) (.c (.one (.lit (.int .u64 1))))),.u 134 (.conv .i64 (.t 133)),.M 18 134] [0,1,2,3,4,18] (.o [.M 135 18,.M 136 2,.B 137 .add 135 136,.M 19 137] [0,1,2,3,4,18,19] (.o [.N 20 0,.N 21 0] [0,1,2,3,4,18,19] (.f (.o [.M 138 2,.M 139 18,.B 140 .gtr 138 139] [0,1,2,3,4,18,19,140] (.cond (.t 140) (.o [.M 141 19,.M 142 3,.B 143 .sub 141 142,.M 20 143] [0,1,2,3,4,18,19,20] (.p [.M 144 18,.M 21 144])) (.o [.M 145 1,.M 20 145] [0,1,2,3,4,18,19,20] (.p [.M 146 2,.M 21 146])))) [0,1,2,3,4,18,19,20,21] (.o [.M 147 19,.I 148 .sub 147 1,.M 22 148] [0,1,2,3,4,18,19,20,21,22] (.f (.block 8 (.loop (.f (.o [.M 149 20,.M 150 21,.B 151 .lss 149 150] [0,1,2,3,4,18,19,20,21,22,151] (.cond (.t 151) .skip (.exit 8))) [0,1,2,3,4,18,19,20,21,22] (.block 9 (.o [.M 152 20,.M 153 21,.B 154 .add 152 153,.u 155 (.conv .u64 (.t 154)),.u 156 (.bin .shr (.t 155) (.c (.one (.lit (.int .u64 1))))),.u 157 (.conv .i64 (.t 156)),.M 23 157] [0,1,2,3,4,18,19,20,21,22,23] (.f (.y [.M 158 4,.M 159 0,.M 160 22,.M 161 23,.B 162 .sub 160 161,.J 163 5 159 162,.L 164 5 163,.M 165 0,.M 166 23,.J 167 5 165 166,.L 168 5 167,.u 169 (.callv (.t 158) [(.t 164),(.t 168)]),.I 170 .lss 169 0,.u 171 (.un .not (.t 170))]) [0,1,2,3,4,18,19,20,21,22,23,171] (.cond (.t 171) (.p [.M 172 23,.I 173 .add 172 1,.M 20 173]) (.p [.M 174 23,.M 21 174])))))))) [0,1,2,3,4,18,19,20] (.o [.M 175 19,.M 176 20,.B 177 .sub 175 176,.M 24 177] [0,1,2,3,4,18,20,24] (.f (.o [.M 178 20,.M 179 2,.B 180 .lss 178 179,.M 181 180,.V 182 181 true 2,.V 183 181 true 24,.w 184 181 true (.bin .lss (.t 182) (.t 183)),.P 185 181 184] [0,1,2,3,4,18,20,24,185] (.cond (.t 185) (.p [.M 186 0,.M 187 20,.M 188 2,.M 189 24,.M 190 4,.u 191 (.call f0 [(.t 186),(.t 187),(.t 188),(.t 189),(.t 190)])]) .skip)) [0,1,3,4,18,20,24] (.f (.o [.M 192 1,.M 193 20,.B 194 .lss 192 193,.M 195 194,.V 196 195 true 20,.V 197 195 true 18,.w 198 195 true (.bin .lss (.t 196) (.t 197)),.P 199 195 198] [0,1,3,4,18,20,24,199] (.cond (.t 199) (.p [.M 200 0,.M 201 1,.M 202 20,.M 203 18,.M 204 4,.u 205 (.call f1 [(.t 200),(.t 201),(.t 202),(.t 203),(.t 204)])]) .skip)) [0,3,4,18,24] (.o [.M 206 18,.M 207 24,.B 208 .lss 206 207,.M 209 208,.V 210 209 true 24,.V 211 209 true 3,.w 212 209 true (.bin .lss (.t 210) (.t 211)),.P 213 209 212] [0,3,4,18,24,213] (.cond (.t 213) (.p [.M 214 0,.M 215 18,.M 216 24,.M 217 3,.M 218 4,.u 219 (.call f1 [(.t 214),(.t 215),(.t 216),(.t 217),(.t 218)])]) .skip)))))))))))))
theorem qaM(hΓ:Holds P Γ){f fc:Nat}(hc:check P f=some (38,Xc.strip,[])):Sound P f (.own (Wz fc)):=by
 refine Ye hc hΓ (λd args h K hG=>?_);unfold Wz at hG;split at hG
 case h_2=>exact hG.elim
 rename_i r ver len x1 x2 x3 c;obtain⟨U,A,M,B,V,rfl,hx1,hx2,hx3,hAB,hlen,hlen2,hroom,hr,hK⟩:=hG;obtain⟨D,hD⟩:∃D,D=U++A++M++B++V:=⟨_,rfl⟩;rw [<-hD]at hr;have hDl:D.length=U.length+A.length+M.length+B.length+V.length:=by rw [hD];simp [Nat.add_assoc]
 refine⟨[r],[⟨D.map mC,5,true⟩],[.one (.own 1048576 ver 5 0 len),.one (.lit (.int .i64 x1)),.one (.lit (.int .i64 x2)),.one (.lit (.int .i64 x3)),fnV fc],by simp,rfl,?_,?_,?_,λhfi=>⟨by simp,?_⟩⟩
 .intro i r' b h1 h2;cases i with
  | zero=>simp only [List.getElem?_cons_zero,Option.some.injEq]at h1 h2;subst h1 h2;exact⟨by rw [hr],rfl,of_eq_true (Je _)⟩
  | succ i=>simp at h1
 .simp [exA,exC,exB,nameOf,pinA,fnV]
 .intro a ha;simp only [List.mem_cons,List.not_mem_nil,or_false]at ha;rcases ha with rfl | rfl | rfl | rfl | rfl
  .simp [pasA,pasC,pasB,nameOf,pinA]
  .exact .lit _
  .exact .lit _
  .exact .lit _
  .exact .lit _
 simp only [go_sem,Xc,hr,fnV];refine ja (λp:List Mo×List Mo×List Mo×List Mo=>⟨mkV [(0,.one (.own 1048576 ver 5 0 len)),(1,.one (.lit (.int .i64 x1))),(2,.one (.lit (.int .i64 x2))),(3,.one (.lit (.int .i64 x3))),(10,.one (.lit (.int .i64 p.1.length)))],mkH [(1048576,⟨ver,some ⟨(U++(p.2.2.1++p.2.1)++M++(p.1++p.2.2.2)++V).map mC,5,true⟩⟩)]⟩)
  (λp=>A=p.1++p.2.1/\B=p.2.2.1++p.2.2.2/\p.1.length=p.2.2.1.length) (λp=>p.2.1.length) ([],A,[],B) ?_ ?_ ?_
 .exact qa (by simp [bitvec_to_nat]) (wi (by simp [hD]))
 .exact⟨rfl,rfl,rfl⟩
 .rintro⟨A1,A2,B1,B2⟩ ⟨hA,hB,h1⟩;simp only at hA hB h1;have lA:=congrArg List.length hA;have lB:=congrArg List.length hB;simp only [List.length_append]at lA lB;rcases A2 with _ | ⟨x,A2⟩
  .have hlt:¬((A1.length:Int)<x3):=by simp only [List.length_nil]at lA;omega
   simp only [go_sem,hr,hlt];rcases B2 with _ | ⟨y,B2⟩
   .simp only [List.append_nil]at hA hB ⊢;subst hA hB;exact hK
   .simp only [List.length_nil,List.length_cons]at *;omega
  .rcases B2 with _ | ⟨y,B2⟩
   .simp only [List.length_nil,List.length_cons]at *;omega
   .simp only [List.length_cons]at lA lB;have hlt:(A1.length:Int)<x3:=by omega
    obtain⟨E,hE⟩:∃E,E=U++(B1++x::A2)++M++(A1++y::B2)++V:=⟨_,rfl⟩;have hEl:E.length=D.length:=by rw [hE,hDl];simp only [List.length_append,List.length_cons];omega
    have e1:E=(U++B1)++x::(A2++M++(A1++y::B2)++V):=by rw [hE];simp
    have e2:E=(U++(B1++x::A2)++M++A1)++y::(B2++V):=by rw [hE];simp
    obtain⟨i1,hi1⟩:∃i1:Nat,i1=U.length+A1.length:=⟨_,rfl⟩;obtain⟨i2,hi2⟩:∃i2:Nat,i2=U.length+A.length+M.length+A1.length:=⟨_,rfl⟩;have n1:x1+(A1.length:Int)=(i1:Int):=by omega
    have n2:x2+(A1.length:Int)=(i2:Int):=by omega
    have g1:E.getD i1 mo0=x:=by rw [e1];exact getMM _ _ _ _ (by simp;omega)
    have g2:E.getD i2 mo0=y:=by rw [e2];exact getMM _ _ _ _ (by simp;omega)
    have b1:i1<len:=by omega
    have b2:i2<len:=by omega
    have c1:i1<E.length:=by omega
    have c2:i2<E.length:=by omega
    have s1:(E.set i1 y).set i2 x=U++((B1++[y])++A2)++M++((A1++[x])++B2)++V:=by
     have:E.set i1 y=(U++B1)++y::(A2++M++(A1++y::B2)++V):=by rw [e1];exact setMM _ _ _ _ (by simp;omega)
     rw [this];have:(U++B1)++y::(A2++M++(A1++y::B2)++V)=(U++(B1++y::A2)++M++A1)++y::(B2++V):=by simp
     rw [this,setMM _ _ _ _ (by simp;omega)]
     simp
    simp only [<-hE];simp only [go_sem,hr,hlt,n1,n2,g1,g2,b1,b2,c1,c2,s1,List.length_set];refine⟨by omega,by omega,by omega,by omega,by omega,(A1++[x],A2,B1++[y],B2),qa (by simp [bitvec_to_nat]) (wi rfl),⟨by rw [hA];simp,by rw [hB];simp,by simp [h1]⟩,by simp⟩
theorem zaO(hΓ:Holds P Γ){f fs fc:Nat}(hs:Γ fs=.own (Wz fc))(hc:check P f=some (58,(Xd fs).strip,[])):Sound P f (.own (YA fc)):=by
 refine Ye hc hΓ (λd args h K hG=>?_);unfold YA at hG;split at hG
 case h_2=>exact hG.elim
 rename_i r ver len x1 x2 x3 c;obtain⟨U,A,B,V,rfl,hx1,hx2,hx3,hA0,hB0,hlen,hlen2,hroom,hr,hK⟩:=hG;obtain⟨D,hD⟩:∃D,D=U++A++B++V:=⟨_,rfl⟩;rw [<-hD]at hr;have hDl:D.length=U.length+A.length+B.length+V.length:=by rw [hD];simp [Nat.add_assoc]
 have hAp:=List.length_pos_iff.2 hA0;have hBp:=List.length_pos_iff.2 hB0;refine⟨[r],[⟨D.map mC,5,true⟩],[.one (.own 1048576 ver 5 0 len),.one (.lit (.int .i64 x1)),.one (.lit (.int .i64 x2)),.one (.lit (.int .i64 x3)),fnV fc],by simp,rfl,?_,?_,?_,λhfi=>⟨by simp,?_⟩⟩
 .intro i r' b h1 h2;cases i with
  | zero=>simp only [List.getElem?_cons_zero,Option.some.injEq]at h1 h2;subst h1 h2;exact⟨by rw [hr],rfl,of_eq_true (Je _)⟩
  | succ i=>simp at h1
 .simp [exA,exC,exB,nameOf,pinA,fnV]
 .intro a ha;simp only [List.mem_cons,List.not_mem_nil,or_false]at ha;rcases ha with rfl | rfl | rfl | rfl | rfl
  .simp [pasA,pasC,pasB,nameOf,pinA]
  .exact .lit _
  .exact .lit _
  .exact .lit _
  .exact .lit _
 have n1:x2-x1=(A.length:Int):=by omega
 have n2:x3-x2=(B.length:Int):=by omega
 simp only [go_sem,Xd,hr,fnV,hs,n1,n2];refine⟨by omega,by omega,?_⟩
 refine ja (λp:List Mo×List Mo×List Mo×List Mo=>⟨mkV [(0,.one (.own 1048576 ver 5 0 len)),(2,.one (.lit (.int .i64 x2))),(4,.one (.lit (.func (.func fc) ⟨[]⟩ ⟨[]⟩))),(10,.one (.lit (.int .i64 p.2.1.length))),(11,.one (.lit (.int .i64 p.2.2.1.length)))],mkH [(1048576,⟨ver,some ⟨(p.1++p.2.1++p.2.2.1++p.2.2.2).map mC,5,true⟩⟩)]⟩)
  (λp=>p.1++p.2.2.1++p.2.1++p.2.2.2=U++B++A++V/\x2=(p.1.length+p.2.1.length:Nat)/\p.2.1≠[]/\p.2.2.1≠[]/\(p.2.1.length+p.2.2.1.length<=A.length+B.length)/\x2+p.2.2.1.length<=x3) (λp=>p.2.1.length+p.2.2.1.length) (U,A,B,V) ?_ ?_ ?_
 .exact qa (by simp [bitvec_to_nat]) (wi (by simp [hD]))
 .exact⟨rfl,by simp only;omega,hA0,hB0,Nat.le_refl _,by simp only;omega⟩
 .rintro⟨U',A',B',V'⟩ ⟨hT,hx2',hA1,hB1,hsz,hx3'⟩;simp only at hT hx2' hA1 hB1 hsz hx3';have hTl:=congrArg List.length hT;simp only [List.length_append]at hTl;have hAp':=List.length_pos_iff.2 hA1;have hBp':=List.length_pos_iff.2 hB1;have n1:x2-(A'.length:Int)=(U'.length:Int):=by omega
  by_cases heq:A'.length=B'.length
  .have heq' : (A'.length:Int)=(B'.length:Int):=by omega
   simp only [go_sem,hr,hs,fnV,n1,<-heq',ne_eq,not_true_eq_false];refine⟨by omega,?_⟩
   simp only [Wz];refine⟨U',A',[],B',V',rfl,rfl,by simp;omega,rfl,heq,by simp;omega,by simp;omega,by omega,by simp [za],?_⟩
   simp only [go_sem,hr];have:U'++B'++[]++A'++V' = U++B++A++V:=by rw [<-hT];simp
   rw [List.append_nil]at this;rw [this];exact hK
  .have heq' : ¬(A'.length:Int)=(B'.length:Int):=by omega
   by_cases hgt:B'.length<A'.length
   .have hgt' : (B'.length:Int)<(A'.length:Int):=by omega
    simp only [go_sem,hr,hs,fnV,n1,heq',hgt',ne_eq];obtain⟨A1,A2,rfl,hA1l⟩:∃A1 A2,A' = A1++A2/\A1.length=B'.length:=⟨A'.take B'.length,A'.drop B'.length,(List.take_append_drop _ _).symm,by rw [List.length_take];omega⟩
    have hA12:(A1++A2).length=A1.length+A2.length:=List.length_append;have n3:((A1++A2).length:Int)-(B'.length:Int)=(A2.length:Int):=by omega
    refine⟨by omega,?_⟩
    simp only [Wz];refine⟨U',A1,A2,B',V',rfl,rfl,by omega,by omega,hA1l,by omega,by omega,by omega,by simp [za],?_⟩
    rw [n3];simp only [go_sem,hr];have z1:A2.length≠0:=by omega
    have z2:A1.length≠0:=by omega
    refine⟨by omega,(U'++B',A2,A1,V'),qa (by simp [bitvec_to_nat];omega) (wi rfl),⟨by simp only;rw [<-hT];simp,by simp only [List.length_append];omega,?_,?_,by simp only;omega,by simp only;omega⟩,by simp only;omega⟩
    .exact λh=>z1 (List.length_eq_zero_iff.2 h)
    .exact λh=>z2 (List.length_eq_zero_iff.2 h)
   .have hgt' : ¬(B'.length:Int)<(A'.length:Int):=by omega
    simp only [go_sem,hr,hs,fnV,n1,heq',hgt',ne_eq];obtain⟨B1,B2,rfl,hB2l⟩:∃B1 B2,B' = B1++B2/\B2.length=A'.length:=⟨B'.take (B'.length-A'.length),B'.drop (B'.length-A'.length),(List.take_append_drop _ _).symm,by rw [List.length_drop];omega⟩
    have hB12:(B1++B2).length=B1.length+B2.length:=List.length_append;have n3:((B1++B2).length:Int)-(A'.length:Int)=(B1.length:Int):=by omega
    refine⟨by omega,by omega,by omega,?_⟩
    simp only [Wz];refine⟨U',A',B1,B2,V',rfl,rfl,by omega,by omega,by omega,by omega,by omega,by omega,by simp [za],?_⟩
    rw [n3];simp only [go_sem,hr];have z1:B1.length≠0:=by omega
    have z2:B2.length≠0:=by omega
    refine⟨by omega,(U',B2,B1,A'++V'),qa (by simp [bitvec_to_nat];omega) (wi (by simp)),⟨by simp only;rw [<-hT];simp,by simp only;omega,?_,?_,by simp only;omega,by simp only;omega⟩,by simp only;omega⟩
    .exact λh=>z2 (List.length_eq_zero_iff.2 h)
    .exact λh=>z1 (List.length_eq_zero_iff.2 h)
theorem yv{A B:List Mo}(hA:SortM A)(hB:SortM B)(h:∀x∈A,∀y∈B,kM x<=kM y):SortM (A++B):=
 List.pairwise_append.2 ⟨hA,hB,h⟩
theorem qw{A B:List Mo}(h:SortM (A++B)):SortM A:=(List.pairwise_append.1 h).1
theorem Zs{A B:List Mo}(h:SortM (A++B)):SortM B:=(List.pairwise_append.1 h).2.1
theorem js{A B:List Mo}(h:SortM (A++B)):∀x∈A,∀y∈B,kM x<=kM y:=(List.pairwise_append.1 h).2.2
theorem WP{A:List Mo}(h:SortM A){i j:Nat}(hi:i<A.length)(hj:j<A.length)(hij:i<=j):kM (A[i])<=kM (A[j]):=by
 by_cases e:i=j
 .subst e;exact Nat.le_refl _
 .exact List.pairwise_iff_getElem.1 h i j hi hj (by omega)
theorem XH{A:List Mo}(hA:SortM A){s:Nat}(hs:0<s)(hsl:s<=A.length){q:Nat}(h:kM (A.getD (s-1) mo0)<=q):∀x∈A.take s,kM x<=q:=by
 intro x hx;obtain⟨i,hi,rfl⟩:=List.mem_iff_getElem.1 hx;rw [List.length_take]at hi;rw [List.getElem_take];refine Nat.le_trans (WP hA (by omega) (show s-1<A.length by omega) (by omega)) ?_
 rw [List.getD_eq_getElem?_getD,List.getElem?_eq_getElem (by omega)]at h
 exact h
theorem YH{A:List Mo}(hA:SortM A){s:Nat}(hsl:s<A.length){q:Nat}(h:q<=kM (A.getD s mo0)):∀x∈A.drop s,q<=kM x:=by
 intro x hx;obtain⟨i,hi,rfl⟩:=List.mem_iff_getElem.1 hx;rw [List.length_drop]at hi;rw [List.getElem_drop];refine Nat.le_trans ?_ (WP hA hsl (show s+i<A.length by omega) (by omega))
 rw [List.getD_eq_getElem?_getD,List.getElem?_eq_getElem (by omega)]at h
 exact h
theorem getLM(U A V:List Mo){k i:Nat}(h1:k=U.length+i)(h2:i<A.length):(U++A++V).getD k mo0=A.getD i mo0:=by
 subst h1;simp only [List.getD_eq_getElem?_getD];rw [List.getElem?_append_left (by simp;omega),List.getElem?_append_right (by omega)]
 congr 2;omega
end Go.Abs
end
section
namespace Go.Num
def PcsM(k:Nat)(Ls:List (List Mo)):Prop:=∀c∈Ls,c.length=k/\SortM c
theorem uA{k:Nat}:∀{Ls:List (List Mo)},PcsM k Ls->Ls.flatten.length=k*Ls.length
 | [],_=>by simp
 | c::Ls,h=>by
  have:=uA (Ls:=Ls) λd hd=>h d (by simp [hd])
  have hc:=(h c (by simp)).1
  rw [List.flatten_cons,List.length_append,this,hc,List.length_cons,Nat.mul_succ,Nat.add_comm]
theorem U0{k:Nat}{Ls:List (List Mo)}{c:List Mo}(h:PcsM k Ls)(h1:c.length=k)(h2:SortM c):PcsM k (Ls++[c]):=by
 intro d hd;rcases List.mem_append.1 hd with hd | hd
 .exact h d hd
 .rw [List.mem_singleton]at hd;subst hd;exact⟨h1,h2⟩
end Go.Num
namespace Go.Abs
open Go.Num
variable {P:Program} {Γ:Nat->Spec}
set_option maxHeartbeats 4000000 in
theorem Wam(hΓ:Holds P Γ){f fi fm fc m N:Nat}(hmN:m<=N)(hm30:m<=1073741824)(hi:Γ fi=.own (yC fc))(hg:Γ fm=.own (Jh fc N))(hc:check P f=some (63,(xd fi fm).strip,[])):Sound P f (.own (xw fc m)):=by
 refine Ye hc hΓ (λd args h K hG=>?_);unfold xw at hG;split at hG
 case h_2=>exact hG.elim
 rename_i r ver len n c;obtain⟨rfl,l,post,rfl,rfl,hlen,hr,hok,hK⟩:=hG;refine⟨[r],[⟨(l++post).map mC,5,true⟩],[.one (.own 1048576 ver 5 0 l.length),.one (.lit (.int .i64 l.length)),fnV fc],by simp,rfl,?_,?_,?_,λhfi=>⟨by simp,?_⟩⟩
 .intro i r' b h1 h2;cases i with
  | zero=>simp only [List.getElem?_cons_zero,Option.some.injEq]at h1 h2;subst h1 h2;exact⟨by rw [hr],rfl,of_eq_true (Je _)⟩
  | succ i=>simp at h1
 .simp [exA,exC,exB,nameOf,pinA,fnV]
 .intro a ha;simp only [List.mem_cons,List.not_mem_nil,or_false]at ha;rcases ha with rfl | rfl | rfl
  .simp [pasA,pasC,pasB,nameOf,pinA]
  .exact .lit _
  .exact .lit _
 simp only [go_sem,xd,hr,fnV,hi,hg];refine ja (λp:List (List Mo)×List Mo=>⟨mkV [(0,.one (.own 1048576 ver 5 0 l.length)),(1,.one (.lit (.int .i64 l.length))),(2,.one (.lit (.func (.func fc) ⟨[]⟩ ⟨[]⟩))),(6,.one (.lit (.int .i64 20))),(7,.one (.lit (.int .i64 (20*p.1.length:Nat)))),(8,.one (.lit (.int .i64 (20*p.1.length+20:Nat))))],mkH [(1048576,⟨ver,some ⟨(p.1.flatten++p.2++post).map mC,5,true⟩⟩)]⟩)
  (λp=>PcsM 20 p.1/\l.Perm (p.1.flatten++p.2)) (λp=>p.2.length) ([],l) ?_ ?_ ?_
 .exact qa (by simp [bitvec_to_nat]) (wi (by simp))
 .exact⟨λc hc=>by simp at hc,by simp⟩
 .rintro⟨Ls,R⟩ ⟨hL,hp⟩;simp only at hL hp;have lL:=uA hL;have hpl:=hp.length_eq;rw [List.length_append,lL]at hpl;have hokp:=jJ hp hok;obtain⟨hokL,hokR⟩:=yg.1 hokp;by_cases hR:20<=R.length
  .have hle:((20*Ls.length+20:Nat):Int)<=(l.length:Int):=by omega
   obtain⟨S,R',rfl,hS⟩:∃S R',R=S++R'/\S.length=20:=⟨R.take 20,R.drop 20,(List.take_append_drop _ _).symm,by rw [List.length_take];omega⟩
   rw [List.length_append]at hpl;simp only [go_sem,hr,hi,hg,hle];simp only [yC];refine⟨Ls.flatten,S,R'++post,rfl,by rw [lL],by rw [lL,hS],by rw [lL,hS,List.length_append];omega,by omega,by omega,by simp [za],(yg.1 hokR).1,λS' hpS hS'=>?_⟩
   have lS':=hpS.length_eq;simp only [go_sem,hr,hi,hg];refine⟨by omega,(Ls++[S'],R'),qa (by simp [bitvec_to_nat];omega) (wi (by simp)),⟨U0 hL (by omega) hS',?_⟩,by simp only;rw [List.length_append];omega⟩
   simp only;refine hp.trans ?_;simp only [List.flatten_append,List.flatten_cons,List.flatten_nil,List.append_nil,List.append_assoc];exact List.Perm.append_left _ (List.Perm.append_right _ hpS)
  .have hle:¬((20*Ls.length+20:Nat):Int)<=(l.length:Int):=by omega
   simp only [go_sem,hr,hi,hg,hle];simp only [yC];refine⟨Ls.flatten,R,post,rfl,by rw [lL],by rw [lL];omega,by rw [lL];omega,by omega,by omega,by simp [za],hokR,λR' hpR hR'=>?_⟩
   have lR':=hpR.length_eq;simp only [go_sem,hr,hi,hg];refine ja (λp:Nat×List (List Mo)×List Mo=>⟨mkV [(0,.one (.own 1048576 ver 5 0 l.length)),(1,.one (.lit (.int .i64 l.length))),(2,.one (.lit (.func (.func fc) ⟨[]⟩ ⟨[]⟩))),(6,.one (.lit (.int .i64 p.1)))],mkH [(1048576,⟨ver,some ⟨(p.2.1.flatten++p.2.2++post).map mC,5,true⟩⟩)]⟩)
    (λp=>PcsM p.1 p.2.1/\SortM p.2.2/\p.2.2.length<p.1/\p.1<=2147483648/\l.Perm (p.2.1.flatten++p.2.2)) (λp=>4294967296-p.1) (20,Ls,R') ?_ ?_ ?_
   .exact qa (by simp [bitvec_to_nat]) (wi (by simp))
   .exact⟨hL,hR',by simp only;omega,by simp only;omega,hp.trans (List.Perm.append_left _ hpR)⟩
   .rintro⟨bs,Ks,Q⟩ ⟨hKs,hQ,hQl,hbs,hpK⟩;simp only at hKs hQ hQl hbs hpK;have lK:=uA hKs;have hpl2:=hpK.length_eq;rw [List.length_append,lK]at hpl2;by_cases hdone:bs<l.length
    .have hd' : (bs:Int)<(l.length:Int):=by omega
     have n2:(2:Int)*(bs:Int)=((2*bs:Nat):Int):=by omega
     simp only [go_sem,hr,hi,hg,hd',n2];refine⟨by omega,?_⟩
     refine ja (λp:Nat×List (List Mo)×List (List Mo)=>⟨mkV [(0,.one (.own 1048576 ver 5 0 l.length)),(1,.one (.lit (.int .i64 l.length))),(2,.one (.lit (.func (.func fc) ⟨[]⟩ ⟨[]⟩))),(6,.one (.lit (.int .i64 bs))),(7,.one (.lit (.int .i64 p.1))),(8,.one (.lit (.int .i64 (p.1+2*bs:Nat))))],mkH [(1048576,⟨ver,some ⟨(p.2.1.flatten++p.2.2.flatten++Q++post).map mC,5,true⟩⟩)]⟩)
      (λp=>(p.1=p.2.1.flatten.length/\PcsM (2*bs) p.2.1)/\PcsM bs p.2.2/\l.Perm (p.2.1.flatten++p.2.2.flatten++Q)) (λp=>p.2.2.length) (0,[],Ks) ?_ ?_ ?_
     .exact qa (by simp [bitvec_to_nat]) (wi (by simp))
     .exact⟨⟨rfl,λc hc=>by simp at hc⟩,hKs,by simpa using hpK⟩
     .rintro⟨g,Ms,Js⟩ ⟨⟨hg0,hMs⟩,hJs,hpJ⟩;simp only at hg0 hMs hJs hpJ;have lM:=uA hMs;have lJ:=uA hJs;have hpl3:=hpJ.length_eq;rw [List.length_append,List.length_append,<-hg0]at hpl3;have hokJ:=jJ hpJ hok;have n3:(g:Int)+(bs:Int)=((g+bs:Nat):Int):=by omega
      match Js,hJs,lJ,hpl3,hpJ,hokJ with
      | X::Y::Js,hJs,lJ,hpl3,hpJ,hokJ=>
       have hX:=hJs X (by simp)
       have hY:=hJs Y (by simp)
       have hJ' : PcsM bs Js:=λc hc=>hJs c (by simp [hc])
       simp only [List.flatten_cons,List.length_append,hX.1,hY.1]at hpl3;have hle:((g+2*bs:Nat):Int)<=(l.length:Int):=by omega
       simp only [List.flatten_cons,List.append_assoc,yg]at hokJ;simp only [go_sem,hr,hi,hg,hle,n2,n3];refine⟨by omega,?_⟩
       simp only [Jh];refine⟨Ms.flatten,X,Y,Js.flatten++Q++post,rfl,by rw [<-hg0],by rw [<-hg0,hX.1],by rw [<-hg0,hX.1,hY.1];omega,λh=>?_,λh=>?_,by omega,by omega,by simp only [List.length_append];omega,by omega,hokJ.2.1,hokJ.2.2.1,hX.2,hY.2,by simp [za],λC hpC hsC=>?_⟩
       .rw [h]at hX;simp only [List.length_nil]at hX;omega
       .rw [h]at hY;simp only [List.length_nil]at hY;omega
       have lC:=hpC.length_eq;rw [List.length_append,hX.1,hY.1]at lC;simp only [go_sem,hr,hi,hg,n2,n3];have lMC:(Ms++[C]).flatten.length=g+2*bs:=by simp only [List.flatten_append,List.flatten_cons,List.flatten_nil,List.append_nil,List.length_append];omega
       refine⟨by omega,by omega,(g+2*bs,Ms++[C],Js),qa (by simp [bitvec_to_nat]) (wi (by simp)),⟨⟨lMC.symm,U0 hMs (by omega) hsC⟩,hJ',?_⟩,by simp only;omega⟩
       refine hpJ.trans ?_;simp only [List.flatten_append,List.flatten_cons,List.flatten_nil,List.append_nil,List.append_assoc];refine List.Perm.append_left _ ?_;rw [<-List.append_assoc];exact List.Perm.append_right _ hpC
      | [X],hJs,lJ,hpl3,hpJ,hokJ=>
       have hX:=hJs X (by simp)
       simp only [List.flatten_cons,List.flatten_nil,List.append_nil,hX.1]at hpl3;have hle:¬((g+2*bs:Nat):Int)<=(l.length:Int):=by omega
       simp only [List.flatten_cons,List.flatten_nil,List.append_nil,List.append_assoc,yg]at hokJ hpJ;by_cases hQ0:Q=[]
       .have hlt:¬((g+bs:Nat):Int)<(l.length:Int):=by rw [hQ0,List.length_nil]at hpl3;omega
        simp only [go_sem,hr,hi,hg,hle,n2,n3,hlt];have n4:(bs:Int)*2=((2*bs:Nat):Int):=by omega
        simp only [n4];refine⟨by omega,by omega,(2*bs,Ms,X),qa (by simp [bitvec_to_nat]) (wi (by simp [hQ0])),⟨hMs,hX.2,by simp only [hX.1];omega,by simp only;omega,by simp only;rw [hQ0,List.append_nil]at hpJ;exact hpJ⟩,by simp only;omega⟩
       .have hQp:=List.length_pos_iff.2 hQ0;have hlt:((g+bs:Nat):Int)<(l.length:Int):=by omega
        simp only [go_sem,hr,hi,hg,hle,n2,n3,hlt];refine⟨by omega,?_⟩
        simp only [Jh];refine⟨Ms.flatten,X,Q,post,rfl,by rw [<-hg0],by rw [<-hg0,hX.1],by rw [<-hg0,hX.1];omega,λh=>?_,hQ0,by omega,by omega,by omega,by omega,hokJ.2.1,hokJ.2.2,hX.2,hQ,by simp [za],λC hpC hsC=>?_⟩
        .rw [h]at hX;simp only [List.length_nil]at hX;omega
        have lC:=hpC.length_eq;rw [List.length_append,hX.1]at lC;simp only [go_sem,hr,hi,hg,n2,n3];have n4:(bs:Int)*2=((2*bs:Nat):Int):=by omega
        simp only [n4];refine⟨by omega,(2*bs,Ms,C),qa (by simp [bitvec_to_nat]) (wi (by simp)),⟨hMs,hsC,by simp only;omega,by simp only;omega,hpJ.trans (List.Perm.append_left _ hpC)⟩,by simp only;omega⟩
      | [],hJs,lJ,hpl3,hpJ,hokJ=>
       simp only [List.flatten_nil,List.length_nil]at hpl3;have hle:¬((g+2*bs:Nat):Int)<=(l.length:Int):=by omega
       have hlt:¬((g+bs:Nat):Int)<(l.length:Int):=by omega
       simp only [go_sem,hr,hi,hg,hle,n2,n3,hlt];have n4:(bs:Int)*2=((2*bs:Nat):Int):=by omega
       simp only [n4];refine⟨by omega,by omega,(2*bs,Ms,Q),qa (by simp [bitvec_to_nat]) (wi (by simp)),⟨hMs,hQ,by simp only;omega,by simp only;omega,by simpa using hpJ⟩,by simp only;omega⟩
    .have hd' : ¬(bs:Int)<(l.length:Int):=by omega
     simp only [go_sem,hr,hi,hg,hd'];refine hK _ hpK ?_;match Ks,hKs,lK,hpl2 with
     | [],_,_,_=>exact hQ
     | [X],hKs,lK,hpl2=>
      have:Q=[]:=List.length_eq_zero_iff.1 (by simp only [List.length_singleton,Nat.mul_one]at hpl2;omega)
      rw [this];simp only [List.flatten_cons,List.flatten_nil,List.append_nil];exact(hKs X (by simp)).2
     | X::Y::Ks,hKs,lK,hpl2=>
      exfalso;simp only [List.length_cons]at hpl2;have h2:bs*2<=bs*(Ks.length+1+1):=Nat.mul_le_mul_left _ (by omega)
      omega
end Go.Abs
end
section
namespace Go.Abs
open Go.Num
variable {P:Program} {Γ:Nat->Spec}
set_option maxHeartbeats 4000000 in
theorem yaK(hΓ:Holds P Γ){f fr fs fc N:Nat}(hro:Γ fr=.own (YA fc))(hs:Γ fs=.own (Jh fc N))(hcm:Γ fc=.dat true Yr)(hc:check P f=some (220,(Xa fr fs).strip,[])):Sound P f (.own (Jh fc (N+1))):=by
 refine Ye hc hΓ (λd args h K hG=>?_);unfold Jh at hG;split at hG
 case h_2=>exact hG.elim
 rename_i r ver len x1 x2 x3 c;obtain⟨U,A,B,V,rfl,hx1,hx2,hx3,hA0,hB0,hN,hlen,hlen2,hroom,hoA,hoB,hsA,hsB,hr,hK⟩:=hG;obtain⟨D,hD⟩:∃D,D=U++A++B++V:=⟨_,rfl⟩;rw [<-hD]at hr;have hDl:D.length=U.length+A.length+B.length+V.length:=by rw [hD];simp [Nat.add_assoc]
 have hAp:=List.length_pos_iff.2 hA0;have hBp:=List.length_pos_iff.2 hB0;have gA:∀k i,k=U.length+i->i<A.length->D.getD k mo0=A.getD i mo0:=by
  intro k i h1 h2;rw [hD,List.append_assoc (U++A)];exact getLM U A (B++V) h1 h2
 have gB:∀k i,k=U.length+A.length+i->i<B.length->D.getD k mo0=B.getD i mo0:=by
  intro k i h1 h2;rw [hD];exact getLM (U++A) B V (by rw [List.length_append];exact h1) h2
 have okD:∀k,U.length<=k->k<U.length+A.length+B.length->okM (D.getD k mo0):=by
  intro k h1 h2;by_cases h3:k<U.length+A.length
  .rw [gA k (k-U.length) (by omega) (by omega)]
   exact uar hoA (by omega)
  .rw [gB k (k-U.length-A.length) (by omega) (by omega)]
   exact uar hoB (by omega)
 refine⟨[r],[⟨D.map mC,5,true⟩],[.one (.own 1048576 ver 5 0 len),.one (.lit (.int .i64 x1)),.one (.lit (.int .i64 x2)),.one (.lit (.int .i64 x3)),fnV fc],by simp,rfl,?_,?_,?_,λhfi=>⟨by simp,?_⟩⟩
 .intro i r' b h1 h2;cases i with
  | zero=>simp only [List.getElem?_cons_zero,Option.some.injEq]at h1 h2;subst h1 h2;exact⟨by rw [hr],rfl,of_eq_true (Je _)⟩
  | succ i=>simp at h1
 .simp [exA,exC,exB,nameOf,pinA,fnV]
 .intro a ha;simp only [List.mem_cons,List.not_mem_nil,or_false]at ha;rcases ha with rfl | rfl | rfl | rfl | rfl
  .simp [pasA,pasC,pasB,nameOf,pinA]
  .exact .lit _
  .exact .lit _
  .exact .lit _
  .exact .lit _
 by_cases c1:A.length=1
 .have n1:x2-x1=1:=by omega
  simp only [go_sem,Xa,hr,fnV,hro,hs,hcm,n1];obtain⟨x,hx⟩:∃x,D.getD U.length mo0=x:=⟨_,rfl⟩;refine⟨by omega,?_⟩
  refine ja (λp:Nat×Nat=>⟨mkV [(0,.one (.own 1048576 ver 5 0 len)),(1,.one (.lit (.int .i64 x1))),(4,.one (.lit (.func (.func fc) ⟨[]⟩ ⟨[]⟩))),(10,.one (.lit (.int .i64 p.1))),(11,.one (.lit (.int .i64 p.2)))],mkH [(1048576,⟨ver,some ⟨D.map mC,5,true⟩⟩)]⟩)
   (λp=>x2<=p.1/\p.1<=p.2/\p.2<=x3/\(x2<p.1->kM (D.getD (p.1-1) mo0)<=kM x)/\(p.2<x3->kM x<=kM (D.getD p.2 mo0))) (λp=>p.2-p.1) (x2.toNat,x3.toNat) ?_ ?_ ?_
  .exact qa (by simp [bitvec_to_nat];omega) (wi rfl)
  .exact⟨by simp only;omega,by simp only;omega,by simp only;omega,λh=>by simp only at h;omega,λh=>by simp only at h;omega⟩
  .rintro⟨i,j⟩ ⟨h1,h2,h3,h4,h5⟩;simp only at h1 h2 h3 h4 h5;by_cases hij:i<j
   .have hij' : (i:Int)<(j:Int):=by omega
    obtain⟨k,hk⟩:∃k,k=(i+j) / 2:=⟨_,rfl⟩;have hk' : (i:Int)+(j:Int)=((i+j:Nat):Int):=by omega
    have ok1:=okD k (by omega) (by omega)
    have ok2:=okD U.length (by omega) (by omega)
    rw [hx]at ok2;obtain⟨y,hy⟩:∃y,D.getD k mo0=y:=⟨_,rfl⟩;rw [hy]at ok1;have hkk:(i+j) % 18446744073709551616 / 2=k:=by omega
    simp only [go_sem,hr,hro,hs,hcm,hij',hk',hkk,hx1,hx,hy,ok1.1,ok1.2,ok2.1,ok2.2,WJ];refine⟨by omega,by omega,by omega,by omega,by omega,by omega,by omega,λhlt=>⟨by omega,(k+1,j),qa (by simp [bitvec_to_nat]) (wi rfl),⟨by simp only;omega,by simp only;omega,by simp only;omega,λ_=>?_,h5⟩,by simp only;omega⟩,λhge=>⟨(i,k),qa (by simp [bitvec_to_nat]) (wi rfl),⟨by simp only;omega,by simp only;omega,by simp only;omega,h4,λ_=>?_⟩,by simp only;omega⟩⟩
    .simp only [Nat.add_sub_cancel];rw [hy];exact Nat.le_of_lt hlt
    .simp only;rw [hy];exact Nat.not_lt.1 hge
   .obtain rfl:i=j:=by omega
    have hij' : ¬(i:Int)<(i:Int):=by omega
    simp only [go_sem,hr,hro,hs,hcm,hij'];obtain⟨t,ht⟩:∃t,t=i-(U.length+1):=⟨_,rfl⟩;obtain⟨B1,hB1⟩:∃B1,B1=B.take t:=⟨_,rfl⟩;obtain⟨B2,hB2⟩:∃B2,B2=B.drop t:=⟨_,rfl⟩;have hB12:B=B1++B2:=by rw [hB1,hB2,List.take_append_drop]
    have lB1:B1.length=t:=by rw [hB1,List.length_take];omega
    have hAx:A=[x]:=by
     match A,c1 with
     | [z],_=>
      have:=gA U.length 0 (by omega) (by simp)
      rw [hx]at this;simpa using this.symm
    refine ja (λp:List Mo×List Mo=>⟨mkV [(0,.one (.own 1048576 ver 5 0 len)),(10,.one (.lit (.int .i64 i))),(13,.one (.lit (.int .i64 (U.length+p.1.length:Nat))))],mkH [(1048576,⟨ver,some ⟨(U++(p.1++x::p.2)++B2++V).map mC,5,true⟩⟩)]⟩)
     (λp=>B1=p.1++p.2) (λp=>p.2.length) ([],B1) ?_ ?_ ?_
    .exact qa (by simp [bitvec_to_nat];omega) (wi (by rw [hD,hAx,hB12];simp))
    .rfl
    .rintro⟨V1,V2⟩ hV;simp only at hV;have lV:=congrArg List.length hV;rw [List.length_append]at lV;have n2:(i:Int)-1=((U.length+t:Nat):Int):=by omega
     rcases V2 with _ | ⟨y,V2⟩
     .have hlt:¬((U.length+V1.length:Nat):Int)<((U.length+t:Nat):Int):=by simp only [List.length_nil]at lV;omega
      simp only [go_sem,hr,n2,hlt];rw [List.append_nil]at hV;subst hV;have hKK:=hK (B1++x::B2) ?_ ?_
      .have e:U++(B1++[x])++B2++V=U++(B1++x::B2)++V:=by simp
       rw [e];exact⟨by omega,hKK⟩
      .rw [hAx,hB12];show(x::(B1++B2)).Perm _;exact List.perm_middle.symm
      .refine yv (by rw [hB1];exact qw (B:=B.drop t) (by rw [List.take_append_drop];exact hsB)) (List.pairwise_cons.2 ⟨?_,by rw [hB2];exact Zs (A:=B.take t) (by rw [List.take_append_drop];exact hsB)⟩) ?_
       .intro z hz;rw [hB2]at hz;by_cases htl:t<B.length
        .refine YH hsB htl ?_ z hz;rw [<-gB i t (by omega) htl]
         exact h5 (by omega)
        .rw [List.drop_of_length_le (by omega)]at hz;simp at hz
       .have hle:∀z∈B1,kM z<=kM x:=by
         intro z hz;by_cases ht0:0<t
         .rw [hB1]at hz;refine XH hsB ht0 (by omega) ?_ z hz
          rw [<-gB (i-1) (t-1) (by omega) (by omega)]
          exact h4 (by omega)
         .have:B1=[]:=List.length_eq_zero_iff.1 (by omega)
          rw [this]at hz;simp at hz
        intro z hz w hw;rcases List.mem_cons.1 hw with rfl | hw
        .exact hle z hz
        .rw [hB12]at hsB;exact js hsB z hz w hw
     .rw [List.length_cons]at lV;have hlt:((U.length+V1.length:Nat):Int)<((U.length+t:Nat):Int):=by omega
      obtain⟨E,hE⟩:∃E,E=U++(V1++x::y::V2)++B2++V:=⟨_,rfl⟩;have lE:E.length=D.length:=by
       rw [hE,hDl,c1];have:=congrArg List.length hB12;simp only [List.length_append,List.length_cons]at this ⊢;omega
      obtain⟨k,hk⟩:∃k,k=U.length+V1.length:=⟨_,rfl⟩;have e1:E=(U++V1)++x::(y::V2++B2++V):=by rw [hE];simp
      have e2:E=(U++V1++[x])++y::(V2++B2++V):=by rw [hE];simp
      have g1:E.getD k mo0=x:=by rw [e1];exact getMM _ _ _ _ (by simp;omega)
      have g2:E.getD (k+1) mo0=y:=by rw [e2];exact getMM _ _ _ _ (by simp;omega)
      have b1:k<len:=by omega
      have b2:k+1<len:=by omega
      have q1:k<E.length:=by omega
      have q2:k+1<E.length:=by omega
      have s1:(E.set k y).set (k+1) x=U++((V1++[y])++x::V2)++B2++V:=by
       have:E.set k y=(U++V1)++y::(y::V2++B2++V):=by rw [e1];exact setMM _ _ _ _ (by simp;omega)
       rw [this];have:(U++V1)++y::(y::V2++B2++V)=(U++V1++[y])++y::(V2++B2++V):=by simp
       rw [this,setMM _ _ _ _ (by simp;omega)]
       simp
      simp only [<-hE,<-hk]at hlt ⊢;simp only [go_sem,hr,n2,hlt,g1,g2,b1,b2,q1,q2,s1,List.length_set];refine⟨by omega,by omega,by omega,by omega,(V1++[y],V2),qa (by simp [bitvec_to_nat];omega) (wi rfl),by simp only;rw [hV];simp,by simp only;omega⟩
 by_cases c2:B.length=1
 .have n1:¬x2-x1=1:=by omega
  have n2:x3-x2=1:=by omega
  obtain⟨m0,hm0⟩:∃m0,m0=U.length+A.length:=⟨_,rfl⟩;have hx2' : x2=(m0:Int):=by omega
  simp only [go_sem,Xa,hr,fnV,hro,hs,hcm,n1,n2];obtain⟨x,hx⟩:∃x,D.getD m0 mo0=x:=⟨_,rfl⟩;refine⟨by omega,by omega,?_⟩
  refine ja (λp:Nat×Nat=>⟨mkV [(0,.one (.own 1048576 ver 5 0 len)),(2,.one (.lit (.int .i64 x2))),(4,.one (.lit (.func (.func fc) ⟨[]⟩ ⟨[]⟩))),(14,.one (.lit (.int .i64 p.1))),(15,.one (.lit (.int .i64 p.2)))],mkH [(1048576,⟨ver,some ⟨D.map mC,5,true⟩⟩)]⟩)
   (λp=>x1<=p.1/\p.1<=p.2/\p.2<=x2/\(x1<p.1->kM (D.getD (p.1-1) mo0)<=kM x)/\(p.2<x2->kM x<=kM (D.getD p.2 mo0))) (λp=>p.2-p.1) (x1.toNat,x2.toNat) ?_ ?_ ?_
  .exact qa (by simp [bitvec_to_nat];omega) (wi rfl)
  .exact⟨by simp only;omega,by simp only;omega,by simp only;omega,λh=>by simp only at h;omega,λh=>by simp only at h;omega⟩
  .rintro⟨i,j⟩ ⟨h1,h2,h3,h4,h5⟩;simp only at h1 h2 h3 h4 h5;by_cases hij:i<j
   .have hij' : (i:Int)<(j:Int):=by omega
    obtain⟨k,hk⟩:∃k,k=(i+j) / 2:=⟨_,rfl⟩;have hk' : (i:Int)+(j:Int)=((i+j:Nat):Int):=by omega
    have ok1:=okD k (by omega) (by omega)
    have ok2:=okD m0 (by omega) (by omega)
    rw [hx]at ok2;obtain⟨y,hy⟩:∃y,D.getD k mo0=y:=⟨_,rfl⟩;rw [hy]at ok1;have hkk:(i+j) % 18446744073709551616 / 2=k:=by omega
    simp only [go_sem,hr,hro,hs,hcm,hij',hk',hkk,hx2',hx,hy,ok1.1,ok1.2,ok2.1,ok2.2,WJ];refine⟨by omega,by omega,by omega,by omega,by omega,by omega,by omega,λhlt=>⟨(i,k),qa (by simp [bitvec_to_nat]) (wi rfl),⟨by simp only;omega,by simp only;omega,by simp only;omega,h4,λ_=>?_⟩,by simp only;omega⟩,λhge=>⟨by omega,(k+1,j),qa (by simp [bitvec_to_nat]) (wi rfl),⟨by simp only;omega,by simp only;omega,by simp only;omega,λ_=>?_,λh=>h5 (by simp only at h;omega)⟩,by simp only;omega⟩⟩
    .simp only;rw [hy];exact Nat.le_of_lt hlt
    .simp only [Nat.add_sub_cancel];rw [hy];exact Nat.not_lt.1 hge
   .obtain rfl:i=j:=by omega
    have hij' : ¬(i:Int)<(i:Int):=by omega
    simp only [go_sem,hr,hro,hs,hcm,hij'];obtain⟨t,ht⟩:∃t,t=i-U.length:=⟨_,rfl⟩;obtain⟨A1,hA1⟩:∃A1,A1=A.take t:=⟨_,rfl⟩;obtain⟨A2,hA2⟩:∃A2,A2=A.drop t:=⟨_,rfl⟩;have hA12:A=A1++A2:=by rw [hA1,hA2,List.take_append_drop]
    have lA1:A1.length=t:=by rw [hA1,List.length_take];omega
    have lA12:=congrArg List.length hA12;rw [List.length_append]at lA12;have hBx:B=[x]:=by
     match B,c2 with
     | [z],_=>
      have:=gB m0 0 (by omega) (by simp)
      rw [hx]at this;simpa using this.symm
    refine ja (λp:List Mo×List Mo=>⟨mkV [(0,.one (.own 1048576 ver 5 0 len)),(14,.one (.lit (.int .i64 i))),(17,.one (.lit (.int .i64 (i+p.1.length:Nat))))],mkH [(1048576,⟨ver,some ⟨(U++A1++(p.1++x::p.2)++V).map mC,5,true⟩⟩)]⟩)
     (λp=>A2=p.1++p.2) (λp=>p.1.length) (A2,[]) ?_ ?_ ?_
    .exact qa (by simp [bitvec_to_nat];omega) (wi (by rw [hD,hBx,hA12];simp))
    .simp
    .rintro⟨V1,V2⟩ hV;simp only at hV;have lV:=congrArg List.length hV;rw [List.length_append]at lV;rcases List.eq_nil_or_concat V1 with rfl | ⟨V1',y,rfl⟩
     .have hlt:¬(i:Int)<((i+([]:List Mo).length:Nat):Int):=by simp
      simp only [go_sem,hr,Nat.add_zero,Nat.lt_irrefl];rw [List.nil_append]at hV;subst hV;have hKK:=hK (A1++x::A2) ?_ ?_
      .have e:U++A1++x::A2++V=U++(A1++x::A2)++V:=by simp
       simp only [List.append_assoc,List.cons_append]at hKK ⊢;exact hKK
      .rw [hBx,hA12,List.append_assoc];refine List.Perm.append_left _ ?_;exact(List.perm_append_comm (l₁:=A2) (l₂:=[x]))
      .refine yv (by rw [hA1];exact qw (B:=A.drop t) (by rw [List.take_append_drop];exact hsA)) (List.pairwise_cons.2 ⟨?_,by rw [hA2];exact Zs (A:=A.take t) (by rw [List.take_append_drop];exact hsA)⟩) ?_
       .intro z hz;rw [hA2]at hz;by_cases htl:t<A.length
        .refine YH hsA htl ?_ z hz;rw [<-gA i t (by omega) htl]
         exact h5 (by omega)
        .rw [List.drop_of_length_le (by omega)]at hz;simp at hz
       .have hle:∀z∈A1,kM z<=kM x:=by
         intro z hz;by_cases ht0:0<t
         .rw [hA1]at hz;refine XH hsA ht0 (by omega) ?_ z hz
          rw [<-gA (i-1) (t-1) (by omega) (by omega)]
          exact h4 (by omega)
         .have:A1=[]:=List.length_eq_zero_iff.1 (by omega)
          rw [this]at hz;simp at hz
        intro z hz w hw;rcases List.mem_cons.1 hw with rfl | hw
        .exact hle z hz
        .rw [hA12]at hsA;exact js hsA z hz w hw
     .rw [List.concat_eq_append]at *
      rw [List.length_append,List.length_singleton]at lV;obtain⟨k,hk⟩:∃k,k=i+V1'.length:=⟨_,rfl⟩;have hk1:i+(V1'++[y]).length=k+1:=by simp;omega
      have hlt:i<k+1:=by omega
      have n3:((k+1:Nat):Int)-1=(k:Int):=by omega
      obtain⟨E,hE⟩:∃E,E=U++A1++(V1'++[y]++x::V2)++V:=⟨_,rfl⟩;have lE:E.length=D.length:=by
       rw [hE,hDl,c2];simp only [List.length_append,List.length_cons,List.length_nil];omega
      have e1:E=(U++A1++V1')++y::(x::V2++V):=by rw [hE];simp
      have e2:E=(U++A1++V1'++[y])++x::(V2++V):=by rw [hE];simp
      have g1:E.getD k mo0=y:=by rw [e1];exact getMM _ _ _ _ (by simp;omega)
      have g2:E.getD (k+1) mo0=x:=by rw [e2];exact getMM _ _ _ _ (by simp;omega)
      have b1:k<len:=by omega
      have b2:k+1<len:=by omega
      have q1:k<E.length:=by omega
      have q2:k+1<E.length:=by omega
      have s1:(E.set (k+1) y).set k x=U++A1++(V1'++x::(y::V2))++V:=by
       have:E.set (k+1) y=(U++A1++V1'++[y])++y::(V2++V):=by rw [e2];exact setMM _ _ _ _ (by simp;omega)
       rw [this];have:(U++A1++V1'++[y])++y::(V2++V)=(U++A1++V1')++y::(y::V2++V):=by simp
       rw [this,setMM _ _ _ _ (by simp;omega)]
       simp
      simp only [<-hE,hk1];simp only [go_sem,hr,n3,hlt,g1,g2,b1,b2,q1,q2,s1,List.length_set];refine⟨by omega,by omega,by omega,(V1',y::V2),qa (by simp [bitvec_to_nat];omega) (wi rfl),by simp only;rw [hV];simp,by simp⟩
 obtain⟨m0,hm0⟩:∃m0,m0=U.length+A.length:=⟨_,rfl⟩;obtain⟨b0,hb0⟩:∃b0,b0=U.length+A.length+B.length:=⟨_,rfl⟩;have hx2' : x2=(m0:Int):=by omega
 have hx3' : x3=(b0:Int):=by omega
 have n1:¬(m0:Int)-(U.length:Int)=1:=by omega
 have n2:¬(b0:Int)-(m0:Int)=1:=by omega
 obtain⟨md,hmd⟩:∃md,md=(U.length+b0) / 2:=⟨_,rfl⟩;have n3:(U.length:Int)+(b0:Int)=((U.length+b0:Nat):Int):=by omega
 have n4:(U.length+b0) % 18446744073709551616 / 2=md:=by omega
 have n5:(md:Int)+(m0:Int)=((md+m0:Nat):Int):=by omega
 rcases Nat.lt_or_ge md m0 with hgt | hgt
 case' inl=>
  have hgt' : (md:Int)<(m0:Int):=by omega
  simp only [go_sem,Xa,hr,fnV,hro,hs,hcm,hx1,hx2',hx3',n1,n2,n3,n4,n5,hgt'];obtain⟨st0,hst⟩:∃st0,st0=md+m0-b0:=⟨_,rfl⟩;obtain⟨r0,hr0⟩:∃r0,r0=md:=⟨_,rfl⟩;refine⟨by omega,by omega,by omega,by omega,by omega,by omega,by omega,by omega,?_⟩
 case' inr=>
  have hgt' : ¬(md:Int)<(m0:Int):=by omega
  simp only [go_sem,Xa,hr,fnV,hro,hs,hcm,hx1,hx2',hx3',n1,n2,n3,n4,n5,hgt'];obtain⟨st0,hst⟩:∃st0,st0=U.length:=⟨_,rfl⟩;obtain⟨r0,hr0⟩:∃r0,r0=m0:=⟨_,rfl⟩;refine⟨by omega,by omega,by omega,by omega,by omega,by omega,by omega,?_⟩
 all_goals
  have f1:U.length<=st0/\st0<=r0/\r0<=m0/\r0<=md/\md+m0<=b0+st0:=by omega
  have f2:st0=U.length∨md+m0=b0+st0:=by omega
  have f3:r0=m0∨r0=md:=by omega
  have n7:((md+m0:Nat):Int)-1=((md+m0-1:Nat):Int):=by omega
  refine ja (λp:Nat×Nat=>⟨mkV [(0,.one (.own 1048576 ver 5 0 len)),(1,.one (.lit (.int .i64 U.length))),(2,.one (.lit (.int .i64 m0))),(3,.one (.lit (.int .i64 b0))),(4,.one (.lit (.func (.func fc) ⟨[]⟩ ⟨[]⟩))),(18,.one (.lit (.int .i64 md))),(19,.one (.lit (.int .i64 (md+m0:Nat)))),(20,.one (.lit (.int .i64 p.1))),(21,.one (.lit (.int .i64 p.2))),(22,.one (.lit (.int .i64 (md+m0-1:Nat))))],mkH [(1048576,⟨ver,some ⟨D.map mC,5,true⟩⟩)]⟩)
   (λp=>st0<=p.1/\p.1<=p.2/\p.2<=r0/\(st0<p.1->kM (D.getD (p.1-1) mo0)<=kM (D.getD (md+m0-p.1) mo0))/\(p.2<r0->kM (D.getD (md+m0-1-p.2) mo0)<=kM (D.getD p.2 mo0))) (λp=>p.2-p.1) (st0,r0) ?_ ?_ ?_
  .exact qa (by simp [bitvec_to_nat];omega) (wi rfl)
  .exact⟨by simp only;omega,by simp only;omega,by simp only;omega,λh=>by simp only at h;omega,λh=>by simp only at h;omega⟩
  .rintro⟨i,j⟩ ⟨h1,h2,h3,h4,h5⟩;simp only at h1 h2 h3 h4 h5;by_cases hij:i<j
   .have hij' : (i:Int)<(j:Int):=by omega
    obtain⟨k,hk⟩:∃k,k=(i+j) / 2:=⟨_,rfl⟩;have hk' : (i:Int)+(j:Int)=((i+j:Nat):Int):=by omega
    have hkk:(i+j) % 18446744073709551616 / 2=k:=by omega
    obtain⟨q,hq⟩:∃q,q=md+m0-1-k:=⟨_,rfl⟩;have hq' : ((md+m0-1:Nat):Int)-(k:Int)=(q:Int):=by omega
    have ok1:=okD k (by omega) (by omega)
    have ok2:=okD q (by omega) (by omega)
    obtain⟨y,hy⟩:∃y,D.getD k mo0=y:=⟨_,rfl⟩;obtain⟨z,hz⟩:∃z,D.getD q mo0=z:=⟨_,rfl⟩;rw [hy]at ok1;rw [hz]at ok2;have q1:k<len:=by omega
    have q2:q<len:=by omega
    have q3:k<D.length:=by omega
    have q4:q<D.length:=by omega
    simp only [go_sem,hr,hro,hs,hcm,hij',hk',hkk,hq',hy,hz,ok1.1,ok1.2,ok2.1,ok2.2,WJ,q1,q2,q3,q4];refine⟨by omega,by omega,by omega,by omega,λhlt=>⟨(i,k),qa (by simp [bitvec_to_nat]) (wi rfl),⟨by simp only;omega,by simp only;omega,by simp only;omega,h4,λ_=>?_⟩,by simp only;omega⟩,λhge=>⟨by omega,(k+1,j),qa (by simp [bitvec_to_nat]) (wi rfl),⟨by simp only;omega,by simp only;omega,by simp only;omega,λ_=>?_,h5⟩,by simp only;omega⟩⟩
    .simp only;rw [<-hq,hy,hz];exact Nat.le_of_lt hlt
    .simp only [Nat.add_sub_cancel];have e:md+m0-(k+1)=q:=by omega
     rw [e,hy,hz];exact Nat.not_lt.1 hge
   .obtain rfl:i=j:=by omega
    have hij' : ¬(i:Int)<(i:Int):=by omega
    obtain⟨e,he⟩:∃e,e=md+m0-i:=⟨_,rfl⟩;have he' : ((md+m0:Nat):Int)-(i:Int)=(e:Int):=by omega
    obtain⟨t,ht⟩:∃t,t=i-U.length:=⟨_,rfl⟩;obtain⟨u,hu⟩:∃u,u=e-m0:=⟨_,rfl⟩;obtain⟨A1,hA1⟩:∃A1,A1=A.take t:=⟨_,rfl⟩;obtain⟨A2,hA2⟩:∃A2,A2=A.drop t:=⟨_,rfl⟩;obtain⟨B1,hB1⟩:∃B1,B1=B.take u:=⟨_,rfl⟩;obtain⟨B2,hB2⟩:∃B2,B2=B.drop u:=⟨_,rfl⟩;have hA12:A=A1++A2:=by rw [hA1,hA2,List.take_append_drop]
    have hB12:B=B1++B2:=by rw [hB1,hB2,List.take_append_drop]
    have lA1:A1.length=t:=by rw [hA1,List.length_take];omega
    have lB1:B1.length=u:=by rw [hB1,List.length_take];omega
    have lA2:A2.length=A.length-t:=by rw [hA2,List.length_drop]
    have lB2:B2.length=B.length-u:=by rw [hB2,List.length_drop]
    have X1:∀x∈A1,∀y∈B2,kM x<=kM y:=by
     intro x hx y hy;have l1:=List.length_pos_of_mem hx;have l2:=List.length_pos_of_mem hy;have hle:=h4 (by omega)
     rw [gA (i-1) (t-1) (by omega) (by omega),gB (md+m0-i) u (by omega) (by omega)]at hle
     rw [hA1]at hx;rw [hB2]at hy;exact Nat.le_trans (XH hsA (by omega) (by omega) hle x hx) (YH hsB (by omega) (Nat.le_refl _) y hy)
    have X2:∀x∈B1,∀y∈A2,kM x<=kM y:=by
     intro x hx y hy;have l1:=List.length_pos_of_mem hx;have l2:=List.length_pos_of_mem hy;have hle:=h5 (by omega)
     rw [gA i t (by omega) (by omega),gB (md+m0-1-i) (u-1) (by omega) (by omega)]at hle
     rw [hB1]at hx;rw [hA2]at hy;exact Nat.le_trans (XH hsB (by omega) (by omega) hle x hx) (YH hsA (by omega) (Nat.le_refl _) y hy)
    have sA1:SortM A1:=by rw [hA12]at hsA;exact qw hsA
    have sA2:SortM A2:=by rw [hA12]at hsA;exact Zs hsA
    have sB1:SortM B1:=by rw [hB12]at hsB;exact qw hsB
    have sB2:SortM B2:=by rw [hB12]at hsB;exact Zs hsB
    have oA1:okMs A1:=by rw [hA12]at hoA;exact(yg.1 hoA).1
    have oA2:okMs A2:=by rw [hA12]at hoA;exact(yg.1 hoA).2
    have oB1:okMs B1:=by rw [hB12]at hoB;exact(yg.1 hoB).1
    have oB2:okMs B2:=by rw [hB12]at hoB;exact(yg.1 hoB).2
    have XA:=λx hx y hy=>js (A:=A1) (B:=A2) (hA12▸hsA) x hx y hy;have XB:=λx hx y hy=>js (A:=B1) (B:=B2) (hB12▸hsB) x hx y hy;have hp0:(A++B).Perm ((A1++B1)++(A2++B2)):=by
     rw [hA12,hB12];simp only [List.append_assoc];refine List.Perm.append_left _ ?_;rw [<-List.append_assoc,<-List.append_assoc];exact List.Perm.append_right _ List.perm_append_comm
    have fin:∀C1 C2:List Mo,(A1++B1).Perm C1->SortM C1->(A2++B2).Perm C2->SortM C2->K (.tup []) (upd h r ⟨ver,some ⟨(U++C1++C2++V).map mC,5,true⟩⟩):=by
     intro C1 C2 p1 s1 p2 s2;have:=hK (C1++C2) (hp0.trans (p1.append p2)) (yv s1 s2 λx hx y hy=>by
      have hx':=p1.mem_iff.2 hx;have hy':=p2.mem_iff.2 hy;rcases List.mem_append.1 hx' with hx' | hx' <;> rcases List.mem_append.1 hy' with hy' | hy'
      .exact XA x hx' y hy'
      .exact X1 x hx' y hy'
      .exact X2 x hx' y hy'
      .exact XB x hx' y hy')
     rw [<-List.append_assoc]at this;exact this
    by_cases hrot:i<m0/\m0<e
    .have w1:(i:Int)<(m0:Int):=by omega
     have w2:(m0:Int)<(e:Int):=by omega
     simp only [go_sem,hr,hro,hs,hcm,hij',he',w1,w2];refine⟨by omega,?_⟩
     simp only [YA];refine⟨U++A1,A2,B1,B2++V,rfl,by simp;omega,by simp;omega,by simp;omega,λh=>?_,λh=>?_,by simp;omega,by simp;omega,by omega,by simp [za,hD,hA12,hB12],?_⟩
     .have:=List.length_eq_zero_iff.2 h;omega
     .have:=List.length_eq_zero_iff.2 h;omega
     have eS:U++A1++B1++A2++(B2++V)=U++(A1++B1)++(A2++B2)++V:=by simp
     rw [eS];simp only [go_sem,hr,hro,hs,hcm];refine⟨λq1=>⟨λq2=>?_,λq2=>?_⟩,λq1=>?_⟩
     .simp only [Jh];refine⟨U,A1,B1,(A2++B2)++V,rfl,rfl,by omega,by omega,λh=>?_,λh=>?_,by omega,by omega,by simp;omega,by omega,oA1,oB1,sA1,sB1,by simp [za],λC1 p1 s1=>?_⟩
      .have:=List.length_eq_zero_iff.2 h;omega
      .have:=List.length_eq_zero_iff.2 h;omega
      have lC1:=p1.length_eq;rw [List.length_append]at lC1;try simp only [go_sem,hr]
      refine⟨λq3=>⟨λq4=>?_,λq4=>?_⟩,λq3=>?_⟩
      .try simp only [Jh]
       refine⟨U++C1,A2,B2,V,rfl,by simp;omega,by simp;omega,by simp;omega,λh=>?_,λh=>?_,by omega,by simp;omega,by simp;omega,by omega,oA2,oB2,sA2,sB2,by simp [za],λC2 p2 s2=>?_⟩
       .have:=List.length_eq_zero_iff.2 h;omega
       .have:=List.length_eq_zero_iff.2 h;omega
       try simp only [go_sem,hr]
       exact fin C1 C2 p1 s1 p2 s2
      .have s2:SortM (A2++B2):=by
        have:B2=[]:=List.length_eq_zero_iff.1 (by omega)
        rw [this,List.append_nil];exact sA2
       have:=fin C1 (A2++B2) p1 s1 (List.Perm.refl _) s2;simpa only [List.append_assoc] using this
      .have s2:SortM (A2++B2):=by
        have:A2=[]:=List.length_eq_zero_iff.1 (by omega)
        rw [this,List.nil_append];exact sB2
       have:=fin C1 (A2++B2) p1 s1 (List.Perm.refl _) s2;simpa only [List.append_assoc] using this
     .obtain⟨C1,hC1⟩:∃C1,C1=A1++B1:=⟨_,rfl⟩;have p1:(A1++B1).Perm C1:=by rw [hC1]
      have s1:SortM C1:=by
       have:B1=[]:=List.length_eq_zero_iff.1 (by omega)
       rw [hC1,this,List.append_nil];exact sA1
      have lC1:=p1.length_eq;rw [List.length_append]at lC1;rw [<-hC1];refine⟨λq3=>⟨λq4=>?_,λq4=>?_⟩,λq3=>?_⟩
      .try simp only [Jh]
       refine⟨U++C1,A2,B2,V,rfl,by simp;omega,by simp;omega,by simp;omega,λh=>?_,λh=>?_,by omega,by simp;omega,by simp;omega,by omega,oA2,oB2,sA2,sB2,by simp [za],λC2 p2 s2=>?_⟩
       .have:=List.length_eq_zero_iff.2 h;omega
       .have:=List.length_eq_zero_iff.2 h;omega
       try simp only [go_sem,hr]
       exact fin C1 C2 p1 s1 p2 s2
      .have s2:SortM (A2++B2):=by
        have:B2=[]:=List.length_eq_zero_iff.1 (by omega)
        rw [this,List.append_nil];exact sA2
       have:=fin C1 (A2++B2) p1 s1 (List.Perm.refl _) s2;simpa only [List.append_assoc] using this
      .have s2:SortM (A2++B2):=by
        have:A2=[]:=List.length_eq_zero_iff.1 (by omega)
        rw [this,List.nil_append];exact sB2
       have:=fin C1 (A2++B2) p1 s1 (List.Perm.refl _) s2;simpa only [List.append_assoc] using this
     .obtain⟨C1,hC1⟩:∃C1,C1=A1++B1:=⟨_,rfl⟩;have p1:(A1++B1).Perm C1:=by rw [hC1]
      have s1:SortM C1:=by
       have:A1=[]:=List.length_eq_zero_iff.1 (by omega)
       rw [hC1,this,List.nil_append];exact sB1
      have lC1:=p1.length_eq;rw [List.length_append]at lC1;rw [<-hC1];refine⟨λq3=>⟨λq4=>?_,λq4=>?_⟩,λq3=>?_⟩
      .try simp only [Jh]
       refine⟨U++C1,A2,B2,V,rfl,by simp;omega,by simp;omega,by simp;omega,λh=>?_,λh=>?_,by omega,by simp;omega,by simp;omega,by omega,oA2,oB2,sA2,sB2,by simp [za],λC2 p2 s2=>?_⟩
       .have:=List.length_eq_zero_iff.2 h;omega
       .have:=List.length_eq_zero_iff.2 h;omega
       try simp only [go_sem,hr]
       exact fin C1 C2 p1 s1 p2 s2
      .have s2:SortM (A2++B2):=by
        have:B2=[]:=List.length_eq_zero_iff.1 (by omega)
        rw [this,List.append_nil];exact sA2
       have:=fin C1 (A2++B2) p1 s1 (List.Perm.refl _) s2;simpa only [List.append_assoc] using this
      .have s2:SortM (A2++B2):=by
        have:A2=[]:=List.length_eq_zero_iff.1 (by omega)
        rw [this,List.nil_append];exact sB2
       have:=fin C1 (A2++B2) p1 s1 (List.Perm.refl _) s2;simpa only [List.append_assoc] using this
    .have eS:D=U++(A1++B1)++(A2++B2)++V:=by
      rw [hD,hA12,hB12];rcases Nat.lt_or_ge i m0 with hh | hh
      .have:B1=[]:=List.length_eq_zero_iff.1 (by omega)
       rw [this];simp
      .have:A2=[]:=List.length_eq_zero_iff.1 (by omega)
       rw [this];simp
     rw [eS];rcases Nat.lt_or_ge i m0 with hh | hh
     case' inl=>
      have w1:(i:Int)<(m0:Int):=by omega
      have w2:¬(m0:Int)<(e:Int):=by omega
      simp only [go_sem,hr,hro,hs,hcm,hij',he',w1,w2];refine⟨by omega,?_⟩
     case' inr=>
      have w1:¬(i:Int)<(m0:Int):=by omega
      simp only [go_sem,hr,hro,hs,hcm,hij',he',w1];refine⟨by omega,?_⟩
     all_goals
      refine⟨λq1=>⟨λq2=>?_,λq2=>?_⟩,λq1=>?_⟩
      .simp only [Jh];refine⟨U,A1,B1,(A2++B2)++V,rfl,rfl,by omega,by omega,λh=>?_,λh=>?_,by omega,by omega,by simp;omega,by omega,oA1,oB1,sA1,sB1,by simp [za],λC1 p1 s1=>?_⟩
       .have:=List.length_eq_zero_iff.2 h;omega
       .have:=List.length_eq_zero_iff.2 h;omega
       have lC1:=p1.length_eq;rw [List.length_append]at lC1;try simp only [go_sem,hr]
       refine⟨λq3=>⟨λq4=>?_,λq4=>?_⟩,λq3=>?_⟩
       .try simp only [Jh]
        refine⟨U++C1,A2,B2,V,rfl,by simp;omega,by simp;omega,by simp;omega,λh=>?_,λh=>?_,by omega,by simp;omega,by simp;omega,by omega,oA2,oB2,sA2,sB2,by simp [za],λC2 p2 s2=>?_⟩
        .have:=List.length_eq_zero_iff.2 h;omega
        .have:=List.length_eq_zero_iff.2 h;omega
        try simp only [go_sem,hr]
        exact fin C1 C2 p1 s1 p2 s2
       .have s2:SortM (A2++B2):=by
         have:B2=[]:=List.length_eq_zero_iff.1 (by omega)
         rw [this,List.append_nil];exact sA2
        have:=fin C1 (A2++B2) p1 s1 (List.Perm.refl _) s2;simpa only [List.append_assoc] using this
       .have s2:SortM (A2++B2):=by
         have:A2=[]:=List.length_eq_zero_iff.1 (by omega)
         rw [this,List.nil_append];exact sB2
        have:=fin C1 (A2++B2) p1 s1 (List.Perm.refl _) s2;simpa only [List.append_assoc] using this
      .obtain⟨C1,hC1⟩:∃C1,C1=A1++B1:=⟨_,rfl⟩;have p1:(A1++B1).Perm C1:=by rw [hC1]
       have s1:SortM C1:=by
        have:B1=[]:=List.length_eq_zero_iff.1 (by omega)
        rw [hC1,this,List.append_nil];exact sA1
       have lC1:=p1.length_eq;rw [List.length_append]at lC1;rw [<-hC1];refine⟨λq3=>⟨λq4=>?_,λq4=>?_⟩,λq3=>?_⟩
       .try simp only [Jh]
        refine⟨U++C1,A2,B2,V,rfl,by simp;omega,by simp;omega,by simp;omega,λh=>?_,λh=>?_,by omega,by simp;omega,by simp;omega,by omega,oA2,oB2,sA2,sB2,by simp [za],λC2 p2 s2=>?_⟩
        .have:=List.length_eq_zero_iff.2 h;omega
        .have:=List.length_eq_zero_iff.2 h;omega
        try simp only [go_sem,hr]
        exact fin C1 C2 p1 s1 p2 s2
       .have s2:SortM (A2++B2):=by
         have:B2=[]:=List.length_eq_zero_iff.1 (by omega)
         rw [this,List.append_nil];exact sA2
        have:=fin C1 (A2++B2) p1 s1 (List.Perm.refl _) s2;simpa only [List.append_assoc] using this
       .have s2:SortM (A2++B2):=by
         have:A2=[]:=List.length_eq_zero_iff.1 (by omega)
         rw [this,List.nil_append];exact sB2
        have:=fin C1 (A2++B2) p1 s1 (List.Perm.refl _) s2;simpa only [List.append_assoc] using this
      .obtain⟨C1,hC1⟩:∃C1,C1=A1++B1:=⟨_,rfl⟩;have p1:(A1++B1).Perm C1:=by rw [hC1]
       have s1:SortM C1:=by
        have:A1=[]:=List.length_eq_zero_iff.1 (by omega)
        rw [hC1,this,List.nil_append];exact sB1
       have lC1:=p1.length_eq;rw [List.length_append]at lC1;rw [<-hC1];refine⟨λq3=>⟨λq4=>?_,λq4=>?_⟩,λq3=>?_⟩
       .try simp only [Jh]
        refine⟨U++C1,A2,B2,V,rfl,by simp;omega,by simp;omega,by simp;omega,λh=>?_,λh=>?_,by omega,by simp;omega,by simp;omega,by omega,oA2,oB2,sA2,sB2,by simp [za],λC2 p2 s2=>?_⟩
        .have:=List.length_eq_zero_iff.2 h;omega
        .have:=List.length_eq_zero_iff.2 h;omega
        try simp only [go_sem,hr]
        exact fin C1 C2 p1 s1 p2 s2
       .have s2:SortM (A2++B2):=by
         have:B2=[]:=List.length_eq_zero_iff.1 (by omega)
         rw [this,List.append_nil];exact sA2
        have:=fin C1 (A2++B2) p1 s1 (List.Perm.refl _) s2;simpa only [List.append_assoc] using this
       .have s2:SortM (A2++B2):=by
         have:A2=[]:=List.length_eq_zero_iff.1 (by omega)
         rw [this,List.nil_append];exact sB2
        have:=fin C1 (A2++B2) p1 s1 (List.Perm.refl _) s2;simpa only [List.append_assoc] using this
end Go.Abs
end
section
namespace Go.Abs
open Go.Num
variable {P:Program} {L:List (Nat×Spec)}
theorem qaW{f fc:Nat}(hE:Enters P f):Sound P f (.own (Jh fc 0)):=by
 refine⟨hE,λE args vals w I m h d K _ _ hG=>?_⟩;unfold Jh at hG;split at hG
 .obtain⟨U,A,B,V,_,_,_,_,hA,_,hN,_⟩:=hG;have:=List.length_pos_iff.2 hA;omega
 .exact hG.elim
theorem XS(hΓ:Holds P (Gl L)){f fr fc N:Nat}(hn1:fr≠f)(hn2:fc≠f)(hro:Gl L fr=.own (YA fc))(hcm:Gl L fc=.dat true Yr)(hc:check P f=some (220,(Xa fr f).strip,[])):Sound P f (.own (Jh fc N)):=by
 induction N with
 | zero=>
  obtain⟨fn,c,h1,h2,h3,_⟩:=yu hc;exact qaW (Qr h1 h2 (by rw [h3];rfl))
 | succ N ih=>
  have hh:Holds P (Gl ((f,.own (Jh fc N))::L)):=Za hΓ ih;refine yaK (Γ:=Gl ((f,.own (Jh fc N))::L)) hh (fs:=f) ?_ ?_ ?_ hc
  .unfold Gl;rw [if_neg hn1];exact hro
  .unfold Gl;rw [if_pos rfl]
  .unfold Gl;rw [if_neg hn2];exact hcm
end Go.Abs
end
section
namespace Go.Abs
open Go.Num
variable {P:Program} {Γ:Nat->Spec}
def vc:AC:=(.o [.m 2 (.c (.one .emp))] [0] (.o [.m 4 (.c (.one .emp)),.M 5 0,.u 6 (.app0 1 (.t 4) (.t 5)),.M 3 6] [3] (.f (.block 0 (.loop (.f (.o [.M 7 3,.Z 8 7,.I 9 .gtr 8 0,.M 10 9,.V 11 10 true 3,.V 12 10 true 3,.w 13 10 true (.len (.t 12)),.w 14 10 true (.bin .sub (.t 13) (.i 1)),.w 15 10 true (.idx 1 (.t 11) (.t 14)),.U 16 10 true 1 false 15,.w 17 10 true (.bin .eql (.t 16) (.c (.one (.lit (.int .u32 0))))),.P 18 10 17] [3,18] (.cond (.t 18) .skip (.exit 0))) [3] (.block 1 (.p [.M 19 3,.M 20 3,.Z 21 20,.I 22 .sub 21 1,.u 23 (.sl 1 (.t 19) none (some (.t 22))),.M 3 23]))))) [3] (.seq (.p [.M 24 3,.M 2 24]) .ret))))
def Qh(f0 f1:Nat):AC:=(.o [.m 4 (.c (.one .emp))] [0,1] (.o [.m 5 (.c (.one .emp))] [0,1,5] (.o [.m 6 (.c (.one (.lit (.int .u64 0))))] [0,1,5,6] (.f (.o [.M 9 0,.Z 10 9,.M 11 1,.Z 12 11,.u 13 (.max [(.t 10),(.t 12)]),.I 14 .add 13 1,.N 15 0] [0,1,5,6,14,15] (.block 0 (.loop (.o [.B 16 .lss 15 14] [0,1,5,6,14,15,16] (.f (.cond (.t 16) .skip (.exit 0)) [0,1,5,6,14,15] (.f (.block 1 (.o [.M 17 15,.M 7 17] [0,1,5,6,7,14,15] (.o [.M 18 0,.M 19 7,.D 20 f0 18 19,.M 21 1,.M 22 7,.D 23 f0 21 22,.B 24 .add 20 23,.M 25 6,.B 26 .add 24 25,.M 8 26] [0,1,5,8,14,15] (.p [.M 27 5,.M 28 8,.u 29 (.conv .u32 (.t 28)),.u 30 (.row 1 [[.x 1 (.t 29)]]),.u 31 (.app 1 (.t 27) (.t 30)),.M 32 8,.u 33 (.bin .shr (.t 32) (.c (.one (.lit (.int .u64 32))))),.M 5 31,.M 6 33])))) [0,1,5,6,14,15] (.p [.I 34 .add 15 1,.M 15 34]))))))) [5] (.seq (.p [.M 35 5,.u 36 (.callf f1 [(.t 35)]),.M 4 36]) .ret)))))
def zg(f0 f1:Nat):AC:=(.o [.m 4 (.c (.one .emp))] [0,1] (.o [.m 5 (.c (.one .emp))] [0,1,5] (.o [.m 6 (.c (.one (.lit (.int .u64 0))))] [0,1,5,6] (.f (.o [.M 9 0,.Z 10 9,.N 11 0] [0,1,5,6,10,11] (.block 0 (.loop (.o [.B 12 .lss 11 10] [0,1,5,6,10,11,12] (.f (.cond (.t 12) .skip (.exit 0)) [0,1,5,6,10,11] (.f (.block 1 (.o [.M 13 11,.M 7 13] [0,1,5,6,7,10,11] (.o [.M 14 0,.M 15 7,.D 16 f0 14 15,.u 17 (.bin .add (.c (.one (.lit (.int .u64 4294967296)))) (.t 16)),.M 18 1,.M 19 7,.D 20 f0 18 19,.B 21 .sub 17 20,.M 22 6,.B 23 .sub 21 22,.M 8 23] [0,1,5,8,10,11] (.p [.M 24 5,.M 25 8,.u 26 (.conv .u32 (.t 25)),.u 27 (.row 1 [[.x 1 (.t 26)]]),.u 28 (.app 1 (.t 24) (.t 27)),.M 29 8,.u 30 (.bin .shr (.t 29) (.c (.one (.lit (.int .u64 32))))),.u 31 (.bin .sub (.c (.one (.lit (.int .u64 1)))) (.t 30)),.M 5 28,.M 6 31])))) [0,1,5,6,10,11] (.p [.I 32 .add 11 1,.M 11 32]))))))) [5] (.seq (.p [.M 33 5,.u 34 (.callf f1 [(.t 33)]),.M 4 34]) .ret)))))
def We(f0:Nat):AC:=(.o [.N 4 0] [0,1] (.f (.o [.M 6 0,.Z 7 6,.M 8 1,.Z 9 8,.u 10 (.max [(.t 7),(.t 9)]),.I 11 .sub 10 1,.M 5 11] [0,1,5] (.block 0 (.loop (.f (.o [.M 12 5,.I 13 .geq 12 0] [0,1,5,13] (.cond (.t 13) .skip (.exit 0))) [0,1,5] (.f (.block 1 (.o [.M 16 0,.M 17 5,.D 18 f0 16 17,.M 19 1,.M 20 5,.D 21 f0 19 20,.B 22 .neq 18 21] [0,1,5,22] (.cond (.t 22) (.f (.o [.M 23 0,.M 24 5,.D 25 f0 23 24,.M 26 1,.M 27 5,.D 28 f0 26 27,.B 29 .lss 25 28] [29] (.cond (.t 29) (.seq (.p [.N 4 (-1)]) .ret) .skip)) [] (.seq (.p [.N 4 1]) .ret)) .skip))) [0,1,5] (.p [.M 14 5,.I 15 .sub 14 1,.M 5 15])))))) [] (.seq (.p [.N 4 0]) .ret)))
def xg:AC:=(.o [.N 2 0] [0] (.f (.o [.M 5 0,.Z 6 5,.I 7 .eql 6 0] [0,7] (.cond (.t 7) (.seq (.p [.N 2 0]) .ret) .skip)) [0] (.o [.M 8 0,.Z 9 8,.I 10 .sub 9 1,.u 11 (.bin .mul (.i 32) (.t 10)),.M 3 11] [0,3] (.f (.o [.M 12 0,.M 13 0,.Z 14 13,.I 15 .sub 14 1,.J 16 1 12 15,.F 17 1 16,.M 4 17] [3,4] (.block 0 (.loop (.f (.o [.M 18 4,.u 19 (.bin .gtr (.t 18) (.c (.one (.lit (.int .u32 0)))))] [3,4,19] (.cond (.t 19) .skip (.exit 0))) [3,4] (.f (.block 1 (.p [.M 22 3,.I 23 .add 22 1,.M 3 23])) [3,4] (.p [.M 20 4,.u 21 (.bin .shr (.t 20) (.c (.one (.lit (.int .u64 1))))),.M 4 21])))))) [3] (.seq (.p [.M 24 3,.M 2 24]) .ret)))))
def Xf(f0:Nat):AC:=(.o [.m 4 (.c (.one .emp))] [0,1] (.o [.M 10 0,.Z 11 10,.M 12 1,.Z 13 12,.B 14 .add 11 13,.u 15 (.mk 1 [(.lit (.int .u32 0))] (.t 14) (.t 14)),.M 5 15] [0,1,5] (.f (.o [.M 16 0,.Z 17 16,.N 18 0] [0,1,5,17,18] (.block 0 (.loop (.o [.B 19 .lss 18 17] [0,1,5,17,18,19] (.f (.cond (.t 19) .skip (.exit 0)) [0,1,5,17,18] (.f (.block 1 (.o [.M 20 18,.M 6 20] [0,1,5,6,17,18] (.o [.m 7 (.c (.one (.lit (.int .u64 0))))] [0,1,5,6,7,17,18] (.f (.o [.M 21 1,.Z 22 21,.N 23 0] [0,1,5,6,7,17,18,22,23] (.block 2 (.loop (.o [.B 24 .lss 23 22] [0,1,5,6,7,17,18,22,23,24] (.f (.cond (.t 24) .skip (.exit 2)) [0,1,5,6,7,17,18,22,23] (.f (.block 3 (.o [.M 25 23,.M 8 25] [0,1,5,6,7,8,17,18,22,23] (.f (.y [.M 26 0,.M 27 6,.J 28 1 26 27,.F 29 1 28,.u 30 (.conv .u64 (.t 29)),.M 31 1,.M 32 8,.J 33 1 31 32,.F 34 1 33,.u 35 (.conv .u64 (.t 34)),.B 36 .mul 30 35,.M 37 5,.M 38 6,.M 39 8,.B 40 .add 38 39,.J 41 1 37 40,.F 42 1 41,.u 43 (.conv .u64 (.t 42)),.B 44 .add 36 43,.M 45 7,.B 46 .add 44 45,.M 9 46]) [0,1,5,6,8,9,17,18,22,23] (.p [.M 47 5,.M 48 6,.M 49 8,.B 50 .add 48 49,.M 51 9,.u 52 (.conv .u32 (.t 51)),.M 53 9,.u 54 (.bin .shr (.t 53) (.c (.one (.lit (.int .u64 32))))),.J 55 1 47 50,.S 1 55 52,.M 7 54])))) [0,1,5,6,7,17,18,22,23] (.p [.I 56 .add 23 1,.M 23 56]))))))) [0,1,5,6,7,17,18] (.p [.M 57 5,.M 58 6,.M 59 1,.Z 60 59,.B 61 .add 58 60,.M 62 7,.u 63 (.conv .u32 (.t 62)),.J 64 1 57 61,.S 1 64 63]))))) [0,1,5,17,18] (.p [.I 65 .add 18 1,.M 18 65]))))))) [5] (.seq (.p [.M 66 5,.u 67 (.callf f0 [(.t 66)]),.M 4 67]) .ret))))
theorem kaL(hΓ:Holds P Γ){f:Nat}(hc:check P f=some (25,vc.strip,[.tmp 2])):Sound P f (.fresh 1 Jr):=by
 refine uv hc vaR hΓ (λargs K hcl hfi hG=>?_);match args,hG with
 | [a],hG=>
  obtain⟨l,ha,hl,hlen,hK⟩:=hG;refine⟨by simp,?_⟩
  rcases ha with rfl | rfl | ⟨rfl,h0⟩
  .simp only [go_sem,vc,ws];refine⟨hlen,?_⟩;refine ja (λn:Nat=>⟨mkV [(3,.one (.own 6 1 1 0 n))],mkH [(6,⟨1,some ⟨l.map wc,1,true⟩⟩)]⟩) (λn=>n<=l.length/\val (l.take n)=val l) id l.length ?_ ?_ ?_
   .first | exact qa (by simp [bitvec_to_nat]) (yf rfl) | (subst h0;exact qa (by simp [bitvec_to_nat]) (yf (l:=[]) rfl))
   .simp
   .rintro n ⟨hn,ht⟩;simp only [go_sem];refine λhm=>⟨λh=>?_,λh=>?_⟩
    .rw [show((n:Int)-1).toNat=n-1 by omega]
     refine λ_=>⟨by omega,by omega,by omega,λh0=>λ_=>⟨by omega,by omega,by omega,n-1,qa (by simp [bitvec_to_nat]) (yf rfl),⟨by omega,?_⟩,?_⟩,λh0=>?_⟩
     .have:=Vb l (n-1);rw [show n-1+1=n by omega,h0,Nat.mul_zero,Nat.add_zero]at this
      rw [<-this];exact ht
     .simp only [id];omega
     .have:=Yd (zw hl n) (VI h hn h0);rw [ht]at this;rw [this]at hK;exact⟨hn,hK⟩
    .have h1:n=0:=by omega
     subst h1;have:val l=0:=by rw [<-ht];simp [val]
     rw [this,Qb]at hK;exact⟨by omega,hK⟩
  .simp only [go_sem,vc,ws];refine⟨hlen,?_⟩;refine ja (λn:Nat=>⟨mkV [(3,.one (.own 6 1 1 0 n))],mkH [(6,⟨1,some ⟨l.map wc,1,true⟩⟩)]⟩) (λn=>n<=l.length/\val (l.take n)=val l) id l.length ?_ ?_ ?_
   .first | exact qa (by simp [bitvec_to_nat]) (yf rfl) | (subst h0;exact qa (by simp [bitvec_to_nat]) (yf (l:=[]) rfl))
   .simp
   .rintro n ⟨hn,ht⟩;simp only [go_sem];refine λhm=>⟨λh=>?_,λh=>?_⟩
    .rw [show((n:Int)-1).toNat=n-1 by omega]
     refine λ_=>⟨by omega,by omega,by omega,λh0=>λ_=>⟨by omega,by omega,by omega,n-1,qa (by simp [bitvec_to_nat]) (yf rfl),⟨by omega,?_⟩,?_⟩,λh0=>?_⟩
     .have:=Vb l (n-1);rw [show n-1+1=n by omega,h0,Nat.mul_zero,Nat.add_zero]at this
      rw [<-this];exact ht
     .simp only [id];omega
     .have:=Yd (zw hl n) (VI h hn h0);rw [ht]at this;rw [this]at hK;exact⟨hn,hK⟩
    .have h1:n=0:=by omega
     subst h1;have:val l=0:=by rw [<-ht];simp [val]
     rw [this,Qb]at hK;exact⟨by omega,hK⟩
  .simp only [go_sem,vc,ws];refine⟨by simp,?_⟩
   refine ja (λn:Nat=>⟨mkV [(3,.one (.own 6 1 1 0 n))],mkH [(6,⟨1,some ⟨l.map wc,1,true⟩⟩)]⟩) (λn=>n<=l.length/\val (l.take n)=val l) id l.length ?_ ?_ ?_
   .first | exact qa (by simp [bitvec_to_nat]) (yf rfl) | (subst h0;exact qa (by simp [bitvec_to_nat]) (yf (l:=[]) rfl))
   .simp
   .rintro n ⟨hn,ht⟩;simp only [go_sem];refine λhm=>⟨λh=>?_,λh=>?_⟩
    .rw [show((n:Int)-1).toNat=n-1 by omega]
     refine λ_=>⟨by omega,by omega,by omega,λh0=>λ_=>⟨by omega,by omega,by omega,n-1,qa (by simp [bitvec_to_nat]) (yf rfl),⟨by omega,?_⟩,?_⟩,λh0=>?_⟩
     .have:=Vb l (n-1);rw [show n-1+1=n by omega,h0,Nat.mul_zero,Nat.add_zero]at this
      rw [<-this];exact ht
     .simp only [id];omega
     .have:=Yd (zw hl n) (VI h hn h0);rw [ht]at this;rw [this]at hK;exact⟨hn,hK⟩
    .have h1:n=0:=by omega
     subst h1;have:val l=0:=by rw [<-ht];simp [val]
     rw [this,Qb]at hK;exact⟨by omega,hK⟩
theorem zad(hΓ:Holds P Γ){f fw ft:Nat}(hw:Γ fw=.dat true Xi)(ht:Γ ft=.fresh 1 Jr)(hc:check P f=some (37,(Qh fw ft).strip,[.tmp 4])):Sound P f (.dat false yn):=by
 refine Qa hc V6 hΓ (λargs K hcl hfi hG=>?_);match args,hG with
 | [a,b],hG=>
  obtain⟨x,rfl,hx,y,rfl,hy,hxl,hyl,hK⟩:=hG;refine⟨by simp,?_⟩
  simp only [go_sem,Qh,hw,ht];intro h1 h2;refine⟨by omega,?_⟩
  generalize hN:max x.length y.length+1=N;refine ja (λp:List Nat×Nat=>match p.1 with
    | []=>⟨mkV [(0,wsA x),(1,wsA y),(5,.one .emp),(6,.one (.lit (.int .u64 p.2))),(14,.one (.lit (.int .i64 N))),(15,.one (.lit (.int .i64 0)))],mkH []⟩
    | a::r=>⟨mkV [(0,wsA x),(1,wsA y),(5,.one (.own 31 1 1 0 (r.length+1))),(6,.one (.lit (.int .u64 p.2))),(14,.one (.lit (.int .i64 N))),(15,.one (.lit (.int .i64 (r.length+1:Nat))))],mkH [(31,⟨1,some ⟨(a::r).map wc,1,true⟩⟩)]⟩)
   (λp=>p.1.length<=N/\WL p.1/\p.2<=1/\val p.1+4294967296 ^ p.1.length*p.2=val (x.take p.1.length)+val (y.take p.1.length)) (λp=>N-p.1.length) ([],0) ?_ ?_ ?_
  .exact qa (by simp [bitvec_to_nat]) trivial
  .simp [qc,val]
  .rintro⟨o,c⟩ ⟨hoN,ho,hc1,hval⟩;simp only at hoN ho hc1 hval;cases o with
   | nil=>
    simp only [go_sem,hw,ht];refine⟨λhlt=>?_,λhge=>by omega⟩
    have g1:=jb hx 0;have g2:=jb hy 0;rw [Nat.mod_eq_of_lt (show x.getD 0 0+y.getD 0 0<18446744073709551616 by omega),Nat.mod_eq_of_lt (show x.getD 0 0+y.getD 0 0+c<18446744073709551616 by omega)]
    generalize hs:x.getD 0 0+y.getD 0 0+c=s;refine⟨hx,by omega,hy,by omega,by simp,by decide,by decide,([s % 4294967296],s / 4294967296),qa (by simp [bitvec_to_nat]) (yf (l:=[s % 4294967296]) rfl),⟨by simp;omega,ub.2 ⟨Nat.mod_lt _ (by omega),qc⟩,by simp only;omega,?_⟩,by simp;omega⟩
    have t1:=Vb x 0;have t2:=Vb y 0;simp only [List.length_cons,List.length_nil,Nat.zero_add,List.take_zero,Zm,vh,Nat.pow_zero,Nat.pow_one,Nat.mul_zero]at t1 t2 hval ⊢;omega
   | cons a r=>
    simp only [go_sem,hw,ht];refine⟨λhlt=>?_,λhge=>?_⟩
    .have g1:=jb hx (r.length+1);have g2:=jb hy (r.length+1);rw [Nat.mod_eq_of_lt (show x.getD (r.length+1) 0+y.getD (r.length+1) 0<18446744073709551616 by omega),Nat.mod_eq_of_lt (show x.getD (r.length+1) 0+y.getD (r.length+1) 0+c<18446744073709551616 by omega)]
     generalize hs:x.getD (r.length+1) 0+y.getD (r.length+1) 0+c=s;refine⟨hx,hy,by simp,by omega,by decide,by omega,(a::(r++[s % 4294967296]),s / 4294967296),qa (by simp [bitvec_to_nat]) (Jah (l':=a::(r++[s % 4294967296])) (by simp [wc])),⟨by simp;omega,?_,by simp only;omega,?_⟩,by simp;omega⟩
     .exact Ze (a:=a::r) |>.2 ⟨ho,ub.2 ⟨Nat.mod_lt _ (by omega),qc⟩⟩
     .have t1:=Vb x (r.length+1);have t2:=Vb y (r.length+1);have e:a::(r++[s % 4294967296])=(a::r)++[s % 4294967296]:=rfl;simp only [e,List.length_append,List.length_cons,List.length_nil,Nat.zero_add,Yb,t1,t2];simp only [List.length_cons]at hval;rw [show val [s % 4294967296]=s % 4294967296 from by simp [val],Nat.pow_succ 4294967296 (r.length+1)]
      exact Jbc hval (by rw [Nat.mod_add_div,hs])
    .have e:r.length+1=N:=by simp only [List.length_cons]at hoN;omega
     have hv:val (a::r)=val x+val y:=by
      rw [List.length_cons,e,wh (by omega),wh (by omega)]at hval
      exact zaE hx hy (by omega) (by omega) (by omega) hval
     refine(jab _ (a::r)).mpr ⟨ho,by simp only [List.length_cons];omega,?_⟩
     rw [hv];exact hK
theorem qY(hΓ:Holds P Γ){f fw ft:Nat}(hw:Γ fw=.dat true Xi)(ht:Γ ft=.fresh 1 Jr)(hc:check P f=some (35,(zg fw ft).strip,[.tmp 4])):Sound P f (.dat false Uo):=by
 refine Qa hc Wai hΓ (λargs K hcl hfi hG=>?_);match args,hG with
 | [a,b],hG=>
  obtain⟨x,rfl,hx,y,rfl,hy,hxl,hle,hK⟩:=hG;refine⟨by simp,?_⟩
  simp only [go_sem,zg,hw,ht];intro h1;generalize hN:x.length=N at *
  refine ja (λp:List Nat×Nat=>match p.1 with
    | []=>⟨mkV [(0,wsA x),(1,wsA y),(5,.one .emp),(6,.one (.lit (.int .u64 p.2))),(10,.one (.lit (.int .i64 N))),(11,.one (.lit (.int .i64 0)))],mkH []⟩
    | a::r=>⟨mkV [(0,wsA x),(1,wsA y),(5,.one (.own 28 1 1 0 (r.length+1))),(6,.one (.lit (.int .u64 p.2))),(10,.one (.lit (.int .i64 N))),(11,.one (.lit (.int .i64 (r.length+1:Nat))))],mkH [(28,⟨1,some ⟨(a::r).map wc,1,true⟩⟩)]⟩)
   (λp=>p.1.length<=N/\WL p.1/\p.2<=1/\val p.1+val (y.take p.1.length)=val (x.take p.1.length)+4294967296 ^ p.1.length*p.2) (λp=>N-p.1.length) ([],0) ?_ ?_ ?_
  .exact qa (by simp [bitvec_to_nat]) trivial
  .simp [qc,val]
  .rintro⟨o,c⟩ ⟨hoN,ho,hc1,hval⟩;simp only at hoN ho hc1 hval;cases o with
   | nil=>
    have g1:=jb hx 0;have g2:=jb hy 0;obtain⟨s,e1,e2,e3,e4⟩:=ZW g1 g2 hc1;simp only [go_sem,hw,ht,e1,e2];refine⟨λhlt=>?_,λhge=>?_⟩
    .refine⟨hx,by omega,hy,by omega,by simp,⟨by omega,by decide⟩,by decide,([s % 4294967296],1-s / 4294967296),qa (by simp [bitvec_to_nat,e2]) (Jah (l':=[s % 4294967296]) (by simp [wc])),⟨by simp;omega,ub.2 ⟨Nat.mod_lt _ (by omega),qc⟩,e4,?_⟩,by simp;omega⟩
     have t1:=Vb x 0;have t2:=Vb y 0;simp only [List.length_cons,List.length_nil,Nat.zero_add,List.take_zero,Zm,vh,Nat.pow_zero,Nat.pow_one,Nat.mul_zero]at t1 t2 hval ⊢;omega
    .have hx0:x=[]:=List.eq_nil_of_length_eq_zero (by omega)
     have:val x-val y=val []:=by rw [hx0];simp [val]
     rw [<-this];exact hK
   | cons a r=>
    have g1:=jb hx (r.length+1);have g2:=jb hy (r.length+1);obtain⟨s,e1,e2,e3,e4⟩:=ZW g1 g2 hc1;simp only [go_sem,hw,ht,e1,e2];refine⟨λhlt=>?_,λhge=>?_⟩
    .refine⟨hx,hy,by simp,by omega,⟨by omega,by decide⟩,by omega,(a::(r++[s % 4294967296]),1-s / 4294967296),qa (by simp [bitvec_to_nat,e2]) (Jah (l':=a::(r++[s % 4294967296])) (by simp [wc])),⟨by simp;omega,?_,e4,?_⟩,by simp;omega⟩
     .exact Ze (a:=a::r) |>.2 ⟨ho,ub.2 ⟨Nat.mod_lt _ (by omega),qc⟩⟩
     .have e:a::(r++[s % 4294967296])=(a::r)++[s % 4294967296]:=rfl;simp only [List.length_cons]at hval;simp only [e,List.length_append,List.length_cons,List.length_nil,Nat.zero_add,Vb x (r.length+1),Vb y (r.length+1),Yb,vh (s % 4294967296),Zm,Nat.mul_zero,Nat.add_zero,Nat.pow_succ 4294967296 (r.length+1)];exact XG hval e3
    .have e:(a::r).length=N:=by simp only [List.length_cons]at hoN ⊢;omega
     have hv:=ZF ho hx (by omega) hle hval
     refine(jab _ (a::r)).mpr ⟨ho,by omega,?_⟩
     rw [hv];exact hK
theorem Zaj(hΓ:Holds P Γ){f fw:Nat}(hw:Γ fw=.dat true Xi)(hc:check P f=some (30,(We fw).strip,[.tmp 4])):Sound P f (.dat true ko):=by
 refine Qa hc WaM hΓ (λargs K hcl hfi hG=>?_);match args,hG with
 | [a,b],hG=>
  obtain⟨x,rfl,hx,y,rfl,hy,hK⟩:=hG;refine⟨by simp,?_⟩
  simp only [go_sem,We,hw];intro h1 h2;refine⟨⟨by omega,by omega⟩,?_⟩
  refine ja (λn:Nat=>⟨mkV [(0,wsA x),(1,wsA y),(5,.one (.lit (.int .i64 ((n:Int)-1))))],mkH []⟩) (λn=>n<=max x.length y.length/\val (x.drop n)=val (y.drop n)) id (max x.length y.length) ?_ ?_ ?_
  .exact qa (by simp [bitvec_to_nat]) trivial
  .refine⟨Nat.le_refl _,?_⟩;rw [List.drop_of_length_le (by omega),List.drop_of_length_le (by omega)]
  .rintro n ⟨hn,hd⟩;simp only [go_sem,hw];refine⟨λh=>?_,λh=>?_⟩
   .have e:((n:Int)-1).toNat=n-1:=by omega
    have e1:=Vy x (n-1);have e2:=Vy y (n-1);have e3:n-1+1=n:=by omega
    rw [e3]at e1 e2;rw [e];refine⟨hx,h,hy,h,λhe=>⟨by omega,n-1,qa (by simp [bitvec_to_nat];omega) trivial,⟨by omega,by rw [e1,e2,hd,he]⟩,by simp only [id];omega⟩,λhe=>⟨hx,h,hy,h,λhlt=>?_,λhge=>?_⟩⟩
    .rw [UV (vbm hx (by rw [e3];exact hd) hlt)]at hK;exact hK
    .rw [kam (vbm (m:=n-1) hy (by rw [e3];exact hd.symm) (by omega))]at hK;exact hK
   .have:n=0:=by omega
    subst this;have:val x=val y:=hd;rw [this,wa5]at hK;exact hK
theorem Uac(hΓ:Holds P Γ){f:Nat}(hc:check P f=some (25,xg.strip,[.tmp 2])):Sound P f (.dat true qn):=by
 refine Qa hc Yan hΓ (λargs K hcl hfi hG=>?_);match args,hG with
 | [a],hG=>
  obtain⟨x,rfl,hx,hxl,hK⟩:=hG;refine⟨by simp,?_⟩
  simp only [go_sem,xg];intro h1;refine⟨λh=>?_,λh _=>⟨by omega,by omega,λ_=>⟨by omega,by omega,by omega,?_⟩⟩⟩
  .rw [if_pos h]at hK;exact hK
  rw [if_neg h]at hK;have e:((x.length:Int)-1).toNat=x.length-1:=by omega
  rw [e];have hb:=jb hx (x.length-1);generalize x.getD (x.length-1) 0=w at *
  have hb32:bln w<=32:=Zbl (by omega)
  refine ja (λp:Nat×Nat=>⟨mkV [(3,.one (.lit (.int .i64 (32*((x.length:Int)-1)+p.1)))),(4,.one (.lit (.int .u32 p.2)))],mkH []⟩) (λp=>p.2<4294967296/\p.1+bln p.2=bln w) (λp=>p.2) (0,w) ?_ ?_ ?_
  .exact qa (by simp [bitvec_to_nat]) trivial
  .exact⟨hb,by simp⟩
  .rintro⟨i,m⟩ ⟨hm,hi⟩;simp only at hm hi;simp only [go_sem];refine⟨λh=>?_,λh=>?_⟩
   .have e:=xaj (n:=m) (by omega)
    refine⟨by omega,by decide,(i+1,m / 2),qa (by simp [bitvec_to_nat];omega) trivial,⟨by simp only;omega,by simp only;omega⟩,by simp only;omega⟩
   .have:m=0:=by omega
    subst this;rw [kH]at hi;have e:(32*((x.length:Int)-1)+(i:Int))=((32*(x.length-1)+bln w:Nat):Int):=by omega
    rw [e];exact hK
theorem QT(hΓ:Holds P Γ){f ft:Nat}(ht:Γ ft=.fresh 1 Jr)(hc:check P f=some (68,(Xf ft).strip,[.tmp 4])):Sound P f (.dat false jm):=by
 refine Qa hc wO hΓ (λargs K hcl hfi hG=>?_);match args,hG with
 | [a,b],hG=>
  obtain⟨x,rfl,hx,y,rfl,hy,hxl,hyl,hK⟩:=hG;refine⟨by simp,?_⟩
  simp only [go_sem,Xf,ht];intro h1 h2;refine⟨by omega,by omega,λ_=>?_⟩
  generalize hN:x.length+y.length=N;refine ja (λp:Nat×List Nat=>⟨mkV [(0,wsA x),(1,wsA y),(5,.one (.own 15 1 1 0 N)),(17,.one (.lit (.int .i64 x.length))),(18,.one (.lit (.int .i64 p.1)))],mkH [(15,⟨1,some ⟨p.2.map wc,1,true⟩⟩)]⟩)
   (λp=>p.1<=x.length/\WL p.2/\p.2.length=N/\val p.2=val (x.take p.1)*val y/\∀j,p.1+y.length<=j->p.2.getD j 0=0) (λp=>x.length-p.1) (0,List.replicate N 0) ?_ ?_ ?_
  .exact qa (by simp [bitvec_to_nat]) (yf (by simp))
  .simp [Ja4,val,JW];intro j _;rw [List.getElem?_replicate];split <;> rfl
  .rintro⟨i,o⟩ ⟨hi,ho,hoN,hval,hz⟩;simp only at hi ho hoN hval hz;simp only [go_sem,ht,hoN];refine⟨λhlt=>?_,λhge=>?_⟩
   .have g1:=jb hx i;intro _;refine ja (λp:Nat×Nat×List Nat=>⟨mkV [(0,wsA x),(1,wsA y),(5,.one (.own 15 1 1 0 N)),(6,.one (.lit (.int .i64 i))),(7,.one (.lit (.int .u64 p.2.1))),(17,.one (.lit (.int .i64 x.length))),(18,.one (.lit (.int .i64 i))),(22,.one (.lit (.int .i64 y.length))),(23,.one (.lit (.int .i64 p.1)))],mkH [(15,⟨1,some ⟨p.2.2.map wc,1,true⟩⟩)]⟩)
     (λp=>p.1<=y.length/\p.2.1<4294967296/\WL p.2.2/\p.2.2.length=N/\val p.2.2+4294967296 ^ i*4294967296 ^ p.1*p.2.1=val (x.take i)*val y+4294967296 ^ i*x.getD i 0*val (y.take p.1)/\∀j,i+y.length<=j->p.2.2.getD j 0=0) (λp=>y.length-p.1) (0,0,o) ?_ ?_ ?_
    .exact qa (by simp [bitvec_to_nat]) (yf rfl)
    .exact⟨Nat.zero_le _,by simp,ho,hoN,by simp [val,hval],hz⟩
    .rintro⟨k,c,o⟩ ⟨hk,hc,ho,hoN,hval,hz⟩;simp only at hk hc ho hoN hval hz;simp only [go_sem,ht,hoN];refine⟨λhlt2=>?_,λhge2=>?_⟩
     .have g2:=jb hy k;have g3:=jb ho (i+k);have s1:=VX g1 g2 hc g3;have e1:x.getD i 0 % 18446744073709551616=x.getD i 0:=by omega
      have e2:y.getD k 0 % 18446744073709551616=y.getD k 0:=by omega
      have e3:o.getD (i+k) 0 % 18446744073709551616=o.getD (i+k) 0:=by omega
      have hstep:=XR hval (by omega) rfl
      rw [e1,e2,e3,Nat.mod_eq_of_lt (show x.getD i 0*y.getD k 0<18446744073709551616 by omega),Nat.mod_eq_of_lt (show x.getD i 0*y.getD k 0+o.getD (i+k) 0<18446744073709551616 by omega),Nat.mod_eq_of_lt (show x.getD i 0*y.getD k 0+o.getD (i+k) 0+c<18446744073709551616 by omega),Nat.add_comm _ c]
      generalize hs:c+(x.getD i 0*y.getD k 0+o.getD (i+k) 0)=s at s1 hstep;refine⟨hlt,hlt2,by omega,by omega,by omega,by omega,by decide,by omega,by omega,by omega,(k+1,s / 4294967296,o.set (i+k) (s % 4294967296)),qa (by simp [bitvec_to_nat]) (yf rfl),⟨by simp only;omega,by simp only;omega,U4 ho _ (Nat.mod_lt _ (by omega)),by simp [hoN],hstep,?_⟩,by simp only;omega⟩
      intro j hj;simp only;rw [Num.getD_set_ne (by omega)];exact hz j hj
     .have e:k=y.length:=by omega
      subst e;have hend:=xaa hval (by omega) (hz _ (Nat.le_refl _))
      rw [Nat.mod_eq_of_lt hc];refine λ_=>⟨by omega,by omega,by omega,by omega,(i+1,o.set (i+y.length) c),qa (by simp [bitvec_to_nat]) (yf rfl),⟨by simp only;omega,U4 ho _ hc,by simp [hoN],hend,?_⟩,by simp only;omega⟩
      intro j hj;simp only at hj ⊢;rw [Num.getD_set_ne (by omega)];exact hz j (by omega)
   .have e:i=x.length:=by omega
    subst e;rw [wh (Nat.le_refl _)]at hval;refine⟨ho,by omega,?_⟩
    rw [hval];exact hK
end Go.Abs
end
section
namespace Go.Abs
open Go.Num
variable {P:Program} {Γ:Nat->Spec}
def ki:AC:=(.o [.m 2 (.c (.one .emp))] [0] (.f (.block 0 (.loop (.f (.o [.M 3 0,.Z 4 3,.I 5 .gtr 4 0,.M 6 5,.V 7 6 true 0,.V 8 6 true 0,.w 9 6 true (.len (.t 8)),.w 10 6 true (.bin .sub (.t 9) (.i 1)),.w 11 6 true (.idx 1 (.t 7) (.t 10)),.U 12 6 true 1 false 11,.w 13 6 true (.bin .eql (.t 12) (.c (.one (.lit (.int .u32 0))))),.P 14 6 13] [0,14] (.cond (.t 14) .skip (.exit 0))) [0] (.block 1 (.p [.M 15 0,.M 16 0,.Z 17 16,.I 18 .sub 17 1,.u 19 (.sl 1 (.t 15) none (some (.t 18))),.M 0 19]))))) [0] (.seq (.p [.M 20 0,.M 2 20]) .ret)))
def Qg(f0 f1:Nat):AC:=(.o [.m 2 (.c (.one .emp))] [0] (.f (.o [.M 4 0,.Z 5 4,.N 6 0] [0,5,6] (.block 0 (.loop (.o [.B 7 .lss 6 5] [0,5,6,7] (.f (.cond (.t 7) .skip (.exit 0)) [0,5,6] (.f (.block 1 (.o [.M 8 6,.M 3 8] [0,3,5,6] (.p [.M 9 0,.M 10 3,.M 11 0,.M 12 3,.D 13 f0 11 12,.u 14 (.bin .shr (.t 13) (.c (.one (.lit (.int .u64 1))))),.M 15 0,.M 16 3,.I 17 .add 16 1,.D 18 f0 15 17,.u 19 (.bin .shl (.t 18) (.c (.one (.lit (.int .u64 31))))),.B 20 .or 14 19,.u 21 (.conv .u32 (.t 20)),.J 22 1 9 10,.S 1 22 21]))) [0,5,6] (.p [.I 23 .add 6 1,.M 6 23]))))))) [0] (.seq (.p [.M 24 0,.H 25 f1 24,.M 2 25]) .ret)))
def ze(f0:Nat):AC:=(.o [.m 4 (.c (.one (.lit (.int .u64 0))))] [0,1,4] (.o [.M 7 0,.Z 8 7,.N 9 0] [0,1,4,8,9] (.block 0 (.loop (.o [.B 10 .lss 9 8] [0,1,4,8,9,10] (.f (.cond (.t 10) .skip (.exit 0)) [0,1,4,8,9] (.f (.block 1 (.o [.M 11 9,.M 5 11] [0,1,4,5,8,9] (.o [.M 12 0,.M 13 5,.D 14 f0 12 13,.u 15 (.bin .add (.c (.one (.lit (.int .u64 4294967296)))) (.t 14)),.M 16 1,.M 17 5,.D 18 f0 16 17,.B 19 .sub 15 18,.M 20 4,.B 21 .sub 19 20,.M 6 21] [0,1,5,6,8,9] (.p [.M 22 0,.M 23 5,.M 24 6,.u 25 (.conv .u32 (.t 24)),.M 26 6,.u 27 (.bin .shr (.t 26) (.c (.one (.lit (.int .u64 32))))),.u 28 (.bin .sub (.c (.one (.lit (.int .u64 1)))) (.t 27)),.J 29 1 22 23,.S 1 29 25,.M 4 28])))) [0,1,4,8,9] (.p [.I 30 .add 9 1,.M 9 30]))))))))
theorem ZaP(hΓ:Holds P Γ){f:Nat}(hc:check P f=some (21,ki.strip,[.tmp 2])):Sound P f (.own Y2):=by
 refine Ye hc hΓ (λd args h K hG=>?_);unfold Y2 at hG;split at hG
 case h_2=>exact hG.elim
 rename_i r ver len;obtain⟨l,post,rfl,hr,hl,hll,hK⟩:=hG;refine⟨[r],[⟨(l++post).map wc,1,true⟩],[.one (.own 1048576 ver 1 0 l.length)],by simp,rfl,?_,?_,?_,λhfi=>⟨by simp,?_⟩⟩
 .intro i r' b h1 h2;cases i with
  | zero=>simp only [List.getElem?_cons_zero,Option.some.injEq]at h1 h2;subst h1 h2;exact⟨by rw [hr],rfl,of_eq_true (wd _)⟩
  | succ i=>simp at h1
 .simp [exA,exC,exB,nameOf,pinA,wsA,ws]
 .intro a ha;simp only [List.mem_cons,List.not_mem_nil,or_false]at ha;subst ha;simp [pasA,pasC,pasB,nameOf,pinA]
 simp only [go_sem,ki,hr];refine ja (λn:Nat=>⟨mkV [(0,.one (.own 1048576 ver 1 0 n))],mkH [(1048576,⟨ver,some ⟨(l++post).map wc,1,true⟩⟩)]⟩)
  (λn=>n<=l.length/\val (l.take n)=val l) id l.length ?_ ?_ ?_
 .exact qa (by simp [bitvec_to_nat]) (yf (by simp))
 .simp
 .rintro n ⟨hn,ht⟩;simp only [go_sem,hr];rw [show((n:Int)-1).toNat=n-1 by omega]
  refine λ_=>⟨λh=>λ_=>⟨by omega,by omega,by simp;omega,?_,?_⟩,λh=>?_⟩
  .rw [waY (by omega)]
   refine λh0 _=>⟨by omega,by omega,by omega,n-1,qa (by simp [bitvec_to_nat]) (yf rfl),⟨by omega,?_⟩,by simp only [id];omega⟩
   have:=Vb l (n-1);rw [show n-1+1=n by omega,h0,Nat.mul_zero,Nat.add_zero]at this
   rw [<-this];exact ht
  .rw [waY (by omega)]
   intro h0;have:=Yd (zw hl n) (VI h hn h0);rw [ht]at this;have h2:=hK (l.drop n++post);rw [this,List.length_take,Nat.min_eq_left hn,<-List.append_assoc,List.take_append_drop]at h2;exact h2
  .have h1:n=0:=by omega
   subst h1;have:val l=0:=by rw [<-ht];simp [val]
   have h2:=hK (l++post);rw [this,Qb]at h2;exact h2
theorem qao(hΓ:Holds P Γ){f fw fc:Nat}(hw:Γ fw=.dat true Xi)(hc' : Γ fc=.own Y2)(hc:check P f=some (26,(Qg fw fc).strip,[.tmp 2])):Sound P f (.own zo):=by
 refine Ye hc hΓ (λd args h K hG=>?_);unfold zo at hG;split at hG
 case h_2=>exact hG.elim
 rename_i r ver len;obtain⟨l,post,rfl,hr,hl,hll,hK⟩:=hG;refine⟨[r],[⟨(l++post).map wc,1,true⟩],[.one (.own 1048576 ver 1 0 l.length)],by simp,rfl,?_,?_,?_,λhfi=>⟨by simp,?_⟩⟩
 .intro i r' b h1 h2;cases i with
  | zero=>simp only [List.getElem?_cons_zero,Option.some.injEq]at h1 h2;subst h1 h2;exact⟨by rw [hr],rfl,of_eq_true (wd _)⟩
  | succ i=>simp at h1
 .simp [exA,exC,exB,nameOf,pinA,wsA,ws]
 .intro a ha;simp only [List.mem_cons,List.not_mem_nil,or_false]at ha;subst ha;simp [pasA,pasC,pasB,nameOf,pinA]
 simp only [go_sem,Qg,hr];intro h1;refine ja (λo:List Nat=>⟨mkV [(0,.one (.own 1048576 ver 1 0 l.length)),(5,.one (.lit (.int .i64 l.length))),(6,.one (.lit (.int .i64 o.length)))],mkH [(1048576,⟨ver,some ⟨(o++(l.drop o.length++post)).map wc,1,true⟩⟩)]⟩)
  (λo=>o.length<=l.length/\WL o/\val o=val l / 2 % 4294967296 ^ o.length) (λo=>l.length-o.length) [] ?_ ?_ ?_
 .exact qa (by simp [bitvec_to_nat]) (yf (by simp))
 .simp [qc,val];omega
 .rintro o ⟨hoN,ho,hval⟩;have hw2:=xbw ho hl;simp only [go_sem,hr,hw,hc',Ua9 hoN,Zak hoN,Nat.le_add_right,ZaJ,QV];refine⟨λhlt=>⟨hw2,by decide,by omega,hw2,by decide,⟨rfl,by have:=jb hl o.length;omega,by omega⟩,hlt,by omega,by omega,?_⟩,λhge=>?_⟩
  .have hd:=Zbc (jb hl o.length) (jb hl (o.length+1));rw [xai hl (by omega),Nat.pow_one]at hd
   rw [hd,Uaz _ hlt];generalize hv:val l / 2 / 4294967296 ^ o.length % 4294967296=v;have hvB:v<4294967296:=by rw [<-hv];exact Nat.mod_lt _ (by omega)
   refine⟨o++[v],qa (by simp [bitvec_to_nat]) (yf rfl),⟨by simp;omega,Ze.2 ⟨ho,ub.2 ⟨hvB,qc⟩⟩,?_⟩,by simp;omega⟩
   rw [Yb,List.length_append,List.length_singleton,VE,hv,<-hval];simp [val]
  .have e:o.length=l.length:=by omega
   have hlt:val l / 2<4294967296 ^ l.length:=Nat.lt_of_le_of_lt (Nat.div_le_self _ _) (Jl hl);rw [e,Nat.mod_eq_of_lt hlt]at hval;rw [List.drop_of_length_le (by omega),List.nil_append,<-e]
   refine⟨o,post,rfl,by simp [za],ho,by omega,λpost'=>?_⟩
   simp only [go_sem];rw [hval];exact hK post'
theorem WaJ(hΓ:Holds P Γ){f fw:Nat}(hw:Γ fw=.dat true Xi)(hc:check P f=some (31,(ze fw).strip,[])):Sound P f (.own uu):=by
 refine Ye hc hΓ (λd args h K hG=>?_);unfold uu at hG;split at hG
 case h_3=>exact hG.elim
 case h_2=>
  rename_i r ver len b _;obtain⟨y,rfl,hy,l,post,rfl,hr,hl,hll,hle,hK⟩:=hG;refine⟨[r],[⟨(l++post).map wc,1,true⟩],[.one (.own 1048576 ver 1 0 l.length),wsA y],by simp,rfl,?_,?_,?_,λhfi=>⟨by simp,?_⟩⟩
  .intro i r' b h1 h2;cases i with
   | zero=>simp only [List.getElem?_cons_zero,Option.some.injEq]at h1 h2;subst h1 h2;exact⟨by rw [hr],rfl,of_eq_true (wd _)⟩
   | succ i=>simp at h1
  .simp [exA,exC,exB,nameOf,pinA,wsA,ws]
  .intro a ha;simp only [List.mem_cons,List.not_mem_nil,or_false]at ha;rcases ha with rfl | rfl
   .simp [pasA,pasC,pasB,nameOf,pinA]
   .exact .slice _ (of_eq_true (wd _))
  simp only [go_sem,ze,hr];intro h1;refine ja (λp:List Nat×Nat=>⟨mkV [(0,.one (.own 1048576 ver 1 0 l.length)),(1,wsA y),(4,.one (.lit (.int .u64 p.2))),(8,.one (.lit (.int .i64 l.length))),(9,.one (.lit (.int .i64 p.1.length)))],
    mkH [(1048576,⟨ver,some ⟨(p.1++(l.drop p.1.length++post)).map wc,1,true⟩⟩)]⟩)
   (λp=>p.1.length<=l.length/\WL p.1/\p.2<=1/\val p.1+val (y.take p.1.length)=val (l.take p.1.length)+4294967296 ^ p.1.length*p.2) (λp=>l.length-p.1.length) ([],0) ?_ ?_ ?_
  .exact qa (by simp [bitvec_to_nat]) (yf (by simp))
  .simp [qc,val]
  .rintro⟨o,c⟩ ⟨hoN,ho,hc1,hval⟩;simp only at hoN ho hc1 hval;have hw2:=xbw ho hl;simp only [go_sem,hr,hw,Ua9 hoN,Zak hoN,Nat.le_add_right,ZaJ,QV];refine⟨λhlt=>?_,λhge=>?_⟩
   .obtain⟨s,e1,e2,e3,e4⟩:=ZW (jb hl o.length) (jb hy o.length) hc1;simp only [e1,e2,VaO,Uaz _ hlt];refine⟨hw2,hy,⟨by omega,by decide,by decide⟩,hlt,by omega,by omega,(o++[s % 4294967296],1-s / 4294967296),qa (by simp [bitvec_to_nat,e2]) (by first | exact Jah rfl | exact⟨Wa3 rfl,qb rfl,trivial⟩),⟨by simp;omega,Ze.2 ⟨ho,ub.2 ⟨Nat.mod_lt _ (by omega),qc⟩⟩,e4,?_⟩,by simp;omega⟩
    simp only [List.length_append,List.length_cons,List.length_nil,Nat.zero_add,Vb,Yb,vh,Zm,Nat.mul_zero,Nat.add_zero,Nat.pow_succ];exact XG hval e3
   .have e:o.length=l.length:=by omega
    have hv:=ZF ho hl e hle hval;have hd:=wA ho;rw [hv,e]at hd;rw [hd]at hK;rw [List.drop_of_length_le (by omega),List.nil_append]
    exact hK
 case h_1=>
  rename_i r ver len r2 ver2 len2;obtain⟨l,post,y,posty,hne,rfl,hr,hl,hll,rfl,hr2,hy,hle,hK⟩:=hG;refine⟨[r,r2],[⟨(l++post).map wc,1,true⟩,⟨(y++posty).map wc,1,true⟩],[.one (.own 1048576 ver 1 0 l.length),.one (.own 1048577 ver2 1 0 y.length)],by simp [hne],rfl,?_,?_,?_,λhfi=>⟨by simp,?_⟩⟩
  .intro i r' b h1 h2;cases i with
   | zero=>simp only [List.getElem?_cons_zero,Option.some.injEq]at h1 h2;subst h1 h2;exact⟨by rw [hr],rfl,of_eq_true (wd _)⟩
   | succ i=>
    cases i with
    | zero=>simp only [List.getElem?_cons_zero,List.getElem?_cons_succ,Option.some.injEq]at h1 h2;subst h1 h2;exact⟨by rw [hr2],rfl,of_eq_true (wd _)⟩
    | succ i=>simp at h1
  .simp [exA,exC,exB,nameOf,pinA,wsA,ws]
  .intro a ha;simp only [List.mem_cons,List.not_mem_nil,or_false]at ha;rcases ha with rfl | rfl
   .simp [pasA,pasC,pasB,nameOf,pinA]
   .simp [pasA,pasC,pasB,nameOf,pinA]
  simp only [go_sem,ze,hr,hr2];intro h1;refine ja (λp:List Nat×Nat=>⟨mkV [(0,.one (.own 1048576 ver 1 0 l.length)),(1,.one (.own 1048577 ver2 1 0 y.length)),(4,.one (.lit (.int .u64 p.2))),(8,.one (.lit (.int .i64 l.length))),(9,.one (.lit (.int .i64 p.1.length)))],
    mkH [(1048576,⟨ver,some ⟨(p.1++(l.drop p.1.length++post)).map wc,1,true⟩⟩),(1048577,⟨ver2,some ⟨(y++posty).map wc,1,true⟩⟩)]⟩)
   (λp=>p.1.length<=l.length/\WL p.1/\p.2<=1/\val p.1+val (y.take p.1.length)=val (l.take p.1.length)+4294967296 ^ p.1.length*p.2) (λp=>l.length-p.1.length) ([],0) ?_ ?_ ?_
  .exact qa (by simp [bitvec_to_nat]) ⟨qb (by simp),qb rfl,trivial⟩
  .simp [qc,val]
  .rintro⟨o,c⟩ ⟨hoN,ho,hc1,hval⟩;simp only at hoN ho hc1 hval;have hw2:=xbw ho hl;simp only [go_sem,hr,hr2,hw,Ua9 hoN,Zak hoN,Nat.le_add_right,ZaJ,QV,List.length_append,List.take_left];refine⟨λhlt=>?_,λhge=>?_⟩
   .obtain⟨s,e1,e2,e3,e4⟩:=ZW (jb hl o.length) (jb hy o.length) hc1;simp only [e1,e2,VaO,Uaz _ hlt];refine⟨hw2,hy,⟨by omega,by decide,by decide⟩,hlt,by omega,by omega,(o++[s % 4294967296],1-s / 4294967296),qa (by simp [bitvec_to_nat,e2]) (by first | exact Jah rfl | exact⟨Wa3 rfl,qb rfl,trivial⟩),⟨by simp;omega,Ze.2 ⟨ho,ub.2 ⟨Nat.mod_lt _ (by omega),qc⟩⟩,e4,?_⟩,by simp;omega⟩
    simp only [List.length_append,List.length_cons,List.length_nil,Nat.zero_add,Vb,Yb,vh,Zm,Nat.mul_zero,Nat.add_zero,Nat.pow_succ];exact XG hval e3
   .have e:o.length=l.length:=by omega
    have hv:=ZF ho hl e hle hval;have hd:=wA ho;rw [hv,e]at hd;rw [hd]at hK;rw [List.drop_of_length_le (by omega),List.nil_append]
    exact hK
end Go.Abs
end
section
namespace Go.Abs
open Go.Num
variable {P:Program} {Γ:Nat->Spec}
def Uh(f0 f1 f2 f3 f4 f5:Nat):AC:=(.o [.m 4 (.c (.one .emp))] [0,1] (.o [.M 6 0,.u 7 (.callf f0 [(.t 6)]),.M 8 1,.u 9 (.callf f0 [(.t 8)]),.M 0 7,.M 1 9] [0,1] (.f (.o [.M 10 0,.Z 11 10,.I 12 .eql 11 0] [0,1,12] (.cond (.t 12) (.seq (.p [.M 13 1,.M 4 13]) .ret) .skip)) [0,1] (.f (.o [.M 14 1,.Z 15 14,.I 16 .eql 15 0] [0,1,16] (.cond (.t 16) (.seq (.p [.M 17 0,.M 4 17]) .ret) .skip)) [0,1] (.o [.N 5 0] [0,1,5] (.f (.block 0 (.loop (.f (.o [.M 18 0,.u 19 (.idx 1 (.t 18) (.i 0)),.F 20 1 19,.u 21 (.bin .and (.t 20) (.c (.one (.lit (.int .u32 1))))),.u 22 (.bin .eql (.t 21) (.c (.one (.lit (.int .u32 0))))),.M 23 22,.V 24 23 true 1,.w 25 23 true (.idx 1 (.t 24) (.i 0)),.U 26 23 true 1 false 25,.w 27 23 true (.bin .and (.t 26) (.c (.one (.lit (.int .u32 1))))),.w 28 23 true (.bin .eql (.t 27) (.c (.one (.lit (.int .u32 0))))),.P 29 23 28] [0,1,5,29] (.cond (.t 29) .skip (.exit 0))) [0,1,5] (.block 1 (.o [.M 30 0,.H 31 f1 30,.M 32 1,.H 33 f1 32,.M 0 31,.M 1 33] [0,1,5] (.p [.M 34 5,.I 35 .add 34 1,.M 5 35])))))) [0,1,5] (.f (.block 2 (.loop (.f (.o [.M 36 0,.Z 37 36,.I 38 .gtr 37 0] [0,1,5,38] (.cond (.t 38) .skip (.exit 2))) [0,1,5] (.block 3 (.f (.block 4 (.loop (.f (.o [.M 39 0,.u 40 (.idx 1 (.t 39) (.i 0)),.F 41 1 40,.u 42 (.bin .and (.t 41) (.c (.one (.lit (.int .u32 1))))),.u 43 (.bin .eql (.t 42) (.c (.one (.lit (.int .u32 0)))))] [0,1,5,43] (.cond (.t 43) .skip (.exit 4))) [0,1,5] (.block 5 (.p [.M 44 0,.H 45 f1 44,.M 0 45]))))) [0,1,5] (.f (.block 6 (.loop (.f (.o [.M 46 1,.u 47 (.idx 1 (.t 46) (.i 0)),.F 48 1 47,.u 49 (.bin .and (.t 48) (.c (.one (.lit (.int .u32 1))))),.u 50 (.bin .eql (.t 49) (.c (.one (.lit (.int .u32 0)))))] [0,1,5,50] (.cond (.t 50) .skip (.exit 6))) [0,1,5] (.block 7 (.p [.M 51 1,.H 52 f1 51,.M 1 52]))))) [0,1,5] (.f (.o [.M 53 0,.M 54 1,.D 55 f2 53 54,.I 56 .lss 55 0] [0,1,5,56] (.cond (.t 56) (.p [.M 57 1,.M 58 0,.M 0 57,.M 1 58]) .skip)) [0,1,5] (.o [.M 59 0,.M 60 1,.D 61 f3 59 60] [0,1,5] (.p [.M 62 0,.H 63 f4 62,.M 0 63]))))))))) [1,5] (.f (.o [.M 64 5,.N 65 0] [1,64,65] (.fz [1] (.block 8 (.loop (.o [.B 66 .lss 65 64] [1,64,65,66] (.f (.cond (.t 66) .skip (.exit 8)) [1,64,65] (.f (.block 9 (.p [.M 67 1,.M 68 1,.D 69 f5 67 68,.M 1 69])) [1,64,65] (.p [.I 70 .add 65 1,.M 65 70])))))))) [1] (.seq (.p [.M 71 1,.M 4 71]) .ret)))))))))
theorem Zan(hΓ:Holds P Γ){f ft fh fc fk fu fp:Nat}(ht:Γ ft=.fresh 1 Jr)(hh:Γ fh=.own zo)(hcm:Γ fc=.dat true ko)(hk:Γ fk=.own uu)(hu:Γ fu=.own Y2)(hp:Γ fp=.dat false yn)
    (hc:check P f=some (72,(Uh ft fh fc fk fu fp).strip,[.tmp 4])):Sound P f (.dat false Ut):=by
  refine Qa hc UaM hΓ (λargs K hcl hfi hG=>?_);match args,hG with
  | [a,b],hG=>
    obtain⟨x,rfl,hx,y,rfl,hy,hxl,hyl,hK⟩:=hG;refine⟨by simp,?_⟩
    simp only [go_sem,Uh,ht,hh,hcm,hk,hu,hp];have hxv:=Qw (Jl hx);have hyv:=Qw (Jl hy);refine⟨hx,by omega,hy,by omega,λ_=>⟨λh0=>?_,λh0 _=>⟨λh1=>?_,λh1=>?_⟩⟩⟩
    . rw [Wu.1 h0,Nat.gcd_zero_left]at hK;exact hK
    . rw [Wu.1 h1,Nat.gcd_zero_right]at hK;exact hK
    rw [Wu]at h0 h1;refine ja (λp:(Nat×List Nat)×(Nat×List Nat)×Nat=>⟨mkV [(0,.one (.own 7 1 1 0 (digs p.1.1).length)),(1,.one (.own 9 1 1 0 (digs p.2.1.1).length)),(5,.one (.lit (.int .i64 p.2.2)))],mkH [(7,⟨1,some ⟨(digs p.1.1++p.1.2).map wc,1,true⟩⟩),(9,⟨1,some ⟨(digs p.2.1.1++p.2.1.2).map wc,1,true⟩⟩)]⟩)
      (λp=>p.1.1≠0/\p.2.1.1≠0/\p.1.1<=val x/\p.2.1.1<=val y/\p.1.1*2 ^ p.2.2<=val x/\Nat.gcd p.1.1 p.2.1.1*2 ^ p.2.2=Nat.gcd (val x) (val y)) (λp=>p.1.1) ((val x,[]),(val y,[]),0) ?_ ?_ ?_
    . exact qa (by simp [bitvec_to_nat]) ⟨qb (by simp),qb (by simp),trivial⟩
    . exact⟨h0,h1,Nat.le_refl _,Nat.le_refl _,by simp,by simp⟩
    . rintro⟨⟨a,pa⟩,⟨b,pb⟩,k⟩ ⟨ha,hb,hax,hby,hak,hg⟩
      simp only at ha hb hax hby hak hg;have hkb:k<32*x.length:=wby (n:=val x) (Nat.le_trans (Nat.le_mul_of_pos_left _ (by omega)) hak) (Jl hx)
      have hal:=Nat.le_trans (ka hax) hxv;have hbl:=Nat.le_trans (ka hby) hyv;have hap:=Uj ha;have hbp:=Uj hb;simp only [go_sem,hh,hcm,hk,hu,hp,Vk,Vv ha,Vv hb,hap,hbp,List.length_append];refine share4 (by omega) (by omega) (Nat.mod_lt _ (by omega)) (by omega) (by omega) (Nat.mod_lt _ (by omega)) (λhae hbe=>?_) (λhodd=>?_)
      . simp only [zo]
        refine⟨digs a,pa,rfl,by simp [za],wa _,by omega,λpa'=>?_⟩
        refine⟨digs b,pb,rfl,by simp [upd,za],wa _,by omega,λpb'=>?_⟩
        simp only [go_sem,Ya];refine⟨by omega,((a / 2,pa'),(b / 2,pb'),k+1),qa (by simp [bitvec_to_nat]) ⟨qb rfl,qb rfl,trivial⟩,⟨by simp only;omega,by simp only;omega,by simp only;omega,by simp only;omega,?_,QbN (by omega) (by omega) hg⟩,by simp only;omega⟩
        simp only;refine Nat.le_trans ?_ hak;rw [Nat.pow_succ,Nat.mul_comm (2 ^ k) 2,<-Nat.mul_assoc];exact Nat.mul_le_mul_right _ (by omega)
      . refine ja (λp : Bool × (Nat × List Nat) × (Nat × List Nat) => match p.1 with
            | false=>⟨mkV [(0,.one (.own 7 1 1 0 (digs p.2.1.1).length)),(1,.one (.own 9 1 1 0 (digs p.2.2.1).length)),(5,.one (.lit (.int .i64 k)))],mkH [(7,⟨1,some ⟨(digs p.2.1.1++p.2.1.2).map wc,1,true⟩⟩),(9,⟨1,some ⟨(digs p.2.2.1++p.2.2.2).map wc,1,true⟩⟩)]⟩
            | true=>⟨mkV [(0,.one (.own 9 1 1 0 (digs p.2.1.1).length)),(1,.one (.own 7 1 1 0 (digs p.2.2.1).length)),(5,.one (.lit (.int .i64 k)))],mkH [(9,⟨1,some ⟨(digs p.2.1.1++p.2.1.2).map wc,1,true⟩⟩),(7,⟨1,some ⟨(digs p.2.2.1++p.2.2.2).map wc,1,true⟩⟩)]⟩)
          (λp=>p.2.2.1≠0/\(p.2.1.1 % 2≠0∨p.2.2.1 % 2≠0)/\(digs p.2.1.1).length<=17179869184/\(digs p.2.2.1).length<=17179869184/\Nat.gcd p.2.1.1 p.2.2.1*2 ^ k=Nat.gcd (val x) (val y)) (λp=>p.2.1.1+p.2.2.1) (false,(a,pa),(b,pb)) ?_ ?_ ?_
        . exact qa (by simp [bitvec_to_nat]) ⟨qb rfl,qb rfl,trivial⟩
        . exact⟨hb,by simp only;omega,by simp only;omega,by simp only;omega,hg⟩
        clear hax hby hak hal hbl hap hbp hg ha hb hodd;rintro⟨sw,⟨a,pa⟩,⟨b,pb⟩⟩ ⟨hb,hodd,hal,hbl,hg⟩;simp only at hb hodd hal hbl hg;cases sw with
        | false=>
          simp only [go_sem,hh,hcm,hk,hu,hp,Vk,Ya,List.length_append,Nat.le_add_right,List.take_left];refine λ_=>⟨λhap=>?_,λhap=>?_⟩
          . have ha:a≠0:=λe=>by rw [e,Qb]at hap;simp at hap
            refine ja (λp:Nat×List Nat=>⟨mkV [(0,.one (.own 7 1 1 0 (digs p.1).length)),(1,.one (.own 9 1 1 0 (digs b).length)),(5,.one (.lit (.int .i64 k)))],mkH [(7,⟨1,some ⟨(digs p.1++p.2).map wc,1,true⟩⟩),(9,⟨1,some ⟨(digs b++pb).map wc,1,true⟩⟩)]⟩)
              (λp=>p.1≠0/\p.1<=a/\(p.1 % 2≠0∨b % 2≠0)/\Nat.gcd p.1 b*2 ^ k=Nat.gcd (val x) (val y)) (λp=>p.1) (a,pa) ?_ ?_ ?_
            . exact qa (by simp [bitvec_to_nat]) ⟨qb rfl,qb rfl,trivial⟩
            . exact⟨ha,Nat.le_refl _,hodd,hg⟩
            . rintro⟨a',pa⟩ ⟨ha',haa,hodd,hg⟩
              simp only at ha' haa hodd hg;have hap:=Uj ha';simp only [go_sem,hh,hcm,hk,hu,hp,Vk,Ya,List.length_append,Nat.le_add_right,List.take_left,Vv ha',hap];refine⟨by omega,by omega,Nat.mod_lt _ (by omega),λhe=>?_,λhao=>?_⟩
              . simp only [zo]
                refine⟨digs a',pa,rfl,by simp [za],wa _,by have:=ka haa;omega,λpa'=>?_⟩
                simp only [go_sem,hh,hcm,hk,hu,hp,Vk,Ya,List.length_append,Nat.le_add_right,List.take_left];refine⟨(a' / 2,pa'),qa (by simp [bitvec_to_nat]) ⟨qb rfl,qb rfl,trivial⟩,⟨by simp only;omega,by simp only;omega,.inr (by omega),?_⟩,by simp only;omega⟩
                rw [<-hg];simp only;rw [Za5 (by omega) (by omega)]
              . refine ja (λp:Nat×List Nat=>⟨mkV [(0,.one (.own 7 1 1 0 (digs a').length)),(1,.one (.own 9 1 1 0 (digs p.1).length)),(5,.one (.lit (.int .i64 k)))],mkH [(7,⟨1,some ⟨(digs a'++pa).map wc,1,true⟩⟩),(9,⟨1,some ⟨(digs p.1++p.2).map wc,1,true⟩⟩)]⟩)
                  (λp=>p.1≠0/\p.1<=b/\Nat.gcd a' p.1*2 ^ k=Nat.gcd (val x) (val y)) (λp=>p.1) (b,pb) ?_ ?_ ?_
                . exact qa (by simp [bitvec_to_nat]) ⟨qb rfl,qb rfl,trivial⟩
                . exact⟨hb,Nat.le_refl _,hg⟩
                . rintro⟨b',pb⟩ ⟨hb',hbb,hg⟩
                  simp only at hb' hbb hg;have hbp:=Uj hb';simp only [go_sem,hh,hcm,hk,hu,hp,Vk,Ya,List.length_append,Nat.le_add_right,List.take_left,Vv hb',hbp];refine⟨by omega,by omega,Nat.mod_lt _ (by omega),λhe=>?_,λhbo=>?_⟩
                  . simp only [zo]
                    refine⟨digs b',pb,rfl,by simp [za],wa _,by have:=ka hbb;omega,λpb'=>?_⟩
                    simp only [go_sem,hh,hcm,hk,hu,hp,Vk,Ya,List.length_append,Nat.le_add_right,List.take_left];refine⟨(b' / 2,pb'),qa (by simp [bitvec_to_nat]) ⟨qb rfl,qb rfl,trivial⟩,⟨by simp only;omega,by simp only;omega,?_⟩,by simp only;omega⟩
                    rw [<-hg];simp only;rw [zbq (by omega) (by omega)]
                  . have hlb:=ka hbb
                    have hla:=ka haa;refine⟨wa _,wa _,λhlt=>?_,λhge=>?_⟩
                    . have hlt:=UG.1 hlt
                      simp only [uu];have e:val (dig (digs b').length (val (digs b')-val (digs a')))=b' - a':=by
                        rw [Wj,Ya,Ya,Nat.mod_eq_of_lt];exact Nat.lt_of_le_of_lt (Nat.sub_le _ _) (Xj b')
                      refine⟨digs b',pb,digs a',pa,by decide,rfl,by simp [za],wa _,by omega,rfl,by simp [za],wa _,by rw [Ya,Ya];omega,?_⟩
                      refine⟨dig (digs b').length (val (digs b')-val (digs a')),pb,(Wa _ _).symm,by simp [upd,za],Xk _ _,by omega,λpost'=>?_⟩
                      simp only [go_sem,e];have hle:=Nat.le_trans (ka (Nat.sub_le b' a')) (ka hbb);refine⟨(true,(b' - a',post'),(a',pa)),qa (by simp [bitvec_to_nat]) ⟨qb rfl,qb rfl,trivial⟩,⟨ha',.inr (by simp only;omega),by simp only;omega,by simp only;omega,?_⟩,by simp only;omega⟩
                      simp only;rw [uX (by omega),Nat.gcd_comm];exact hg
                    . have hge:=mt UG.2 hge
                      simp only [uu];have e:val (dig (digs a').length (val (digs a')-val (digs b')))=a' - b':=by
                        rw [Wj,Ya,Ya,Nat.mod_eq_of_lt];exact Nat.lt_of_le_of_lt (Nat.sub_le _ _) (Xj a')
                      refine⟨digs a',pa,digs b',pb,by decide,rfl,by simp [za],wa _,by omega,rfl,by simp [za],wa _,by rw [Ya,Ya];omega,?_⟩
                      refine⟨dig (digs a').length (val (digs a')-val (digs b')),pa,(Wa _ _).symm,by simp [upd,za],Xk _ _,by omega,λpost'=>?_⟩
                      simp only [go_sem,e];have hle:=Nat.le_trans (ka (Nat.sub_le a' b')) (ka haa);refine⟨(false,(a' - b',post'),(b',pb)),qa (by simp [bitvec_to_nat]) ⟨qb rfl,qb rfl,trivial⟩,⟨hb',.inr (by simp only;omega),by simp only;omega,by simp only;omega,?_⟩,by simp only;omega⟩
                      simp only;rw [uX (by omega)];exact hg
          . have ha:a=0:=Wu.1 (by omega)
            rw [ha,Nat.gcd_zero_left]at hg;refine ja (λj:Nat=>⟨mkV [(1,.one (ws (digs (b*2 ^ j)))),(64,.one (.lit (.int .i64 k))),(65,.one (.lit (.int .i64 j)))],mkH []⟩) (λj=>j<=k) (λj=>k-j) 0 ?_ ?_ ?_
            . exact qa (by simp [bitvec_to_nat]) trivial
            . exact Nat.zero_le _
            . rintro j hj
              simp only [go_sem,hh,hcm,hk,hu,hp,Vk,Ya,List.length_append,Nat.le_add_right,List.take_left];refine⟨λhlt=>?_,λhge=>?_⟩
              . have hj1:b*2 ^ (j+1)<=val x:=by
                  refine Nat.le_trans (Nat.mul_le_mul_left b (Nat.pow_le_pow_right (by omega) hlt)) ?_
                  rw [hg];exact Nat.le_of_dvd (by omega) (Nat.gcd_dvd_left _ _)
                have e:b*2 ^ j+b*2 ^ j=b*2 ^ (j+1):=by rw [Nat.pow_succ,<-Nat.mul_assoc];omega
                have hl1:=Nat.le_trans (ka (show b*2 ^ j<=val x by omega)) hxv
                rw [e];refine⟨wa _,wa _,by omega,by omega,by omega,j+1,qa (by simp [bitvec_to_nat]) trivial,by omega,by omega⟩
              . have e:j=k:=by omega
                rw [e,hg];exact hK
        | true=>
          simp only [go_sem,hh,hcm,hk,hu,hp,Vk,Ya,List.length_append,Nat.le_add_right,List.take_left];refine λ_=>⟨λhap=>?_,λhap=>?_⟩
          . have ha:a≠0:=λe=>by rw [e,Qb]at hap;simp at hap
            refine ja (λp:Nat×List Nat=>⟨mkV [(0,.one (.own 9 1 1 0 (digs p.1).length)),(1,.one (.own 7 1 1 0 (digs b).length)),(5,.one (.lit (.int .i64 k)))],mkH [(9,⟨1,some ⟨(digs p.1++p.2).map wc,1,true⟩⟩),(7,⟨1,some ⟨(digs b++pb).map wc,1,true⟩⟩)]⟩)
              (λp=>p.1≠0/\p.1<=a/\(p.1 % 2≠0∨b % 2≠0)/\Nat.gcd p.1 b*2 ^ k=Nat.gcd (val x) (val y)) (λp=>p.1) (a,pa) ?_ ?_ ?_
            . exact qa (by simp [bitvec_to_nat]) ⟨qb rfl,qb rfl,trivial⟩
            . exact⟨ha,Nat.le_refl _,hodd,hg⟩
            . rintro⟨a',pa⟩ ⟨ha',haa,hodd,hg⟩
              simp only at ha' haa hodd hg;have hap:=Uj ha';simp only [go_sem,hh,hcm,hk,hu,hp,Vk,Ya,List.length_append,Nat.le_add_right,List.take_left,Vv ha',hap];refine⟨by omega,by omega,Nat.mod_lt _ (by omega),λhe=>?_,λhao=>?_⟩
              . simp only [zo]
                refine⟨digs a',pa,rfl,by simp [za],wa _,by have:=ka haa;omega,λpa'=>?_⟩
                simp only [go_sem,hh,hcm,hk,hu,hp,Vk,Ya,List.length_append,Nat.le_add_right,List.take_left];refine⟨(a' / 2,pa'),qa (by simp [bitvec_to_nat]) ⟨qb rfl,qb rfl,trivial⟩,⟨by simp only;omega,by simp only;omega,.inr (by omega),?_⟩,by simp only;omega⟩
                rw [<-hg];simp only;rw [Za5 (by omega) (by omega)]
              . refine ja (λp:Nat×List Nat=>⟨mkV [(0,.one (.own 9 1 1 0 (digs a').length)),(1,.one (.own 7 1 1 0 (digs p.1).length)),(5,.one (.lit (.int .i64 k)))],mkH [(9,⟨1,some ⟨(digs a'++pa).map wc,1,true⟩⟩),(7,⟨1,some ⟨(digs p.1++p.2).map wc,1,true⟩⟩)]⟩)
                  (λp=>p.1≠0/\p.1<=b/\Nat.gcd a' p.1*2 ^ k=Nat.gcd (val x) (val y)) (λp=>p.1) (b,pb) ?_ ?_ ?_
                . exact qa (by simp [bitvec_to_nat]) ⟨qb rfl,qb rfl,trivial⟩
                . exact⟨hb,Nat.le_refl _,hg⟩
                . rintro⟨b',pb⟩ ⟨hb',hbb,hg⟩
                  simp only at hb' hbb hg;have hbp:=Uj hb';simp only [go_sem,hh,hcm,hk,hu,hp,Vk,Ya,List.length_append,Nat.le_add_right,List.take_left,Vv hb',hbp];refine⟨by omega,by omega,Nat.mod_lt _ (by omega),λhe=>?_,λhbo=>?_⟩
                  . simp only [zo]
                    refine⟨digs b',pb,rfl,by simp [za],wa _,by have:=ka hbb;omega,λpb'=>?_⟩
                    simp only [go_sem,hh,hcm,hk,hu,hp,Vk,Ya,List.length_append,Nat.le_add_right,List.take_left];refine⟨(b' / 2,pb'),qa (by simp [bitvec_to_nat]) ⟨qb rfl,qb rfl,trivial⟩,⟨by simp only;omega,by simp only;omega,?_⟩,by simp only;omega⟩
                    rw [<-hg];simp only;rw [zbq (by omega) (by omega)]
                  . have hlb:=ka hbb
                    have hla:=ka haa;refine⟨wa _,wa _,λhlt=>?_,λhge=>?_⟩
                    . have hlt:=UG.1 hlt
                      simp only [uu];have e:val (dig (digs b').length (val (digs b')-val (digs a')))=b' - a':=by
                        rw [Wj,Ya,Ya,Nat.mod_eq_of_lt];exact Nat.lt_of_le_of_lt (Nat.sub_le _ _) (Xj b')
                      refine⟨digs b',pb,digs a',pa,by decide,rfl,by simp [za],wa _,by omega,rfl,by simp [za],wa _,by rw [Ya,Ya];omega,?_⟩
                      refine⟨dig (digs b').length (val (digs b')-val (digs a')),pb,(Wa _ _).symm,by simp [upd,za],Xk _ _,by omega,λpost'=>?_⟩
                      simp only [go_sem,e];have hle:=Nat.le_trans (ka (Nat.sub_le b' a')) (ka hbb);refine⟨(false,(b' - a',post'),(a',pa)),qa (by simp [bitvec_to_nat]) ⟨qb rfl,qb rfl,trivial⟩,⟨ha',.inr (by simp only;omega),by simp only;omega,by simp only;omega,?_⟩,by simp only;omega⟩
                      simp only;rw [uX (by omega),Nat.gcd_comm];exact hg
                    . have hge:=mt UG.2 hge
                      simp only [uu];have e:val (dig (digs a').length (val (digs a')-val (digs b')))=a' - b':=by
                        rw [Wj,Ya,Ya,Nat.mod_eq_of_lt];exact Nat.lt_of_le_of_lt (Nat.sub_le _ _) (Xj a')
                      refine⟨digs a',pa,digs b',pb,by decide,rfl,by simp [za],wa _,by omega,rfl,by simp [za],wa _,by rw [Ya,Ya];omega,?_⟩
                      refine⟨dig (digs a').length (val (digs a')-val (digs b')),pa,(Wa _ _).symm,by simp [upd,za],Xk _ _,by omega,λpost'=>?_⟩
                      simp only [go_sem,e];have hle:=Nat.le_trans (ka (Nat.sub_le a' b')) (ka haa);refine⟨(true,(a' - b',post'),(b',pb)),qa (by simp [bitvec_to_nat]) ⟨qb rfl,qb rfl,trivial⟩,⟨hb',.inr (by simp only;omega),by simp only;omega,by simp only;omega,?_⟩,by simp only;omega⟩
                      simp only;rw [uX (by omega)];exact hg
          . have ha:a=0:=Wu.1 (by omega)
            rw [ha,Nat.gcd_zero_left]at hg;refine ja (λj:Nat=>⟨mkV [(1,.one (ws (digs (b*2 ^ j)))),(64,.one (.lit (.int .i64 k))),(65,.one (.lit (.int .i64 j)))],mkH []⟩) (λj=>j<=k) (λj=>k-j) 0 ?_ ?_ ?_
            . exact qa (by simp [bitvec_to_nat]) trivial
            . exact Nat.zero_le _
            . rintro j hj
              simp only [go_sem,hh,hcm,hk,hu,hp,Vk,Ya,List.length_append,Nat.le_add_right,List.take_left];refine⟨λhlt=>?_,λhge=>?_⟩
              . have hj1:b*2 ^ (j+1)<=val x:=by
                  refine Nat.le_trans (Nat.mul_le_mul_left b (Nat.pow_le_pow_right (by omega) hlt)) ?_
                  rw [hg];exact Nat.le_of_dvd (by omega) (Nat.gcd_dvd_left _ _)
                have e:b*2 ^ j+b*2 ^ j=b*2 ^ (j+1):=by rw [Nat.pow_succ,<-Nat.mul_assoc];omega
                have hl1:=Nat.le_trans (ka (show b*2 ^ j<=val x by omega)) hxv
                rw [e];refine⟨wa _,wa _,by omega,by omega,by omega,j+1,qa (by simp [bitvec_to_nat]) trivial,by omega,by omega⟩
              . have e:j=k:=by omega
                rw [e,hg];exact hK
end Go.Abs
end
section
namespace Go.Abs
open Go.Num
variable {P:Program} {Γ:Nat->Spec}
def jf(f0 f1 f2 f3:Nat):AC:=(.o [.m 4 (.c (.one .emp)),.m 5 (.c (.one .emp))] [0,1] (.o [.M 11 0,.Z 12 11,.u 13 (.mk 1 [(.lit (.int .u32 0))] (.t 12) (.t 12)),.M 6 13] [0,1,6] (.o [.M 14 1,.Z 15 14,.I 16 .add 15 1,.u 17 (.mk 1 [(.lit (.int .u32 0))] (.t 16) (.t 16)),.M 7 17] [0,1,6,7] (.f (.o [.M 18 0,.H 19 f0 18,.I 20 .sub 19 1,.M 8 20] [0,1,6,7,8] (.block 0 (.loop (.f (.o [.M 21 8,.I 22 .geq 21 0] [0,1,6,7,8,22] (.cond (.t 22) .skip (.exit 0))) [0,1,6,7,8] (.f (.block 1 (.o [.M 25 0,.M 26 8,.I 27 .quo 26 32,.J 28 1 25 27,.F 29 1 28,.M 30 8,.I 31 .rem 30 32,.B 32 .shr 29 31,.u 33 (.bin .and (.t 32) (.c (.one (.lit (.int .u32 1))))),.M 9 33] [0,1,6,7,8,9] (.f (.o [.M 34 7,.Z 35 34,.N 36 0] [0,1,6,7,8,9,35,36] (.block 2 (.loop (.o [.B 37 .lss 36 35] [0,1,6,7,8,9,35,36,37] (.f (.cond (.t 37) .skip (.exit 2)) [0,1,6,7,8,9,35,36] (.f (.block 3 (.o [.M 38 36,.M 10 38] [0,1,6,7,8,9,10,35,36] (.y [.M 39 7,.M 40 10,.M 41 7,.M 42 10,.J 43 1 41 42,.F 44 1 43,.u 45 (.bin .shl (.t 44) (.c (.one (.lit (.int .u64 1))))),.M 46 9,.B 47 .or 45 46,.M 48 7,.M 49 10,.J 50 1 48 49,.F 51 1 50,.u 52 (.bin .shr (.t 51) (.c (.one (.lit (.int .u64 31))))),.J 53 1 39 40,.S 1 53 47,.M 9 52]))) [0,1,6,7,8,9,35,36] (.p [.I 54 .add 36 1,.M 36 54]))))))) [0,1,6,7,8] (.o [.M 55 7,.M 56 1,.D 57 f1 55 56,.I 58 .geq 57 0] [0,1,6,7,8,58] (.cond (.t 58) (.o [.M 59 7,.M 60 1,.D 61 f2 59 60] [0,1,6,7,8] (.y [.M 62 6,.M 63 8,.I 64 .quo 63 32,.J 65 1 62 64,.F 66 1 65,.M 67 8,.I 68 .rem 67 32,.u 69 (.bin .shl (.c (.one (.lit (.int .u32 1)))) (.t 68)),.B 70 .or 66 69,.J 71 1 62 64,.S 1 71 70])) .skip))))) [0,1,6,7,8] (.p [.M 23 8,.I 24 .sub 23 1,.M 8 24])))))) [6,7] (.seq (.p [.M 72 6,.u 73 (.callf f3 [(.t 72)]),.M 74 7,.u 75 (.callf f3 [(.t 74)]),.M 4 73,.M 5 75]) .ret)))))
theorem WM(hΓ:Holds P Γ){f fb fc fk ft:Nat}(hb:Γ fb=.dat true qn)(hcm:Γ fc=.dat true ko)(hk:Γ fk=.own uu)(ht:Γ ft=.fresh 1 Jr)
  (hc:check P f=some (76,(jf fb fc fk ft).strip,[.tmp 4,.tmp 5])):Sound P f (.dat false Ue):=by
 refine Qa hc wK hΓ (λargs K hcl hfi hG=>?_);match args,hG with
 | [a,b],hG=>
  obtain⟨x,rfl,hx,y,rfl,hy,hnx,hny,hy0,hxl,hyl,hK⟩:=hG;refine⟨by simp,?_⟩
  simp only [go_sem,jf,hb,hcm,hk,ht];intro h1;refine⟨by omega,λ_=>⟨by omega,by omega,hx,by omega,?_⟩⟩
  obtain⟨n,hn⟩:∃n,(if x.length=0 then 0 else 32*(x.length-1)+bln (x.getD (x.length-1) 0))=n:=⟨_,rfl⟩
  have hnlt:val x<2 ^ n:=by
   rw [<-hn];split
   .rename_i h0;rw [List.eq_nil_of_length_eq_zero h0];simp [val]
   .exact kbq hx ‹_›
  have hnb:n<=32*x.length:=by
   rw [<-hn];split
   .omega
   .have:=Zbl (k:=32) (n:=x.getD (x.length-1) 0) (jb hx _);omega
  have hy1:0<val y:=by
   have:=Qc hny hy0;omega
  rw [hn];refine⟨by omega,?_⟩
  refine ja (λp:Nat×List Nat×List Nat=>⟨mkV [(0,wsA x),(1,wsA y),(6,.one (.own 13 1 1 0 x.length)),(7,.one (.own 17 1 1 0 (y.length+1))),(8,.one (.lit (.int .i64 ((p.1:Int)-1))))],mkH [(13,⟨1,some ⟨p.2.1.map wc,1,true⟩⟩),(17,⟨1,some ⟨p.2.2.map wc,1,true⟩⟩)]⟩)
   (λp=>p.1<=n/\WL p.2.1/\p.2.1.length=x.length/\val p.2.1=val x / 2 ^ p.1 / val y*2 ^ p.1/\WL p.2.2/\p.2.2.length=y.length+1/\val p.2.2=val x / 2 ^ p.1 % val y) (λp=>p.1) (n,List.replicate x.length 0,List.replicate (y.length+1) 0) ?_ ?_ ?_
  .exact qa (by simp [bitvec_to_nat]) ⟨qb (by simp),qb (by simp),trivial⟩
  .simp [Ja4,JW,Nat.div_eq_of_lt hnlt]
  .rintro⟨n',q,r⟩ ⟨hn',hq,hql,hqv,hr,hrl,hrv⟩;simp only at hn' hq hql hqv hr hrl hrv;cases n' with
   | zero=>
    have e:((0:Nat):Int)-1 = -1:=rfl;have e' : ((0:Int)<=-1)=False:=by simp
    simp only [go_sem,hb,hcm,hk,ht,e,e',hql,hrl];simp only [Nat.pow_zero,Nat.div_one,Nat.mul_one]at hqv hrv;rw [hqv,hrv];exact⟨hq,by omega,hr,by omega,hK⟩
   | succ i=>
    have e:((i+1:Nat):Int)-1=(i:Int):=by omega
    have e1:(i:Int) / 32=((i / 32:Nat):Int):=rfl;have e2:(i:Int) % 32=((i % 32:Nat):Int):=rfl;have e3:=ZbB hx i;have hi32:i / 32<x.length:=by omega
    have hib:i % 32<32:=Nat.mod_lt _ (by omega)
    simp only [go_sem,hb,hcm,hk,ht,e,e1,e2,e3,Vk,hql,hrl];have g1:=jb hx (i / 32);have g2:x.getD (i / 32) 0 / 2 ^ (i % 32)<2 ^ IntKind.u32.bits:=Nat.lt_of_le_of_lt (Nat.div_le_self _ _) g1;have g3:((i % 32:Nat):Int)<=IntKind.u32.bits:=by have:IntKind.u32.bits=32:=rfl;omega
    refine⟨by decide,by omega,hi32,by decide,by omega,g2,λhyl'=>?_⟩
    generalize hbit:val x / 2 ^ i % 2=bit;have hbit1:bit<=1:=by omega
    refine ja (λp:List Nat×Nat=>⟨mkV [(0,wsA x),(1,wsA y),(6,.one (.own 13 1 1 0 x.length)),(7,.one (.own 17 1 1 0 (y.length+1))),(8,.one (.lit (.int .i64 i))),(9,.one (.lit (.int .u32 p.2))),(35,.one (.lit (.int .i64 (y.length+1:Nat)))),(36,.one (.lit (.int .i64 p.1.length)))],
      mkH [(13,⟨1,some ⟨q.map wc,1,true⟩⟩),(17,⟨1,some ⟨(p.1++r.drop p.1.length).map wc,1,true⟩⟩)]⟩)
     (λp=>p.1.length<=r.length/\WL p.1/\p.2<=1/\val p.1+4294967296 ^ p.1.length*p.2=2*val (r.take p.1.length)+bit) (λp=>r.length-p.1.length) ([],bit) ?_ ?_ ?_
    .exact qa (by simp [bitvec_to_nat]) ⟨qb rfl,qb (by simp),trivial⟩
    .simp [qc,val,hbit1]
    .rintro⟨o,c⟩ ⟨hol,ho,hc1,hov⟩;simp only at hol ho hc1 hov;by_cases hlt:o.length<y.length+1
     .have g4:=jb hr o.length;simp only [go_sem,hb,hcm,hk,ht,ubr hol,hrl,hlt,QV,not_true,WbC hc1,Xbz _ (show o.length<r.length by omega)]
      refine⟨⟨rfl,by decide,by decide⟩,⟨rfl,Nat.mod_lt _ (by omega),by omega⟩,⟨by decide,by decide⟩,by omega,(o++[r.getD o.length 0*2 % 4294967296+c],r.getD o.length 0 / 2147483648),qa (by simp [bitvec_to_nat]) ⟨qb rfl,qb rfl,trivial⟩,⟨by simp;omega,Ze.2 ⟨ho,ub.2 ⟨by omega,qc⟩⟩,by simp only;omega,?_⟩,by simp;omega⟩
      simp only [List.length_append,List.length_cons,List.length_nil,Nat.zero_add,Vb,Yb,vh,Zm,Nat.mul_zero,Nat.add_zero,Nat.pow_succ];exact kbg hov g4
     .have hoe:o.length=y.length+1:=by omega
      have hd:r.drop (y.length+1)=[]:=List.drop_of_length_le (by omega)
      simp only [go_sem,hb,hcm,hk,ht,hd,hoe,Nat.lt_irrefl,e1,e2];have hrlt:val r<val y:=by rw [hrv];exact Nat.mod_lt _ hy1
      have hylt:=Jl hy;rw [List.take_of_length_le (by omega),hoe,Nat.pow_succ]at hov
      have hc0:c=0:=by
       rcases Nat.eq_zero_or_pos c with h | h
       .exact h
       .exfalso;have:4294967296 ^ y.length*4294967296*1<=4294967296 ^ y.length*4294967296*c:=Nat.mul_le_mul_left _ h;omega
      subst hc0;rw [Nat.mul_zero,Nat.add_zero]at hov;refine⟨ho,hy,λh=>?_,λh=>?_⟩
      .have hge:=Qt.1 h;have hs:=WaY hy1 hbit hqv hrv (by omega)
       simp only [uu,JE];refine⟨hy,o,[],hoe.symm,by simp [za],ho,by omega,hge,?_⟩
       have hp32:2 ^ (i % 32)<4294967296:=Nat.lt_of_lt_of_le (Nat.pow_lt_pow_right (by omega) hib) (by decide)
       have e4:(1*2 ^ (i % 32) % 4294967296:Int)=((2 ^ (i % 32):Nat):Int):=by
        rw [Int.one_mul,show((2:Int) ^ (i % 32))=((2 ^ (i % 32):Nat):Int) by rw [Int.natCast_pow];rfl]
        generalize 2 ^ (i % 32)=w at hp32 ⊢;omega
       have e5:=qby hib (ybg hq hqv);have g5:=jb hq (i / 32);simp only [go_sem,e1,e2,hql,Wa,hoe,e4,e5];have hsv:=uU q (i / 32) (q.getD (i / 32) 0+2 ^ (i % 32)) (by omega)
       have hpp:=QJ i;rw [Nat.mul_add]at hsv;have hv2:val (q.set (i / 32) (q.getD (i / 32) 0+2 ^ (i % 32)))=val q+2 ^ i:=by omega
       have hsum:q.getD (i / 32) 0+2 ^ (i % 32)<4294967296:=by
        rw [<-e5];exact Nat.or_lt_two_pow (n:=32) g5 hp32
       refine⟨by decide,by omega,hi32,hi32,by decide,⟨rfl,by decide,by omega⟩,⟨rfl,g5,hp32⟩,hi32,hi32,⟨by omega,by omega⟩,(i,q.set (i / 32) (q.getD (i / 32) 0+2 ^ (i % 32)),dig (y.length+1) (val o-val y)),qa (by simp [bitvec_to_nat]) ⟨qb rfl,qb rfl,trivial⟩,⟨by simp only;omega,U4 hq _ hsum,by simp [hql],?_,Xk _ _,Wa _ _,?_⟩,by simp only;omega⟩
       .simp only;rw [hv2];exact hs.1
       .simp only;rw [Wj,hov,hs.2,Nat.mod_eq_of_lt];have:=Nat.mod_lt (val x / 2 ^ i) hy1;have h6:(4294967296:Nat) ^ y.length<=4294967296 ^ (y.length+1):=Nat.pow_le_pow_right (by omega) (by omega)
        omega
      .have hlt2:=mt Qt.2 h;have hs:=qaY hy1 hbit hqv hrv (by omega)
       refine⟨by omega,(i,q,o),qa (by simp [bitvec_to_nat]) ⟨qb rfl,qb rfl,trivial⟩,⟨by simp only;omega,hq,hql,hs.1,ho,hoe,by simp only;rw [hov];exact hs.2⟩,by simp only;omega⟩
end Go.Abs
end
section
namespace Go.Abs
open Go.Num
variable {P:Program} {Γ:Nat->Spec}
def Yg(f0:Nat):AC:=(.o [.G 4 [.z,.emp]] [0,1,4] (.o [.M 5 1,.u 6 (.callf f0 [(.t 5)]),.M 1 6] [0,1,4] (.f (.o [.M 7 1,.Z 8 7,.I 9 .eql 8 0] [0,1,4,9] (.cond (.t 9) (.seq (.p [.u 10 (.build [.z [.z,.emp]]),.S 2 4 10]) .ret) .skip)) [0,1,4] (.seq (.p [.M 11 0,.M 12 1,.u 13 (.build [.x 1 (.t 11),.x 1 (.t 12)]),.S 2 4 13]) .ret))))
def Wg(f0 f1:Nat):AC:=(.o [.K 1 2 0,.N 2 0] [1] (.f (.o [.L 3 2 1,.H 4 f0 3,.Z 5 4,.I 6 .eql 5 0] [1,6] (.cond (.t 6) (.seq (.p [.N 2 0]) .ret) .skip)) [1] (.f (.o [.L 7 2 1,.H 8 f1 7] [8] (.cond (.t 8) (.seq (.p [.N 2 (-1)]) .ret) .skip)) [] (.seq (.p [.N 2 1]) .ret))))
def Vi(f0 f1:Nat):AC:=(.o [.K 2 2 0,.K 3 2 1,.N 4 0] [2,3] (.seq (.p [.L 5 2 2,.L 6 2 3,.D 7 f0 5 6,.H 8 f1 7,.M 4 8]) .ret))
def Zi(f0 f1 f2 f3 f4 f5:Nat):AC:=(.o [.K 2 2 0,.K 3 2 1,.G 4 [.z,.emp]] [2,3,4] (.f (.y [.L 7 2 2,.H 8 f0 7,.L 9 2 3,.H 10 f0 9,.M 5 8,.M 6 10]) [2,3,4,5,6] (.f (.f (.y [.L 11 2 2,.H 12 f1 11,.L 13 2 3,.H 14 f1 13,.u 15 (.binb .eql (.t 12) (.t 14))]) [2,3,4,5,6,15] (.cond (.t 15) (.seq (.p [.L 16 2 2,.H 17 f1 16,.M 18 5,.M 19 6,.D 20 f2 18 19,.D 21 f3 17 20,.S 2 4 21]) .ret) .skip)) [2,3,4,5,6] (.f (.o [.M 22 5,.M 23 6,.D 24 f4 22 23,.I 25 .geq 24 0] [2,3,4,5,6,25] (.cond (.t 25) (.seq (.p [.L 26 2 2,.H 27 f1 26,.M 28 5,.M 29 6,.D 30 f5 28 29,.D 31 f3 27 30,.S 2 4 31]) .ret) .skip)) [3,4,5,6] (.seq (.p [.L 32 2 3,.H 33 f1 32,.M 34 6,.M 35 5,.D 36 f5 34 35,.D 37 f3 33 36,.S 2 4 37]) .ret)))))
def Ji(f0 f1:Nat):AC:=(.o [.K 2 2 0,.K 3 2 1,.G 4 [.z,.emp]] [2,3,4] (.seq (.y [.L 5 2 2,.L 6 2 3,.H 7 f0 6,.D 8 f1 5 7,.S 2 4 8]) .ret))
def Qi(f0 f1 f2:Nat):AC:=(.o [.K 2 2 0,.K 3 2 1,.G 4 [.z,.emp]] [2,3,4] (.seq (.y [.L 5 2 2,.H 6 f0 5,.L 7 2 3,.H 8 f0 7,.D 9 f1 6 8,.u 10 (.call f2 [.fa,(.t 9)]),.S 2 4 10]) .ret))
def qi(f0 f1 f2 f3 f4 f5 f6:Nat):AC:=(.o [.K 2 2 0,.K 3 2 1,.G 4 [.z,.emp],.G 5 [.z,.emp],.N 6 0] [2,3,4,5] (.f (.o [.L 9 2 3,.H 10 f0 9,.I 11 .eql 10 0] [2,3,4,5,11] (.cond (.t 11) (.seq (.p [.u 12 (.build [.z [.z,.emp]]),.u 13 (.build [.z [.z,.emp]]),.S 2 4 12,.S 2 5 13,.N 6 8]) .ret) .skip)) [2,3,4,5] (.f (.y [.L 15 2 2,.H 16 f1 15,.L 17 2 3,.H 18 f1 17,.D 19 f2 16 18,.M 14 19,.X 20 0 14,.X 21 1 14,.M 7 20,.M 8 21]) [2,3,4,5,7,8] (.f (.o [.L 22 2 2,.H 23 f3 22,.M 24 23,.V 25 24 true 8,.w 26 24 true (.len (.t 25)),.w 27 24 true (.bin .gtr (.t 26) (.i 0)),.P 28 24 27] [2,3,4,5,7,8,28] (.cond (.t 28) (.y [.M 29 7,.u 30 (.row 1 [[.x 1 (.c (.one (.lit (.int .u32 1))))]]),.D 31 f4 29 30,.L 32 2 3,.H 33 f1 32,.M 34 8,.D 35 f5 33 34,.M 7 31,.M 8 35]) .skip)) [2,3,4,5,7,8] (.seq (.y [.L 36 2 2,.H 37 f3 36,.L 38 2 3,.H 39 f3 38,.u 40 (.binb .neq (.t 37) (.t 39)),.M 41 7,.D 42 f6 40 41,.M 43 8,.u 44 (.call f6 [.fa,(.t 43)]),.S 2 4 42,.S 2 5 44,.N 6 0]) .ret)))))
theorem Zah(hΓ:Holds P Γ){f ft:Nat}(ht:Γ ft=.fresh 1 Jr)(hc:check P f=some (14,(Yg ft).strip,[.cell 4 2 true])):Sound P f (.dat false je):=by
 refine Qa hc QO hΓ (λargs K hcl hfi hG=>?_);match args,hG with
 | [a,m],hG=>
  obtain⟨b,rfl,hG⟩:=vy hG;obtain⟨l,rfl,hl,hlen,hK⟩:=hG;refine⟨by simp,?_⟩
  simp only [go_sem,Yg,ht];refine⟨hl,hlen,λ_=>⟨λh=>?_,λh=>?_⟩⟩
  .have h0:val l=0:=Wu.1 h;have e:zcan (sg b (val l))=zcan 0:=by rw [h0];unfold sg;split <;> rfl
   rw [e]at hK;have e2:(zcan 0)=(false,[]):=by simp [zcan,Qb]
   rw [e2]at hK;exact hK
  .rw [<-VO]at hK;have e:decide (0<(digs (val l)).length)=true:=by simp only [decide_eq_true_eq];omega
   rw [e,Bool.and_true]at hK;exact hK
theorem zY(hΓ:Holds P Γ){f fm fn:Nat}(hm:Γ fm=.dat false Xg)(hn:Γ fn=.dat true ye)(hc:check P f=some (9,(Wg fm fn).strip,[.tmp 2])):Sound P f (.dat true Zf):=by
 refine Qa hc YN hΓ (λargs K hcl hfi hG=>?_);match args,hG with
 | [a],hG=>
  obtain⟨w,rfl,hw,hK⟩:=hG;refine⟨by simp,?_⟩
  simp only [go_sem,Wg,hm,hn,hw];intro _;refine⟨λh=>?_,λh=>⟨λhb=>?_,λhb=>?_⟩⟩
  .have h0:zv w=0:=Jv.1 h;rw [h0]at hK;exact hK
  .rw [Int.sign_eq_neg_one_of_neg hb]at hK;exact hK
  .have h0:zv w≠0:=λe=>h (Jv.2 e);rw [Int.sign_eq_one_of_pos (by omega)]at hK;exact hK
theorem Vag(hΓ:Holds P Γ){f fn fa:Nat}(hn:Γ fn=.dat false Zq)(ha:Γ fa=.dat false Vs)(hc:check P f=some (9,(Ji fn fa).strip,[.cell 4 2 true])):Sound P f (.dat false wz):=by
 refine Qa hc va5 hΓ (λargs K hcl hfi hG=>?_);match args,hG with
 | [a,b],hG=>
  obtain⟨v,rfl,hv,w,rfl,hw,hz,hz',hK⟩:=hG;refine⟨by simp,?_⟩
  simp only [go_sem,Ji,hn,ha,hw,hv];refine⟨by omega,hz,by rw [Y7];exact hz',?_⟩
  rw [<-Int.sub_eq_add_neg];exact hK
theorem J1(hΓ:Holds P Γ){f fs fg:Nat}(hs:Γ fs=.dat false wz)(hg:Γ fg=.dat true Zf)(hc:check P f=some (9,(Vi fs fg).strip,[.tmp 4])):Sound P f (.dat true wn):=by
 refine Qa hc jal hΓ (λargs K hcl hfi hG=>?_);match args,hG with
 | [a,b],hG=>
  obtain⟨v,rfl,hv,w,rfl,hw,hz,hz',hz2,hK⟩:=hG;refine⟨by simp,?_⟩
  simp only [go_sem,Vi,hs,hg,hw,hv];refine⟨hz,hz',?_⟩;have e:Int.sign (zv v-zv w)=ordI (zv v) (zv w):=by
   unfold ordI;split
   .exact Int.sign_eq_neg_one_of_neg (by omega)
   .split
    .exact Int.sign_eq_one_of_pos (by omega)
    .rw [show zv v-zv w=0 by omega];rfl
  rw [e];exact hK
theorem J6(hΓ:Holds P Γ){f fm fg fw:Nat}(hm:Γ fm=.dat false Xg)(hg:Γ fg=.dat false Ut)(hw' : Γ fw=.dat false je)(hc:check P f=some (11,(Qi fm fg fw).strip,[.cell 4 2 true])):Sound P f (.dat false uo):=by
 refine Qa hc waf hΓ (λargs K hcl hfi hG=>?_);match args,hG with
 | [a,b],hG=>
  obtain⟨v,rfl,hv,w,rfl,hw,hz,hz',hK⟩:=hG;refine⟨by simp,?_⟩
  simp only [go_sem,Qi,hm,hg,hw',hw,hv,Ya];have hle:(digs ((zv v).natAbs.gcd (zv w).natAbs)).length<=17179869184:=by
   rcases Nat.eq_zero_or_pos (zv v).natAbs with h | h
   .rw [h,Nat.gcd_zero_left];exact hz'
   .exact Nat.le_trans (ka (Nat.le_of_dvd h (Nat.gcd_dvd_left _ _))) hz
  exact⟨wa _,wa _,hz,hz',wa _,by omega,hK⟩
theorem Y9(hΓ:Holds P Γ){f fn fm fp fw fc fl:Nat}(hn:Γ fn=.dat true ye)(hm:Γ fm=.dat false Xg)(hp:Γ fp=.dat false yn)(hw' : Γ fw=.dat false je)(hc' : Γ fc=.dat true ko)(hl:Γ fl=.dat false Uo)(hc:check P f=some (38,(Zi fm fn fp fw fc fl).strip,[.cell 4 2 true])):Sound P f (.dat false Vs):=by
 refine Qa hc vai hΓ (λargs K hcl hfi hG=>?_);match args,hG with
 | [a,b],hG=>
  obtain⟨v,rfl,hv,w,rfl,hw,hz,hz',hK⟩:=hG;refine⟨by simp,?_⟩
  simp only [go_sem,Zi,hn,hm,hp,hw',hc',hl,hw,hv];simp only [Ya];have hsz:=vL (zv v) (zv w);refine⟨λh=>⟨wa _,wa _,hz,hz',wa _,?_,?_⟩,λh=>⟨wa _,wa _,λho=>⟨wa _,wa _,by unfold zs at hz;omega,?_,wa _,?_,?_⟩,λho=>⟨wa _,wa _,by unfold zs at hz';omega,?_,wa _,?_,?_⟩⟩⟩
  .have e:=ww (kh h);rw [show(zv v).natAbs+(zv w).natAbs=(zv v+zv w).natAbs by have:=kh h;omega]
   unfold zs at *;omega
  .rw [ww (kh h)];exact hK
  .exact(Qt.1 ho)
  .have:=ka (Nat.sub_le (zv v).natAbs (zv w).natAbs);unfold zs at *;omega
  .have h1:=Qt.1 ho;rw [QaC (vp h) h1];exact hK
  .have:=mt Qt.2 ho;omega
  .have:=ka (Nat.sub_le (zv w).natAbs (zv v).natAbs);unfold zs at *;omega
  .have h1:=mt Qt.2 ho;rw [QaC (λe=>vp h e.symm) (by omega),Int.add_comm];exact hK
theorem Vaa(hΓ:Holds P Γ){f fs fn fm fp fw fd fl:Nat}(hs:Γ fs=.dat true Zf)(hn:Γ fn=.dat true ye)(hm:Γ fm=.dat false Xg)(hp:Γ fp=.dat false yn)(hw' : Γ fw=.dat false je)(hd:Γ fd=.dat false Ue)(hl:Γ fl=.dat false Uo)(hc:check P f=some (45,(qi fs fm fd fn fp fl fw).strip,[.cell 4 2 true,.cell 5 2 true,.tmp 6])):Sound P f (.dat false xm):=by
 refine Qa hc zak hΓ (λargs K hcl hfi hG=>?_);match args,hG with
 | [a,b],hG=>
  obtain⟨v,rfl,hv,w,rfl,hw,hz,hz',h0,hK⟩:=hG;refine⟨by simp,?_⟩
  simp only [go_sem,qi,hs,hn,hm,hp,hw',hd,hl,hw,hv];simp only [Ya];have hne:¬(digs (zv w).natAbs).length=0:=λe=>h0 (Jv.1 e);refine⟨λe=>absurd (Int.sign_eq_zero_iff_zero.1 e) h0,λ_=>⟨wa _,wa _,Zo _,Zo _,λe=>hne (by rw [e];rfl),hz,hz',?_⟩⟩
  have hq:(digs ((zv v).natAbs / (zv w).natAbs)).length<=17179869184:=Nat.le_trans (ka (Nat.div_le_self _ _)) hz;have hr:(digs ((zv v).natAbs % (zv w).natAbs)).length<=17179869184:=Nat.le_trans (ka (Nat.mod_le _ _)) hz;have hz'' : (digs (zv w).natAbs).length<=17179869184:=hz';have hlt:=Nat.mod_lt (zv v).natAbs (show 0<(zv w).natAbs by omega)
  have hfin:(0<=zv v∨(zv v).natAbs % (zv w).natAbs=0)->K (AV.tup
    [AV.agg [zb (zcan (sg (!(decide (zv v<0) == decide (zv w<0))) ((zv v).natAbs / (zv w).natAbs))),zm (zcan (sg (!(decide (zv v<0) == decide (zv w<0))) ((zv v).natAbs / (zv w).natAbs)))],
     AV.agg [zb (zcan (sg false ((zv v).natAbs % (zv w).natAbs))),zm (zcan (sg false ((zv v).natAbs % (zv w).natAbs)))],AV.one (C.lit (Value.int IntKind.i64 0))]):=by
   intro h;obtain⟨e1,e2⟩:=vay h0 h;have e1' : sg (!(decide (zv v<0) == decide (zv w<0))) ((zv v).natAbs / (zv w).natAbs)=zv v / zv w:=e1;have e2' : sg false ((zv v).natAbs % (zv w).natAbs)=zv v % zv w:=e2;rw [e1',e2'];exact hK
  refine⟨λhneg _=>⟨λhp=>⟨wa _,(kaF _ 1).mpr ⟨ub.2 ⟨by decide,qc⟩,hq,by decide,wa _,wa _,by omega,by omega,wa _,?_,wa _,?_,?_⟩⟩,λhp=>⟨wa _,by omega,wa _,by omega,hfin (.inr ?_)⟩⟩,λhneg=>⟨wa _,by omega,wa _,by omega,hfin (.inl (by omega))⟩⟩
  .have hv1:val [1]=1:=rfl;rw [hv1];have h1:zs 1<=2:=Jaj (by decide)
   have:=vL (((zv v).natAbs / (zv w).natAbs:Nat):Int) 1;have e:(((zv v).natAbs / (zv w).natAbs:Nat):Int)+1=(((zv v).natAbs / (zv w).natAbs+1:Nat):Int):=by omega
   rw [e]at this;have h3:zs (((zv v).natAbs / (zv w).natAbs:Nat):Int)=(digs ((zv v).natAbs / (zv w).natAbs)).length:=rfl;have h4:zs (((zv v).natAbs / (zv w).natAbs+1:Nat):Int)=(digs ((zv v).natAbs / (zv w).natAbs+1)).length:=rfl;rw [h3,h4]at this;omega
  .have:=ka (Nat.sub_le (zv w).natAbs ((zv v).natAbs % (zv w).natAbs));omega
  .have hv1:val [1]=1:=rfl;rw [hv1];have hne' : (zv v).natAbs % (zv w).natAbs≠0:=by
    intro e;rw [e,Qb]at hp;simp at hp
   obtain⟨e1,e2⟩:=uaq h0 hneg hne';have e1' : sg (!(decide (zv v<0) == decide (zv w<0))) ((zv v).natAbs / (zv w).natAbs+1)=zv v / zv w:=e1;have e2' : sg false ((zv w).natAbs-(zv v).natAbs % (zv w).natAbs)=zv v % zv w:=e2;rw [e1',e2'];exact hK
  .have:digs ((zv v).natAbs % (zv w).natAbs)=[]:=List.eq_nil_of_length_eq_zero (by omega)
   exact zf.1 this
end Go.Abs
end
