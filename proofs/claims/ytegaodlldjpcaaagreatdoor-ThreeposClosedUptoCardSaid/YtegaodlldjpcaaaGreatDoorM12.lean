/-
  Parts of the proof, merged: PolyS, PolyU, PolyT, PolyV, CoupE, CoupF, CoupG, PoseS, PoseO, RefB, RefC.
-/
import Derived.Test.YtegaodlldjpcaaaGreatDoorM11
set_option linter.unusedVariables false
set_option linter.unusedSimpArgs false
set_option maxRecDepth 100000
section
namespace Go.Num
theorem getMM{α:Type}(U V:List α)(x d:α){n:Nat}(h:U.length=n):(U++x::V).getD n d=x:=by
 subst h;simp [List.getD_eq_getElem?_getD]
theorem setMM{α:Type}(U V:List α)(x y:α){n:Nat}(h:U.length=n):(U++x::V).set n y=U++y::V:=by
 subst h;rw [List.set_append_right _ _ (Nat.le_refl _),Nat.sub_self,List.set_cons_zero]
end Go.Num
namespace Go.Abs
open Go.Num
variable {P:Program} {Γ:Nat->Spec}
def YA(fc:Nat)(d:Option Nat)(args:List AV)(h:Nat->HB)(K:AV->(Nat->HB)->Prop):Prop:=
 match args with
 | [.one (.own r ver 5 0 len),.one (.lit (.int .i64 a)),.one (.lit (.int .i64 b)),.one (.lit (.int .i64 n)),c]=>∃(U A M B V:List Mo),c=fnV fc/\a=U.length/\b=(U.length+A.length+M.length:Nat)/\n=A.length/\A.length=B.length/\
   U.length+A.length+M.length+B.length<=len/\len<=U.length+A.length+M.length+B.length+V.length/\len<=68719476736/\
   h r=⟨ver,some ⟨(U++A++M++B++V).map mC,5,true⟩⟩/\K (.tup []) (upd h r ⟨ver,some ⟨(U++B++M++A++V).map mC,5,true⟩⟩)
 | _=>False
@[congr] theorem JbG {fc:Nat} {d:Option Nat} {l l' : List AV} {h h' : Nat->HB} {K:AV->(Nat->HB)->Prop} (e1:l=l') (e2:h=h'):YA fc d l h K=YA fc d l' h' K:=by subst e1;subst e2;rfl
def jF(fc:Nat)(d:Option Nat)(args:List AV)(h:Nat->HB)(K:AV->(Nat->HB)->Prop):Prop:=
 match args with
 | [.one (.own r ver 5 0 len),.one (.lit (.int .i64 a)),.one (.lit (.int .i64 m)),.one (.lit (.int .i64 b)),c]=>∃(U A B V:List Mo),c=fnV fc/\a=U.length/\m=(U.length+A.length:Nat)/\b=(U.length+A.length+B.length:Nat)/\A≠[]/\B≠[]/\
   U.length+A.length+B.length<=len/\len<=U.length+A.length+B.length+V.length/\len<=68719476736/\
   h r=⟨ver,some ⟨(U++A++B++V).map mC,5,true⟩⟩/\K (.tup []) (upd h r ⟨ver,some ⟨(U++B++A++V).map mC,5,true⟩⟩)
 | _=>False
@[congr] theorem ubM {fc:Nat} {d:Option Nat} {l l' : List AV} {h h' : Nat->HB} {K:AV->(Nat->HB)->Prop} (e1:l=l') (e2:h=h'):jF fc d l h K=jF fc d l' h' K:=by subst e1;subst e2;rfl
def wh(fc N:Nat)(d:Option Nat)(args:List AV)(h:Nat->HB)(K:AV->(Nat->HB)->Prop):Prop:=
 match args with
 | [.one (.own r ver 5 0 len),.one (.lit (.int .i64 a)),.one (.lit (.int .i64 m)),.one (.lit (.int .i64 b)),c]=>∃(U A B V:List Mo),c=fnV fc/\a=U.length/\m=(U.length+A.length:Nat)/\b=(U.length+A.length+B.length:Nat)/\A≠[]/\B≠[]/\A.length+B.length<=N/\
   U.length+A.length+B.length<=len/\len<=U.length+A.length+B.length+V.length/\len<=1073741824/\okMs A/\okMs B/\SortM A/\SortM B/\
   h r=⟨ver,some ⟨(U++A++B++V).map mC,5,true⟩⟩/\∀C:List Mo,(A++B).Perm C->SortM C->K (.tup []) (upd h r ⟨ver,some ⟨(U++C++V).map mC,5,true⟩⟩)
 | _=>False
@[congr] theorem VbL {fc N:Nat} {d:Option Nat} {l l' : List AV} {h h' : Nat->HB} {K:AV->(Nat->HB)->Prop} (e1:l=l') (e2:h=h'):wh fc N d l h K=wh fc N d l' h' K:=by subst e1;subst e2;rfl
def kd:AC:=(.seq (.ops false [.m 10 (.i 0)])
 (.fg [0,1,2,3,10] (.block 0 (.loop (.seq (.seq (.ops false [.m 11 (.t 10),.m 12 (.t 3),.u 13 (.bin .lss (.t 11) (.t 12))])
 (.fg [0,1,2,3,10,13] (.cond (.t 13) .skip (.exit 0))))
 (.fg [0,1,2,3,10] (.seq (.block 1 (.ops true [.m 16 (.t 0),.m 17 (.t 1),.m 18 (.t 10),.u 19 (.bin .add (.t 17) (.t 18)),.m 20 (.t 0),.m 21 (.t 2),.m 22 (.t 10),.u 23 (.bin .add (.t 21) (.t 22)),.m 24 (.t 0),.m 25 (.t 2),.m 26 (.t 10),.u 27 (.bin .add (.t 25) (.t 26)),.u 28 (.idx 5 (.t 24) (.t 27)),.u 29 (.ld none 5 true (.t 28)),.m 30 (.t 0),.m 31 (.t 1),.m 32 (.t 10),.u 33 (.bin .add (.t 31) (.t 32)),.u 34 (.idx 5 (.t 30) (.t 33)),.u 35 (.ld none 5 true (.t 34)),.u 36 (.idx 5 (.t 16) (.t 19)),.n (.st none 5 (.t 36) (.t 29)),.u 37 (.idx 5 (.t 20) (.t 23)),.n (.st none 5 (.t 37) (.t 35))]))
 (.fg [0,1,2,3,10] (.ops false [.m 14 (.t 10),.u 15 (.bin .add (.t 14) (.i 1)),.m 10 (.t 15)])))))))))
def ze(f0:Nat):AC:=(.seq (.ops false [.m 12 (.t 2),.m 13 (.t 1),.u 14 (.bin .sub (.t 12) (.t 13)),.m 10 (.t 14)])
 (.fg [0,2,3,4,10] (.seq (.ops false [.m 15 (.t 3),.m 16 (.t 2),.u 17 (.bin .sub (.t 15) (.t 16)),.m 11 (.t 17)])
 (.fg [0,2,4,10,11] (.seq (.block 0 (.loop (.seq (.seq (.ops false [.m 18 (.t 10),.m 19 (.t 11),.u 20 (.bin .neq (.t 18) (.t 19))])
 (.fg [0,2,4,10,11,20] (.cond (.t 20) .skip (.exit 0))))
 (.fg [0,2,4,10,11] (.block 1 (.seq (.ops false [.m 21 (.t 10),.m 22 (.t 11),.u 23 (.bin .gtr (.t 21) (.t 22))])
 (.fg [0,2,4,10,11,23] (.cond (.t 23) (.seq (.ops false [.m 24 (.t 0),.m 25 (.t 2),.m 26 (.t 10),.u 27 (.bin .sub (.t 25) (.t 26)),.m 28 (.t 2),.m 29 (.t 11),.m 30 (.t 4),.u 31 (.call f0 [(.t 24),(.t 27),(.t 28),(.t 29),(.t 30)])])
 (.fg [0,2,4,10,11] (.ops false [.m 32 (.t 10),.m 33 (.t 11),.u 34 (.bin .sub (.t 32) (.t 33)),.m 10 (.t 34)]))) (.seq (.ops false [.m 35 (.t 0),.m 36 (.t 2),.m 37 (.t 10),.u 38 (.bin .sub (.t 36) (.t 37)),.m 39 (.t 2),.m 40 (.t 11),.u 41 (.bin .add (.t 39) (.t 40)),.m 42 (.t 10),.u 43 (.bin .sub (.t 41) (.t 42)),.m 44 (.t 10),.m 45 (.t 4),.u 46 (.call f0 [(.t 35),(.t 38),(.t 43),(.t 44),(.t 45)])])
 (.fg [0,2,4,10,11] (.ops false [.m 47 (.t 11),.m 48 (.t 10),.u 49 (.bin .sub (.t 47) (.t 48)),.m 11 (.t 49)])))))))))))
 (.fg [0,2,4,10] (.ops false [.m 50 (.t 0),.m 51 (.t 2),.m 52 (.t 10),.u 53 (.bin .sub (.t 51) (.t 52)),.m 54 (.t 2),.m 55 (.t 10),.m 56 (.t 4),.u 57 (.call f0 [(.t 50),(.t 53),(.t 54),(.t 55),(.t 56)])])))))))
def Qb(f0 f1:Nat):AC:=(.seq (.seq (.ops false [.m 25 (.t 2),.m 26 (.t 1),.u 27 (.bin .sub (.t 25) (.t 26)),.u 28 (.bin .eql (.t 27) (.i 1))])
 (.fg [0,1,2,3,4,28] (.cond (.t 28) (.seq (.ops false [.m 29 (.t 2),.m 10 (.t 29)])
 (.fg [0,1,3,4,10] (.seq (.ops false [.m 30 (.t 3),.m 11 (.t 30)])
 (.fg [0,1,4,10,11] (.seq (.block 0 (.loop (.seq (.seq (.ops false [.m 31 (.t 10),.m 32 (.t 11),.u 33 (.bin .lss (.t 31) (.t 32))])
 (.fg [0,1,4,10,11,33] (.cond (.t 33) .skip (.exit 0))))
 (.fg [0,1,4,10,11] (.block 1 (.seq (.ops false [.m 34 (.t 10),.m 35 (.t 11),.u 36 (.bin .add (.t 34) (.t 35)),.u 37 (.conv .u64 (.t 36)),.u 38 (.bin .shr (.t 37) (.c (.one (.lit (.int .u64 1))))),.u 39 (.conv .i64 (.t 38)),.m 12 (.t 39)])
 (.fg [0,1,4,10,11,12] (.seq (.ops true [.m 40 (.t 4),.m 41 (.t 0),.m 42 (.t 12),.u 43 (.idx 5 (.t 41) (.t 42)),.u 44 (.ld none 5 true (.t 43)),.m 45 (.t 0),.m 46 (.t 1),.u 47 (.idx 5 (.t 45) (.t 46)),.u 48 (.ld none 5 true (.t 47)),.u 49 (.callv (.t 40) [(.t 44),(.t 48)]),.u 50 (.bin .lss (.t 49) (.i 0))])
 (.fg [0,1,4,10,11,12,50] (.cond (.t 50) (.ops false [.m 51 (.t 12),.u 52 (.bin .add (.t 51) (.i 1)),.m 10 (.t 52)]) (.ops false [.m 53 (.t 12),.m 11 (.t 53)])))))))))))
 (.fg [0,1,10] (.seq (.seq (.ops false [.m 54 (.t 1),.m 13 (.t 54)])
 (.fg [0,10,13] (.block 2 (.loop (.seq (.seq (.ops false [.m 55 (.t 13),.m 56 (.t 10),.u 57 (.bin .sub (.t 56) (.i 1)),.u 58 (.bin .lss (.t 55) (.t 57))])
 (.fg [0,10,13,58] (.cond (.t 58) .skip (.exit 2))))
 (.fg [0,10,13] (.seq (.block 3 (.ops true [.m 61 (.t 0),.m 62 (.t 13),.m 63 (.t 0),.m 64 (.t 13),.u 65 (.bin .add (.t 64) (.i 1)),.m 66 (.t 0),.m 67 (.t 13),.u 68 (.bin .add (.t 67) (.i 1)),.u 69 (.idx 5 (.t 66) (.t 68)),.u 70 (.ld none 5 true (.t 69)),.m 71 (.t 0),.m 72 (.t 13),.u 73 (.idx 5 (.t 71) (.t 72)),.u 74 (.ld none 5 true (.t 73)),.u 75 (.idx 5 (.t 61) (.t 62)),.n (.st none 5 (.t 75) (.t 70)),.u 76 (.idx 5 (.t 63) (.t 65)),.n (.st none 5 (.t 76) (.t 74))]))
 (.fg [0,10,13] (.ops false [.m 59 (.t 13),.u 60 (.bin .add (.t 59) (.i 1)),.m 13 (.t 60)])))))))))
 .ret))))))) .skip)))
 (.fg [0,1,2,3,4] (.seq (.seq (.ops false [.m 77 (.t 3),.m 78 (.t 2),.u 79 (.bin .sub (.t 77) (.t 78)),.u 80 (.bin .eql (.t 79) (.i 1))])
 (.fg [0,1,2,3,4,80] (.cond (.t 80) (.seq (.ops false [.m 81 (.t 1),.m 14 (.t 81)])
 (.fg [0,2,4,14] (.seq (.ops false [.m 82 (.t 2),.m 15 (.t 82)])
 (.fg [0,2,4,14,15] (.seq (.block 4 (.loop (.seq (.seq (.ops false [.m 83 (.t 14),.m 84 (.t 15),.u 85 (.bin .lss (.t 83) (.t 84))])
 (.fg [0,2,4,14,15,85] (.cond (.t 85) .skip (.exit 4))))
 (.fg [0,2,4,14,15] (.block 5 (.seq (.ops false [.m 86 (.t 14),.m 87 (.t 15),.u 88 (.bin .add (.t 86) (.t 87)),.u 89 (.conv .u64 (.t 88)),.u 90 (.bin .shr (.t 89) (.c (.one (.lit (.int .u64 1))))),.u 91 (.conv .i64 (.t 90)),.m 16 (.t 91)])
 (.fg [0,2,4,14,15,16] (.seq (.ops true [.m 92 (.t 4),.m 93 (.t 0),.m 94 (.t 2),.u 95 (.idx 5 (.t 93) (.t 94)),.u 96 (.ld none 5 true (.t 95)),.m 97 (.t 0),.m 98 (.t 16),.u 99 (.idx 5 (.t 97) (.t 98)),.u 100 (.ld none 5 true (.t 99)),.u 101 (.callv (.t 92) [(.t 96),(.t 100)]),.u 102 (.bin .lss (.t 101) (.i 0)),.u 103 (.un .not (.t 102))])
 (.fg [0,2,4,14,15,16,103] (.cond (.t 103) (.ops false [.m 104 (.t 16),.u 105 (.bin .add (.t 104) (.i 1)),.m 14 (.t 105)]) (.ops false [.m 106 (.t 16),.m 15 (.t 106)])))))))))))
 (.fg [0,2,14] (.seq (.seq (.ops false [.m 107 (.t 2),.m 17 (.t 107)])
 (.fg [0,14,17] (.block 6 (.loop (.seq (.seq (.ops false [.m 108 (.t 17),.m 109 (.t 14),.u 110 (.bin .gtr (.t 108) (.t 109))])
 (.fg [0,14,17,110] (.cond (.t 110) .skip (.exit 6))))
 (.fg [0,14,17] (.seq (.block 7 (.ops true [.m 113 (.t 0),.m 114 (.t 17),.m 115 (.t 0),.m 116 (.t 17),.u 117 (.bin .sub (.t 116) (.i 1)),.m 118 (.t 0),.m 119 (.t 17),.u 120 (.bin .sub (.t 119) (.i 1)),.u 121 (.idx 5 (.t 118) (.t 120)),.u 122 (.ld none 5 true (.t 121)),.m 123 (.t 0),.m 124 (.t 17),.u 125 (.idx 5 (.t 123) (.t 124)),.u 126 (.ld none 5 true (.t 125)),.u 127 (.idx 5 (.t 113) (.t 114)),.n (.st none 5 (.t 127) (.t 122)),.u 128 (.idx 5 (.t 115) (.t 117)),.n (.st none 5 (.t 128) (.t 126))]))
 (.fg [0,14,17] (.ops false [.m 111 (.t 17),.u 112 (.bin .sub (.t 111) (.i 1)),.m 17 (.t 112)])))))))))
 .ret))))))) .skip)))
 (.fg [0,1,2,3,4] (.seq (.ops false [.m 129 (.t 1),.m 130 (.t 3),.u 131 (.bin .add (.t 129) (.t 130)),.u 132 (.conv .u64 (.t 131)),.u 133 (.bin .shr (.t 132) (.c (.one (.lit (.int .u64 1))))),.u 134 (.conv .i64 (.t 133)),.m 18 (.t 134)])
 (.fg [0,1,2,3,4,18] (.seq (.ops false [.m 135 (.t 18),.m 136 (.t 2),.u 137 (.bin .add (.t 135) (.t 136)),.m 19 (.t 137)])
 (.fg [0,1,2,3,4,18,19] (.seq (.ops false [.m 20 (.i 0),.m 21 (.i 0)])
 (.fg [0,1,2,3,4,18,19] (.seq (.seq (.ops false [.m 138 (.t 2),.m 139 (.t 18),.u 140 (.bin .gtr (.t 138) (.t 139))])
 (.fg [0,1,2,3,4,18,19,140] (.cond (.t 140) (.seq (.ops false [.m 141 (.t 19),.m 142 (.t 3),.u 143 (.bin .sub (.t 141) (.t 142)),.m 20 (.t 143)])
 (.fg [0,1,2,3,4,18,19,20] (.ops false [.m 144 (.t 18),.m 21 (.t 144)]))) (.seq (.ops false [.m 145 (.t 1),.m 20 (.t 145)])
 (.fg [0,1,2,3,4,18,19,20] (.ops false [.m 146 (.t 2),.m 21 (.t 146)]))))))
 (.fg [0,1,2,3,4,18,19,20,21] (.seq (.ops false [.m 147 (.t 19),.u 148 (.bin .sub (.t 147) (.i 1)),.m 22 (.t 148)])
 (.fg [0,1,2,3,4,18,19,20,21,22] (.seq (.block 8 (.loop (.seq (.seq (.ops false [.m 149 (.t 20),.m 150 (.t 21),.u 151 (.bin .lss (.t 149) (.t 150))])
 (.fg [0,1,2,3,4,18,19,20,21,22,151] (.cond (.t 151) .skip (.exit 8))))
 (.fg [0,1,2,3,4,18,19,20,21,22] (.block 9 (.seq (.ops false [.m 152 (.t 20),.m 153 (.t 21),.u 154 (.bin .add (.t 152) (.t 153)),.u 155 (.conv .u64 (.t 154)),.u 156 (.bin .shr (.t 155) (.c (.one (.lit (.int .u64 1))))),.u 157 (.conv .i64 (.t 156)),.m 23 (.t 157)])
 (.fg [0,1,2,3,4,18,19,20,21,22,23] (.seq (.ops true [.m 158 (.t 4),.m 159 (.t 0),.m 160 (.t 22),.m 161 (.t 23),.u 162 (.bin .sub (.t 160) (.t 161)),.u 163 (.idx 5 (.t 159) (.t 162)),.u 164 (.ld none 5 true (.t 163)),.m 165 (.t 0),.m 166 (.t 23),.u 167 (.idx 5 (.t 165) (.t 166)),.u 168 (.ld none 5 true (.t 167)),.u 169 (.callv (.t 158) [(.t 164),(.t 168)]),.u 170 (.bin .lss (.t 169) (.i 0)),.u 171 (.un .not (.t 170))])
 (.fg [0,1,2,3,4,18,19,20,21,22,23,171] (.cond (.t 171) (.ops false [.m 172 (.t 23),.u 173 (.bin .add (.t 172) (.i 1)),.m 20 (.t 173)]) (.ops false [.m 174 (.t 23),.m 21 (.t 174)])))))))))))
 (.fg [0,1,2,3,4,18,19,20] (.seq (.ops false [.m 175 (.t 19),.m 176 (.t 20),.u 177 (.bin .sub (.t 175) (.t 176)),.m 24 (.t 177)])
 (.fg [0,1,2,3,4,18,20,24] (.seq (.seq (.ops false [.m 178 (.t 20),.m 179 (.t 2),.u 180 (.bin .lss (.t 178) (.t 179)),.m 181 (.t 180),.w 182 181 true (.mv (.t 2)),.w 183 181 true (.mv (.t 24)),.w 184 181 true (.bin .lss (.t 182) (.t 183)),.u 185 (.pick (.t 181) (.t 184) .fa)])
 (.fg [0,1,2,3,4,18,20,24,185] (.cond (.t 185) (.ops false [.m 186 (.t 0),.m 187 (.t 20),.m 188 (.t 2),.m 189 (.t 24),.m 190 (.t 4),.u 191 (.call f0 [(.t 186),(.t 187),(.t 188),(.t 189),(.t 190)])]) .skip)))
 (.fg [0,1,3,4,18,20,24] (.seq (.seq (.ops false [.m 192 (.t 1),.m 193 (.t 20),.u 194 (.bin .lss (.t 192) (.t 193)),.m 195 (.t 194),.w 196 195 true (.mv (.t 20)),.w 197 195 true (.mv (.t 18)),.w 198 195 true (.bin .lss (.t 196) (.t 197)),.u 199 (.pick (.t 195) (.t 198) .fa)])
 (.fg [0,1,3,4,18,20,24,199] (.cond (.t 199) (.ops false [.m 200 (.t 0),.m 201 (.t 1),.m 202 (.t 20),.m 203 (.t 18),.m 204 (.t 4),.u 205 (.call f1 [(.t 200),(.t 201),(.t 202),(.t 203),(.t 204)])]) .skip)))
 (.fg [0,3,4,18,24] (.seq (.ops false [.m 206 (.t 18),.m 207 (.t 24),.u 208 (.bin .lss (.t 206) (.t 207)),.m 209 (.t 208),.w 210 209 true (.mv (.t 24)),.w 211 209 true (.mv (.t 3)),.w 212 209 true (.bin .lss (.t 210) (.t 211)),.u 213 (.pick (.t 209) (.t 212) .fa)])
 (.fg [0,3,4,18,24,213] (.cond (.t 213) (.ops false [.m 214 (.t 0),.m 215 (.t 18),.m 216 (.t 24),.m 217 (.t 3),.m 218 (.t 4),.u 219 (.call f1 [(.t 214),(.t 215),(.t 216),(.t 217),(.t 218)])]) .skip)))))))))))))))))))))))))
theorem uaB(hΓ:Holds P Γ){f fc:Nat}(hc:check P f=some (38,kd.strip,[])):Sound P f (.own (YA fc)):=by
 refine Xf hc hΓ (λd args h K hG=>?_);unfold YA at hG;split at hG
 case h_2=>exact hG.elim
 rename_i r ver len x1 x2 x3 c;obtain⟨U,A,M,B,V,rfl,hx1,hx2,hx3,hAB,hlen,hlen2,hroom,hr,hK⟩:=hG;obtain⟨D,hD⟩:∃D,D=U++A++M++B++V:=⟨_,rfl⟩;rw [<-hD]at hr;have hDl:D.length=U.length+A.length+M.length+B.length+V.length:=by rw [hD];simp [Nat.add_assoc]
 refine⟨[r],[⟨D.map mC,5,true⟩],[.one (.own 1048576 ver 5 0 len),.one (.lit (.int .i64 x1)),.one (.lit (.int .i64 x2)),.one (.lit (.int .i64 x3)),fnV fc],by simp,rfl,?_,?_,?_,λhfi=>⟨by simp,?_⟩⟩
 .intro i r' b h1 h2;cases i with
  | zero=>simp only [List.getElem?_cons_zero,Option.some.injEq]at h1 h2;subst h1 h2;exact⟨by rw [hr],rfl,of_eq_true (Jf _)⟩
  | succ i=>simp at h1
 .simp [exA,exC,exB,nameOf,pinA,fnV]
 .intro a ha;simp only [List.mem_cons,List.not_mem_nil,or_false]at ha;rcases ha with rfl | rfl | rfl | rfl | rfl
  .simp [pasA,pasC,pasB,nameOf,pinA]
  .exact .lit _
  .exact .lit _
  .exact .lit _
  .exact .lit _
 simp only [go_sem,kd,hr,fnV];refine wa (λp:List Mo×List Mo×List Mo×List Mo=>⟨mkV [(0,.one (.own 1048576 ver 5 0 len)),(1,.one (.lit (.int .i64 x1))),(2,.one (.lit (.int .i64 x2))),(3,.one (.lit (.int .i64 x3))),(10,.one (.lit (.int .i64 p.1.length)))],mkH [(1048576,⟨ver,some ⟨(U++(p.2.2.1++p.2.1)++M++(p.1++p.2.2.2)++V).map mC,5,true⟩⟩)]⟩)
  (λp=>A=p.1++p.2.1/\B=p.2.2.1++p.2.2.2/\p.1.length=p.2.2.1.length) (λp=>p.2.1.length) ([],A,[],B) ?_ ?_ ?_
 .exact Qa (by simp [okS,okV,okC,okL,okH,okB,okE,Za,ja,za,Ja,wsA,ws]) (ui (by simp [hD]))
 .exact⟨rfl,rfl,rfl⟩
 .rintro⟨A1,A2,B1,B2⟩ ⟨hA,hB,h1⟩;simp only at hA hB h1;have lA:=congrArg List.length hA;have lB:=congrArg List.length hB;simp only [List.length_append]at lA lB;rcases A2 with _ | ⟨x,A2⟩
  .have hlt:¬((A1.length:Int)<x3):=by simp only [List.length_nil]at lA;omega
   simp only [go_sem,hr,hlt];rcases B2 with _ | ⟨y,B2⟩
   .simp only [List.append_nil]at hA hB ⊢;subst hA hB;exact hK
   .simp only [List.length_nil,List.length_cons]at *;omega
  .rcases B2 with _ | ⟨y,B2⟩
   .simp only [List.length_nil,List.length_cons]at *;omega
   .simp only [List.length_cons]at lA lB;have hlt:(A1.length:Int)<x3:=by omega
    obtain⟨E,hE⟩:∃E,E=U++(B1++x::A2)++M++(A1++y::B2)++V:=⟨_,rfl⟩;have hEl:E.length=D.length:=by rw [hE,hDl];simp only [List.length_append,List.length_cons];omega
    have e1:E=(U++B1)++x::(A2++M++(A1++y::B2)++V):=by rw [hE];simp
    have e2:E=(U++(B1++x::A2)++M++A1)++y::(B2++V):=by rw [hE];simp
    obtain⟨i1,hi1⟩:∃i1:Nat,i1=U.length+A1.length:=⟨_,rfl⟩;obtain⟨i2,hi2⟩:∃i2:Nat,i2=U.length+A.length+M.length+A1.length:=⟨_,rfl⟩;have n1:x1+(A1.length:Int)=(i1:Int):=by omega
    have n2:x2+(A1.length:Int)=(i2:Int):=by omega
    have g1:E.getD i1 mo0=x:=by rw [e1];exact getMM _ _ _ _ (by simp;omega)
    have g2:E.getD i2 mo0=y:=by rw [e2];exact getMM _ _ _ _ (by simp;omega)
    have b1:i1<len:=by omega
    have b2:i2<len:=by omega
    have c1:i1<E.length:=by omega
    have c2:i2<E.length:=by omega
    have s1:(E.set i1 y).set i2 x=U++((B1++[y])++A2)++M++((A1++[x])++B2)++V:=by
     have:E.set i1 y=(U++B1)++y::(A2++M++(A1++y::B2)++V):=by rw [e1];exact setMM _ _ _ _ (by simp;omega)
     rw [this];have:(U++B1)++y::(A2++M++(A1++y::B2)++V)=(U++(B1++y::A2)++M++A1)++y::(B2++V):=by simp
     rw [this,setMM _ _ _ _ (by simp;omega)]
     simp
    simp only [<-hE];simp only [go_sem,hr,hlt,n1,n2,g1,g2,b1,b2,c1,c2,s1,List.length_set];refine⟨by omega,by omega,by omega,by omega,by omega,(A1++[x],A2,B1++[y],B2),Qa (by simp [okS,okV,okC,okL,okH,okB,okE,Za,ja,za,Ja,wsA,ws]) (ui rfl),⟨by rw [hA];simp,by rw [hB];simp,by simp [h1]⟩,by simp⟩
theorem Uaz(hΓ:Holds P Γ){f fs fc:Nat}(hs:Γ fs=.own (YA fc))(hc:check P f=some (58,(ze fs).strip,[])):Sound P f (.own (jF fc)):=by
 refine Xf hc hΓ (λd args h K hG=>?_);unfold jF at hG;split at hG
 case h_2=>exact hG.elim
 rename_i r ver len x1 x2 x3 c;obtain⟨U,A,B,V,rfl,hx1,hx2,hx3,hA0,hB0,hlen,hlen2,hroom,hr,hK⟩:=hG;obtain⟨D,hD⟩:∃D,D=U++A++B++V:=⟨_,rfl⟩;rw [<-hD]at hr;have hDl:D.length=U.length+A.length+B.length+V.length:=by rw [hD];simp [Nat.add_assoc]
 have hAp:=List.length_pos_iff.2 hA0;have hBp:=List.length_pos_iff.2 hB0;refine⟨[r],[⟨D.map mC,5,true⟩],[.one (.own 1048576 ver 5 0 len),.one (.lit (.int .i64 x1)),.one (.lit (.int .i64 x2)),.one (.lit (.int .i64 x3)),fnV fc],by simp,rfl,?_,?_,?_,λhfi=>⟨by simp,?_⟩⟩
 .intro i r' b h1 h2;cases i with
  | zero=>simp only [List.getElem?_cons_zero,Option.some.injEq]at h1 h2;subst h1 h2;exact⟨by rw [hr],rfl,of_eq_true (Jf _)⟩
  | succ i=>simp at h1
 .simp [exA,exC,exB,nameOf,pinA,fnV]
 .intro a ha;simp only [List.mem_cons,List.not_mem_nil,or_false]at ha;rcases ha with rfl | rfl | rfl | rfl | rfl
  .simp [pasA,pasC,pasB,nameOf,pinA]
  .exact .lit _
  .exact .lit _
  .exact .lit _
  .exact .lit _
 have n1:x2-x1=(A.length:Int):=by omega
 have n2:x3-x2=(B.length:Int):=by omega
 simp only [go_sem,ze,hr,fnV,hs,n1,n2];refine⟨by omega,by omega,?_⟩
 refine wa (λp:List Mo×List Mo×List Mo×List Mo=>⟨mkV [(0,.one (.own 1048576 ver 5 0 len)),(2,.one (.lit (.int .i64 x2))),(4,.one (.lit (.func (.func fc) ⟨[]⟩ ⟨[]⟩))),(10,.one (.lit (.int .i64 p.2.1.length))),(11,.one (.lit (.int .i64 p.2.2.1.length)))],mkH [(1048576,⟨ver,some ⟨(p.1++p.2.1++p.2.2.1++p.2.2.2).map mC,5,true⟩⟩)]⟩)
  (λp=>p.1++p.2.2.1++p.2.1++p.2.2.2=U++B++A++V/\x2=(p.1.length+p.2.1.length:Nat)/\p.2.1≠[]/\p.2.2.1≠[]/\(p.2.1.length+p.2.2.1.length<=A.length+B.length)/\x2+p.2.2.1.length<=x3) (λp=>p.2.1.length+p.2.2.1.length) (U,A,B,V) ?_ ?_ ?_
 .exact Qa (by simp [okS,okV,okC,okL,okH,okB,okE,Za,ja,za,Ja,wsA,ws]) (ui (by simp [hD]))
 .exact⟨rfl,by simp only;omega,hA0,hB0,Nat.le_refl _,by simp only;omega⟩
 .rintro⟨U',A',B',V'⟩ ⟨hT,hx2',hA1,hB1,hsz,hx3'⟩;simp only at hT hx2' hA1 hB1 hsz hx3';have hTl:=congrArg List.length hT;simp only [List.length_append]at hTl;have hAp':=List.length_pos_iff.2 hA1;have hBp':=List.length_pos_iff.2 hB1;have n1:x2-(A'.length:Int)=(U'.length:Int):=by omega
  by_cases heq:A'.length=B'.length
  .have heq' : (A'.length:Int)=(B'.length:Int):=by omega
   simp only [go_sem,hr,hs,fnV,n1,<-heq',ne_eq,not_true_eq_false];refine⟨by omega,?_⟩
   simp only [YA];refine⟨U',A',[],B',V',rfl,rfl,by simp;omega,rfl,heq,by simp;omega,by simp;omega,by omega,by simp [za],?_⟩
   simp only [go_sem,hr];have:U'++B'++[]++A'++V' = U++B++A++V:=by rw [<-hT];simp
   rw [List.append_nil]at this;rw [this];exact hK
  .have heq' : ¬(A'.length:Int)=(B'.length:Int):=by omega
   by_cases hgt:B'.length<A'.length
   .have hgt' : (B'.length:Int)<(A'.length:Int):=by omega
    simp only [go_sem,hr,hs,fnV,n1,heq',hgt',ne_eq];obtain⟨A1,A2,rfl,hA1l⟩:∃A1 A2,A' = A1++A2/\A1.length=B'.length:=⟨A'.take B'.length,A'.drop B'.length,(List.take_append_drop _ _).symm,by rw [List.length_take];omega⟩
    have hA12:(A1++A2).length=A1.length+A2.length:=List.length_append;have n3:((A1++A2).length:Int)-(B'.length:Int)=(A2.length:Int):=by omega
    refine⟨by omega,?_⟩
    simp only [YA];refine⟨U',A1,A2,B',V',rfl,rfl,by omega,by omega,hA1l,by omega,by omega,by omega,by simp [za],?_⟩
    rw [n3];simp only [go_sem,hr];have z1:A2.length≠0:=by omega
    have z2:A1.length≠0:=by omega
    refine⟨by omega,(U'++B',A2,A1,V'),Qa (by simp [okS,okV,okC,okL,okH,okB,okE,Za,ja,za,Ja,wsA,ws];omega) (ui rfl),⟨by simp only;rw [<-hT];simp,by simp only [List.length_append];omega,?_,?_,by simp only;omega,by simp only;omega⟩,by simp only;omega⟩
    .exact λh=>z1 (List.length_eq_zero_iff.2 h)
    .exact λh=>z2 (List.length_eq_zero_iff.2 h)
   .have hgt' : ¬(B'.length:Int)<(A'.length:Int):=by omega
    simp only [go_sem,hr,hs,fnV,n1,heq',hgt',ne_eq];obtain⟨B1,B2,rfl,hB2l⟩:∃B1 B2,B' = B1++B2/\B2.length=A'.length:=⟨B'.take (B'.length-A'.length),B'.drop (B'.length-A'.length),(List.take_append_drop _ _).symm,by rw [List.length_drop];omega⟩
    have hB12:(B1++B2).length=B1.length+B2.length:=List.length_append;have n3:((B1++B2).length:Int)-(A'.length:Int)=(B1.length:Int):=by omega
    refine⟨by omega,by omega,by omega,?_⟩
    simp only [YA];refine⟨U',A',B1,B2,V',rfl,rfl,by omega,by omega,by omega,by omega,by omega,by omega,by simp [za],?_⟩
    rw [n3];simp only [go_sem,hr];have z1:B1.length≠0:=by omega
    have z2:B2.length≠0:=by omega
    refine⟨by omega,(U',B2,B1,A'++V'),Qa (by simp [okS,okV,okC,okL,okH,okB,okE,Za,ja,za,Ja,wsA,ws];omega) (ui (by simp)),⟨by simp only;rw [<-hT];simp,by simp only;omega,?_,?_,by simp only;omega,by simp only;omega⟩,by simp only;omega⟩
    .exact λh=>z2 (List.length_eq_zero_iff.2 h)
    .exact λh=>z1 (List.length_eq_zero_iff.2 h)
theorem Ux{A B:List Mo}(hA:SortM A)(hB:SortM B)(h:∀x∈A,∀y∈B,kM x<=kM y):SortM (A++B):=
 List.pairwise_append.2 ⟨hA,hB,h⟩
theorem xx{A B:List Mo}(h:SortM (A++B)):SortM A:=(List.pairwise_append.1 h).1
theorem Jt{A B:List Mo}(h:SortM (A++B)):SortM B:=(List.pairwise_append.1 h).2.1
theorem Vt{A B:List Mo}(h:SortM (A++B)):∀x∈A,∀y∈B,kM x<=kM y:=(List.pairwise_append.1 h).2.2
theorem vO{A:List Mo}(h:SortM A){i j:Nat}(hi:i<A.length)(hj:j<A.length)(hij:i<=j):kM (A[i])<=kM (A[j]):=by
 by_cases e:i=j
 .subst e;exact Nat.le_refl _
 .exact List.pairwise_iff_getElem.1 h i j hi hj (by omega)
theorem JH{A:List Mo}(hA:SortM A){s:Nat}(hs:0<s)(hsl:s<=A.length){q:Nat}(h:kM (A.getD (s-1) mo0)<=q):∀x∈A.take s,kM x<=q:=by
 intro x hx;obtain⟨i,hi,rfl⟩:=List.mem_iff_getElem.1 hx;rw [List.length_take]at hi;rw [List.getElem_take];refine Nat.le_trans (vO hA (by omega) (show s-1<A.length by omega) (by omega)) ?_
 rw [List.getD_eq_getElem?_getD,List.getElem?_eq_getElem (by omega)]at h
 exact h
theorem YH{A:List Mo}(hA:SortM A){s:Nat}(hsl:s<A.length){q:Nat}(h:q<=kM (A.getD s mo0)):∀x∈A.drop s,q<=kM x:=by
 intro x hx;obtain⟨i,hi,rfl⟩:=List.mem_iff_getElem.1 hx;rw [List.length_drop]at hi;rw [List.getElem_drop];refine Nat.le_trans ?_ (vO hA hsl (show s+i<A.length by omega) (by omega))
 rw [List.getD_eq_getElem?_getD,List.getElem?_eq_getElem (by omega)]at h
 exact h
theorem getLM(U A V:List Mo){k i:Nat}(h1:k=U.length+i)(h2:i<A.length):(U++A++V).getD k mo0=A.getD i mo0:=by
 subst h1;simp only [List.getD_eq_getElem?_getD];rw [List.getElem?_append_left (by simp;omega),List.getElem?_append_right (by omega)]
 congr 2;omega
end Go.Abs
end
section
namespace Go.Num
def PcsM(k:Nat)(Ls:List (List Mo)):Prop:=∀c∈Ls,c.length=k/\SortM c
theorem uC{k:Nat}:∀{Ls:List (List Mo)},PcsM k Ls->Ls.flatten.length=k*Ls.length
 | [],_=>by simp
 | c::Ls,h=>by
  have:=uC (Ls:=Ls) λd hd=>h d (by simp [hd])
  have hc:=(h c (by simp)).1
  rw [List.flatten_cons,List.length_append,this,hc,List.length_cons,Nat.mul_succ,Nat.add_comm]
theorem Q6{k:Nat}{Ls:List (List Mo)}{c:List Mo}(h:PcsM k Ls)(h1:c.length=k)(h2:SortM c):PcsM k (Ls++[c]):=by
 intro d hd;rcases List.mem_append.1 hd with hd | hd
 .exact h d hd
 .rw [List.mem_singleton]at hd;subst hd;exact⟨h1,h2⟩
end Go.Num
namespace Go.Abs
open Go.Num
variable {P:Program} {Γ:Nat->Spec}
set_option maxHeartbeats 4000000 in
theorem Wac(hΓ:Holds P Γ){f fi fm fc m N:Nat}(hmN:m<=N)(hm30:m<=1073741824)(hi:Γ fi=.own (kC fc))(hg:Γ fm=.own (wh fc N))(hc:check P f=some (63,(qe fi fm).strip,[])):Sound P f (.own (Vz fc m)):=by
 refine Xf hc hΓ (λd args h K hG=>?_);unfold Vz at hG;split at hG
 case h_2=>exact hG.elim
 rename_i r ver len n c;obtain⟨rfl,l,post,rfl,rfl,hlen,hr,hok,hK⟩:=hG;refine⟨[r],[⟨(l++post).map mC,5,true⟩],[.one (.own 1048576 ver 5 0 l.length),.one (.lit (.int .i64 l.length)),fnV fc],by simp,rfl,?_,?_,?_,λhfi=>⟨by simp,?_⟩⟩
 .intro i r' b h1 h2;cases i with
  | zero=>simp only [List.getElem?_cons_zero,Option.some.injEq]at h1 h2;subst h1 h2;exact⟨by rw [hr],rfl,of_eq_true (Jf _)⟩
  | succ i=>simp at h1
 .simp [exA,exC,exB,nameOf,pinA,fnV]
 .intro a ha;simp only [List.mem_cons,List.not_mem_nil,or_false]at ha;rcases ha with rfl | rfl | rfl
  .simp [pasA,pasC,pasB,nameOf,pinA]
  .exact .lit _
  .exact .lit _
 simp only [go_sem,qe,hr,fnV,hi,hg];refine wa (λp:List (List Mo)×List Mo=>⟨mkV [(0,.one (.own 1048576 ver 5 0 l.length)),(1,.one (.lit (.int .i64 l.length))),(2,.one (.lit (.func (.func fc) ⟨[]⟩ ⟨[]⟩))),(6,.one (.lit (.int .i64 20))),(7,.one (.lit (.int .i64 (20*p.1.length:Nat)))),(8,.one (.lit (.int .i64 (20*p.1.length+20:Nat))))],mkH [(1048576,⟨ver,some ⟨(p.1.flatten++p.2++post).map mC,5,true⟩⟩)]⟩)
  (λp=>PcsM 20 p.1/\l.Perm (p.1.flatten++p.2)) (λp=>p.2.length) ([],l) ?_ ?_ ?_
 .exact Qa (by simp [okS,okV,okC,okL,okH,okB,okE,Za,ja,za,Ja,wsA,ws]) (ui (by simp))
 .exact⟨λc hc=>by simp at hc,by simp⟩
 .rintro⟨Ls,R⟩ ⟨hL,hp⟩;simp only at hL hp;have lL:=uC hL;have hpl:=hp.length_eq;rw [List.length_append,lL]at hpl;have hokp:=uJ hp hok;obtain⟨hokL,hokR⟩:=Qh.1 hokp;by_cases hR:20<=R.length
  .have hle:((20*Ls.length+20:Nat):Int)<=(l.length:Int):=by omega
   obtain⟨S,R',rfl,hS⟩:∃S R',R=S++R'/\S.length=20:=⟨R.take 20,R.drop 20,(List.take_append_drop _ _).symm,by rw [List.length_take];omega⟩
   rw [List.length_append]at hpl;simp only [go_sem,hr,hi,hg,hle];simp only [kC];refine⟨Ls.flatten,S,R'++post,rfl,by rw [lL],by rw [lL,hS],by rw [lL,hS,List.length_append];omega,by omega,by omega,by simp [za],(Qh.1 hokR).1,λS' hpS hS'=>?_⟩
   have lS':=hpS.length_eq;simp only [go_sem,hr,hi,hg];refine⟨by omega,(Ls++[S'],R'),Qa (by simp [okS,okV,okC,okL,okH,okB,okE,Za,ja,za,Ja,wsA,ws];omega) (ui (by simp)),⟨Q6 hL (by omega) hS',?_⟩,by simp only;rw [List.length_append];omega⟩
   simp only;refine hp.trans ?_;simp only [List.flatten_append,List.flatten_cons,List.flatten_nil,List.append_nil,List.append_assoc];exact List.Perm.append_left _ (List.Perm.append_right _ hpS)
  .have hle:¬((20*Ls.length+20:Nat):Int)<=(l.length:Int):=by omega
   simp only [go_sem,hr,hi,hg,hle];simp only [kC];refine⟨Ls.flatten,R,post,rfl,by rw [lL],by rw [lL];omega,by rw [lL];omega,by omega,by omega,by simp [za],hokR,λR' hpR hR'=>?_⟩
   have lR':=hpR.length_eq;simp only [go_sem,hr,hi,hg];refine wa (λp:Nat×List (List Mo)×List Mo=>⟨mkV [(0,.one (.own 1048576 ver 5 0 l.length)),(1,.one (.lit (.int .i64 l.length))),(2,.one (.lit (.func (.func fc) ⟨[]⟩ ⟨[]⟩))),(6,.one (.lit (.int .i64 p.1)))],mkH [(1048576,⟨ver,some ⟨(p.2.1.flatten++p.2.2++post).map mC,5,true⟩⟩)]⟩)
    (λp=>PcsM p.1 p.2.1/\SortM p.2.2/\p.2.2.length<p.1/\p.1<=2147483648/\l.Perm (p.2.1.flatten++p.2.2)) (λp=>4294967296-p.1) (20,Ls,R') ?_ ?_ ?_
   .exact Qa (by simp [okS,okV,okC,okL,okH,okB,okE,Za,ja,za,Ja,wsA,ws]) (ui (by simp))
   .exact⟨hL,hR',by simp only;omega,by simp only;omega,hp.trans (List.Perm.append_left _ hpR)⟩
   .rintro⟨bs,Ks,Q⟩ ⟨hKs,hQ,hQl,hbs,hpK⟩;simp only at hKs hQ hQl hbs hpK;have lK:=uC hKs;have hpl2:=hpK.length_eq;rw [List.length_append,lK]at hpl2;by_cases hdone:bs<l.length
    .have hd' : (bs:Int)<(l.length:Int):=by omega
     have n2:(2:Int)*(bs:Int)=((2*bs:Nat):Int):=by omega
     simp only [go_sem,hr,hi,hg,hd',n2];refine⟨by omega,?_⟩
     refine wa (λp:Nat×List (List Mo)×List (List Mo)=>⟨mkV [(0,.one (.own 1048576 ver 5 0 l.length)),(1,.one (.lit (.int .i64 l.length))),(2,.one (.lit (.func (.func fc) ⟨[]⟩ ⟨[]⟩))),(6,.one (.lit (.int .i64 bs))),(7,.one (.lit (.int .i64 p.1))),(8,.one (.lit (.int .i64 (p.1+2*bs:Nat))))],mkH [(1048576,⟨ver,some ⟨(p.2.1.flatten++p.2.2.flatten++Q++post).map mC,5,true⟩⟩)]⟩)
      (λp=>(p.1=p.2.1.flatten.length/\PcsM (2*bs) p.2.1)/\PcsM bs p.2.2/\l.Perm (p.2.1.flatten++p.2.2.flatten++Q)) (λp=>p.2.2.length) (0,[],Ks) ?_ ?_ ?_
     .exact Qa (by simp [okS,okV,okC,okL,okH,okB,okE,Za,ja,za,Ja,wsA,ws]) (ui (by simp))
     .exact⟨⟨rfl,λc hc=>by simp at hc⟩,hKs,by simpa using hpK⟩
     .rintro⟨g,Ms,Js⟩ ⟨⟨hg0,hMs⟩,hJs,hpJ⟩;simp only at hg0 hMs hJs hpJ;have lM:=uC hMs;have lJ:=uC hJs;have hpl3:=hpJ.length_eq;rw [List.length_append,List.length_append,<-hg0]at hpl3;have hokJ:=uJ hpJ hok;have n3:(g:Int)+(bs:Int)=((g+bs:Nat):Int):=by omega
      match Js,hJs,lJ,hpl3,hpJ,hokJ with
      | X::Y::Js,hJs,lJ,hpl3,hpJ,hokJ=>
       have hX:=hJs X (by simp)
       have hY:=hJs Y (by simp)
       have hJ' : PcsM bs Js:=λc hc=>hJs c (by simp [hc])
       simp only [List.flatten_cons,List.length_append,hX.1,hY.1]at hpl3;have hle:((g+2*bs:Nat):Int)<=(l.length:Int):=by omega
       simp only [List.flatten_cons,List.append_assoc,Qh]at hokJ;simp only [go_sem,hr,hi,hg,hle,n2,n3];refine⟨by omega,?_⟩
       simp only [wh];refine⟨Ms.flatten,X,Y,Js.flatten++Q++post,rfl,by rw [<-hg0],by rw [<-hg0,hX.1],by rw [<-hg0,hX.1,hY.1];omega,λh=>?_,λh=>?_,by omega,by omega,by simp only [List.length_append];omega,by omega,hokJ.2.1,hokJ.2.2.1,hX.2,hY.2,by simp [za],λC hpC hsC=>?_⟩
       .rw [h]at hX;simp only [List.length_nil]at hX;omega
       .rw [h]at hY;simp only [List.length_nil]at hY;omega
       have lC:=hpC.length_eq;rw [List.length_append,hX.1,hY.1]at lC;simp only [go_sem,hr,hi,hg,n2,n3];have lMC:(Ms++[C]).flatten.length=g+2*bs:=by simp only [List.flatten_append,List.flatten_cons,List.flatten_nil,List.append_nil,List.length_append];omega
       refine⟨by omega,by omega,(g+2*bs,Ms++[C],Js),Qa (by simp [okS,okV,okC,okL,okH,okB,okE,Za,ja,za,Ja,wsA,ws]) (ui (by simp)),⟨⟨lMC.symm,Q6 hMs (by omega) hsC⟩,hJ',?_⟩,by simp only;omega⟩
       refine hpJ.trans ?_;simp only [List.flatten_append,List.flatten_cons,List.flatten_nil,List.append_nil,List.append_assoc];refine List.Perm.append_left _ ?_;rw [<-List.append_assoc];exact List.Perm.append_right _ hpC
      | [X],hJs,lJ,hpl3,hpJ,hokJ=>
       have hX:=hJs X (by simp)
       simp only [List.flatten_cons,List.flatten_nil,List.append_nil,hX.1]at hpl3;have hle:¬((g+2*bs:Nat):Int)<=(l.length:Int):=by omega
       simp only [List.flatten_cons,List.flatten_nil,List.append_nil,List.append_assoc,Qh]at hokJ hpJ;by_cases hQ0:Q=[]
       .have hlt:¬((g+bs:Nat):Int)<(l.length:Int):=by rw [hQ0,List.length_nil]at hpl3;omega
        simp only [go_sem,hr,hi,hg,hle,n2,n3,hlt];have n4:(bs:Int)*2=((2*bs:Nat):Int):=by omega
        simp only [n4];refine⟨by omega,by omega,(2*bs,Ms,X),Qa (by simp [okS,okV,okC,okL,okH,okB,okE,Za,ja,za,Ja,wsA,ws]) (ui (by simp [hQ0])),⟨hMs,hX.2,by simp only [hX.1];omega,by simp only;omega,by simp only;rw [hQ0,List.append_nil]at hpJ;exact hpJ⟩,by simp only;omega⟩
       .have hQp:=List.length_pos_iff.2 hQ0;have hlt:((g+bs:Nat):Int)<(l.length:Int):=by omega
        simp only [go_sem,hr,hi,hg,hle,n2,n3,hlt];refine⟨by omega,?_⟩
        simp only [wh];refine⟨Ms.flatten,X,Q,post,rfl,by rw [<-hg0],by rw [<-hg0,hX.1],by rw [<-hg0,hX.1];omega,λh=>?_,hQ0,by omega,by omega,by omega,by omega,hokJ.2.1,hokJ.2.2,hX.2,hQ,by simp [za],λC hpC hsC=>?_⟩
        .rw [h]at hX;simp only [List.length_nil]at hX;omega
        have lC:=hpC.length_eq;rw [List.length_append,hX.1]at lC;simp only [go_sem,hr,hi,hg,n2,n3];have n4:(bs:Int)*2=((2*bs:Nat):Int):=by omega
        simp only [n4];refine⟨by omega,(2*bs,Ms,C),Qa (by simp [okS,okV,okC,okL,okH,okB,okE,Za,ja,za,Ja,wsA,ws]) (ui (by simp)),⟨hMs,hsC,by simp only;omega,by simp only;omega,hpJ.trans (List.Perm.append_left _ hpC)⟩,by simp only;omega⟩
      | [],hJs,lJ,hpl3,hpJ,hokJ=>
       simp only [List.flatten_nil,List.length_nil]at hpl3;have hle:¬((g+2*bs:Nat):Int)<=(l.length:Int):=by omega
       have hlt:¬((g+bs:Nat):Int)<(l.length:Int):=by omega
       simp only [go_sem,hr,hi,hg,hle,n2,n3,hlt];have n4:(bs:Int)*2=((2*bs:Nat):Int):=by omega
       simp only [n4];refine⟨by omega,by omega,(2*bs,Ms,Q),Qa (by simp [okS,okV,okC,okL,okH,okB,okE,Za,ja,za,Ja,wsA,ws]) (ui (by simp)),⟨hMs,hQ,by simp only;omega,by simp only;omega,by simpa using hpJ⟩,by simp only;omega⟩
    .have hd' : ¬(bs:Int)<(l.length:Int):=by omega
     simp only [go_sem,hr,hi,hg,hd'];refine hK _ hpK ?_;match Ks,hKs,lK,hpl2 with
     | [],_,_,_=>exact hQ
     | [X],hKs,lK,hpl2=>
      have:Q=[]:=List.length_eq_zero_iff.1 (by simp only [List.length_singleton,Nat.mul_one]at hpl2;omega)
      rw [this];simp only [List.flatten_cons,List.flatten_nil,List.append_nil];exact(hKs X (by simp)).2
     | X::Y::Ks,hKs,lK,hpl2=>
      exfalso;simp only [List.length_cons]at hpl2;have h2:bs*2<=bs*(Ks.length+1+1):=Nat.mul_le_mul_left _ (by omega)
      omega
end Go.Abs
end
section
namespace Go.Abs
open Go.Num
variable {P:Program} {Γ:Nat->Spec}
set_option maxHeartbeats 4000000 in
theorem zaz(hΓ:Holds P Γ){f fr fs fc N:Nat}(hro:Γ fr=.own (jF fc))(hs:Γ fs=.own (wh fc N))(hcm:Γ fc=.dat true zw)(hc:check P f=some (220,(Qb fr fs).strip,[])):Sound P f (.own (wh fc (N+1))):=by
 refine Xf hc hΓ (λd args h K hG=>?_);unfold wh at hG;split at hG
 case h_2=>exact hG.elim
 rename_i r ver len x1 x2 x3 c;obtain⟨U,A,B,V,rfl,hx1,hx2,hx3,hA0,hB0,hN,hlen,hlen2,hroom,hoA,hoB,hsA,hsB,hr,hK⟩:=hG;obtain⟨D,hD⟩:∃D,D=U++A++B++V:=⟨_,rfl⟩;rw [<-hD]at hr;have hDl:D.length=U.length+A.length+B.length+V.length:=by rw [hD];simp [Nat.add_assoc]
 have hAp:=List.length_pos_iff.2 hA0;have hBp:=List.length_pos_iff.2 hB0;have gA:∀k i,k=U.length+i->i<A.length->D.getD k mo0=A.getD i mo0:=by
  intro k i h1 h2;rw [hD,List.append_assoc (U++A)];exact getLM U A (B++V) h1 h2
 have gB:∀k i,k=U.length+A.length+i->i<B.length->D.getD k mo0=B.getD i mo0:=by
  intro k i h1 h2;rw [hD];exact getLM (U++A) B V (by rw [List.length_append];exact h1) h2
 have okD:∀k,U.length<=k->k<U.length+A.length+B.length->okM (D.getD k mo0):=by
  intro k h1 h2;by_cases h3:k<U.length+A.length
  .rw [gA k (k-U.length) (by omega) (by omega)]
   exact qau hoA (by omega)
  .rw [gB k (k-U.length-A.length) (by omega) (by omega)]
   exact qau hoB (by omega)
 refine⟨[r],[⟨D.map mC,5,true⟩],[.one (.own 1048576 ver 5 0 len),.one (.lit (.int .i64 x1)),.one (.lit (.int .i64 x2)),.one (.lit (.int .i64 x3)),fnV fc],by simp,rfl,?_,?_,?_,λhfi=>⟨by simp,?_⟩⟩
 .intro i r' b h1 h2;cases i with
  | zero=>simp only [List.getElem?_cons_zero,Option.some.injEq]at h1 h2;subst h1 h2;exact⟨by rw [hr],rfl,of_eq_true (Jf _)⟩
  | succ i=>simp at h1
 .simp [exA,exC,exB,nameOf,pinA,fnV]
 .intro a ha;simp only [List.mem_cons,List.not_mem_nil,or_false]at ha;rcases ha with rfl | rfl | rfl | rfl | rfl
  .simp [pasA,pasC,pasB,nameOf,pinA]
  .exact .lit _
  .exact .lit _
  .exact .lit _
  .exact .lit _
 by_cases c1:A.length=1
 .have n1:x2-x1=1:=by omega
  simp only [go_sem,Qb,hr,fnV,hro,hs,hcm,n1];obtain⟨x,hx⟩:∃x,D.getD U.length mo0=x:=⟨_,rfl⟩;refine⟨by omega,?_⟩
  refine wa (λp:Nat×Nat=>⟨mkV [(0,.one (.own 1048576 ver 5 0 len)),(1,.one (.lit (.int .i64 x1))),(4,.one (.lit (.func (.func fc) ⟨[]⟩ ⟨[]⟩))),(10,.one (.lit (.int .i64 p.1))),(11,.one (.lit (.int .i64 p.2)))],mkH [(1048576,⟨ver,some ⟨D.map mC,5,true⟩⟩)]⟩)
   (λp=>x2<=p.1/\p.1<=p.2/\p.2<=x3/\(x2<p.1->kM (D.getD (p.1-1) mo0)<=kM x)/\(p.2<x3->kM x<=kM (D.getD p.2 mo0))) (λp=>p.2-p.1) (x2.toNat,x3.toNat) ?_ ?_ ?_
  .exact Qa (by simp [okS,okV,okC,okL,okH,okB,okE,Za,ja,za,Ja,wsA,ws];omega) (ui rfl)
  .exact⟨by simp only;omega,by simp only;omega,by simp only;omega,λh=>by simp only at h;omega,λh=>by simp only at h;omega⟩
  .rintro⟨i,j⟩ ⟨h1,h2,h3,h4,h5⟩;simp only at h1 h2 h3 h4 h5;by_cases hij:i<j
   .have hij' : (i:Int)<(j:Int):=by omega
    obtain⟨k,hk⟩:∃k,k=(i+j) / 2:=⟨_,rfl⟩;have hk' : (i:Int)+(j:Int)=((i+j:Nat):Int):=by omega
    have ok1:=okD k (by omega) (by omega)
    have ok2:=okD U.length (by omega) (by omega)
    rw [hx]at ok2;obtain⟨y,hy⟩:∃y,D.getD k mo0=y:=⟨_,rfl⟩;rw [hy]at ok1;have hkk:(i+j) % 18446744073709551616 / 2=k:=by omega
    simp only [go_sem,hr,hro,hs,hcm,hij',hk',hkk,hx1,hx,hy,ok1.1,ok1.2,ok2.1,ok2.2,UI];refine⟨by omega,by omega,by omega,by omega,by omega,by omega,by omega,λhlt=>⟨by omega,(k+1,j),Qa (by simp [okS,okV,okC,okL,okH,okB,okE,Za,ja,za,Ja,wsA,ws]) (ui rfl),⟨by simp only;omega,by simp only;omega,by simp only;omega,λ_=>?_,h5⟩,by simp only;omega⟩,λhge=>⟨(i,k),Qa (by simp [okS,okV,okC,okL,okH,okB,okE,Za,ja,za,Ja,wsA,ws]) (ui rfl),⟨by simp only;omega,by simp only;omega,by simp only;omega,h4,λ_=>?_⟩,by simp only;omega⟩⟩
    .simp only [Nat.add_sub_cancel];rw [hy];exact Nat.le_of_lt hlt
    .simp only;rw [hy];exact Nat.not_lt.1 hge
   .obtain rfl:i=j:=by omega
    have hij' : ¬(i:Int)<(i:Int):=by omega
    simp only [go_sem,hr,hro,hs,hcm,hij'];obtain⟨t,ht⟩:∃t,t=i-(U.length+1):=⟨_,rfl⟩;obtain⟨B1,hB1⟩:∃B1,B1=B.take t:=⟨_,rfl⟩;obtain⟨B2,hB2⟩:∃B2,B2=B.drop t:=⟨_,rfl⟩;have hB12:B=B1++B2:=by rw [hB1,hB2,List.take_append_drop]
    have lB1:B1.length=t:=by rw [hB1,List.length_take];omega
    have hAx:A=[x]:=by
     match A,c1 with
     | [z],_=>
      have:=gA U.length 0 (by omega) (by simp)
      rw [hx]at this;simpa using this.symm
    refine wa (λp:List Mo×List Mo=>⟨mkV [(0,.one (.own 1048576 ver 5 0 len)),(10,.one (.lit (.int .i64 i))),(13,.one (.lit (.int .i64 (U.length+p.1.length:Nat))))],mkH [(1048576,⟨ver,some ⟨(U++(p.1++x::p.2)++B2++V).map mC,5,true⟩⟩)]⟩)
     (λp=>B1=p.1++p.2) (λp=>p.2.length) ([],B1) ?_ ?_ ?_
    .exact Qa (by simp [okS,okV,okC,okL,okH,okB,okE,Za,ja,za,Ja,wsA,ws];omega) (ui (by rw [hD,hAx,hB12];simp))
    .rfl
    .rintro⟨V1,V2⟩ hV;simp only at hV;have lV:=congrArg List.length hV;rw [List.length_append]at lV;have n2:(i:Int)-1=((U.length+t:Nat):Int):=by omega
     rcases V2 with _ | ⟨y,V2⟩
     .have hlt:¬((U.length+V1.length:Nat):Int)<((U.length+t:Nat):Int):=by simp only [List.length_nil]at lV;omega
      simp only [go_sem,hr,n2,hlt];rw [List.append_nil]at hV;subst hV;have hKK:=hK (B1++x::B2) ?_ ?_
      .have e:U++(B1++[x])++B2++V=U++(B1++x::B2)++V:=by simp
       rw [e];exact⟨by omega,hKK⟩
      .rw [hAx,hB12];show(x::(B1++B2)).Perm _;exact List.perm_middle.symm
      .refine Ux (by rw [hB1];exact xx (B:=B.drop t) (by rw [List.take_append_drop];exact hsB)) (List.pairwise_cons.2 ⟨?_,by rw [hB2];exact Jt (A:=B.take t) (by rw [List.take_append_drop];exact hsB)⟩) ?_
       .intro z hz;rw [hB2]at hz;by_cases htl:t<B.length
        .refine YH hsB htl ?_ z hz;rw [<-gB i t (by omega) htl]
         exact h5 (by omega)
        .rw [List.drop_of_length_le (by omega)]at hz;simp at hz
       .have hle:∀z∈B1,kM z<=kM x:=by
         intro z hz;by_cases ht0:0<t
         .rw [hB1]at hz;refine JH hsB ht0 (by omega) ?_ z hz
          rw [<-gB (i-1) (t-1) (by omega) (by omega)]
          exact h4 (by omega)
         .have:B1=[]:=List.length_eq_zero_iff.1 (by omega)
          rw [this]at hz;simp at hz
        intro z hz w hw;rcases List.mem_cons.1 hw with rfl | hw
        .exact hle z hz
        .rw [hB12]at hsB;exact Vt hsB z hz w hw
     .rw [List.length_cons]at lV;have hlt:((U.length+V1.length:Nat):Int)<((U.length+t:Nat):Int):=by omega
      obtain⟨E,hE⟩:∃E,E=U++(V1++x::y::V2)++B2++V:=⟨_,rfl⟩;have lE:E.length=D.length:=by
       rw [hE,hDl,c1];have:=congrArg List.length hB12;simp only [List.length_append,List.length_cons]at this ⊢;omega
      obtain⟨k,hk⟩:∃k,k=U.length+V1.length:=⟨_,rfl⟩;have e1:E=(U++V1)++x::(y::V2++B2++V):=by rw [hE];simp
      have e2:E=(U++V1++[x])++y::(V2++B2++V):=by rw [hE];simp
      have g1:E.getD k mo0=x:=by rw [e1];exact getMM _ _ _ _ (by simp;omega)
      have g2:E.getD (k+1) mo0=y:=by rw [e2];exact getMM _ _ _ _ (by simp;omega)
      have b1:k<len:=by omega
      have b2:k+1<len:=by omega
      have q1:k<E.length:=by omega
      have q2:k+1<E.length:=by omega
      have s1:(E.set k y).set (k+1) x=U++((V1++[y])++x::V2)++B2++V:=by
       have:E.set k y=(U++V1)++y::(y::V2++B2++V):=by rw [e1];exact setMM _ _ _ _ (by simp;omega)
       rw [this];have:(U++V1)++y::(y::V2++B2++V)=(U++V1++[y])++y::(V2++B2++V):=by simp
       rw [this,setMM _ _ _ _ (by simp;omega)]
       simp
      simp only [<-hE,<-hk]at hlt ⊢;simp only [go_sem,hr,n2,hlt,g1,g2,b1,b2,q1,q2,s1,List.length_set];refine⟨by omega,by omega,by omega,by omega,(V1++[y],V2),Qa (by simp [okS,okV,okC,okL,okH,okB,okE,Za,ja,za,Ja,wsA,ws];omega) (ui rfl),by simp only;rw [hV];simp,by simp only;omega⟩
 by_cases c2:B.length=1
 .have n1:¬x2-x1=1:=by omega
  have n2:x3-x2=1:=by omega
  obtain⟨m0,hm0⟩:∃m0,m0=U.length+A.length:=⟨_,rfl⟩;have hx2' : x2=(m0:Int):=by omega
  simp only [go_sem,Qb,hr,fnV,hro,hs,hcm,n1,n2];obtain⟨x,hx⟩:∃x,D.getD m0 mo0=x:=⟨_,rfl⟩;refine⟨by omega,by omega,?_⟩
  refine wa (λp:Nat×Nat=>⟨mkV [(0,.one (.own 1048576 ver 5 0 len)),(2,.one (.lit (.int .i64 x2))),(4,.one (.lit (.func (.func fc) ⟨[]⟩ ⟨[]⟩))),(14,.one (.lit (.int .i64 p.1))),(15,.one (.lit (.int .i64 p.2)))],mkH [(1048576,⟨ver,some ⟨D.map mC,5,true⟩⟩)]⟩)
   (λp=>x1<=p.1/\p.1<=p.2/\p.2<=x2/\(x1<p.1->kM (D.getD (p.1-1) mo0)<=kM x)/\(p.2<x2->kM x<=kM (D.getD p.2 mo0))) (λp=>p.2-p.1) (x1.toNat,x2.toNat) ?_ ?_ ?_
  .exact Qa (by simp [okS,okV,okC,okL,okH,okB,okE,Za,ja,za,Ja,wsA,ws];omega) (ui rfl)
  .exact⟨by simp only;omega,by simp only;omega,by simp only;omega,λh=>by simp only at h;omega,λh=>by simp only at h;omega⟩
  .rintro⟨i,j⟩ ⟨h1,h2,h3,h4,h5⟩;simp only at h1 h2 h3 h4 h5;by_cases hij:i<j
   .have hij' : (i:Int)<(j:Int):=by omega
    obtain⟨k,hk⟩:∃k,k=(i+j) / 2:=⟨_,rfl⟩;have hk' : (i:Int)+(j:Int)=((i+j:Nat):Int):=by omega
    have ok1:=okD k (by omega) (by omega)
    have ok2:=okD m0 (by omega) (by omega)
    rw [hx]at ok2;obtain⟨y,hy⟩:∃y,D.getD k mo0=y:=⟨_,rfl⟩;rw [hy]at ok1;have hkk:(i+j) % 18446744073709551616 / 2=k:=by omega
    simp only [go_sem,hr,hro,hs,hcm,hij',hk',hkk,hx2',hx,hy,ok1.1,ok1.2,ok2.1,ok2.2,UI];refine⟨by omega,by omega,by omega,by omega,by omega,by omega,by omega,λhlt=>⟨(i,k),Qa (by simp [okS,okV,okC,okL,okH,okB,okE,Za,ja,za,Ja,wsA,ws]) (ui rfl),⟨by simp only;omega,by simp only;omega,by simp only;omega,h4,λ_=>?_⟩,by simp only;omega⟩,λhge=>⟨by omega,(k+1,j),Qa (by simp [okS,okV,okC,okL,okH,okB,okE,Za,ja,za,Ja,wsA,ws]) (ui rfl),⟨by simp only;omega,by simp only;omega,by simp only;omega,λ_=>?_,λh=>h5 (by simp only at h;omega)⟩,by simp only;omega⟩⟩
    .simp only;rw [hy];exact Nat.le_of_lt hlt
    .simp only [Nat.add_sub_cancel];rw [hy];exact Nat.not_lt.1 hge
   .obtain rfl:i=j:=by omega
    have hij' : ¬(i:Int)<(i:Int):=by omega
    simp only [go_sem,hr,hro,hs,hcm,hij'];obtain⟨t,ht⟩:∃t,t=i-U.length:=⟨_,rfl⟩;obtain⟨A1,hA1⟩:∃A1,A1=A.take t:=⟨_,rfl⟩;obtain⟨A2,hA2⟩:∃A2,A2=A.drop t:=⟨_,rfl⟩;have hA12:A=A1++A2:=by rw [hA1,hA2,List.take_append_drop]
    have lA1:A1.length=t:=by rw [hA1,List.length_take];omega
    have lA12:=congrArg List.length hA12;rw [List.length_append]at lA12;have hBx:B=[x]:=by
     match B,c2 with
     | [z],_=>
      have:=gB m0 0 (by omega) (by simp)
      rw [hx]at this;simpa using this.symm
    refine wa (λp:List Mo×List Mo=>⟨mkV [(0,.one (.own 1048576 ver 5 0 len)),(14,.one (.lit (.int .i64 i))),(17,.one (.lit (.int .i64 (i+p.1.length:Nat))))],mkH [(1048576,⟨ver,some ⟨(U++A1++(p.1++x::p.2)++V).map mC,5,true⟩⟩)]⟩)
     (λp=>A2=p.1++p.2) (λp=>p.1.length) (A2,[]) ?_ ?_ ?_
    .exact Qa (by simp [okS,okV,okC,okL,okH,okB,okE,Za,ja,za,Ja,wsA,ws];omega) (ui (by rw [hD,hBx,hA12];simp))
    .simp
    .rintro⟨V1,V2⟩ hV;simp only at hV;have lV:=congrArg List.length hV;rw [List.length_append]at lV;rcases List.eq_nil_or_concat V1 with rfl | ⟨V1',y,rfl⟩
     .have hlt:¬(i:Int)<((i+([]:List Mo).length:Nat):Int):=by simp
      simp only [go_sem,hr,Nat.add_zero,Nat.lt_irrefl];rw [List.nil_append]at hV;subst hV;have hKK:=hK (A1++x::A2) ?_ ?_
      .have e:U++A1++x::A2++V=U++(A1++x::A2)++V:=by simp
       simp only [List.append_assoc,List.cons_append]at hKK ⊢;exact hKK
      .rw [hBx,hA12,List.append_assoc];refine List.Perm.append_left _ ?_;exact(List.perm_append_comm (l₁:=A2) (l₂:=[x]))
      .refine Ux (by rw [hA1];exact xx (B:=A.drop t) (by rw [List.take_append_drop];exact hsA)) (List.pairwise_cons.2 ⟨?_,by rw [hA2];exact Jt (A:=A.take t) (by rw [List.take_append_drop];exact hsA)⟩) ?_
       .intro z hz;rw [hA2]at hz;by_cases htl:t<A.length
        .refine YH hsA htl ?_ z hz;rw [<-gA i t (by omega) htl]
         exact h5 (by omega)
        .rw [List.drop_of_length_le (by omega)]at hz;simp at hz
       .have hle:∀z∈A1,kM z<=kM x:=by
         intro z hz;by_cases ht0:0<t
         .rw [hA1]at hz;refine JH hsA ht0 (by omega) ?_ z hz
          rw [<-gA (i-1) (t-1) (by omega) (by omega)]
          exact h4 (by omega)
         .have:A1=[]:=List.length_eq_zero_iff.1 (by omega)
          rw [this]at hz;simp at hz
        intro z hz w hw;rcases List.mem_cons.1 hw with rfl | hw
        .exact hle z hz
        .rw [hA12]at hsA;exact Vt hsA z hz w hw
     .rw [List.concat_eq_append]at *
      rw [List.length_append,List.length_singleton]at lV;obtain⟨k,hk⟩:∃k,k=i+V1'.length:=⟨_,rfl⟩;have hk1:i+(V1'++[y]).length=k+1:=by simp;omega
      have hlt:i<k+1:=by omega
      have n3:((k+1:Nat):Int)-1=(k:Int):=by omega
      obtain⟨E,hE⟩:∃E,E=U++A1++(V1'++[y]++x::V2)++V:=⟨_,rfl⟩;have lE:E.length=D.length:=by
       rw [hE,hDl,c2];simp only [List.length_append,List.length_cons,List.length_nil];omega
      have e1:E=(U++A1++V1')++y::(x::V2++V):=by rw [hE];simp
      have e2:E=(U++A1++V1'++[y])++x::(V2++V):=by rw [hE];simp
      have g1:E.getD k mo0=y:=by rw [e1];exact getMM _ _ _ _ (by simp;omega)
      have g2:E.getD (k+1) mo0=x:=by rw [e2];exact getMM _ _ _ _ (by simp;omega)
      have b1:k<len:=by omega
      have b2:k+1<len:=by omega
      have q1:k<E.length:=by omega
      have q2:k+1<E.length:=by omega
      have s1:(E.set (k+1) y).set k x=U++A1++(V1'++x::(y::V2))++V:=by
       have:E.set (k+1) y=(U++A1++V1'++[y])++y::(V2++V):=by rw [e2];exact setMM _ _ _ _ (by simp;omega)
       rw [this];have:(U++A1++V1'++[y])++y::(V2++V)=(U++A1++V1')++y::(y::V2++V):=by simp
       rw [this,setMM _ _ _ _ (by simp;omega)]
       simp
      simp only [<-hE,hk1];simp only [go_sem,hr,n3,hlt,g1,g2,b1,b2,q1,q2,s1,List.length_set];refine⟨by omega,by omega,by omega,(V1',y::V2),Qa (by simp [okS,okV,okC,okL,okH,okB,okE,Za,ja,za,Ja,wsA,ws];omega) (ui rfl),by simp only;rw [hV];simp,by simp⟩
 obtain⟨m0,hm0⟩:∃m0,m0=U.length+A.length:=⟨_,rfl⟩;obtain⟨b0,hb0⟩:∃b0,b0=U.length+A.length+B.length:=⟨_,rfl⟩;have hx2' : x2=(m0:Int):=by omega
 have hx3' : x3=(b0:Int):=by omega
 have n1:¬(m0:Int)-(U.length:Int)=1:=by omega
 have n2:¬(b0:Int)-(m0:Int)=1:=by omega
 obtain⟨md,hmd⟩:∃md,md=(U.length+b0) / 2:=⟨_,rfl⟩;have n3:(U.length:Int)+(b0:Int)=((U.length+b0:Nat):Int):=by omega
 have n4:(U.length+b0) % 18446744073709551616 / 2=md:=by omega
 have n5:(md:Int)+(m0:Int)=((md+m0:Nat):Int):=by omega
 rcases Nat.lt_or_ge md m0 with hgt | hgt
 case' inl=>
  have hgt' : (md:Int)<(m0:Int):=by omega
  simp only [go_sem,Qb,hr,fnV,hro,hs,hcm,hx1,hx2',hx3',n1,n2,n3,n4,n5,hgt'];obtain⟨st0,hst⟩:∃st0,st0=md+m0-b0:=⟨_,rfl⟩;obtain⟨r0,hr0⟩:∃r0,r0=md:=⟨_,rfl⟩;refine⟨by omega,by omega,by omega,by omega,by omega,by omega,by omega,by omega,?_⟩
 case' inr=>
  have hgt' : ¬(md:Int)<(m0:Int):=by omega
  simp only [go_sem,Qb,hr,fnV,hro,hs,hcm,hx1,hx2',hx3',n1,n2,n3,n4,n5,hgt'];obtain⟨st0,hst⟩:∃st0,st0=U.length:=⟨_,rfl⟩;obtain⟨r0,hr0⟩:∃r0,r0=m0:=⟨_,rfl⟩;refine⟨by omega,by omega,by omega,by omega,by omega,by omega,by omega,?_⟩
 all_goals
  have f1:U.length<=st0/\st0<=r0/\r0<=m0/\r0<=md/\md+m0<=b0+st0:=by omega
  have f2:st0=U.length∨md+m0=b0+st0:=by omega
  have f3:r0=m0∨r0=md:=by omega
  have n7:((md+m0:Nat):Int)-1=((md+m0-1:Nat):Int):=by omega
  refine wa (λp:Nat×Nat=>⟨mkV [(0,.one (.own 1048576 ver 5 0 len)),(1,.one (.lit (.int .i64 U.length))),(2,.one (.lit (.int .i64 m0))),(3,.one (.lit (.int .i64 b0))),(4,.one (.lit (.func (.func fc) ⟨[]⟩ ⟨[]⟩))),(18,.one (.lit (.int .i64 md))),(19,.one (.lit (.int .i64 (md+m0:Nat)))),(20,.one (.lit (.int .i64 p.1))),(21,.one (.lit (.int .i64 p.2))),(22,.one (.lit (.int .i64 (md+m0-1:Nat))))],mkH [(1048576,⟨ver,some ⟨D.map mC,5,true⟩⟩)]⟩)
   (λp=>st0<=p.1/\p.1<=p.2/\p.2<=r0/\(st0<p.1->kM (D.getD (p.1-1) mo0)<=kM (D.getD (md+m0-p.1) mo0))/\(p.2<r0->kM (D.getD (md+m0-1-p.2) mo0)<=kM (D.getD p.2 mo0))) (λp=>p.2-p.1) (st0,r0) ?_ ?_ ?_
  .exact Qa (by simp [okS,okV,okC,okL,okH,okB,okE,Za,ja,za,Ja,wsA,ws];omega) (ui rfl)
  .exact⟨by simp only;omega,by simp only;omega,by simp only;omega,λh=>by simp only at h;omega,λh=>by simp only at h;omega⟩
  .rintro⟨i,j⟩ ⟨h1,h2,h3,h4,h5⟩;simp only at h1 h2 h3 h4 h5;by_cases hij:i<j
   .have hij' : (i:Int)<(j:Int):=by omega
    obtain⟨k,hk⟩:∃k,k=(i+j) / 2:=⟨_,rfl⟩;have hk' : (i:Int)+(j:Int)=((i+j:Nat):Int):=by omega
    have hkk:(i+j) % 18446744073709551616 / 2=k:=by omega
    obtain⟨q,hq⟩:∃q,q=md+m0-1-k:=⟨_,rfl⟩;have hq' : ((md+m0-1:Nat):Int)-(k:Int)=(q:Int):=by omega
    have ok1:=okD k (by omega) (by omega)
    have ok2:=okD q (by omega) (by omega)
    obtain⟨y,hy⟩:∃y,D.getD k mo0=y:=⟨_,rfl⟩;obtain⟨z,hz⟩:∃z,D.getD q mo0=z:=⟨_,rfl⟩;rw [hy]at ok1;rw [hz]at ok2;have q1:k<len:=by omega
    have q2:q<len:=by omega
    have q3:k<D.length:=by omega
    have q4:q<D.length:=by omega
    simp only [go_sem,hr,hro,hs,hcm,hij',hk',hkk,hq',hy,hz,ok1.1,ok1.2,ok2.1,ok2.2,UI,q1,q2,q3,q4];refine⟨by omega,by omega,by omega,by omega,λhlt=>⟨(i,k),Qa (by simp [okS,okV,okC,okL,okH,okB,okE,Za,ja,za,Ja,wsA,ws]) (ui rfl),⟨by simp only;omega,by simp only;omega,by simp only;omega,h4,λ_=>?_⟩,by simp only;omega⟩,λhge=>⟨by omega,(k+1,j),Qa (by simp [okS,okV,okC,okL,okH,okB,okE,Za,ja,za,Ja,wsA,ws]) (ui rfl),⟨by simp only;omega,by simp only;omega,by simp only;omega,λ_=>?_,h5⟩,by simp only;omega⟩⟩
    .simp only;rw [<-hq,hy,hz];exact Nat.le_of_lt hlt
    .simp only [Nat.add_sub_cancel];have e:md+m0-(k+1)=q:=by omega
     rw [e,hy,hz];exact Nat.not_lt.1 hge
   .obtain rfl:i=j:=by omega
    have hij' : ¬(i:Int)<(i:Int):=by omega
    obtain⟨e,he⟩:∃e,e=md+m0-i:=⟨_,rfl⟩;have he' : ((md+m0:Nat):Int)-(i:Int)=(e:Int):=by omega
    obtain⟨t,ht⟩:∃t,t=i-U.length:=⟨_,rfl⟩;obtain⟨u,hu⟩:∃u,u=e-m0:=⟨_,rfl⟩;obtain⟨A1,hA1⟩:∃A1,A1=A.take t:=⟨_,rfl⟩;obtain⟨A2,hA2⟩:∃A2,A2=A.drop t:=⟨_,rfl⟩;obtain⟨B1,hB1⟩:∃B1,B1=B.take u:=⟨_,rfl⟩;obtain⟨B2,hB2⟩:∃B2,B2=B.drop u:=⟨_,rfl⟩;have hA12:A=A1++A2:=by rw [hA1,hA2,List.take_append_drop]
    have hB12:B=B1++B2:=by rw [hB1,hB2,List.take_append_drop]
    have lA1:A1.length=t:=by rw [hA1,List.length_take];omega
    have lB1:B1.length=u:=by rw [hB1,List.length_take];omega
    have lA2:A2.length=A.length-t:=by rw [hA2,List.length_drop]
    have lB2:B2.length=B.length-u:=by rw [hB2,List.length_drop]
    have X1:∀x∈A1,∀y∈B2,kM x<=kM y:=by
     intro x hx y hy;have l1:=List.length_pos_of_mem hx;have l2:=List.length_pos_of_mem hy;have hle:=h4 (by omega)
     rw [gA (i-1) (t-1) (by omega) (by omega),gB (md+m0-i) u (by omega) (by omega)]at hle
     rw [hA1]at hx;rw [hB2]at hy;exact Nat.le_trans (JH hsA (by omega) (by omega) hle x hx) (YH hsB (by omega) (Nat.le_refl _) y hy)
    have X2:∀x∈B1,∀y∈A2,kM x<=kM y:=by
     intro x hx y hy;have l1:=List.length_pos_of_mem hx;have l2:=List.length_pos_of_mem hy;have hle:=h5 (by omega)
     rw [gA i t (by omega) (by omega),gB (md+m0-1-i) (u-1) (by omega) (by omega)]at hle
     rw [hB1]at hx;rw [hA2]at hy;exact Nat.le_trans (JH hsB (by omega) (by omega) hle x hx) (YH hsA (by omega) (Nat.le_refl _) y hy)
    have sA1:SortM A1:=by rw [hA12]at hsA;exact xx hsA
    have sA2:SortM A2:=by rw [hA12]at hsA;exact Jt hsA
    have sB1:SortM B1:=by rw [hB12]at hsB;exact xx hsB
    have sB2:SortM B2:=by rw [hB12]at hsB;exact Jt hsB
    have oA1:okMs A1:=by rw [hA12]at hoA;exact(Qh.1 hoA).1
    have oA2:okMs A2:=by rw [hA12]at hoA;exact(Qh.1 hoA).2
    have oB1:okMs B1:=by rw [hB12]at hoB;exact(Qh.1 hoB).1
    have oB2:okMs B2:=by rw [hB12]at hoB;exact(Qh.1 hoB).2
    have XA:=λx hx y hy=>Vt (A:=A1) (B:=A2) (hA12▸hsA) x hx y hy;have XB:=λx hx y hy=>Vt (A:=B1) (B:=B2) (hB12▸hsB) x hx y hy;have hp0:(A++B).Perm ((A1++B1)++(A2++B2)):=by
     rw [hA12,hB12];simp only [List.append_assoc];refine List.Perm.append_left _ ?_;rw [<-List.append_assoc,<-List.append_assoc];exact List.Perm.append_right _ List.perm_append_comm
    have fin:∀C1 C2:List Mo,(A1++B1).Perm C1->SortM C1->(A2++B2).Perm C2->SortM C2->K (.tup []) (upd h r ⟨ver,some ⟨(U++C1++C2++V).map mC,5,true⟩⟩):=by
     intro C1 C2 p1 s1 p2 s2;have:=hK (C1++C2) (hp0.trans (p1.append p2)) (Ux s1 s2 λx hx y hy=>by
      have hx':=p1.mem_iff.2 hx;have hy':=p2.mem_iff.2 hy;rcases List.mem_append.1 hx' with hx' | hx' <;> rcases List.mem_append.1 hy' with hy' | hy'
      .exact XA x hx' y hy'
      .exact X1 x hx' y hy'
      .exact X2 x hx' y hy'
      .exact XB x hx' y hy')
     rw [<-List.append_assoc]at this;exact this
    by_cases hrot:i<m0/\m0<e
    .have w1:(i:Int)<(m0:Int):=by omega
     have w2:(m0:Int)<(e:Int):=by omega
     simp only [go_sem,hr,hro,hs,hcm,hij',he',w1,w2];refine⟨by omega,?_⟩
     simp only [jF];refine⟨U++A1,A2,B1,B2++V,rfl,by simp;omega,by simp;omega,by simp;omega,λh=>?_,λh=>?_,by simp;omega,by simp;omega,by omega,by simp [za,hD,hA12,hB12],?_⟩
     .have:=List.length_eq_zero_iff.2 h;omega
     .have:=List.length_eq_zero_iff.2 h;omega
     have eS:U++A1++B1++A2++(B2++V)=U++(A1++B1)++(A2++B2)++V:=by simp
     rw [eS];simp only [go_sem,hr,hro,hs,hcm];refine⟨λq1=>⟨λq2=>?_,λq2=>?_⟩,λq1=>?_⟩
     .simp only [wh];refine⟨U,A1,B1,(A2++B2)++V,rfl,rfl,by omega,by omega,λh=>?_,λh=>?_,by omega,by omega,by simp;omega,by omega,oA1,oB1,sA1,sB1,by simp [za],λC1 p1 s1=>?_⟩
      .have:=List.length_eq_zero_iff.2 h;omega
      .have:=List.length_eq_zero_iff.2 h;omega
      have lC1:=p1.length_eq;rw [List.length_append]at lC1;try simp only [go_sem,hr]
      refine⟨λq3=>⟨λq4=>?_,λq4=>?_⟩,λq3=>?_⟩
      .try simp only [wh]
       refine⟨U++C1,A2,B2,V,rfl,by simp;omega,by simp;omega,by simp;omega,λh=>?_,λh=>?_,by omega,by simp;omega,by simp;omega,by omega,oA2,oB2,sA2,sB2,by simp [za],λC2 p2 s2=>?_⟩
       .have:=List.length_eq_zero_iff.2 h;omega
       .have:=List.length_eq_zero_iff.2 h;omega
       try simp only [go_sem,hr]
       exact fin C1 C2 p1 s1 p2 s2
      .have s2:SortM (A2++B2):=by
        have:B2=[]:=List.length_eq_zero_iff.1 (by omega)
        rw [this,List.append_nil];exact sA2
       have:=fin C1 (A2++B2) p1 s1 (List.Perm.refl _) s2;simpa only [List.append_assoc] using this
      .have s2:SortM (A2++B2):=by
        have:A2=[]:=List.length_eq_zero_iff.1 (by omega)
        rw [this,List.nil_append];exact sB2
       have:=fin C1 (A2++B2) p1 s1 (List.Perm.refl _) s2;simpa only [List.append_assoc] using this
     .obtain⟨C1,hC1⟩:∃C1,C1=A1++B1:=⟨_,rfl⟩;have p1:(A1++B1).Perm C1:=by rw [hC1]
      have s1:SortM C1:=by
       have:B1=[]:=List.length_eq_zero_iff.1 (by omega)
       rw [hC1,this,List.append_nil];exact sA1
      have lC1:=p1.length_eq;rw [List.length_append]at lC1;rw [<-hC1];refine⟨λq3=>⟨λq4=>?_,λq4=>?_⟩,λq3=>?_⟩
      .try simp only [wh]
       refine⟨U++C1,A2,B2,V,rfl,by simp;omega,by simp;omega,by simp;omega,λh=>?_,λh=>?_,by omega,by simp;omega,by simp;omega,by omega,oA2,oB2,sA2,sB2,by simp [za],λC2 p2 s2=>?_⟩
       .have:=List.length_eq_zero_iff.2 h;omega
       .have:=List.length_eq_zero_iff.2 h;omega
       try simp only [go_sem,hr]
       exact fin C1 C2 p1 s1 p2 s2
      .have s2:SortM (A2++B2):=by
        have:B2=[]:=List.length_eq_zero_iff.1 (by omega)
        rw [this,List.append_nil];exact sA2
       have:=fin C1 (A2++B2) p1 s1 (List.Perm.refl _) s2;simpa only [List.append_assoc] using this
      .have s2:SortM (A2++B2):=by
        have:A2=[]:=List.length_eq_zero_iff.1 (by omega)
        rw [this,List.nil_append];exact sB2
       have:=fin C1 (A2++B2) p1 s1 (List.Perm.refl _) s2;simpa only [List.append_assoc] using this
     .obtain⟨C1,hC1⟩:∃C1,C1=A1++B1:=⟨_,rfl⟩;have p1:(A1++B1).Perm C1:=by rw [hC1]
      have s1:SortM C1:=by
       have:A1=[]:=List.length_eq_zero_iff.1 (by omega)
       rw [hC1,this,List.nil_append];exact sB1
      have lC1:=p1.length_eq;rw [List.length_append]at lC1;rw [<-hC1];refine⟨λq3=>⟨λq4=>?_,λq4=>?_⟩,λq3=>?_⟩
      .try simp only [wh]
       refine⟨U++C1,A2,B2,V,rfl,by simp;omega,by simp;omega,by simp;omega,λh=>?_,λh=>?_,by omega,by simp;omega,by simp;omega,by omega,oA2,oB2,sA2,sB2,by simp [za],λC2 p2 s2=>?_⟩
       .have:=List.length_eq_zero_iff.2 h;omega
       .have:=List.length_eq_zero_iff.2 h;omega
       try simp only [go_sem,hr]
       exact fin C1 C2 p1 s1 p2 s2
      .have s2:SortM (A2++B2):=by
        have:B2=[]:=List.length_eq_zero_iff.1 (by omega)
        rw [this,List.append_nil];exact sA2
       have:=fin C1 (A2++B2) p1 s1 (List.Perm.refl _) s2;simpa only [List.append_assoc] using this
      .have s2:SortM (A2++B2):=by
        have:A2=[]:=List.length_eq_zero_iff.1 (by omega)
        rw [this,List.nil_append];exact sB2
       have:=fin C1 (A2++B2) p1 s1 (List.Perm.refl _) s2;simpa only [List.append_assoc] using this
    .have eS:D=U++(A1++B1)++(A2++B2)++V:=by
      rw [hD,hA12,hB12];rcases Nat.lt_or_ge i m0 with hh | hh
      .have:B1=[]:=List.length_eq_zero_iff.1 (by omega)
       rw [this];simp
      .have:A2=[]:=List.length_eq_zero_iff.1 (by omega)
       rw [this];simp
     rw [eS];rcases Nat.lt_or_ge i m0 with hh | hh
     case' inl=>
      have w1:(i:Int)<(m0:Int):=by omega
      have w2:¬(m0:Int)<(e:Int):=by omega
      simp only [go_sem,hr,hro,hs,hcm,hij',he',w1,w2];refine⟨by omega,?_⟩
     case' inr=>
      have w1:¬(i:Int)<(m0:Int):=by omega
      simp only [go_sem,hr,hro,hs,hcm,hij',he',w1];refine⟨by omega,?_⟩
     all_goals
      refine⟨λq1=>⟨λq2=>?_,λq2=>?_⟩,λq1=>?_⟩
      .simp only [wh];refine⟨U,A1,B1,(A2++B2)++V,rfl,rfl,by omega,by omega,λh=>?_,λh=>?_,by omega,by omega,by simp;omega,by omega,oA1,oB1,sA1,sB1,by simp [za],λC1 p1 s1=>?_⟩
       .have:=List.length_eq_zero_iff.2 h;omega
       .have:=List.length_eq_zero_iff.2 h;omega
       have lC1:=p1.length_eq;rw [List.length_append]at lC1;try simp only [go_sem,hr]
       refine⟨λq3=>⟨λq4=>?_,λq4=>?_⟩,λq3=>?_⟩
       .try simp only [wh]
        refine⟨U++C1,A2,B2,V,rfl,by simp;omega,by simp;omega,by simp;omega,λh=>?_,λh=>?_,by omega,by simp;omega,by simp;omega,by omega,oA2,oB2,sA2,sB2,by simp [za],λC2 p2 s2=>?_⟩
        .have:=List.length_eq_zero_iff.2 h;omega
        .have:=List.length_eq_zero_iff.2 h;omega
        try simp only [go_sem,hr]
        exact fin C1 C2 p1 s1 p2 s2
       .have s2:SortM (A2++B2):=by
         have:B2=[]:=List.length_eq_zero_iff.1 (by omega)
         rw [this,List.append_nil];exact sA2
        have:=fin C1 (A2++B2) p1 s1 (List.Perm.refl _) s2;simpa only [List.append_assoc] using this
       .have s2:SortM (A2++B2):=by
         have:A2=[]:=List.length_eq_zero_iff.1 (by omega)
         rw [this,List.nil_append];exact sB2
        have:=fin C1 (A2++B2) p1 s1 (List.Perm.refl _) s2;simpa only [List.append_assoc] using this
      .obtain⟨C1,hC1⟩:∃C1,C1=A1++B1:=⟨_,rfl⟩;have p1:(A1++B1).Perm C1:=by rw [hC1]
       have s1:SortM C1:=by
        have:B1=[]:=List.length_eq_zero_iff.1 (by omega)
        rw [hC1,this,List.append_nil];exact sA1
       have lC1:=p1.length_eq;rw [List.length_append]at lC1;rw [<-hC1];refine⟨λq3=>⟨λq4=>?_,λq4=>?_⟩,λq3=>?_⟩
       .try simp only [wh]
        refine⟨U++C1,A2,B2,V,rfl,by simp;omega,by simp;omega,by simp;omega,λh=>?_,λh=>?_,by omega,by simp;omega,by simp;omega,by omega,oA2,oB2,sA2,sB2,by simp [za],λC2 p2 s2=>?_⟩
        .have:=List.length_eq_zero_iff.2 h;omega
        .have:=List.length_eq_zero_iff.2 h;omega
        try simp only [go_sem,hr]
        exact fin C1 C2 p1 s1 p2 s2
       .have s2:SortM (A2++B2):=by
         have:B2=[]:=List.length_eq_zero_iff.1 (by omega)
         rw [this,List.append_nil];exact sA2
        have:=fin C1 (A2++B2) p1 s1 (List.Perm.refl _) s2;simpa only [List.append_assoc] using this
       .have s2:SortM (A2++B2):=by
         have:A2=[]:=List.length_eq_zero_iff.1 (by omega)
         rw [this,List.nil_append];exact sB2
        have:=fin C1 (A2++B2) p1 s1 (List.Perm.refl _) s2;simpa only [List.append_assoc] using this
      .obtain⟨C1,hC1⟩:∃C1,C1=A1++B1:=⟨_,rfl⟩;have p1:(A1++B1).Perm C1:=by rw [hC1]
       have s1:SortM C1:=by
        have:A1=[]:=List.length_eq_zero_iff.1 (by omega)
        rw [hC1,this,List.nil_append];exact sB1
       have lC1:=p1.length_eq;rw [List.length_append]at lC1;rw [<-hC1];refine⟨λq3=>⟨λq4=>?_,λq4=>?_⟩,λq3=>?_⟩
       .try simp only [wh]
        refine⟨U++C1,A2,B2,V,rfl,by simp;omega,by simp;omega,by simp;omega,λh=>?_,λh=>?_,by omega,by simp;omega,by simp;omega,by omega,oA2,oB2,sA2,sB2,by simp [za],λC2 p2 s2=>?_⟩
        .have:=List.length_eq_zero_iff.2 h;omega
        .have:=List.length_eq_zero_iff.2 h;omega
        try simp only [go_sem,hr]
        exact fin C1 C2 p1 s1 p2 s2
       .have s2:SortM (A2++B2):=by
         have:B2=[]:=List.length_eq_zero_iff.1 (by omega)
         rw [this,List.append_nil];exact sA2
        have:=fin C1 (A2++B2) p1 s1 (List.Perm.refl _) s2;simpa only [List.append_assoc] using this
       .have s2:SortM (A2++B2):=by
         have:A2=[]:=List.length_eq_zero_iff.1 (by omega)
         rw [this,List.nil_append];exact sB2
        have:=fin C1 (A2++B2) p1 s1 (List.Perm.refl _) s2;simpa only [List.append_assoc] using this
end Go.Abs
end
section
namespace Go.Abs
open Go.Num
variable {P:Program} {L:List (Nat×Spec)}
theorem yaG{f fc:Nat}(hE:Enters P f):Sound P f (.own (wh fc 0)):=by
 refine⟨hE,λE args vals w I m h d K _ _ hG=>?_⟩;unfold wh at hG;split at hG
 .obtain⟨U,A,B,V,_,_,_,_,hA,_,hN,_⟩:=hG;have:=List.length_pos_iff.2 hA;omega
 .exact hG.elim
theorem QS(hΓ:Holds P (Gl L)){f fr fc N:Nat}(hn1:fr≠f)(hn2:fc≠f)(hro:Gl L fr=.own (jF fc))(hcm:Gl L fc=.dat true zw)(hc:check P f=some (220,(Qb fr f).strip,[])):Sound P f (.own (wh fc N)):=by
 induction N with
 | zero=>
  obtain⟨fn,c,h1,h2,h3,_⟩:=Qw hc;exact yaG (Jv h1 h2 (by rw [h3];rfl))
 | succ N ih=>
  have hh:Holds P (Gl ((f,.own (wh fc N))::L)):=qa hΓ ih;refine zaz (Γ:=Gl ((f,.own (wh fc N))::L)) hh (fs:=f) ?_ ?_ ?_ hc
  .unfold Gl;rw [if_neg hn1];exact hro
  .unfold Gl;rw [if_pos rfl]
  .unfold Gl;rw [if_neg hn2];exact hcm
end Go.Abs
end
section
namespace Go.Num
open Go.Abs
def liC(c:Cp)(p:Arc):Nat:=if cchk2 c [p]≠0 then cchk2 c [p] else if wV (cpv c) (av p)≠0 then 21 else if wM (cpv c) (av p)=0 then 15 else 0
end Go.Num
namespace Go.Abs
open Go.Num
variable {P:Program} {Γ:Nat->Spec}
def yaM(tE:Nat)(l:List AV)(K:AV->Prop):Prop:=
 match l with
 | [c,p]=>onCp (λc=>onA (λp=>cl c<=1000/\al p<=1000/\K (.tup [pQ (if liC c p=0 then endA (cpv c) (av p) (zL (cpv c) (av p)) else (0,0)),pQ (if liC c p=0 then endB (cpv c) (av p) (zL (cpv c) (av p)) else (0,0)),errV tE (liC c p)])) p) c
 | _=>False
theorem UaT(tE:Nat)(c p:AV)(K:AV->Prop):yaM tE [c,p] K=(onCp (λc=>onA (λp=>cl c<=1000/\al p<=1000/\K (.tup [pQ (if liC c p=0 then endA (cpv c) (av p) (zL (cpv c) (av p)) else (0,0)),pQ (if liC c p=0 then endB (cpv c) (av p) (zL (cpv c) (av p)) else (0,0)),errV tE (liC c p)])) p) c):=propext Iff.rfl
@[congr] theorem ZbJ (tE:Nat) {K:AV->Prop} {l l' : List AV} (h:l=l'):yaM tE l K=yaM tE l' K:=by subst h;rfl
attribute [go_sem,go_sem ↓] UaT
end Go.Abs
end
section
namespace Go.Num
open Go.Abs
def cqR(X:CpQ):AV:=.agg [cb (rcan X.1.1),cn (rcan X.1.1),cd (rcan X.1.1),cb (rcan X.1.2),cn (rcan X.1.2),cd (rcan X.1.2),cb (rcan X.2.1.1),cn (rcan X.2.1.1),cd (rcan X.2.1.1),cb (rcan X.2.1.2),cn (rcan X.2.1.2),cd (rcan X.2.1.2),cb (rcan X.2.2.1),cn (rcan X.2.2.1),cd (rcan X.2.2.1),cb (rcan X.2.2.2.1),cn (rcan X.2.2.2.1),cd (rcan X.2.2.2.1),cb (rcan X.2.2.2.2.1),cn (rcan X.2.2.2.2.1),cd (rcan X.2.2.2.2.1),cb (rcan X.2.2.2.2.2.1),cn (rcan X.2.2.2.2.2.1),cd (rcan X.2.2.2.2.2.1),cb (rcan X.2.2.2.2.2.2),cn (rcan X.2.2.2.2.2.2),cd (rcan X.2.2.2.2.2.2)]
def scq(c:CpR)(k k2:Rat):CpR:=((c.1.1*k,c.1.2*k),(c.2.1.1*k,c.2.1.2*k),c.2.2.1*k2,c.2.2.2.1*k2,c.2.2.2.2.1*k2,c.2.2.2.2.2.1,c.2.2.2.2.2.2)
def z27:CpR:=((0,0),(0,0),0,0,0,0,0)
def moC(c:Cp)(g:Ps):Nat:=if cchk c≠0 then cchk c else if pvld g=false then 2 else 0
def scC(c:Cp)(k:R):Nat:=if cchk c≠0 then cchk c else if vldR k=false then 2 else if rv k=0 then 8 else 0
end Go.Num
namespace Go.Abs
open Go.Num
variable {P:Program} {Γ:Nat->Spec}
def pfA(x:R):AV:=.one (.ref [cb x,cn x,cd x])
theorem Vbk(x y:R)(h:pfA x=pfA y):x=y:=by
 simp only [pfA,AV.one.injEq,C.ref.injEq,List.cons.injEq,and_true]at h;exact ZM h.1 h.2.1 h.2.2
def onPf(k:R->Prop)(a:AV):Prop:=onE pfA (λx=>WLR x/\k x) a
@[congr] theorem zbL {k:R->Prop} {a a' : AV} (h:a=a'):onPf k a=onPf k a':=by subst h;rfl
theorem ka7(k:R->Prop)(x:R):onPf k (.one (.ref [cb x,cn x,cd x]))=(WLR x/\k x):=zo Vbk (λx=>WLR x/\k x) x
attribute [go_sem,go_sem ↓] ka7
theorem Wab(f r ver i off:Nat):ownC (.clo f [.ptr r ver i off])=[r]:=eq_of_heq (HEq.refl _)
attribute [go_sem,go_sem ↓] Wab
def Qbg(l:List AV)(K:AV->Prop):Prop:=
 match l with
 | [a,k]=>onA (λp=>onPf (λk=>al p<=100000000/\rl k<=100000000/\K (pQ (rv p.1*rv k,rv p.2*rv k))) k) a
 | _=>False
theorem ua6(a k:AV)(K:AV->Prop):Qbg [a,k] K=(onA (λp=>onPf (λk=>al p<=100000000/\rl k<=100000000/\K (pQ (rv p.1*rv k,rv p.2*rv k))) k) a):=propext Iff.rfl
@[congr] theorem YbN {K:AV->Prop} {l l' : List AV} (h:l=l'):Qbg l K=Qbg l' K:=by subst h;rfl
attribute [go_sem,go_sem ↓] ua6
def kaL(l:List AV)(K:AV->Prop):Prop:=
 match l with
 | [c,k,l]=>onCp (λc=>onR (λk=>onR (λl=>cl c<=100000000/\rl k<=100000000/\rl l<=100000000/\K (cqR (scq (cpv c) (rv k) (rv l)))) l) k) c
 | _=>False
theorem WaU(c k l:AV)(K:AV->Prop):kaL [c,k,l] K=(onCp (λc=>onR (λk=>onR (λl=>cl c<=100000000/\rl k<=100000000/\rl l<=100000000/\K (cqR (scq (cpv c) (rv k) (rv l)))) l) k) c):=propext Iff.rfl
@[congr] theorem qbM {K:AV->Prop} {l l' : List AV} (h:l=l'):kaL l K=kaL l' K:=by subst h;rfl
attribute [go_sem,go_sem ↓] WaU
def yaT(tE:Nat)(l:List AV)(K:AV->Prop):Prop:=
 match l with
 | [c,g]=>onCp (λc=>onPo (λg=>cl c<=1000/\pl g<=1000/\K (.tup [cqR (if moC c g=0 then movQ38 (cpv c) (pv g) else z27),errV tE (moC c g)])) g) c
 | _=>False
theorem kaH(tE:Nat)(c g:AV)(K:AV->Prop):yaT tE [c,g] K=(onCp (λc=>onPo (λg=>cl c<=1000/\pl g<=1000/\K (.tup [cqR (if moC c g=0 then movQ38 (cpv c) (pv g) else z27),errV tE (moC c g)])) g) c):=propext Iff.rfl
@[congr] theorem vbK (tE:Nat) {K:AV->Prop} {l l' : List AV} (h:l=l'):yaT tE l K=yaT tE l' K:=by subst h;rfl
attribute [go_sem,go_sem ↓] kaH
def VaZ(tE:Nat)(l:List AV)(K:AV->Prop):Prop:=
 match l with
 | [c,k]=>onCp (λc=>onR (λk=>cl c<=1000/\rl k<=1000/\K (.tup [cqR (if scC c k=0 then sclQ38 (cpv c) (rv k) else z27),errV tE (scC c k)])) k) c
 | _=>False
theorem JaZ(tE:Nat)(c k:AV)(K:AV->Prop):VaZ tE [c,k] K=(onCp (λc=>onR (λk=>cl c<=1000/\rl k<=1000/\K (.tup [cqR (if scC c k=0 then sclQ38 (cpv c) (rv k) else z27),errV tE (scC c k)])) k) c):=propext Iff.rfl
@[congr] theorem WbK (tE:Nat) {K:AV->Prop} {l l' : List AV} (h:l=l'):VaZ tE l K=VaZ tE l' K:=by subst h;rfl
attribute [go_sem,go_sem ↓] JaZ
end Go.Abs
end
section
namespace Go.Num
open Go.Abs
def cps9(c:Cp):List R:=[c.1.1,c.1.2,c.2.1.1,c.2.1.2,c.2.2.1,c.2.2.2.1,c.2.2.2.2.1,c.2.2.2.2.2.1,c.2.2.2.2.2.2]
def sC(c:Cp):Bool:=(cps9 c).all (sR 2)
def exQ:CpR:=((0,0),(4,0),1,16,1,1 / 2,0)
theorem kbk(X:CpR):cpv (canC X)=X:=by unfold cpv canC av;simp only [Wb]
end Go.Num
namespace Go.Abs
open Go.Num
variable {P:Program} {Γ:Nat->Spec}
def jaX(l:List AV)(K:AV->Prop):Prop:=
 match l with
 | [c]=>onCp (λc=>cl c<=4294967296/\K (.one (.lit (.bool (sC c))))) c
 | _=>False
theorem VaQ(c:AV)(K:AV->Prop):jaX [c] K=(onCp (λc=>cl c<=4294967296/\K (.one (.lit (.bool (sC c))))) c):=propext Iff.rfl
@[congr] theorem wbF {K:AV->Prop} {l l' : List AV} (h:l=l'):jaX l K=jaX l' K:=by subst h;rfl
attribute [go_sem,go_sem ↓] VaQ
def Jbf(l:List AV)(K:AV->Prop):Prop:=
 match l with
 | [a,b]=>asInt (λk n=>asInt (λk' m=>k=.i64/\k' = .i64/\(-9223372036854775808<=n/\n<=9223372036854775807)/\(-9223372036854775808<=m/\m<=9223372036854775807)/\K (pQ (n,m))) b) a
 | _=>False
theorem Ua7(a b:AV)(K:AV->Prop):Jbf [a,b] K=(asInt (λk n=>asInt (λk' m=>k=.i64/\k' = .i64/\(-9223372036854775808<=n/\n<=9223372036854775807)/\(-9223372036854775808<=m/\m<=9223372036854775807)/\K (pQ (n,m))) b) a):=propext Iff.rfl
@[congr] theorem JbO {K:AV->Prop} {l l' : List AV} (h:l=l'):Jbf l K=Jbf l' K:=by subst h;rfl
attribute [go_sem,go_sem ↓] Ua7
def YaG(l:List AV)(K:AV->Prop):Prop:=
 match l with
 | []=>K (cqR exQ)
 | _=>False
theorem zaJ(K:AV->Prop):YaG [] K=(K (cqR exQ)):=propext Iff.rfl
@[congr] theorem ZbI {K:AV->Prop} {l l' : List AV} (h:l=l'):YaG l K=YaG l' K:=by subst h;rfl
attribute [go_sem,go_sem ↓] zaJ
def Waf(l:List AV)(K:AV->Prop):Prop:=
 match l with
 | []=>K (.one (.lit (.bool true)))
 | _=>False
theorem Wal(K:AV->Prop):Waf [] K=(K (.one (.lit (.bool true)))):=propext Iff.rfl
@[congr] theorem wbD {K:AV->Prop} {l l' : List AV} (h:l=l'):Waf l K=Waf l' K:=by subst h;rfl
attribute [go_sem,go_sem ↓] Wal
def yp(f0 f1 f2 f3 f4 f5:Nat):List AO:=[.m 36 (.t 2),.u 37 (.binn .eql (.t 36) (.c (.one (.lit .nilIface)))),.m 38 (.t 37),.w 39 38 true (.mv (.t 5)),.w 40 38 true (.binn .eql (.t 39) (.c (.one (.lit .nilIface)))),.u 41 (.pick (.t 38) (.t 40) .fa),.m 42 (.t 41),.w 43 42 true (.mv (.t 7)),.w 44 42 true (.binn .eql (.t 43) (.c (.one (.lit .nilIface)))),.u 45 (.pick (.t 42) (.t 44) .fa),.m 46 (.t 45),.w 47 46 true (.mv (.t 9))]
def jq(f0 f1 f2 f3 f4 f5:Nat):List AO:=[.w 48 46 true (.binn .eql (.t 47) (.c (.one (.lit .nilIface)))),.u 49 (.pick (.t 46) (.t 48) .fa),.m 50 (.t 49),.w 51 50 true (.mv (.t 1)),.u 52 (.pick (.t 50) (.t 51) .fa),.m 53 (.t 52),.w 54 53 true (.mv (.t 8)),.w 55 53 true (.un .not (.t 54)),.u 56 (.pick (.t 53) (.t 55) .fa),.m 57 (.t 56),.w 58 57 true (.ld none 6 true (.t 3)),.w 59 57 true (.call f1 [(.i 0),(.i 1)])]
def xp(f0 f1 f2 f3 f4 f5:Nat):List AO:=[.w 60 57 true (.call f5 [(.t 58),(.t 59)]),.u 61 (.pick (.t 57) (.t 60) .fa),.m 62 (.t 61),.w 63 62 true (.ld none 6 true (.t 4)),.w 64 62 true (.call f1 [(.i 4),(.i 1)]),.w 65 62 true (.call f5 [(.t 63),(.t 64)]),.u 66 (.pick (.t 62) (.t 65) .fa),.m 67 (.t 66),.w 68 67 true (.ld none 6 true (.t 6)),.w 69 67 true (.call f1 [(.i 2),(.i 1)]),.w 70 67 true (.call f5 [(.t 68),(.t 69)]),.u 71 (.pick (.t 67) (.t 70) .fa)]
def vp(f0 f1 f2 f3 f4 f5:Nat):List AO:=[.m 0 (.t 71)]
def kj(f0 f1 f2 f3 f4 f5:Nat):AC:=(.seq (.ops true (yp f0 f1 f2 f3 f4 f5++(jq f0 f1 f2 f3 f4 f5++(xp f0 f1 f2 f3 f4 f5++(vp f0 f1 f2 f3 f4 f5)))))
 .ret)
def uu(f0 f1 f2 f3 f4 f5:Nat):AC:=(.seq (.ops false [.u 17 (.call f0 []),.u 18 (.call f1 [(.i 2),(.i 1)]),.u 19 (.call f3 [(.t 17),(.t 18)]),.m 16 (.t 19),.u 20 (.ext 0 (.t 16)),.u 21 (.ext 1 (.t 16)),.u 22 (.ext 2 (.t 16)),.u 3 (.alloc [(.lit (.bool false)),.emp,.emp,(.lit (.bool false)),.emp,.emp]),.u 4 (.alloc [(.lit (.bool false)),.emp,.emp,(.lit (.bool false)),.emp,.emp]),.n (.st none 6 (.t 3) (.t 20)),.n (.st none 6 (.t 4) (.t 21)),.m 5 (.t 22)])
 (.fg [1,2,3,4,5] (.seq (.ops false [.u 24 (.call f0 []),.u 25 (.call f1 [(.i 0),(.i 1)]),.u 26 (.call f1 [(.i 4),(.i 1)]),.u 27 (.call f4 [(.t 24),(.t 25),(.t 26)]),.m 23 (.t 27),.u 28 (.ext 0 (.t 23)),.u 29 (.ext 1 (.t 23)),.u 6 (.alloc [(.lit (.bool false)),.emp,.emp,(.lit (.bool false)),.emp,.emp]),.n (.st none 6 (.t 6) (.t 28)),.m 7 (.t 29)])
 (.fg [1,2,3,4,5,6,7] (.seq (.ops false [.u 31 (.call f0 []),.u 32 (.call f1 [(.i 2),(.i 2)]),.u 33 (.call f2 [(.t 31),(.t 32)]),.m 30 (.t 33),.u 34 (.ext 0 (.t 30)),.u 35 (.ext 1 (.t 30)),.m 8 (.t 34),.m 9 (.t 35)])
 (.fg [1,2,3,4,5,6,7,8,9] (kj f0 f1 f2 f3 f4 f5)))))))
theorem yh{f0 f1 f2 f3 f4 f5:Nat}(Γ:Nat->Spec)(Q:Ex->S->Prop)(s:S):wpA Γ (uu f0 f1 f2 f3 f4 f5) Q s=wpA Γ (.seq (.ops false [.u 17 (.call f0 []),.u 18 (.call f1 [(.i 2),(.i 1)]),.u 19 (.call f3 [(.t 17),(.t 18)]),.m 16 (.t 19),.u 20 (.ext 0 (.t 16)),.u 21 (.ext 1 (.t 16)),.u 22 (.ext 2 (.t 16)),.u 3 (.alloc [(.lit (.bool false)),.emp,.emp,(.lit (.bool false)),.emp,.emp]),.u 4 (.alloc [(.lit (.bool false)),.emp,.emp,(.lit (.bool false)),.emp,.emp]),.n (.st none 6 (.t 3) (.t 20)),.n (.st none 6 (.t 4) (.t 21)),.m 5 (.t 22)])
 (.fg [1,2,3,4,5] (.seq (.ops false [.u 24 (.call f0 []),.u 25 (.call f1 [(.i 0),(.i 1)]),.u 26 (.call f1 [(.i 4),(.i 1)]),.u 27 (.call f4 [(.t 24),(.t 25),(.t 26)]),.m 23 (.t 27),.u 28 (.ext 0 (.t 23)),.u 29 (.ext 1 (.t 23)),.u 6 (.alloc [(.lit (.bool false)),.emp,.emp,(.lit (.bool false)),.emp,.emp]),.n (.st none 6 (.t 6) (.t 28)),.m 7 (.t 29)])
 (.fg [1,2,3,4,5,6,7] (.seq (.ops false [.u 31 (.call f0 []),.u 32 (.call f1 [(.i 2),(.i 2)]),.u 33 (.call f2 [(.t 31),(.t 32)]),.m 30 (.t 33),.u 34 (.ext 0 (.t 30)),.u 35 (.ext 1 (.t 30)),.m 8 (.t 34),.m 9 (.t 35)])
 (.fg [1,2,3,4,5,6,7,8,9] (kj f0 f1 f2 f3 f4 f5))))))) Q s:=eq_of_heq (HEq.refl _)
attribute [go_sem ↓] yh
attribute [go_sem] yh
end Go.Abs
end
section
namespace Go.Num
open Go.Abs
theorem Xbx{k x y:Rat}(hk:k≠0)(hy:y≠0):x / y=(k*x) / (k*y):=by grind
theorem q_nd(q:Rat):q*(q.den:Int)=(q.num:Int):=by
 have h:=Rat.num_divInt_den q;have hd:((q.den:Int):Rat)≠0:=by
  have:=q.den_nz;intro h;have h2:(q.den:Int)=0:=by exact_mod_cast h
  omega
 have h3:q=(q.num:Rat) / ((q.den:Int):Rat):=by rw [<-Rat.divInt_eq_div];exact h.symm
 have h4:q*((q.den:Int):Rat)=(q.num:Rat) / ((q.den:Int):Rat)*((q.den:Int):Rat):=by rw [<-h3]
 rw [h4,Rat.div_mul_cancel hd]
theorem Uba(q:Rat):1+q*q≠0:=by
 have:0<=q*q:=by
  rcases Rat.le_total (a:=0) (b:=q) with h | h
  .exact Rat.mul_nonneg h h
  .have h2:0<=-q:=by grind
   have:=Rat.mul_nonneg h2 h2;grind
 grind
theorem zbF{q:Rat}(h:rz q<=2):rz ((1-q*q) / (1+q*q))<=7/\rz ((q+q) / (1+q*q))<=7:=by
 have e:=q_nd q;have n1:=YG q;have d1:=UG q;obtain⟨n,hn⟩:∃n:Int,q.num=n:=⟨_,rfl⟩;obtain⟨d,hd⟩:∃d:Int,(q.den:Int)=d:=⟨_,rfl⟩;have hd0:d≠0:=by rw [<-hd];have:=q.den_nz;omega
 rw [hn,hd]at e;rw [hn]at n1;rw [hd]at d1;have hdr:(d:Rat)≠0:=by
  intro h;exact hd0 (by exact_mod_cast h)
 have m1:=Jm n n;have m2:=Jm d d;have m3:=qH (d*d) (-(n*n));have m4:=qH (d*d) (n*n);have m5:=Jm n d;have m6:=qH (n*d) (n*d);rw [yak]at m3;have hs:d*d+n*n≠0:=by
  have h1:0<d*d:=by
   rcases Int.lt_or_gt_of_ne hd0 with h | h
   .exact Int.mul_pos_of_neg_of_neg h h
   .exact Int.mul_pos h h
  have h2:0<=n*n:=by
   rcases Int.le_total 0 n with h | h
   .exact Int.mul_nonneg h h
   .exact Int.mul_nonneg_of_nonpos_of_nonpos h h
  omega
 have k0:(d:Rat)*(d:Rat)≠0:=λh=>by rcases Rat.mul_eq_zero.1 h with h | h <;> exact hdr h
 have eb:(d:Rat)*d*(1+q*q)=((d*d+n*n:Int):Rat):=by
  rw [Rat.intCast_add,Rat.intCast_mul,Rat.intCast_mul,<-e];grind
 refine⟨?_,?_⟩
 .rw [Xbx k0 (Uba q),eb];have ea:(d:Rat)*d*(1-q*q)=((d*d + -(n*n):Int):Rat):=by
   rw [Rat.intCast_add,Rat.intCast_neg,Rat.intCast_mul,Rat.intCast_mul,<-e];grind
  rw [ea,<-Rat.divInt_eq_div];exact Uy hs (by omega) (by omega)
 .rw [Xbx k0 (Uba q),eb];have ea:(d:Rat)*d*(q+q)=((n*d+n*d:Int):Rat):=by
   rw [Rat.intCast_add,Rat.intCast_mul,<-e];grind
  rw [ea,<-Rat.divInt_eq_div];exact Uy hs (by omega) (by omega)
theorem wbw{t:TnQ}(h:rz t.1<=2):rz (cosQ t)<=7/\rz (sinQ t)<=7:=by
 obtain⟨h1,h2⟩:=zbF h;have a:=Qaf;have b:=rz_0;refine⟨?_,?_⟩
 .unfold cosQ;split <;> omega
 .unfold sinQ;split <;> omega
theorem Xbk{p:PsQ}{m:V2}(h1:rz p.1.1<=2)(h2:zq p.2<=2)(h3:zq m<=2):zq (appQ p m)<=28:=by
 obtain⟨c,s⟩:=wbw h1;have a1:rz m.1<=2:=Nat.le_trans (Nat.le_max_left _ _) h3;have a2:rz m.2<=2:=Nat.le_trans (Nat.le_max_right _ _) h3;have b1:rz p.2.1<=2:=Nat.le_trans (Nat.le_max_left _ _) h2;have b2:rz p.2.2<=2:=Nat.le_trans (Nat.le_max_right _ _) h2;have m1:=Zb (cosQ p.1) m.1;have m2:=Zb (sinQ p.1) m.2;have m3:=Zb (sinQ p.1) m.1;have m4:=Zb (cosQ p.1) m.2;have s1:=Wl (cosQ p.1*m.1) (sinQ p.1*m.2);have s2:=Wi (sinQ p.1*m.1) (cosQ p.1*m.2);have u1:=Wi (cosQ p.1*m.1-sinQ p.1*m.2) p.2.1;have u2:=Wi (sinQ p.1*m.1+cosQ p.1*m.2) p.2.2;exact Nat.max_le.2 ⟨by show rz (cosQ p.1*m.1-sinQ p.1*m.2+p.2.1)<=_;omega,by show rz (sinQ p.1*m.1+cosQ p.1*m.2+p.2.2)<=_;omega⟩
theorem YaL{a:V2}(h:a≠(0,0)):0<sqQ a:=by
 have h1:=Zz a.1;have h2:=Zz a.2;have:sqQ a≠0:=λe=>h (sq_0 e);unfold sqQ at this ⊢;grind
theorem VbK{m d:V2}(h:sqQ d≠0):timQ d (-(m.1*d.1+m.2*d.2) / sqQ d) ((m.1*d.2-m.2*d.1) / sqQ d)=(-m.1,-m.2):=by
 have hs:sqQ d=d.1*d.1+d.2*d.2:=rfl;obtain⟨j,hj⟩:∃j,sqQ d*j=1:=⟨(sqQ d)⁻¹,Rat.mul_inv_cancel _ h⟩;have hv:∀x:Rat,x / sqQ d=x*j:=λx=>by
  have:(sqQ d)⁻¹=j:=by
   have h2:sqQ d*(sqQ d)⁻¹=1:=Rat.mul_inv_cancel _ h;have h3:sqQ d*((sqQ d)⁻¹-j)=0:=by grind
   have:=(Rat.mul_eq_zero.1 h3).resolve_left h;grind
  rw [Rat.div_def,this]
 unfold timQ;rw [hv,hv];rw [hs]at hj;refine Prod.ext ?_ ?_
 .simp only;have:d.1*(-(m.1*d.1+m.2*d.2)*j)-d.2*((m.1*d.2-m.2*d.1)*j) = -m.1*((d.1*d.1+d.2*d.2)*j):=by grind
  rw [this,hj];grind
 .simp only;have:d.2*(-(m.1*d.1+m.2*d.2)*j)+d.1*((m.1*d.2-m.2*d.1)*j) = -m.2*((d.1*d.1+d.2*d.2)*j):=by grind
  rw [this,hj];grind
theorem Ybt{m n:V2}(h:m≠n):sqQ (subQ n m)≠0:=λe=>h (Yay (sq_0 e)).symm
theorem Vbs(A B:List V2){m n:V2}(hmn:m≠n)(g:PsQ):ptQ (lnkQ A B m n) (appQ g m) (appQ g n)=g.2:=by
 unfold ptQ;have e:subQ (appQ g n) (appQ g m)=rotQ g.1 (subQ n m):=jaF g n m;rw [e,ubl];have h:=VbK (m:=m) (Ybt hmn);have e2:timQ (subQ n m) (lnkQ A B m n).2.2.2.2.2.1 (lnkQ A B m n).2.2.2.2.2.2=(-m.1,-m.2):=h;rw [e2];unfold appQ rotQ addQ;exact Prod.ext (by simp only;grind) (by simp only;grind)
theorem ubu(a b:V2):sqQ (subQ a b)=sqQ (subQ b a):=by unfold sqQ subQ;simp only;grind
theorem xbL(m n:V2)(g:PsQ):sqQ (subQ (appQ g m) (appQ g n))=sqQ (subQ n m):=by
 rw [jaF,Zby,ubu]
theorem Zbg{a b c:V2}(h:crV [a,b,c]≠0):sqQ (subQ b (ciV [a,b,c]))=sqQ (subQ a (ciV [a,b,c]))/\sqQ (subQ c (ciV [a,b,c]))=sqQ (subQ a (ciV [a,b,c])):=by
 have e:ciV [a,b,c]=ctrQ a (subQ b a) (subQ c a):=if_neg h;rw [e];exact Jbw (x:=a) (y:=b) (z:=c) h
theorem ua8{a b c:V2}(h:crV [a,b,c]≠0):0<sqQ (subQ a (ciV [a,b,c])):=by
 obtain⟨h1,h2⟩:=Zbg h;refine YaL λe=>h ?_;have z0:sqQ (subQ a (ciV [a,b,c]))=0:=by rw [e];decide +kernel
 rw [z0]at h1 h2;have e1:=Yay (sq_0 h1);have e2:=Yay (sq_0 h2);have e3:=Yay e;have f1:b=a:=e1.trans e3.symm;have f2:c=a:=e2.trans e3.symm;show crossQ (subQ b a) (subQ c a)=0;rw [f1,f2];unfold crossQ subQ;simp only;grind
theorem Xa4{a b c x y z m n:V2}(h1:crV [a,b,c]≠0)(h2:crV [x,y,z]≠0)(g:PsQ)(hg:appQ g m∈[a,b,c])(hg2:appQ g n∈[x,y,z]):hldQ (lnkQ [a,b,c] [x,y,z] m n) (appQ g m) (appQ g n):=by
 obtain⟨k1,k2⟩:=Zbg h1;obtain⟨k3,k4⟩:=Zbg h2;refine⟨?_,?_,xbL m n g⟩
 .show sqQ (subQ (appQ g m) (ciV [a,b,c]))=sqQ (subQ a (ciV [a,b,c]));simp only [List.mem_cons,List.not_mem_nil,or_false]at hg;rcases hg with e | e | e
  .rw [e]
  .rw [e];exact k1
  .rw [e];exact k2
 .show sqQ (subQ (appQ g n) (ciV [x,y,z]))=sqQ (subQ x (ciV [x,y,z]));simp only [List.mem_cons,List.not_mem_nil,or_false]at hg2;rcases hg2 with e | e | e
  .rw [e]
  .rw [e];exact k3
  .rw [e];exact k4
theorem ka1{X:CpR}(h1:0<X.2.2.1)(h2:0<X.2.2.2.1)(h3:0<X.2.2.2.2.1)(h4:X.1≠X.2.1):cchk (canC X)=0:=by
 have vv:∀a:V2,avld (rcan a.1,rcan a.2)=true:=λa=>by show(vldR (rcan _) && vldR (rcan _))=true;rw [Qf,Qf];rfl
 have a1:avld (canC X).1=true:=vv X.1;have a2:avld (canC X).2.1=true:=vv X.2.1;have a3:(cps5 (canC X)).all vldR=true:=by simp [cps5,canC,Qf]
 have a4:(cps3 (canC X)).all gt0R=true:=by simp [cps3,canC,gt0R,Wb,h1,h2,h3]
 have a5:av (canC X).1≠av (canC X).2.1:=by
  have e1:av (canC X).1=X.1:=Ja4 X.1;have e2:av (canC X).2.1=X.2.1:=Ja4 X.2.1;rw [e1,e2];exact h4
 unfold cchk;rw [if_neg (by simp [a1,a2]),if_neg (by simp [a3]),if_neg (by simp [a4]),if_neg a5]
theorem Wa9{A B:List V2}{m n:V2}(h:lnkC A B m n=0):m≠n/\crV A≠0/\crV B≠0/\ciV A≠ciV B:=by
 unfold lnkC at h;by_cases h1:m=n
 .rw [if_pos h1]at h;contradiction
 rw [if_neg h1]at h;by_cases h2:crV A=0
 .rw [if_pos h2]at h;contradiction
 rw [if_neg h2]at h;by_cases h3:crV B=0
 .rw [if_pos h3]at h;contradiction
 rw [if_neg h3]at h;by_cases h4:ciV A=ciV B
 .rw [if_pos h4]at h;contradiction
 exact⟨h1,h2,h3,h4⟩
theorem ybd{a b c x y z m n:V2}(h:lnkC [a,b,c] [x,y,z] m n=0):cchk (canC (lnkQ [a,b,c] [x,y,z] m n))=0:=by
 obtain⟨h1,h2,h3,h4⟩:=Wa9 h;refine ka1 (ua8 h2) ?_ (ua8 h3) h4;exact YaL λe=>h1 (Yay e).symm
theorem rz_U{m n:V2}(h1:zq m<=2)(h2:zq n<=2):rz (-(m.1*(subQ n m).1+m.2*(subQ n m).2) / sqQ (subQ n m))<=200/\rz ((m.1*(subQ n m).2-m.2*(subQ n m).1) / sqQ (subQ n m))<=200:=by
 have d:=Qs n m;obtain⟨D,hD⟩:∃D,subQ n m=D:=⟨_,rfl⟩;rw [hD]at d ⊢;have a1:rz m.1<=2:=Nat.le_trans (Nat.le_max_left _ _) h1;have a2:rz m.2<=2:=Nat.le_trans (Nat.le_max_right _ _) h1;have b1:rz D.1<=zq D:=Nat.le_max_left _ _;have b2:rz D.2<=zq D:=Nat.le_max_right _ _;have s:=vA D;have m1:=Zb m.1 D.1;have m2:=Zb m.2 D.2;have m3:=Zb m.1 D.2;have m4:=Zb m.2 D.1;have s1:=Wi (m.1*D.1) (m.2*D.2);have s2:=Wl (m.1*D.2) (m.2*D.1);have n1:=vB (m.1*D.1+m.2*D.2);have q1:=uG (-(m.1*D.1+m.2*D.2)) (sqQ D);have q2:=uG (m.1*D.2-m.2*D.1) (sqQ D);exact⟨by omega,by omega⟩
theorem jbe{a b c x y z m n:V2}(ha:zq a<=28)(hb:zq b<=28)(hc:zq c<=28)(hx:zq x<=28)(hy:zq y<=28)(hz:zq z<=28)(hm:zq m<=2)(hn:zq n<=2):cl (canC (lnkQ [a,b,c] [x,y,z] m n))<=4000:=by
 have c1:=VJ (A:=[a,b,c]) (c:=28) ha hb hc;have c2:=VJ (A:=[x,y,z]) (c:=28) hx hy hz;have s1:=Qs a (ciV [a,b,c]);have s2:=Qs x (ciV [x,y,z]);have t1:=vA (subQ a (ciV [a,b,c]));have t2:=vA (subQ x (ciV [x,y,z]));have u:=Qs n m;have v:=vA (subQ n m);obtain⟨r1,r2⟩:=rz_U hm hn;rw [xa9];simp only [Nat.max_le];exact⟨by show zq (ciV [a,b,c])<=_;omega,by show zq (ciV [x,y,z])<=_;omega,by show rz (sqQ (subQ a (ciV [a,b,c])))<=_;omega,by show rz (sqQ (subQ n m))<=_;omega,by show rz (sqQ (subQ x (ciV [x,y,z])))<=_;omega,Nat.le_trans r1 (by decide),Nat.le_trans r2 (by decide)⟩
end Go.Num
end
section
namespace Go.Num
open Go.Abs
theorem kaW{c:Cp}{l:List Arc}(hc:cchk c=0)(h:l.all avld=true):cchk2 c l=0:=by
 unfold cchk2;rw [if_neg (by omega),if_neg (by simp [h])]
theorem Ya3(X:CpR):WLC (canC X):=⟨ky _,ky _,Xb _,Xb _,Xb _,Xb _,Xb _⟩
theorem jbJ(a:V2):avld (rcan a.1,rcan a.2)=true:=by show(vldR (rcan _) && vldR (rcan _))=true;rw [Qf,Qf];rfl
theorem Xbu{p:Ps}(hw:WLP p){b:Nat}(h:pl p<=b):rz (pv p).1.1<=b/\zq (pv p).2<=b:=
 ⟨Nat.le_trans (Wd hw.1) (Nat.le_trans (Nat.le_max_left _ _) h),Nat.le_trans (Vq hw.2) (Nat.le_trans (Nat.le_max_right _ _) h)⟩
theorem ubL{l:List Ps}{m n:Arc}(h:lkC l m n=0):chkC l [m,n]=0/\lnkC (imgs l m) (imgs l n) (av m) (av n)=0:=by
 unfold lkC at h;split at h
 .rename_i h1;exact absurd h h1
 .rename_i h1;exact⟨by omega,h⟩
theorem Qbe{l:List Ps}{m n:Arc}(h:chkC l [m,n]=0):l.all pvld=true/\avld m=true/\avld n=true:=by
 unfold chkC at h;by_cases h1:threeC l=0
 .rw [if_neg (by omega)]at h
  unfold placeC at h;split at h
  .rename_i h2;simp only [List.all_cons,List.all_nil,Bool.and_true,Bool.and_eq_true]at h2;refine⟨?_,h2.1,h2.2⟩;unfold threeC at h1;split at h1
   .rename_i h3;exact absurd h1 h3
   .rename_i h3;have h4:plchk l=0:=by omega
    unfold plchk at h4;split at h4
    .contradiction
    .split at h4
     .contradiction
     .split at h4
      .rename_i h5;exact h5
      .contradiction
  .contradiction
 .rw [if_pos h1]at h;exact absurd h h1
end Go.Num
namespace Go.Abs
open Go.Num
variable {P:Program} {Γ:Nat->Spec}
theorem xbz(c:Cp):cpA c=.agg (cpC c):=eq_of_heq (HEq.refl _)
theorem ka8(k:Cp->Prop)(c:Cp):onCp k (.agg (cpC c))=(WLC c/\k c):=zo xaN (λc=>WLC c/\k c) c
theorem xae(c:Cp):(cpC c).length=27:=eq_of_heq (HEq.refl _)
theorem Yaq(c:Cp):(cpC c).take 27=cpC c:=List.take_of_length_le (Nat.le_of_eq (xae c))
theorem wan(c:Cp):(cpC c).drop 0=cpC c:=eq_of_heq (HEq.refl _)
theorem waJ(h:Nat->HB)(c:Cp):(cpC c).map (datC h)=cpC c:=eq_of_heq (HEq.refl _)
theorem WaP(c:Cp):(cpC c).flatMap ownC=[]:=eq_of_heq (HEq.refl _)
attribute [go_sem,go_sem ↓] xbz ka8 xae Yaq wan waJ WaP
theorem wa9{h h' : Nat->HB}{z:Nat}{b:Bool}{c:Cp}:okB h h' (some ⟨[cpC c],z,b⟩) (some ⟨[cpC c],z,b⟩):=
 ⟨⟨rfl,rfl⟩,.inl ⟨rfl,λe he x hx=>by
  rw [List.mem_singleton.1 he]at hx;simp only [cpC,List.mem_cons,List.not_mem_nil,or_false]at hx;rcases hx with rfl | rfl | rfl | rfl | rfl | rfl | rfl | rfl | rfl | rfl | rfl | rfl | rfl | rfl | rfl | rfl | rfl | rfl | rfl | rfl | rfl | rfl | rfl | rfl | rfl | rfl | rfl
  all_goals first | exact of_eq_true (Uh _) | exact of_eq_true (ji _) | exact of_eq_true (vi _)⟩⟩
def Xk(l:List AV)(K:AV->Prop):Prop:=
 match l with
 | [a,b,c]=>onP3 (λt=>onA (λm=>onA (λn=>okPs 1048576 (l3 t)/\al m<=1048576/\al n<=1048576/\K (.one (.lit (.bool true)))) c) b) a
 | _=>False
theorem qR(a b c:AV)(K:AV->Prop):Xk [a,b,c] K=(onP3 (λt=>onA (λm=>onA (λn=>okPs 1048576 (l3 t)/\al m<=1048576/\al n<=1048576/\K (.one (.lit (.bool true)))) c) b) a):=propext Iff.rfl
@[congr] theorem xbn {K:AV->Prop} {l l' : List AV} (h:l=l'):Xk l K=Xk l' K:=by subst h;rfl
attribute [go_sem,go_sem ↓] qR
theorem W4:Good Xk:=Va λas=>by
 unfold Xk;split
 .exact(ybs λ_=>(Jl λ_=>(Jl λ_=>(.and λ_=>(.and λ_=>(.and λ_=>(.ret _)))))))
 .exact .of λK hk=>hk.elim
def jb(f0 f1 f2 f3 f4 f5 f6 f7 f8 f9:Nat):AC:=(.seq (.ops false [.u 3 (.box 30 (.t 0)),.u 4 (.box 6 (.t 1)),.u 5 (.box 6 (.t 2)),.m 6 .fa])
 (.fg [3,4,5] (.fz [3] (.seq (.seq (.ops false [.u 21 (.call f0 []),.u 22 (.un .not (.t 21)),.m 23 (.t 22),.w 24 23 false (.rsl 10 3 (.t 3)),.w 25 23 false (.call f1 [(.t 24)]),.w 26 23 false (.un .not (.t 25)),.u 27 (.pick (.t 23) .tr (.t 26)),.m 28 (.t 27),.w 29 28 false (.ld none 6 true (.t 4)),.w 30 28 false (.ld none 6 true (.t 5)),.w 31 28 false (.row 6 [[.x 6 (.t 29)],[.x 6 (.t 30)]]),.w 32 28 false (.call f2 [(.t 31)]),.w 33 28 false (.un .not (.t 32)),.u 34 (.pick (.t 28) .tr (.t 33))])
 (.fg [3,4,5,34] (.cond (.t 34) (.seq (.ops false [.u 35 (.call f0 []),.m 6 (.t 35)])
 .ret) .skip)))
 (.fg [3,4,5] (.seq (.ops true [.u 37 (.rsl 10 3 (.t 3)),.u 38 (.ld none 6 true (.t 4)),.u 39 (.ld none 6 true (.t 5)),.u 40 (.call f3 [(.t 37),(.t 38),(.t 39)]),.m 36 (.t 40),.u 41 (.ext 0 (.t 36)),.u 42 (.ext 1 (.t 36)),.u 7 (.alloc [(.lit (.bool false)),.emp,.emp,(.lit (.bool false)),.emp,.emp,(.lit (.bool false)),.emp,.emp,(.lit (.bool false)),.emp,.emp,(.lit (.bool false)),.emp,.emp,(.lit (.bool false)),.emp,.emp,(.lit (.bool false)),.emp,.emp,(.lit (.bool false)),.emp,.emp,(.lit (.bool false)),.emp,.emp]),.n (.st none 27 (.t 7) (.t 41)),.m 8 (.t 42)])
 (.fg [3,4,5,7,8] (.seq (.seq (.ops false [.m 43 (.t 8),.u 44 (.binn .neq (.t 43) (.c (.one (.lit .nilIface))))])
 (.fg [3,4,5,7,44] (.cond (.t 44) (.seq (.ops false [.u 45 (.ld none 27 true (.t 7)),.u 46 (.build [.z [(.lit (.bool false)),.emp,.emp,(.lit (.bool false)),.emp,.emp,(.lit (.bool false)),.emp,.emp,(.lit (.bool false)),.emp,.emp,(.lit (.bool false)),.emp,.emp,(.lit (.bool false)),.emp,.emp,(.lit (.bool false)),.emp,.emp,(.lit (.bool false)),.emp,.emp,(.lit (.bool false)),.emp,.emp]]),.u 47 (.call f4 [(.t 45),(.t 46)]),.m 6 (.t 47)])
 .ret) .skip)))
 (.fg [3,4,5,7] (.seq (.seq (.ops false [.u 48 (.ld none 30 true (.t 3)),.m 49 (.i 0)])
 (.fg [4,5,7,48,49] (.block 0 (.loop (.seq (.ops false [.u 50 (.bin .lss (.t 49) (.i 3))])
 (.fg [4,5,7,48,49,50] (.seq (.cond (.t 50) .skip (.exit 0))
 (.fg [4,5,7,48,49] (.seq (.block 1 (.seq (.ops false [.u 51 (.aix 10 true 3 (.t 48) (.t 49)),.u 10 (.alloc [(.lit (.bool false)),.emp,.emp,(.lit (.bool false)),(.lit (.bool false)),.emp,.emp,(.lit (.bool false)),.emp,.emp]),.n (.st none 10 (.t 10) (.t 51))])
 (.fg [4,5,7,10,48,49] (.seq (.ops false [.u 53 (.ld none 10 true (.t 10)),.u 54 (.ld none 6 true (.t 4)),.u 55 (.call f5 [(.t 53),(.t 54)]),.m 52 (.t 55),.u 56 (.ext 0 (.t 52)),.u 57 (.ext 1 (.t 52)),.u 11 (.alloc [(.lit (.bool false)),.emp,.emp,(.lit (.bool false)),.emp,.emp]),.n (.st none 6 (.t 11) (.t 56)),.m 12 (.t 57)])
 (.fg [4,5,7,10,11,12,48,49] (.seq (.ops false [.u 59 (.ld none 10 true (.t 10)),.u 60 (.ld none 6 true (.t 5)),.u 61 (.call f5 [(.t 59),(.t 60)]),.m 58 (.t 61),.u 62 (.ext 0 (.t 58)),.u 63 (.ext 1 (.t 58)),.u 13 (.alloc [(.lit (.bool false)),.emp,.emp,(.lit (.bool false)),.emp,.emp]),.n (.st none 6 (.t 13) (.t 62)),.m 14 (.t 63)])
 (.fg [4,5,7,10,11,12,13,14,48,49] (.seq (.ops false [.u 65 (.ld none 27 true (.t 7)),.u 66 (.ld none 6 true (.t 11)),.u 67 (.ld none 6 true (.t 13)),.u 68 (.call f6 [(.t 65),(.t 66),(.t 67)]),.m 64 (.t 68),.u 69 (.ext 0 (.t 64)),.u 70 (.ext 1 (.t 64)),.m 15 (.t 69),.m 16 (.t 70)])
 (.fg [4,5,7,10,11,12,13,14,15,16,48,49] (.seq (.ops false [.u 72 (.ld none 27 true (.t 7)),.u 73 (.ld none 6 true (.t 11)),.u 74 (.ld none 6 true (.t 13)),.u 75 (.call f7 [(.t 72),(.t 73),(.t 74)]),.m 71 (.t 75),.u 76 (.ext 0 (.t 71)),.u 77 (.ext 1 (.t 71)),.u 17 (.alloc [(.lit (.bool false)),.emp,.emp,(.lit (.bool false)),.emp,.emp]),.n (.st none 6 (.t 17) (.t 76)),.m 18 (.t 77)])
 (.fg [4,5,7,10,12,14,15,16,17,18,48,49] (.seq (.ops false [.u 79 (.ld none 27 true (.t 7)),.u 80 (.fa 4 (.t 10)),.u 81 (.ld none 6 true (.t 80)),.u 82 (.call f8 [(.t 79),(.t 81)]),.m 78 (.t 82),.u 83 (.ext 0 (.t 78)),.u 84 (.ext 1 (.t 78)),.m 19 (.t 83),.m 20 (.t 84)])
 (.fg [4,5,7,10,12,14,15,16,17,18,19,20,48,49] (.seq (.ops false [.m 85 (.t 12),.u 86 (.binn .neq (.t 85) (.c (.one (.lit .nilIface)))),.m 87 (.t 86),.w 88 87 false (.mv (.t 14)),.w 89 87 false (.binn .neq (.t 88) (.c (.one (.lit .nilIface)))),.u 90 (.pick (.t 87) .tr (.t 89)),.m 91 (.t 90),.w 92 91 false (.mv (.t 16)),.w 93 91 false (.binn .neq (.t 92) (.c (.one (.lit .nilIface)))),.u 94 (.pick (.t 91) .tr (.t 93)),.m 95 (.t 94),.w 96 95 false (.mv (.t 18)),.w 97 95 false (.binn .neq (.t 96) (.c (.one (.lit .nilIface)))),.u 98 (.pick (.t 95) .tr (.t 97)),.m 99 (.t 98),.w 100 99 false (.mv (.t 20)),.w 101 99 false (.binn .neq (.t 100) (.c (.one (.lit .nilIface)))),.u 102 (.pick (.t 99) .tr (.t 101)),.m 103 (.t 102),.w 104 103 false (.mv (.t 15)),.w 105 103 false (.un .not (.t 104)),.u 106 (.pick (.t 103) .tr (.t 105)),.m 107 (.t 106),.w 108 107 false (.mv (.t 19)),.w 109 107 false (.un .not (.t 108)),.u 110 (.pick (.t 107) .tr (.t 109)),.m 111 (.t 110),.w 112 111 false (.ld none 6 true (.t 17)),.w 113 111 false (.fa 4 (.t 10)),.w 114 111 false (.ld none 6 true (.t 113)),.w 115 111 false (.call f9 [(.t 112),(.t 114)]),.w 116 111 false (.un .not (.t 115)),.u 117 (.pick (.t 111) .tr (.t 116))])
 (.fg [4,5,7,48,49,117] (.cond (.t 117) (.seq (.ops false [.m 6 .fa])
 .ret) .skip))))))))))))))))
 (.fg [4,5,7,48,49] (.ops false [.u 118 (.bin .add (.t 49) (.i 1)),.m 49 (.t 118)])))))))))))
 (.fg [] (.seq (.ops false [.m 6 .tr])
 .ret))))))))))))
set_option maxHeartbeats 4000000 in
theorem US(hΓ:Holds P Γ){f fw fs fa fl fq fy fh ft fo fm tE:Nat}(hw:Γ fw=.dat true Yu)(hs:Γ fs=.dat true Wq)(ha:Γ fa=.dat true kp)(hl:Γ fl=.dat false (Uw tE))(hq:Γ fq=.dat true yq)(hy:Γ fy=.dat false (UA tE))(hh:Γ fh=.dat false (yD tE))(ht:Γ ft=.dat false (XD tE))(ho:Γ fo=.dat false (UE tE))(hm:Γ fm=.dat true ut)(hc:check P f=some (119,(jb fw fs fa fl fq fy fh ft fo fm).strip,[.tmp 6])):Sound P f (.dat true Xk):=by
 refine va hc W4 hΓ (λargs K hcl hfi hG=>?_);match args,hG with
 | [a,b,c],hG=>
  obtain⟨t,rfl,hwt,m,rfl,hwm,n,rfl,hwn,hok,hlm,hln,hK⟩:=hG;refine⟨by simp,?_⟩
  have hwl:=kbE hwt;have ok1:=Qm hok (by decide:1048576<=4294967296)
  have om1:okAs 4294967296 [m,n]:=λz hz=>by
   simp only [List.mem_cons,List.not_mem_nil,or_false]at hz;rcases hz with rfl | rfl
   .exact⟨hwm,by omega⟩
   .exact⟨hwn,by omega⟩
  have hl3:(l3 t).length=3:=rfl;cases hsl:(decide ((l3 t).length<=20) && (l3 t).all sP) with
  | false=>
   simp only [go_sem,jb,hw,hs,ha,hsl,Zd,vb];repeat (first | (refine And.intro (by omega) ?_) | (refine And.intro (by assumption) ?_) | (refine And.intro rfl ?_) | (refine And.intro ⟨rfl,by omega⟩ ?_) | (refine And.intro ⟨rfl,by omega,by omega⟩ ?_) | (intro _))
   exact hK
  | true=>
  cases hsm:List.all [m,n] sA with
  | false=>
   simp only [go_sem,jb,hw,hs,ha,hsl,Zd,vb,hsm];repeat (first | (refine And.intro (by omega) ?_) | (refine And.intro (by assumption) ?_) | (refine And.intro rfl ?_) | (refine And.intro ⟨rfl,by omega⟩ ?_) | (refine And.intro ⟨rfl,by omega,by omega⟩ ?_) | (intro _))
   exact hK
  | true=>
  have hsl2:=hsl;simp only [Bool.and_eq_true,decide_eq_true_eq]at hsl2;have hsm2:=hsm;simp only [List.all_cons,List.all_nil,Bool.and_true,Bool.and_eq_true]at hsm2;have o2l:=ja6 hwl hsl2.2;have o2m:=Qau hsm2.1;have o2n:=Qau hsm2.2;have ok2:=Qm o2l (by decide:2<=1000)
  have om2:al m<=10000:=by omega
  have on2:al n<=10000:=by omega
  have e0:=Ua tE;by_cases hk:lkC (l3 t) m n=0
  case neg=>
   have e1:=wb tE hk;have wz:WLC (canC c0):=⟨ky _,ky _,Xb _,Xb _,Xb _,Xb _,Xb _⟩;have lz:cl (canC c0)<=4294967296:=by
    rw [xa9];unfold c0 zq;simp only [rz_0];decide
   obtain⟨Z,hZ⟩:∃Z,canC c0=Z:=⟨_,rfl⟩;have nZ:cqA c0=cpA Z:=by rw [<-hZ];rfl
   rw [hZ]at wz lz;have hzz:((rcan 0,rcan 0),(rcan 0,rcan 0),rcan 0,rcan 0,rcan 0,rcan 0,rcan 0)=Z:=hZ;have dd:∀x:Cp,decide (x=x)=true:=λx=>decide_eq_true rfl;simp only [go_sem,jb,hw,hs,ha,hl,hq,hsl,Zd,vb,hsm,if_neg hk,e1,nZ,hzz,dd];repeat (first | (refine And.intro (by omega) ?_) | (refine And.intro (by assumption) ?_) | (refine And.intro rfl ?_) | (refine And.intro ⟨rfl,by omega⟩ ?_) | (refine And.intro ⟨rfl,by omega,by omega⟩ ?_) | (intro _))
   exact hK
  obtain⟨hc0,hlc⟩:=ubL hk;obtain⟨hav,hvm,hvn⟩:=Qbe hc0;obtain⟨C0,hC0⟩:∃C,lnkQ (imgs (l3 t) m) (imgs (l3 t) n) (av m) (av n)=C:=⟨_,rfl⟩;have qm:zq (av m)<=2:=Nat.le_trans (Vq hwm) o2m;have qn:zq (av n)<=2:=Nat.le_trans (Vq hwn) o2n;have img28:∀p∈l3 t,∀x:V2,zq x<=2->zq (appQ (pv p) x)<=28:=λp hp x hx=>by
   obtain⟨hp1,hp2⟩:=o2l p hp;obtain⟨y1,y2⟩:=Xbu hp1 hp2;exact Xbk y1 y2 hx
  have m1:t.1∈l3 t:=by simp [l3]
  have m2:t.2.1∈l3 t:=by simp [l3]
  have m3:t.2.2∈l3 t:=by simp [l3]
  have eA:imgs (l3 t) m=[appQ (pv t.1) (av m),appQ (pv t.2.1) (av m),appQ (pv t.2.2) (av m)]:=rfl;have eB:imgs (l3 t) n=[appQ (pv t.1) (av n),appQ (pv t.2.1) (av n),appQ (pv t.2.2) (av n)]:=rfl;rw [eA,eB]at hlc hC0;have hcl4:=jbe (img28 _ m1 _ qm) (img28 _ m2 _ qm) (img28 _ m3 _ qm) (img28 _ m1 _ qn) (img28 _ m2 _ qn) (img28 _ m3 _ qn) qm qn;have hch:=ybd hlc;obtain⟨hmn,hcA,hcB,hcc⟩:=Wa9 hlc;have hpt:=Vbs [appQ (pv t.1) (av m),appQ (pv t.2.1) (av m),appQ (pv t.2.2) (av m)] [appQ (pv t.1) (av n),appQ (pv t.2.1) (av n),appQ (pv t.2.2) (av n)] hmn;have hho:=λ(p:Ps) (hp:p∈l3 t)=>Xa4 (m:=av m) (n:=av n) hcA hcB (pv p) (by
   simp only [l3,List.mem_cons,List.not_mem_nil,or_false]at hp;rcases hp with rfl | rfl | rfl <;> simp) (by
   simp only [l3,List.mem_cons,List.not_mem_nil,or_false]at hp;rcases hp with rfl | rfl | rfl <;> simp)
  rw [hC0]at hcl4 hch hpt;rw [hC0]at hho;have wC:=Ya3 C0;have vC:=kbk C0;obtain⟨c,hc'⟩:∃c,canC C0=c:=⟨_,rfl⟩;have nC:cqA C0=cpA c:=by rw [<-hc'];rfl
  rw [hc']at hcl4 hch wC vC;have hcl5:=Nat.le_trans hcl4 (by decide:_<=10000)
  have hcl6:=Nat.le_trans hcl4 (by decide:_<=100000000)
  have hcq:cqC (lnkQ (imgs (l3 t) m) (imgs (l3 t) n) (av m) (av n))=cpC c:=by rw [eA,eB,hC0,<-hc'];rfl
  simp only [go_sem,jb,hw,hs,ha,hl,hsl,Zd,vb,hsm,hk,hcq,e0];repeat (first | (refine And.intro (by omega) ?_) | (refine And.intro (by assumption) ?_) | (refine And.intro rfl ?_) | (refine And.intro ⟨rfl,by omega⟩ ?_) | (refine And.intro ⟨rfl,by omega,by omega⟩ ?_) | (intro _))
  rw [hcq];have g0:decide (0=0)=true:=rfl;have dA:∀x:Arc,decide (x=x)=true:=λx=>decide_eq_true rfl;refine wa (λk:Nat=>⟨mkV [(4,.one (.ptr 4 1 0 0)),(5,.one (.ptr 5 1 0 0)),(7,.one (.ptr 7 1 0 0)),(48,.agg (p3C t)),(49,.one (.lit (.int .i64 k)))],mkH [(7,⟨1,some ⟨[cpC c],27,true⟩⟩),(5,⟨1,some ⟨[aC n],6,true⟩⟩),(4,⟨1,some ⟨[aC m],6,true⟩⟩)]⟩) (λk=>k<=3) (λk=>3-k) 0 ?_ ?_ ?_
  .exact Qa (by simp [okS,okV,okC,okL,okH,okB,okE,Za,ja,za,Ja,wsA,ws];exact .inl (XH t)) ⟨wa9,VR (l':=[n]) rfl,VR (l':=[m]) rfl,trivial⟩
  .exact Nat.zero_le _
  .intro k hk3;by_cases hlt:k<3
   .obtain⟨p,hpp⟩:∃p,(l3 t).getD k p0=p:=⟨_,rfl⟩;have hp0:=xf (by rw [hl3];exact hlt) hpp
    have hpm:=List.mem_of_getElem? hp0;obtain⟨wp,lp⟩:=o2l p hpm;have hlt' : ((k:Nat):Int)<3:=by omega
    have ek:((p3C t).drop (k*10)).take 10=pC p:=by rw [JbH t k hlt,hpp]
    have el:10<=30-k*10:=by omega
    have hvp:pvld p=true:=List.all_eq_true.1 hav p hpm;have ka:aok p m=true:=by unfold aok;rw [hvp,hvm];rfl
    have kb:aok p n=true:=by unfold aok;rw [hvp,hvn];rfl
    have hho1:=hho p hpm;have hpt1:=hpt (pv p);obtain⟨ql,q2⟩:=Xbu wp lp;have zA:=img28 p hpm _ qm;have zB:=img28 p hpm _ qn;obtain⟨A,hA⟩:∃A,appQ (pv p) (av m)=A:=⟨_,rfl⟩;obtain⟨B,hB⟩:∃B,appQ (pv p) (av n)=B:=⟨_,rfl⟩;rw [hA,hB]at hho1 hpt1;rw [hA]at zA;rw [hB]at zB;have wA:WLA (rcan A.1,rcan A.2):=ky A;have wB:WLA (rcan B.1,rcan B.2):=ky B;have lA:al (rcan A.1,rcan A.2)<=10000:=Nat.le_trans zA (by decide)
    have lB:al (rcan B.1,rcan B.2)<=10000:=Nat.le_trans zB (by decide)
    have k2:cchk2 c [(rcan A.1,rcan A.2),(rcan B.1,rcan B.2)]=0:=kaW hch (by simp [jbJ])
    have vat:avld p.2=true:=by
     unfold pvld at hvp;simp only [Bool.and_eq_true]at hvp;exact hvp.2
    have k1:cchk2 c [p.2]=0:=kaW hch (by simp [vat])
    have d1:=decide_eq_true hho1;have wv0:wV C0 (av p.2)=0:=by
     have e:=(qbJ hho1).1;rw [hpt1]at e;exact e
    have d2:=decide_eq_true wv0;have pat:(pv p).2=av p.2:=rfl;have cat:(rcan (av p.2).1,rcan (av p.2).2)=p.2:=Uby wp.2 vat;have lp6:pl p<=1000000:=by omega
    have om6:al m<=1000000:=by omega
    have on6:al n<=1000000:=by omega
    have lat:al p.2<=10000:=Nat.le_trans (Nat.le_max_right _ _) (Nat.le_trans lp (by decide))
    have lat2:al p.2<=4294967296:=Nat.le_trans lat (by decide)
    have wat:=wp.2;simp only [go_sem,hlt',hy,hh,ht,ho,hm,ek,Y3,Zd,vb,List.length_drop,ka,kb,hA,hB,k2,k1,vC,d1,hpt1,d2,pat,cat,e0,g0,Bool.true_and,dA,Ja4];repeat (first | (refine And.intro (by omega) ?_) | (refine And.intro (by assumption) ?_) | (refine And.intro rfl ?_) | (refine And.intro ⟨rfl,by omega⟩ ?_) | (refine And.intro ⟨rfl,by omega,by omega⟩ ?_) | (intro _))
    exact⟨k+1,Qa (by simp [okS,okV,okC,okL,okH,okB,okE,Za,ja,za,Ja,wsA,ws];exact .inl (XH t)) ⟨wa9,VR (l':=[n]) rfl,VR (l':=[m]) rfl,trivial⟩,by omega,by omega⟩
   .have hlt' : ¬((k:Nat):Int)<3:=by omega
    simp only [go_sem,hlt'];exact hK
end Go.Abs
end
section
namespace Go.Abs
open Go.Num
variable {P:Program} {Γ:Nat->Spec}
def Qd:AC:=(.seq (.ops false [.m 2 (.c (.one .emp))])
 (.fg [0] (.seq (.ops false [.m 4 (.c (.one .emp)),.m 5 (.t 0),.u 6 (.app0 1 (.t 4) (.t 5)),.m 3 (.t 6)])
 (.fg [3] (.seq (.block 0 (.loop (.seq (.seq (.ops false [.m 7 (.t 3),.u 8 (.len (.t 7)),.u 9 (.bin .gtr (.t 8) (.i 0)),.m 10 (.t 9),.w 11 10 true (.mv (.t 3)),.w 12 10 true (.mv (.t 3)),.w 13 10 true (.len (.t 12)),.w 14 10 true (.bin .sub (.t 13) (.i 1)),.w 15 10 true (.idx 1 (.t 11) (.t 14)),.w 16 10 true (.ld none 1 false (.t 15)),.w 17 10 true (.bin .eql (.t 16) (.c (.one (.lit (.int .u32 0))))),.u 18 (.pick (.t 10) (.t 17) .fa)])
 (.fg [3,18] (.cond (.t 18) .skip (.exit 0))))
 (.fg [3] (.block 1 (.ops false [.m 19 (.t 3),.m 20 (.t 3),.u 21 (.len (.t 20)),.u 22 (.bin .sub (.t 21) (.i 1)),.u 23 (.sl 1 (.t 19) none (some (.t 22))),.m 3 (.t 23)]))))))
 (.fg [3] (.seq (.ops false [.m 24 (.t 3),.m 2 (.t 24)])
 .ret)))))))
def Wh(f0 f1:Nat):AC:=(.seq (.ops false [.m 4 (.c (.one .emp))])
 (.fg [0,1] (.seq (.ops false [.m 5 (.c (.one .emp))])
 (.fg [0,1,5] (.seq (.ops false [.m 6 (.c (.one (.lit (.int .u64 0))))])
 (.fg [0,1,5,6] (.seq (.seq (.ops false [.m 9 (.t 0),.u 10 (.len (.t 9)),.m 11 (.t 1),.u 12 (.len (.t 11)),.u 13 (.max [(.t 10),(.t 12)]),.u 14 (.bin .add (.t 13) (.i 1)),.m 15 (.i 0)])
 (.fg [0,1,5,6,14,15] (.block 0 (.loop (.seq (.ops false [.u 16 (.bin .lss (.t 15) (.t 14))])
 (.fg [0,1,5,6,14,15,16] (.seq (.cond (.t 16) .skip (.exit 0))
 (.fg [0,1,5,6,14,15] (.seq (.block 1 (.seq (.ops false [.m 17 (.t 15),.m 7 (.t 17)])
 (.fg [0,1,5,6,7,14,15] (.seq (.ops false [.m 18 (.t 0),.m 19 (.t 7),.u 20 (.call f0 [(.t 18),(.t 19)]),.m 21 (.t 1),.m 22 (.t 7),.u 23 (.call f0 [(.t 21),(.t 22)]),.u 24 (.bin .add (.t 20) (.t 23)),.m 25 (.t 6),.u 26 (.bin .add (.t 24) (.t 25)),.m 8 (.t 26)])
 (.fg [0,1,5,8,14,15] (.ops false [.m 27 (.t 5),.m 28 (.t 8),.u 29 (.conv .u32 (.t 28)),.u 30 (.row 1 [[.x 1 (.t 29)]]),.u 31 (.app 1 (.t 27) (.t 30)),.m 32 (.t 8),.u 33 (.bin .shr (.t 32) (.c (.one (.lit (.int .u64 32))))),.m 5 (.t 31),.m 6 (.t 33)]))))))
 (.fg [0,1,5,6,14,15] (.ops false [.u 34 (.bin .add (.t 15) (.i 1)),.m 15 (.t 34)])))))))))))
 (.fg [5] (.seq (.ops false [.m 35 (.t 5),.u 36 (.callf f1 [(.t 35)]),.m 4 (.t 36)])
 .ret)))))))))
def kg(f0 f1:Nat):AC:=(.seq (.ops false [.m 4 (.c (.one .emp))])
 (.fg [0,1] (.seq (.ops false [.m 5 (.c (.one .emp))])
 (.fg [0,1,5] (.seq (.ops false [.m 6 (.c (.one (.lit (.int .u64 0))))])
 (.fg [0,1,5,6] (.seq (.seq (.ops false [.m 9 (.t 0),.u 10 (.len (.t 9)),.m 11 (.i 0)])
 (.fg [0,1,5,6,10,11] (.block 0 (.loop (.seq (.ops false [.u 12 (.bin .lss (.t 11) (.t 10))])
 (.fg [0,1,5,6,10,11,12] (.seq (.cond (.t 12) .skip (.exit 0))
 (.fg [0,1,5,6,10,11] (.seq (.block 1 (.seq (.ops false [.m 13 (.t 11),.m 7 (.t 13)])
 (.fg [0,1,5,6,7,10,11] (.seq (.ops false [.m 14 (.t 0),.m 15 (.t 7),.u 16 (.call f0 [(.t 14),(.t 15)]),.u 17 (.bin .add (.c (.one (.lit (.int .u64 4294967296)))) (.t 16)),.m 18 (.t 1),.m 19 (.t 7),.u 20 (.call f0 [(.t 18),(.t 19)]),.u 21 (.bin .sub (.t 17) (.t 20)),.m 22 (.t 6),.u 23 (.bin .sub (.t 21) (.t 22)),.m 8 (.t 23)])
 (.fg [0,1,5,8,10,11] (.ops false [.m 24 (.t 5),.m 25 (.t 8),.u 26 (.conv .u32 (.t 25)),.u 27 (.row 1 [[.x 1 (.t 26)]]),.u 28 (.app 1 (.t 24) (.t 27)),.m 29 (.t 8),.u 30 (.bin .shr (.t 29) (.c (.one (.lit (.int .u64 32))))),.u 31 (.bin .sub (.c (.one (.lit (.int .u64 1)))) (.t 30)),.m 5 (.t 28),.m 6 (.t 31)]))))))
 (.fg [0,1,5,6,10,11] (.ops false [.u 32 (.bin .add (.t 11) (.i 1)),.m 11 (.t 32)])))))))))))
 (.fg [5] (.seq (.ops false [.m 33 (.t 5),.u 34 (.callf f1 [(.t 33)]),.m 4 (.t 34)])
 .ret)))))))))
def Xe(f0:Nat):AC:=(.seq (.ops false [.m 4 (.i 0)])
 (.fg [0,1] (.seq (.seq (.ops false [.m 6 (.t 0),.u 7 (.len (.t 6)),.m 8 (.t 1),.u 9 (.len (.t 8)),.u 10 (.max [(.t 7),(.t 9)]),.u 11 (.bin .sub (.t 10) (.i 1)),.m 5 (.t 11)])
 (.fg [0,1,5] (.block 0 (.loop (.seq (.seq (.ops false [.m 12 (.t 5),.u 13 (.bin .geq (.t 12) (.i 0))])
 (.fg [0,1,5,13] (.cond (.t 13) .skip (.exit 0))))
 (.fg [0,1,5] (.seq (.block 1 (.seq (.ops false [.m 16 (.t 0),.m 17 (.t 5),.u 18 (.call f0 [(.t 16),(.t 17)]),.m 19 (.t 1),.m 20 (.t 5),.u 21 (.call f0 [(.t 19),(.t 20)]),.u 22 (.bin .neq (.t 18) (.t 21))])
 (.fg [0,1,5,22] (.cond (.t 22) (.seq (.seq (.ops false [.m 23 (.t 0),.m 24 (.t 5),.u 25 (.call f0 [(.t 23),(.t 24)]),.m 26 (.t 1),.m 27 (.t 5),.u 28 (.call f0 [(.t 26),(.t 27)]),.u 29 (.bin .lss (.t 25) (.t 28))])
 (.fg [29] (.cond (.t 29) (.seq (.ops false [.m 4 (.i (-1))])
 .ret) .skip)))
 (.fg [] (.seq (.ops false [.m 4 (.i 1)])
 .ret))) .skip))))
 (.fg [0,1,5] (.ops false [.m 14 (.t 5),.u 15 (.bin .sub (.t 14) (.i 1)),.m 5 (.t 15)])))))))))
 (.fg [] (.seq (.ops false [.m 4 (.i 0)])
 .ret)))))
def zh:AC:=(.seq (.ops false [.m 2 (.i 0)])
 (.fg [0] (.seq (.seq (.ops false [.m 5 (.t 0),.u 6 (.len (.t 5)),.u 7 (.bin .eql (.t 6) (.i 0))])
 (.fg [0,7] (.cond (.t 7) (.seq (.ops false [.m 2 (.i 0)])
 .ret) .skip)))
 (.fg [0] (.seq (.ops false [.m 8 (.t 0),.u 9 (.len (.t 8)),.u 10 (.bin .sub (.t 9) (.i 1)),.u 11 (.bin .mul (.i 32) (.t 10)),.m 3 (.t 11)])
 (.fg [0,3] (.seq (.seq (.ops false [.m 12 (.t 0),.m 13 (.t 0),.u 14 (.len (.t 13)),.u 15 (.bin .sub (.t 14) (.i 1)),.u 16 (.idx 1 (.t 12) (.t 15)),.u 17 (.ld none 1 false (.t 16)),.m 4 (.t 17)])
 (.fg [3,4] (.block 0 (.loop (.seq (.seq (.ops false [.m 18 (.t 4),.u 19 (.bin .gtr (.t 18) (.c (.one (.lit (.int .u32 0)))))])
 (.fg [3,4,19] (.cond (.t 19) .skip (.exit 0))))
 (.fg [3,4] (.seq (.block 1 (.ops false [.m 22 (.t 3),.u 23 (.bin .add (.t 22) (.i 1)),.m 3 (.t 23)]))
 (.fg [3,4] (.ops false [.m 20 (.t 4),.u 21 (.bin .shr (.t 20) (.c (.one (.lit (.int .u64 1))))),.m 4 (.t 21)])))))))))
 (.fg [3] (.seq (.ops false [.m 24 (.t 3),.m 2 (.t 24)])
 .ret)))))))))
theorem Jay(hΓ:Holds P Γ){f:Nat}(hc:check P f=some (25,Qd.strip,[.tmp 2])):Sound P f (.fresh 1 uv):=by
 refine xq hc YaH hΓ (λargs K hcl hfi hG=>?_);match args,hG with
 | [a],hG=>
  obtain⟨l,ha,hl,hlen,hK⟩:=hG;refine⟨by simp,?_⟩
  rcases ha with rfl | rfl | ⟨rfl,h0⟩
  .simp only [go_sem,Qd,ws];refine⟨hlen,?_⟩;refine wa (λn:Nat=>⟨mkV [(3,.one (.own 6 1 1 0 n))],mkH [(6,⟨1,some ⟨l.map wc,1,true⟩⟩)]⟩) (λn=>n<=l.length/\val (l.take n)=val l) id l.length ?_ ?_ ?_
   .first | exact Qa (by simp [okS,okV,okC,okL,okH,okB,okE,Za,ja,za,Ja,wsA,ws]) (xh rfl) | (subst h0;exact Qa (by simp [okS,okV,okC,okL,okH,okB,okE,Za,ja,za,Ja,wsA,ws]) (xh (l:=[]) rfl))
   .simp
   .rintro n ⟨hn,ht⟩;simp only [go_sem];refine λhm=>⟨λh=>?_,λh=>?_⟩
    .rw [show((n:Int)-1).toNat=n-1 by omega]
     refine λ_=>⟨by omega,by omega,by omega,λh0=>λ_=>⟨by omega,by omega,by omega,n-1,Qa (by simp [okS,okV,okC,okL,okH,okB,okE,Za,ja,za,Ja,wsA,ws]) (xh rfl),⟨by omega,?_⟩,?_⟩,λh0=>?_⟩
     .have:=Ub l (n-1);rw [show n-1+1=n by omega,h0,Nat.mul_zero,Nat.add_zero]at this
      rw [<-this];exact ht
     .simp only [id];omega
     .have:=xg (Ww hl n) (YK h hn h0);rw [ht]at this;rw [this]at hK;exact⟨hn,hK⟩
    .have h1:n=0:=by omega
     subst h1;have:val l=0:=by rw [<-ht];simp [val]
     rw [this,yb]at hK;exact⟨by omega,hK⟩
  .simp only [go_sem,Qd,ws];refine⟨hlen,?_⟩;refine wa (λn:Nat=>⟨mkV [(3,.one (.own 6 1 1 0 n))],mkH [(6,⟨1,some ⟨l.map wc,1,true⟩⟩)]⟩) (λn=>n<=l.length/\val (l.take n)=val l) id l.length ?_ ?_ ?_
   .first | exact Qa (by simp [okS,okV,okC,okL,okH,okB,okE,Za,ja,za,Ja,wsA,ws]) (xh rfl) | (subst h0;exact Qa (by simp [okS,okV,okC,okL,okH,okB,okE,Za,ja,za,Ja,wsA,ws]) (xh (l:=[]) rfl))
   .simp
   .rintro n ⟨hn,ht⟩;simp only [go_sem];refine λhm=>⟨λh=>?_,λh=>?_⟩
    .rw [show((n:Int)-1).toNat=n-1 by omega]
     refine λ_=>⟨by omega,by omega,by omega,λh0=>λ_=>⟨by omega,by omega,by omega,n-1,Qa (by simp [okS,okV,okC,okL,okH,okB,okE,Za,ja,za,Ja,wsA,ws]) (xh rfl),⟨by omega,?_⟩,?_⟩,λh0=>?_⟩
     .have:=Ub l (n-1);rw [show n-1+1=n by omega,h0,Nat.mul_zero,Nat.add_zero]at this
      rw [<-this];exact ht
     .simp only [id];omega
     .have:=xg (Ww hl n) (YK h hn h0);rw [ht]at this;rw [this]at hK;exact⟨hn,hK⟩
    .have h1:n=0:=by omega
     subst h1;have:val l=0:=by rw [<-ht];simp [val]
     rw [this,yb]at hK;exact⟨by omega,hK⟩
  .simp only [go_sem,Qd,ws];refine⟨by simp,?_⟩
   refine wa (λn:Nat=>⟨mkV [(3,.one (.own 6 1 1 0 n))],mkH [(6,⟨1,some ⟨l.map wc,1,true⟩⟩)]⟩) (λn=>n<=l.length/\val (l.take n)=val l) id l.length ?_ ?_ ?_
   .first | exact Qa (by simp [okS,okV,okC,okL,okH,okB,okE,Za,ja,za,Ja,wsA,ws]) (xh rfl) | (subst h0;exact Qa (by simp [okS,okV,okC,okL,okH,okB,okE,Za,ja,za,Ja,wsA,ws]) (xh (l:=[]) rfl))
   .simp
   .rintro n ⟨hn,ht⟩;simp only [go_sem];refine λhm=>⟨λh=>?_,λh=>?_⟩
    .rw [show((n:Int)-1).toNat=n-1 by omega]
     refine λ_=>⟨by omega,by omega,by omega,λh0=>λ_=>⟨by omega,by omega,by omega,n-1,Qa (by simp [okS,okV,okC,okL,okH,okB,okE,Za,ja,za,Ja,wsA,ws]) (xh rfl),⟨by omega,?_⟩,?_⟩,λh0=>?_⟩
     .have:=Ub l (n-1);rw [show n-1+1=n by omega,h0,Nat.mul_zero,Nat.add_zero]at this
      rw [<-this];exact ht
     .simp only [id];omega
     .have:=xg (Ww hl n) (YK h hn h0);rw [ht]at this;rw [this]at hK;exact⟨hn,hK⟩
    .have h1:n=0:=by omega
     subst h1;have:val l=0:=by rw [<-ht];simp [val]
     rw [this,yb]at hK;exact⟨by omega,hK⟩
theorem Z3(hΓ:Holds P Γ){f fw ft:Nat}(hw:Γ fw=.dat true Yk)(ht:Γ ft=.fresh 1 uv)(hc:check P f=some (37,(Wh fw ft).strip,[.tmp 4])):Sound P f (.dat false qt):=by
 refine va hc wW hΓ (λargs K hcl hfi hG=>?_);match args,hG with
 | [a,b],hG=>
  obtain⟨x,rfl,hx,y,rfl,hy,hxl,hyl,hK⟩:=hG;refine⟨by simp,?_⟩
  simp only [go_sem,Wh,hw,ht];intro h1 h2;refine⟨by omega,?_⟩
  generalize hN:max x.length y.length+1=N;refine wa (λp:List Nat×Nat=>match p.1 with
    | []=>⟨mkV [(0,wsA x),(1,wsA y),(5,.one .emp),(6,.one (.lit (.int .u64 p.2))),(14,.one (.lit (.int .i64 N))),(15,.one (.lit (.int .i64 0)))],mkH []⟩
    | a::r=>⟨mkV [(0,wsA x),(1,wsA y),(5,.one (.own 31 1 1 0 (r.length+1))),(6,.one (.lit (.int .u64 p.2))),(14,.one (.lit (.int .i64 N))),(15,.one (.lit (.int .i64 (r.length+1:Nat))))],mkH [(31,⟨1,some ⟨(a::r).map wc,1,true⟩⟩)]⟩)
   (λp=>p.1.length<=N/\WL p.1/\p.2<=1/\val p.1+4294967296 ^ p.1.length*p.2=val (x.take p.1.length)+val (y.take p.1.length)) (λp=>N-p.1.length) ([],0) ?_ ?_ ?_
  .exact Qa (by simp [okS,okV,okC,okL,okH,okB,okE,Za,ja,za,Ja,wsA,ws]) trivial
  .simp [vc,val]
  .rintro⟨o,c⟩ ⟨hoN,ho,hc1,hval⟩;simp only at hoN ho hc1 hval;cases o with
   | nil=>
    simp only [go_sem,hw,ht];refine⟨λhlt=>?_,λhge=>by omega⟩
    have g1:=ub hx 0;have g2:=ub hy 0;rw [Nat.mod_eq_of_lt (show x.getD 0 0+y.getD 0 0<18446744073709551616 by omega),Nat.mod_eq_of_lt (show x.getD 0 0+y.getD 0 0+c<18446744073709551616 by omega)]
    generalize hs:x.getD 0 0+y.getD 0 0+c=s;refine⟨hx,by omega,hy,by omega,by simp,by decide,by decide,([s % 4294967296],s / 4294967296),Qa (by simp [okS,okV,okC,okL,okH,okB,okE,Za,ja,za,Ja,wsA,ws]) (xh (l:=[s % 4294967296]) rfl),⟨by simp;omega,Jc.2 ⟨Nat.mod_lt _ (by omega),vc⟩,by simp only;omega,?_⟩,by simp;omega⟩
    have t1:=Ub x 0;have t2:=Ub y 0;simp only [List.length_cons,List.length_nil,Nat.zero_add,List.take_zero,Wm,qi,Nat.pow_zero,Nat.pow_one,Nat.mul_zero]at t1 t2 hval ⊢;omega
   | cons a r=>
    simp only [go_sem,hw,ht];refine⟨λhlt=>?_,λhge=>?_⟩
    .have g1:=ub hx (r.length+1);have g2:=ub hy (r.length+1);rw [Nat.mod_eq_of_lt (show x.getD (r.length+1) 0+y.getD (r.length+1) 0<18446744073709551616 by omega),Nat.mod_eq_of_lt (show x.getD (r.length+1) 0+y.getD (r.length+1) 0+c<18446744073709551616 by omega)]
     generalize hs:x.getD (r.length+1) 0+y.getD (r.length+1) 0+c=s;refine⟨hx,hy,by simp,by omega,by decide,by omega,(a::(r++[s % 4294967296]),s / 4294967296),Qa (by simp [okS,okV,okC,okL,okH,okB,okE,Za,ja,za,Ja,wsA,ws]) (Y7 (l':=a::(r++[s % 4294967296])) (by simp [wc])),⟨by simp;omega,?_,by simp only;omega,?_⟩,by simp;omega⟩
     .exact Ve (a:=a::r) |>.2 ⟨ho,Jc.2 ⟨Nat.mod_lt _ (by omega),vc⟩⟩
     .have t1:=Ub x (r.length+1);have t2:=Ub y (r.length+1);have e:a::(r++[s % 4294967296])=(a::r)++[s % 4294967296]:=rfl;simp only [e,List.length_append,List.length_cons,List.length_nil,Nat.zero_add,jc,t1,t2];simp only [List.length_cons]at hval;rw [show val [s % 4294967296]=s % 4294967296 from by simp [val],Nat.pow_succ 4294967296 (r.length+1)]
      exact za6 hval (by rw [Nat.mod_add_div,hs])
    .have e:r.length+1=N:=by simp only [List.length_cons]at hoN;omega
     have hv:val (a::r)=val x+val y:=by
      rw [List.length_cons,e,yj (by omega),yj (by omega)]at hval
      exact kao hx hy (by omega) (by omega) (by omega) hval
     refine(V4 _ (a::r)).mpr ⟨ho,by simp only [List.length_cons];omega,?_⟩
     rw [hv];exact hK
theorem xT(hΓ:Holds P Γ){f fw ft:Nat}(hw:Γ fw=.dat true Yk)(ht:Γ ft=.fresh 1 uv)(hc:check P f=some (35,(kg fw ft).strip,[.tmp 4])):Sound P f (.dat false Yt):=by
 refine va hc Z8 hΓ (λargs K hcl hfi hG=>?_);match args,hG with
 | [a,b],hG=>
  obtain⟨x,rfl,hx,y,rfl,hy,hxl,hle,hK⟩:=hG;refine⟨by simp,?_⟩
  simp only [go_sem,kg,hw,ht];intro h1;generalize hN:x.length=N at *
  refine wa (λp:List Nat×Nat=>match p.1 with
    | []=>⟨mkV [(0,wsA x),(1,wsA y),(5,.one .emp),(6,.one (.lit (.int .u64 p.2))),(10,.one (.lit (.int .i64 N))),(11,.one (.lit (.int .i64 0)))],mkH []⟩
    | a::r=>⟨mkV [(0,wsA x),(1,wsA y),(5,.one (.own 28 1 1 0 (r.length+1))),(6,.one (.lit (.int .u64 p.2))),(10,.one (.lit (.int .i64 N))),(11,.one (.lit (.int .i64 (r.length+1:Nat))))],mkH [(28,⟨1,some ⟨(a::r).map wc,1,true⟩⟩)]⟩)
   (λp=>p.1.length<=N/\WL p.1/\p.2<=1/\val p.1+val (y.take p.1.length)=val (x.take p.1.length)+4294967296 ^ p.1.length*p.2) (λp=>N-p.1.length) ([],0) ?_ ?_ ?_
  .exact Qa (by simp [okS,okV,okC,okL,okH,okB,okE,Za,ja,za,Ja,wsA,ws]) trivial
  .simp [vc,val]
  .rintro⟨o,c⟩ ⟨hoN,ho,hc1,hval⟩;simp only at hoN ho hc1 hval;cases o with
   | nil=>
    have g1:=ub hx 0;have g2:=ub hy 0;obtain⟨s,e1,e2,e3,e4⟩:=ZS g1 g2 hc1;simp only [go_sem,hw,ht,e1,e2];refine⟨λhlt=>?_,λhge=>?_⟩
    .refine⟨hx,by omega,hy,by omega,by simp,⟨by omega,by decide⟩,by decide,([s % 4294967296],1-s / 4294967296),Qa (by simp [okS,okV,okC,okL,okH,okB,okE,Za,ja,za,Ja,wsA,ws,e2]) (Y7 (l':=[s % 4294967296]) (by simp [wc])),⟨by simp;omega,Jc.2 ⟨Nat.mod_lt _ (by omega),vc⟩,e4,?_⟩,by simp;omega⟩
     have t1:=Ub x 0;have t2:=Ub y 0;simp only [List.length_cons,List.length_nil,Nat.zero_add,List.take_zero,Wm,qi,Nat.pow_zero,Nat.pow_one,Nat.mul_zero]at t1 t2 hval ⊢;omega
    .have hx0:x=[]:=List.eq_nil_of_length_eq_zero (by omega)
     have:val x-val y=val []:=by rw [hx0];simp [val]
     rw [<-this];exact hK
   | cons a r=>
    have g1:=ub hx (r.length+1);have g2:=ub hy (r.length+1);obtain⟨s,e1,e2,e3,e4⟩:=ZS g1 g2 hc1;simp only [go_sem,hw,ht,e1,e2];refine⟨λhlt=>?_,λhge=>?_⟩
    .refine⟨hx,hy,by simp,by omega,⟨by omega,by decide⟩,by omega,(a::(r++[s % 4294967296]),1-s / 4294967296),Qa (by simp [okS,okV,okC,okL,okH,okB,okE,Za,ja,za,Ja,wsA,ws,e2]) (Y7 (l':=a::(r++[s % 4294967296])) (by simp [wc])),⟨by simp;omega,?_,e4,?_⟩,by simp;omega⟩
     .exact Ve (a:=a::r) |>.2 ⟨ho,Jc.2 ⟨Nat.mod_lt _ (by omega),vc⟩⟩
     .have e:a::(r++[s % 4294967296])=(a::r)++[s % 4294967296]:=rfl;simp only [List.length_cons]at hval;simp only [e,List.length_append,List.length_cons,List.length_nil,Nat.zero_add,Ub x (r.length+1),Ub y (r.length+1),jc,qi (s % 4294967296),Wm,Nat.mul_zero,Nat.add_zero,Nat.pow_succ 4294967296 (r.length+1)];exact qI hval e3
    .have e:(a::r).length=N:=by simp only [List.length_cons]at hoN ⊢;omega
     have hv:=jH ho hx (by omega) hle hval
     refine(V4 _ (a::r)).mpr ⟨ho,by omega,?_⟩
     rw [hv];exact hK
theorem Wad(hΓ:Holds P Γ){f fw:Nat}(hw:Γ fw=.dat true Yk)(hc:check P f=some (30,(Xe fw).strip,[.tmp 4])):Sound P f (.dat true Xu):=by
 refine va hc vay hΓ (λargs K hcl hfi hG=>?_);match args,hG with
 | [a,b],hG=>
  obtain⟨x,rfl,hx,y,rfl,hy,hK⟩:=hG;refine⟨by simp,?_⟩
  simp only [go_sem,Xe,hw];intro h1 h2;refine⟨⟨by omega,by omega⟩,?_⟩
  refine wa (λn:Nat=>⟨mkV [(0,wsA x),(1,wsA y),(5,.one (.lit (.int .i64 ((n:Int)-1))))],mkH []⟩) (λn=>n<=max x.length y.length/\val (x.drop n)=val (y.drop n)) id (max x.length y.length) ?_ ?_ ?_
  .exact Qa (by simp [okS,okV,okC,okL,okH,okB,okE,Za,ja,za,Ja,wsA,ws]) trivial
  .refine⟨Nat.le_refl _,?_⟩;rw [List.drop_of_length_le (by omega),List.drop_of_length_le (by omega)]
  .rintro n ⟨hn,hd⟩;simp only [go_sem,hw];refine⟨λh=>?_,λh=>?_⟩
   .have e:((n:Int)-1).toNat=n-1:=by omega
    have e1:=ZA x (n-1);have e2:=ZA y (n-1);have e3:n-1+1=n:=by omega
    rw [e3]at e1 e2;rw [e];refine⟨hx,h,hy,h,λhe=>⟨by omega,n-1,Qa (by simp [okS,okV,okC,okL,okH,okB,okE,Za,ja,za,Ja,wsA,ws];omega) trivial,⟨by omega,by rw [e1,e2,hd,he]⟩,by simp only [id];omega⟩,λhe=>⟨hx,h,hy,h,λhlt=>?_,λhge=>?_⟩⟩
    .rw [XR (ubb hx (by rw [e3];exact hd) hlt)]at hK;exact hK
    .rw [Zag (ubb (m:=n-1) hy (by rw [e3];exact hd.symm) (by omega))]at hK;exact hK
   .have:n=0:=by omega
    subst this;have:val x=val y:=hd;rw [this,XaQ]at hK;exact hK
theorem JY(hΓ:Holds P Γ){f:Nat}(hc:check P f=some (25,zh.strip,[.tmp 2])):Sound P f (.dat true qp):=by
 refine va hc Vac hΓ (λargs K hcl hfi hG=>?_);match args,hG with
 | [a],hG=>
  obtain⟨x,rfl,hx,hxl,hK⟩:=hG;refine⟨by simp,?_⟩
  simp only [go_sem,zh];intro h1;refine⟨λh=>?_,λh _=>⟨by omega,by omega,λ_=>⟨by omega,by omega,by omega,?_⟩⟩⟩
  .rw [if_pos h]at hK;exact hK
  rw [if_neg h]at hK;have e:((x.length:Int)-1).toNat=x.length-1:=by omega
  rw [e];have hb:=ub hx (x.length-1);generalize x.getD (x.length-1) 0=w at *
  have hb32:bln w<=32:=kbb (by omega)
  refine wa (λp:Nat×Nat=>⟨mkV [(3,.one (.lit (.int .i64 (32*((x.length:Int)-1)+p.1)))),(4,.one (.lit (.int .u32 p.2)))],mkH []⟩) (λp=>p.2<4294967296/\p.1+bln p.2=bln w) (λp=>p.2) (0,w) ?_ ?_ ?_
  .exact Qa (by simp [okS,okV,okC,okL,okH,okB,okE,Za,ja,za,Ja,wsA,ws]) trivial
  .exact⟨hb,by simp⟩
  .rintro⟨i,m⟩ ⟨hm,hi⟩;simp only at hm hi;simp only [go_sem];refine⟨λh=>?_,λh=>?_⟩
   .have e:=Yad (n:=m) (by omega)
    refine⟨by omega,by decide,(i+1,m / 2),Qa (by simp [okS,okV,okC,okL,okH,okB,okE,Za,ja,za,Ja,wsA,ws];omega) trivial,⟨by simp only;omega,by simp only;omega⟩,by simp only;omega⟩
   .have:m=0:=by omega
    subst this;rw [VH]at hi;have e:(32*((x.length:Int)-1)+(i:Int))=((32*(x.length-1)+bln w:Nat):Int):=by omega
    rw [e];exact hK
end Go.Abs
end
section
namespace Go.Abs
open Go.Num
variable {P:Program} {Γ:Nat->Spec}
def Xi:AC:=(.seq (.ops false [.m 2 (.c (.one .emp))])
 (.fg [0] (.seq (.block 0 (.loop (.seq (.seq (.ops false [.m 3 (.t 0),.u 4 (.len (.t 3)),.u 5 (.bin .gtr (.t 4) (.i 0)),.m 6 (.t 5),.w 7 6 true (.mv (.t 0)),.w 8 6 true (.mv (.t 0)),.w 9 6 true (.len (.t 8)),.w 10 6 true (.bin .sub (.t 9) (.i 1)),.w 11 6 true (.idx 1 (.t 7) (.t 10)),.w 12 6 true (.ld none 1 false (.t 11)),.w 13 6 true (.bin .eql (.t 12) (.c (.one (.lit (.int .u32 0))))),.u 14 (.pick (.t 6) (.t 13) .fa)])
 (.fg [0,14] (.cond (.t 14) .skip (.exit 0))))
 (.fg [0] (.block 1 (.ops false [.m 15 (.t 0),.m 16 (.t 0),.u 17 (.len (.t 16)),.u 18 (.bin .sub (.t 17) (.i 1)),.u 19 (.sl 1 (.t 15) none (some (.t 18))),.m 0 (.t 19)]))))))
 (.fg [0] (.seq (.ops false [.m 20 (.t 0),.m 2 (.t 20)])
 .ret)))))
def qg(f0 f1:Nat):AC:=(.seq (.ops false [.m 2 (.c (.one .emp))])
 (.fg [0] (.seq (.seq (.ops false [.m 4 (.t 0),.u 5 (.len (.t 4)),.m 6 (.i 0)])
 (.fg [0,5,6] (.block 0 (.loop (.seq (.ops false [.u 7 (.bin .lss (.t 6) (.t 5))])
 (.fg [0,5,6,7] (.seq (.cond (.t 7) .skip (.exit 0))
 (.fg [0,5,6] (.seq (.block 1 (.seq (.ops false [.m 8 (.t 6),.m 3 (.t 8)])
 (.fg [0,3,5,6] (.ops false [.m 9 (.t 0),.m 10 (.t 3),.m 11 (.t 0),.m 12 (.t 3),.u 13 (.call f0 [(.t 11),(.t 12)]),.u 14 (.bin .shr (.t 13) (.c (.one (.lit (.int .u64 1))))),.m 15 (.t 0),.m 16 (.t 3),.u 17 (.bin .add (.t 16) (.i 1)),.u 18 (.call f0 [(.t 15),(.t 17)]),.u 19 (.bin .shl (.t 18) (.c (.one (.lit (.int .u64 31))))),.u 20 (.bin .or (.t 14) (.t 19)),.u 21 (.conv .u32 (.t 20)),.u 22 (.idx 1 (.t 9) (.t 10)),.n (.st none 1 (.t 22) (.t 21))]))))
 (.fg [0,5,6] (.ops false [.u 23 (.bin .add (.t 6) (.i 1)),.m 6 (.t 23)])))))))))))
 (.fg [0] (.seq (.ops false [.m 24 (.t 0),.u 25 (.call f1 [(.t 24)]),.m 2 (.t 25)])
 .ret)))))
def ve(f0:Nat):AC:=(.seq (.ops false [.m 4 (.c (.one (.lit (.int .u64 0))))])
 (.fg [0,1,4] (.seq (.ops false [.m 7 (.t 0),.u 8 (.len (.t 7)),.m 9 (.i 0)])
 (.fg [0,1,4,8,9] (.block 0 (.loop (.seq (.ops false [.u 10 (.bin .lss (.t 9) (.t 8))])
 (.fg [0,1,4,8,9,10] (.seq (.cond (.t 10) .skip (.exit 0))
 (.fg [0,1,4,8,9] (.seq (.block 1 (.seq (.ops false [.m 11 (.t 9),.m 5 (.t 11)])
 (.fg [0,1,4,5,8,9] (.seq (.ops false [.m 12 (.t 0),.m 13 (.t 5),.u 14 (.call f0 [(.t 12),(.t 13)]),.u 15 (.bin .add (.c (.one (.lit (.int .u64 4294967296)))) (.t 14)),.m 16 (.t 1),.m 17 (.t 5),.u 18 (.call f0 [(.t 16),(.t 17)]),.u 19 (.bin .sub (.t 15) (.t 18)),.m 20 (.t 4),.u 21 (.bin .sub (.t 19) (.t 20)),.m 6 (.t 21)])
 (.fg [0,1,5,6,8,9] (.ops false [.m 22 (.t 0),.m 23 (.t 5),.m 24 (.t 6),.u 25 (.conv .u32 (.t 24)),.m 26 (.t 6),.u 27 (.bin .shr (.t 26) (.c (.one (.lit (.int .u64 32))))),.u 28 (.bin .sub (.c (.one (.lit (.int .u64 1)))) (.t 27)),.u 29 (.idx 1 (.t 22) (.t 23)),.n (.st none 1 (.t 29) (.t 25)),.m 4 (.t 28)]))))))
 (.fg [0,1,4,8,9] (.ops false [.u 30 (.bin .add (.t 9) (.i 1)),.m 9 (.t 30)])))))))))))))
theorem YaO(hΓ:Holds P Γ){f:Nat}(hc:check P f=some (21,Xi.strip,[.tmp 2])):Sound P f (.own Z5):=by
 refine Xf hc hΓ (λd args h K hG=>?_);unfold Z5 at hG;split at hG
 case h_2=>exact hG.elim
 rename_i r ver len;obtain⟨l,post,rfl,hr,hl,hll,hK⟩:=hG;refine⟨[r],[⟨(l++post).map wc,1,true⟩],[.one (.own 1048576 ver 1 0 l.length)],by simp,rfl,?_,?_,?_,λhfi=>⟨by simp,?_⟩⟩
 .intro i r' b h1 h2;cases i with
  | zero=>simp only [List.getElem?_cons_zero,Option.some.injEq]at h1 h2;subst h1 h2;exact⟨by rw [hr],rfl,of_eq_true (Ud _)⟩
  | succ i=>simp at h1
 .simp [exA,exC,exB,nameOf,pinA,wsA,ws]
 .intro a ha;simp only [List.mem_cons,List.not_mem_nil,or_false]at ha;subst ha;simp [pasA,pasC,pasB,nameOf,pinA]
 simp only [go_sem,Xi,hr];refine wa (λn:Nat=>⟨mkV [(0,.one (.own 1048576 ver 1 0 n))],mkH [(1048576,⟨ver,some ⟨(l++post).map wc,1,true⟩⟩)]⟩)
  (λn=>n<=l.length/\val (l.take n)=val l) id l.length ?_ ?_ ?_
 .exact Qa (by simp [okS,okV,okC,okL,okH,okB,okE,Za,ja,za,Ja,wsA,ws]) (xh (by simp))
 .simp
 .rintro n ⟨hn,ht⟩;simp only [go_sem,hr];rw [show((n:Int)-1).toNat=n-1 by omega]
  refine λ_=>⟨λh=>λ_=>⟨by omega,by omega,by simp;omega,?_,?_⟩,λh=>?_⟩
  .rw [waK (by omega)]
   refine λh0 _=>⟨by omega,by omega,by omega,n-1,Qa (by simp [okS,okV,okC,okL,okH,okB,okE,Za,ja,za,Ja,wsA,ws]) (xh rfl),⟨by omega,?_⟩,by simp only [id];omega⟩
   have:=Ub l (n-1);rw [show n-1+1=n by omega,h0,Nat.mul_zero,Nat.add_zero]at this
   rw [<-this];exact ht
  .rw [waK (by omega)]
   intro h0;have:=xg (Ww hl n) (YK h hn h0);rw [ht]at this;have h2:=hK (l.drop n++post);rw [this,List.length_take,Nat.min_eq_left hn,<-List.append_assoc,List.take_append_drop]at h2;exact h2
  .have h1:n=0:=by omega
   subst h1;have:val l=0:=by rw [<-ht];simp [val]
   have h2:=hK (l++post);rw [this,yb]at h2;exact h2
theorem yai(hΓ:Holds P Γ){f fw fc:Nat}(hw:Γ fw=.dat true Yk)(hc' : Γ fc=.own Z5)(hc:check P f=some (26,(qg fw fc).strip,[.tmp 2])):Sound P f (.own Xo):=by
 refine Xf hc hΓ (λd args h K hG=>?_);unfold Xo at hG;split at hG
 case h_2=>exact hG.elim
 rename_i r ver len;obtain⟨l,post,rfl,hr,hl,hll,hK⟩:=hG;refine⟨[r],[⟨(l++post).map wc,1,true⟩],[.one (.own 1048576 ver 1 0 l.length)],by simp,rfl,?_,?_,?_,λhfi=>⟨by simp,?_⟩⟩
 .intro i r' b h1 h2;cases i with
  | zero=>simp only [List.getElem?_cons_zero,Option.some.injEq]at h1 h2;subst h1 h2;exact⟨by rw [hr],rfl,of_eq_true (Ud _)⟩
  | succ i=>simp at h1
 .simp [exA,exC,exB,nameOf,pinA,wsA,ws]
 .intro a ha;simp only [List.mem_cons,List.not_mem_nil,or_false]at ha;subst ha;simp [pasA,pasC,pasB,nameOf,pinA]
 simp only [go_sem,qg,hr];intro h1;refine wa (λo:List Nat=>⟨mkV [(0,.one (.own 1048576 ver 1 0 l.length)),(5,.one (.lit (.int .i64 l.length))),(6,.one (.lit (.int .i64 o.length)))],mkH [(1048576,⟨ver,some ⟨(o++(l.drop o.length++post)).map wc,1,true⟩⟩)]⟩)
  (λo=>o.length<=l.length/\WL o/\val o=val l / 2 % 4294967296 ^ o.length) (λo=>l.length-o.length) [] ?_ ?_ ?_
 .exact Qa (by simp [okS,okV,okC,okL,okH,okB,okE,Za,ja,za,Ja,wsA,ws]) (xh (by simp))
 .simp [vc,val];omega
 .rintro o ⟨hoN,ho,hval⟩;have hw2:=Ybl ho hl;simp only [go_sem,hr,hw,hc',yaO hoN,wae hoN,Nat.le_add_right,kav,WV];refine⟨λhlt=>⟨hw2,by decide,by omega,hw2,by decide,⟨rfl,by have:=ub hl o.length;omega,by omega⟩,hlt,by omega,by omega,?_⟩,λhge=>?_⟩
  .have hd:=wa5 (ub hl o.length) (ub hl (o.length+1));rw [uY hl (by omega),Nat.pow_one]at hd
   rw [hd,Qax _ hlt];generalize hv:val l / 2 / 4294967296 ^ o.length % 4294967296=v;have hvB:v<4294967296:=by rw [<-hv];exact Nat.mod_lt _ (by omega)
   refine⟨o++[v],Qa (by simp [okS,okV,okC,okL,okH,okB,okE,Za,ja,za,Ja,wsA,ws]) (xh rfl),⟨by simp;omega,Ve.2 ⟨ho,Jc.2 ⟨hvB,vc⟩⟩,?_⟩,by simp;omega⟩
   rw [jc,List.length_append,List.length_singleton,WG,hv,<-hval];simp [val]
  .have e:o.length=l.length:=by omega
   have hlt:val l / 2<4294967296 ^ l.length:=Nat.lt_of_le_of_lt (Nat.div_le_self _ _) (uk hl);rw [e,Nat.mod_eq_of_lt hlt]at hval;rw [List.drop_of_length_le (by omega),List.nil_append,<-e]
   refine⟨o,post,rfl,by simp [za],ho,by omega,λpost'=>?_⟩
   simp only [go_sem];rw [hval];exact hK post'
theorem kaz(hΓ:Holds P Γ){f fw:Nat}(hw:Γ fw=.dat true Yk)(hc:check P f=some (31,(ve fw).strip,[])):Sound P f (.own qw):=by
 refine Xf hc hΓ (λd args h K hG=>?_);unfold qw at hG;split at hG
 case h_3=>exact hG.elim
 case h_2=>
  rename_i r ver len b _;obtain⟨y,rfl,hy,l,post,rfl,hr,hl,hll,hle,hK⟩:=hG;refine⟨[r],[⟨(l++post).map wc,1,true⟩],[.one (.own 1048576 ver 1 0 l.length),wsA y],by simp,rfl,?_,?_,?_,λhfi=>⟨by simp,?_⟩⟩
  .intro i r' b h1 h2;cases i with
   | zero=>simp only [List.getElem?_cons_zero,Option.some.injEq]at h1 h2;subst h1 h2;exact⟨by rw [hr],rfl,of_eq_true (Ud _)⟩
   | succ i=>simp at h1
  .simp [exA,exC,exB,nameOf,pinA,wsA,ws]
  .intro a ha;simp only [List.mem_cons,List.not_mem_nil,or_false]at ha;rcases ha with rfl | rfl
   .simp [pasA,pasC,pasB,nameOf,pinA]
   .exact .slice _ (of_eq_true (Ud _))
  simp only [go_sem,ve,hr];intro h1;refine wa (λp:List Nat×Nat=>⟨mkV [(0,.one (.own 1048576 ver 1 0 l.length)),(1,wsA y),(4,.one (.lit (.int .u64 p.2))),(8,.one (.lit (.int .i64 l.length))),(9,.one (.lit (.int .i64 p.1.length)))],
    mkH [(1048576,⟨ver,some ⟨(p.1++(l.drop p.1.length++post)).map wc,1,true⟩⟩)]⟩)
   (λp=>p.1.length<=l.length/\WL p.1/\p.2<=1/\val p.1+val (y.take p.1.length)=val (l.take p.1.length)+4294967296 ^ p.1.length*p.2) (λp=>l.length-p.1.length) ([],0) ?_ ?_ ?_
  .exact Qa (by simp [okS,okV,okC,okL,okH,okB,okE,Za,ja,za,Ja,wsA,ws]) (xh (by simp))
  .simp [vc,val]
  .rintro⟨o,c⟩ ⟨hoN,ho,hc1,hval⟩;simp only at hoN ho hc1 hval;have hw2:=Ybl ho hl;simp only [go_sem,hr,hw,yaO hoN,wae hoN,Nat.le_add_right,kav,WV];refine⟨λhlt=>?_,λhge=>?_⟩
   .obtain⟨s,e1,e2,e3,e4⟩:=ZS (ub hl o.length) (ub hy o.length) hc1;simp only [e1,e2,JaQ,Qax _ hlt];refine⟨hw2,hy,⟨by omega,by decide,by decide⟩,hlt,by omega,by omega,(o++[s % 4294967296],1-s / 4294967296),Qa (by simp [okS,okV,okC,okL,okH,okB,okE,Za,ja,za,Ja,wsA,ws,e2]) (by first | exact Y7 rfl | exact⟨uaR rfl,Jb rfl,trivial⟩),⟨by simp;omega,Ve.2 ⟨ho,Jc.2 ⟨Nat.mod_lt _ (by omega),vc⟩⟩,e4,?_⟩,by simp;omega⟩
    simp only [List.length_append,List.length_cons,List.length_nil,Nat.zero_add,Ub,jc,qi,Wm,Nat.mul_zero,Nat.add_zero,Nat.pow_succ];exact qI hval e3
   .have e:o.length=l.length:=by omega
    have hv:=jH ho hl e hle hval;have hd:=kB ho;rw [hv,e]at hd;rw [hd]at hK;rw [List.drop_of_length_le (by omega),List.nil_append]
    exact hK
 case h_1=>
  rename_i r ver len r2 ver2 len2;obtain⟨l,post,y,posty,hne,rfl,hr,hl,hll,rfl,hr2,hy,hle,hK⟩:=hG;refine⟨[r,r2],[⟨(l++post).map wc,1,true⟩,⟨(y++posty).map wc,1,true⟩],[.one (.own 1048576 ver 1 0 l.length),.one (.own 1048577 ver2 1 0 y.length)],by simp [hne],rfl,?_,?_,?_,λhfi=>⟨by simp,?_⟩⟩
  .intro i r' b h1 h2;cases i with
   | zero=>simp only [List.getElem?_cons_zero,Option.some.injEq]at h1 h2;subst h1 h2;exact⟨by rw [hr],rfl,of_eq_true (Ud _)⟩
   | succ i=>
    cases i with
    | zero=>simp only [List.getElem?_cons_zero,List.getElem?_cons_succ,Option.some.injEq]at h1 h2;subst h1 h2;exact⟨by rw [hr2],rfl,of_eq_true (Ud _)⟩
    | succ i=>simp at h1
  .simp [exA,exC,exB,nameOf,pinA,wsA,ws]
  .intro a ha;simp only [List.mem_cons,List.not_mem_nil,or_false]at ha;rcases ha with rfl | rfl
   .simp [pasA,pasC,pasB,nameOf,pinA]
   .simp [pasA,pasC,pasB,nameOf,pinA]
  simp only [go_sem,ve,hr,hr2];intro h1;refine wa (λp:List Nat×Nat=>⟨mkV [(0,.one (.own 1048576 ver 1 0 l.length)),(1,.one (.own 1048577 ver2 1 0 y.length)),(4,.one (.lit (.int .u64 p.2))),(8,.one (.lit (.int .i64 l.length))),(9,.one (.lit (.int .i64 p.1.length)))],
    mkH [(1048576,⟨ver,some ⟨(p.1++(l.drop p.1.length++post)).map wc,1,true⟩⟩),(1048577,⟨ver2,some ⟨(y++posty).map wc,1,true⟩⟩)]⟩)
   (λp=>p.1.length<=l.length/\WL p.1/\p.2<=1/\val p.1+val (y.take p.1.length)=val (l.take p.1.length)+4294967296 ^ p.1.length*p.2) (λp=>l.length-p.1.length) ([],0) ?_ ?_ ?_
  .exact Qa (by simp [okS,okV,okC,okL,okH,okB,okE,Za,ja,za,Ja,wsA,ws]) ⟨Jb (by simp),Jb rfl,trivial⟩
  .simp [vc,val]
  .rintro⟨o,c⟩ ⟨hoN,ho,hc1,hval⟩;simp only at hoN ho hc1 hval;have hw2:=Ybl ho hl;simp only [go_sem,hr,hr2,hw,yaO hoN,wae hoN,Nat.le_add_right,kav,WV,List.length_append,List.take_left];refine⟨λhlt=>?_,λhge=>?_⟩
   .obtain⟨s,e1,e2,e3,e4⟩:=ZS (ub hl o.length) (ub hy o.length) hc1;simp only [e1,e2,JaQ,Qax _ hlt];refine⟨hw2,hy,⟨by omega,by decide,by decide⟩,hlt,by omega,by omega,(o++[s % 4294967296],1-s / 4294967296),Qa (by simp [okS,okV,okC,okL,okH,okB,okE,Za,ja,za,Ja,wsA,ws,e2]) (by first | exact Y7 rfl | exact⟨uaR rfl,Jb rfl,trivial⟩),⟨by simp;omega,Ve.2 ⟨ho,Jc.2 ⟨Nat.mod_lt _ (by omega),vc⟩⟩,e4,?_⟩,by simp;omega⟩
    simp only [List.length_append,List.length_cons,List.length_nil,Nat.zero_add,Ub,jc,qi,Wm,Nat.mul_zero,Nat.add_zero,Nat.pow_succ];exact qI hval e3
   .have e:o.length=l.length:=by omega
    have hv:=jH ho hl e hle hval;have hd:=kB ho;rw [hv,e]at hd;rw [hd]at hK;rw [List.drop_of_length_le (by omega),List.nil_append]
    exact hK
end Go.Abs
end
