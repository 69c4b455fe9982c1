/-
  Parts of the proof, merged: PolyF, PolyG, PolyH, PolyI, CoupP, PoseB, PoseC, ChartE, ChartF.
-/
import Derived.Test.YthoibmokhnoccaaGreatDoorM6
set_option linter.unusedVariables false
set_option linter.unusedSimpArgs false
set_option maxRecDepth 100000
section
namespace Go.Num
open Go.Abs
def lastO(l:List Mo):Nat->Option Mo
 | 0=>none
 | k+1=>some (l.getD k mo0)
theorem xac{l:List Mo}{k:Nat}{x:Mo}(o:Option Mo)(hx:l[k]?=some x):chkG o (l.drop k)=if chkT o x≠0 then chkT o x else chkG (some x) (l.drop (k+1)):=by
 rw [zG hx];rfl
def mkT(t:Mo):Nat:=if ¬inM t then 3 else if vldR t.2.2=false then 2 else 0
def mkG:List Mo->Nat
 | []=>0
 | t::l=>if mkT t≠0 then mkT t else mkG l
def mkC(l:List Mo):Nat:=if 325<l.length then 4 else mkG l
theorem kh{l:List Mo}(h:chkB l=0)(hw:∀t∈l,WLM t):(∀t∈l,inM t)/\InQ (l.map mv)/\l.length<=325:=by
 obtain⟨h1,h2⟩:=zf h hw;refine⟨λt ht=>?_,h1.ins,(Vbi h).1⟩;exact h1.ins (mv t) (List.mem_map.2 ⟨t,ht,rfl⟩)
def sclM(c:Rat)(l:List Mo):List Mo:=l.map λt=>(t.1,t.2.1,rcan (c*rv t.2.2))
theorem Wx(c:Rat)(l:List Mo):(sclM c l).map mv=sclL c (l.map mv):=by
 unfold sclM sclL;rw [List.map_map,List.map_map];refine List.map_congr_left λt _=>?_;simp only [Function.comp,mv,zk]
theorem Waa{c:Rat}{l:List Mo}{k:Nat}{x:Mo}(hx:l[k]?=some x):sclM c (l.take (k+1))=sclM c (l.take k)++[(x.1,x.2.1,rcan (c*rv x.2.2))]:=by
 unfold sclM;rw [List.take_add_one,hx];simp
theorem kp(c:Rat)(l:List Mo):(sclM c l).length=l.length:=List.length_map _
def degM(l:List Mo):Int:=match l.getLast? with
 | none=>-1
 | some t=>t.1+t.2.1
theorem ve(p:BQ):degM (mcs p)=degB p:=by
 unfold degM degB mcs;rw [List.getLast?_map];cases p.getLast? <;> rfl
def bres(c:Nat)(p:BQ):List Mo:=if c=0 then mcs p else []
theorem jz(p:BQ):bres 0 p=mcs p:=rfl
theorem uw{c:Nat}(h:c≠0)(p:BQ):bres c p=[]:=if_neg h
def chk2(p q:List Mo):Nat:=if chkB p≠0 then chkB p else chkB q
theorem Zz{p q:List Mo}(h:chk2 p q=0):chkB p=0/\chkB q=0:=by
 unfold chk2 at h;split at h
 .rename_i h1;exact absurd h h1
 .rename_i h1;exact⟨by simpa using h1,h⟩
end Go.Num
namespace Go.Abs
open Go.Num
variable {P:Program} {Γ:Nat->Spec}
def Zl(tE:Nat)(l:List AV)(K:AV->Prop):Prop:=
 match l with
 | [a]=>onMs (λl=>(∀t∈l,rl t.2.2<=4294967296)/\K (errV tE (chkB l))) a
 | _=>False
theorem Xah:type_of% @Zl.eq_1:=q_E @Zl.eq_1
@[congr] theorem QbG tE{K}{l l'}(h:l=l'):Zl tE l K=Zl tE l' K:=by subst h;rfl
attribute [go_sem,go_sem ↓] Xah
theorem Qak(tE:Nat):Good (Zl tE):=Ja λas=>by
 unfold Zl;split
 .exact(xd λ_=>(.and λ_=>(.ret _)))
 .exact .of λK hk=>hk.elim
def we(tE:Nat)(l:List AV)(K:AV->Prop):Prop:=
 match l with
 | [a]=>onM2 (λp q=>(∀t∈p,rl t.2.2<=4294967296)/\(∀t∈q,rl t.2.2<=4294967296)/\K (errV tE (chk2 p q))) a
 | _=>False
theorem ZP:type_of% @we.eq_1:=q_E @we.eq_1
@[congr] theorem Jby{tE}{K}{l l'}(h:l=l'):we tE l K=we tE l' K:=h▸rfl
attribute [go_sem,go_sem ↓] ZP
theorem qab(tE:Nat):Good (we tE):=Ja λas=>by
 unfold we;split
 .exact kat λ_ _=>.and λ_=>.and λ_=>.ret _
 .exact .of λK hk=>hk.elim
def xq(l:List AV)(K:AV->Prop):Prop:=
 match l with
 | [a]=>onMs (λl=>(∀t∈l,inM t)/\l.length<=1000000/\K (.one (.lit (.int .i64 (degM l))))) a
 | _=>False
theorem ya7:type_of% @xq.eq_1:=q_E @xq.eq_1
@[congr] theorem VbT{K}{l l'}(h:l=l'):xq l K=xq l' K:=h▸rfl
attribute [go_sem,go_sem ↓] ya7
theorem Vaf:Good xq:=Ja λas=>by
 unfold xq;split
 .exact(xd λ_=>(.and λ_=>(.and λ_=>(.ret _))))
 .exact .of λK hk=>hk.elim
def kx(l:List AV)(K:AV->Prop):Prop:=
 match l with
 | [a,c]=>onMs (λl=>onR (λx=>(∀t∈l,rl t.2.2<=1000000000)/\rl x<=1000000000/\l.length<=1000000/\K (.one (.slice ((sclM (rv x) l).map mC)))) c) a
 | _=>False
theorem qa5:type_of% @kx.eq_1:=q_E @kx.eq_1
@[congr] theorem ubU{K}{l l'}(h:l=l'):kx l K=kx l' K:=h▸rfl
attribute [go_sem,go_sem ↓] qa5
theorem UaP:Good kx:=Ja λas=>by
 unfold kx;split
 .exact(xd λ_=>(zo λ_=>(.and λ_=>(.and λ_=>(.and λ_=>(.ret _))))))
 .exact .of λK hk=>hk.elim
def wU(tE:Nat)(l:List AV)(K:AV->Prop):Prop:=
 match l with
 | [a]=>onMs (λl=>(∀t∈l,rl t.2.2<=4294967296)/\sz (l.map mv)<=1000000000/\K (.tup [.one (.slice ((bres (mkC l) (nf (l.map mv))).map mC)),errV tE (mkC l)])) a
 | _=>False
theorem Uat:type_of% @wU.eq_1:=q_E @wU.eq_1
@[congr] theorem jbO tE{K}{l l'}(h:l=l'):wU tE l K=wU tE l' K:=by subst h;rfl
attribute [go_sem,go_sem ↓] Uat
def xz(tE:Nat)(l:List AV)(K:AV->Prop):Prop:=
 match l with
 | [a,b]=>onMs (λp=>onMs (λq=>(∀t∈p,rl t.2.2<=4294967296)/\(∀t∈q,rl t.2.2<=4294967296)/\sz (p.map mv)+sz (q.map mv)<=1000000000/\K (.tup [.one (.slice ((bres (chk2 p q) (addB (p.map mv) (q.map mv))).map mC)),errV tE (chk2 p q)])) b) a
 | _=>False
theorem JaN:type_of% @xz.eq_1:=q_E @xz.eq_1
@[congr] theorem wbX tE{K}{l l'}(h:l=l'):xz tE l K=xz tE l' K:=by subst h;rfl
attribute [go_sem,go_sem ↓] JaN
theorem za4(tE:Nat):Good (xz tE):=Ja λas=>by
 unfold xz;split
 .exact(xd λ_=>(xd λ_=>(.and λ_=>(.and λ_=>(.and λ_=>(.ret _))))))
 .exact .of λK hk=>hk.elim
def yz(tE:Nat)(l:List AV)(K:AV->Prop):Prop:=
 match l with
 | [a,b]=>onMs (λp=>onMs (λq=>(∀t∈p,rl t.2.2<=1000000000)/\(∀t∈q,rl t.2.2<=1000000000)/\sz (p.map mv)+sz (q.map mv)<=1000000000/\K (.tup [.one (.slice ((bres (chk2 p q) (subB (p.map mv) (q.map mv))).map mC)),errV tE (chk2 p q)])) b) a
 | _=>False
theorem YaX:type_of% @yz.eq_1:=q_E @yz.eq_1
@[congr] theorem xbT tE{K}{l l'}(h:l=l'):yz tE l K=yz tE l' K:=by subst h;rfl
attribute [go_sem,go_sem ↓] YaX
theorem zaX(tE:Nat):Good (yz tE):=Ja λas=>by
 unfold yz;split
 .exact(xd λ_=>(xd λ_=>(.and λ_=>(.and λ_=>(.and λ_=>(.ret _))))))
 .exact .of λK hk=>hk.elim
def jn(tE:Nat)(l:List AV)(K:AV->Prop):Prop:=
 match l with
 | [a,c]=>onMs (λp=>onR (λx=>(∀t∈p,rl t.2.2<=1000000000)/\rl x<=1000000/\sz (p.map mv)<=100000000/\K (.tup [.one (.slice ((bres (chkB p) (sclB (rv x) (p.map mv))).map mC)),errV tE (chkB p)])) c) a
 | _=>False
theorem Y6:type_of% @jn.eq_1:=q_E @jn.eq_1
@[congr] theorem JbI tE{K}{l l'}(h:l=l'):jn tE l K=jn tE l' K:=by subst h;rfl
attribute [go_sem,go_sem ↓] Y6
theorem jal(tE:Nat):Good (jn tE):=Ja λas=>by
 unfold jn;split
 .exact(xd λ_=>(zo λ_=>(.and λ_=>(.and λ_=>(.and λ_=>(.ret _))))))
 .exact .of λK hk=>hk.elim
def Vl(f0 f1 f2 f3 tE:Nat):AC:=(.o [.m 2 (.c (.one (.lit .nilIface)))] [0] (.f (.o [.M 5 0,.Z 6 5,.I 7 .gtr 6 325] [0,7] (.cond (.t 7) (.seq (.p [.u 8 (.iface tE (.i 4)),.M 2 8]) .ret) .skip)) [0] (.f (.o [.M 9 0,.Z 10 9,.N 11 0] [0,9,10,11] (.block 0 (.loop (.o [.B 12 .lss 11 10] [0,9,10,11,12] (.f (.cond (.t 12) .skip (.exit 0)) [0,9,10,11] (.f (.block 1 (.o [.M 13 11,.J 14 5 9 11,.L 15 5 14,.G 4 [(.lit (.int .i64 0)),(.lit (.int .i64 0)),.z,.emp,.emp],.M 3 13,.S 5 4 15] [0,3,4,9,10,11] (.block 2 (.o [.L 17 5 4,.H 18 f0 17,.u 19 (.un .not (.t 18)),.M 16 19] [0,3,4,9,10,11,16] (.cond (.t 16) (.seq (.p [.u 20 (.iface tE (.i 3)),.M 2 20]) .ret) (.o [.A 22 2 4,.L 23 3 22,.H 24 f1 23,.u 25 (.un .not (.t 24)),.M 21 25] [0,3,4,9,10,11,21] (.cond (.t 21) (.seq (.p [.u 26 (.iface tE (.i 2)),.M 2 26]) .ret) (.o [.A 28 2 4,.L 29 3 28,.H 30 f2 29,.I 31 .eql 30 0,.M 27 31] [0,3,4,9,10,11,27] (.cond (.t 27) (.seq (.p [.u 32 (.iface tE (.i 8)),.M 2 32]) .ret) (.f (.y [.M 34 3,.I 35 .gtr 34 0,.M 36 35,.V 37 36 true 0,.V 38 36 true 3,.w 39 36 true (.bin .sub (.t 38) (.i 1)),.w 40 36 true (.idx 5 (.t 37) (.t 39)),.U 41 36 true 5 true 40,.U 42 36 true 5 true 4,.Y 43 36 true f3 41 42,.w 44 36 true (.bin .geq (.t 43) (.i 0)),.P 45 36 44,.M 33 45]) [0,9,10,11,33] (.cond (.t 33) (.seq (.p [.u 46 (.iface tE (.i 12)),.M 2 46]) .ret) .skip))))))))))) [0,9,10,11] (.p [.I 47 .add 11 1,.M 11 47]))))))) [] (.seq (.p [.m 2 (.c (.one (.lit .nilIface)))]) .ret))))
def Uo(f0:Nat):AC:=(.o [.m 2 (.c (.one (.lit .nilIface)))] [0] (.f (.o [.M 6 0,.Z 7 6,.N 8 0] [6,7,8] (.block 0 (.loop (.o [.B 9 .lss 8 7] [6,7,8,9] (.f (.cond (.t 9) .skip (.exit 0)) [6,7,8] (.f (.block 1 (.o [.J 10 1 6 8,.F 11 1 10,.M 4 11] [4,6,7,8] (.o [.M 12 4,.H 13 f0 12,.M 5 13] [5,6,7,8] (.o [.M 14 5,.R 15 14] [5,6,7,8,15] (.cond (.t 15) (.seq (.p [.M 16 5,.M 2 16]) .ret) .skip))))) [6,7,8] (.p [.I 17 .add 8 1,.M 8 17]))))))) [] (.seq (.p [.m 2 (.c (.one (.lit .nilIface)))]) .ret)))
def Vj:AC:=(.o [.N 2 0] [0] (.f (.o [.M 3 0,.Z 4 3,.I 5 .eql 4 0] [0,5] (.cond (.t 5) (.seq (.p [.N 2 (-1)]) .ret) .skip)) [0] (.seq (.y [.M 6 0,.M 7 0,.Z 8 7,.I 9 .sub 8 1,.J 10 5 6 9,.A 11 0 10,.F 12 1 11,.M 13 0,.M 14 0,.Z 15 14,.I 16 .sub 15 1,.J 17 5 13 16,.A 18 1 17,.F 19 1 18,.B 20 .add 12 19,.M 2 20]) .ret)))
def Vq(f0:Nat):AC:=(.o [.K 3 3 1,.m 4 (.c (.one .emp))] [0,3] (.o [.m 5 (.c (.one .emp))] [0,3,5] (.f (.o [.M 8 0,.Z 9 8,.N 10 0] [3,5,8,9,10] (.block 0 (.loop (.o [.B 11 .lss 10 9] [3,5,8,9,10,11] (.f (.cond (.t 11) .skip (.exit 0)) [3,5,8,9,10] (.f (.block 1 (.o [.J 12 5 8 10,.L 13 5 12,.G 7 [(.lit (.int .i64 0)),(.lit (.int .i64 0)),.z,.emp,.emp],.S 5 7 13] [3,5,7,8,9,10] (.y [.M 14 5,.A 15 0 7,.F 16 1 15,.A 17 1 7,.F 18 1 17,.L 19 3 3,.A 20 2 7,.L 21 3 20,.D 22 f0 19 21,.u 23 (.build [.x 1 (.t 16),.x 1 (.t 18),.x 3 (.t 22)]),.u 24 (.row 5 [[.x 5 (.t 23)]]),.u 25 (.app 5 (.t 14) (.t 24)),.M 5 25]))) [3,5,8,9,10] (.p [.I 26 .add 10 1,.M 10 26]))))))) [5] (.seq (.p [.M 27 5,.M 4 27]) .ret))))
theorem vk{h h' : Nat->HB}{x:R}{z:Nat}{b:Bool}:okB h h' (some ⟨[[cb x,cn x,cd x]],z,b⟩) (some ⟨[[cb x,cn x,cd x]],z,b⟩):=
 ⟨⟨rfl,rfl⟩,.inl ⟨rfl,λe he c hc=>by
  rw [List.mem_singleton]at he;subst he;simp only [List.mem_cons,List.not_mem_nil,or_false]at hc;rcases hc with rfl | rfl | rfl
  .exact of_eq_true (kj _)
  .exact of_eq_true (Jj _)
  .exact of_eq_true (wj _)⟩⟩
theorem xaf(hΓ:Holds P Γ){f fi fv fs fo tE:Nat}(hi:Γ fi=.dat true Ui)(hv:Γ fv=.dat true Wd)(hs:Γ fs=.dat true jf)(ho:Γ fo=.dat true Xs)(hc:check P f=some (48,(Vl fi fv fs fo tE).strip,[.tmp 2])):Sound P f (.dat false (Zl tE)):=by
 refine Qa hc (Qak tE) hΓ (λargs K hcl hfi hG=>?_);match args,hG with
 | [a],hG=>
  obtain⟨l,rfl,hw,hrl,hK⟩:=hG;refine⟨by simp,?_⟩
  by_cases h325:325<l.length
  .have e:chkB l=4:=if_pos h325;rw [e,Ye tE (by decide)]at hK
   have h325' : (325:Int)<(l.length:Int):=by omega
   simp only [go_sem,Vl,h325'];exact λ_=>hK
  .have h325' : ¬(325:Int)<(l.length:Int):=by omega
   have e:chkB l=chkG none l:=if_neg h325;rw [e]at hK;simp only [go_sem,Vl,h325'];intro _ _;refine ja (λk:Nat=>⟨mkV [(0,msA l),(9,msA l),(10,.one (.lit (.int .i64 l.length))),(11,.one (.lit (.int .i64 k)))],mkH []⟩) (λk=>k<=l.length/\chkG none l=chkG (lastO l k) (l.drop k)/\∀t∈l.take k,inM t) (λk=>l.length-k) 0 ?_ ?_ ?_
   .exact za (by simp [bitvec_to_nat,msA,ms]) trivial
   .exact⟨Nat.zero_le _,rfl,by simp⟩
   .rintro k ⟨hk,hch,hin⟩;by_cases hlt:k<l.length
    .obtain⟨x,hx⟩:∃x,l.getD k mo0=x:=⟨_,rfl⟩;have hx0:=getDm hlt hx;have hxm:=List.mem_of_getElem? hx0;have hwx:=hw x hxm;have hrx:=hrl x hxm;rw [xac _ hx0]at hch;by_cases a1:inM x
     .cases a2:vldR x.2.2 with
      | false=>
       have ec:chkT (lastO l k) x=2:=by unfold chkT;rw [if_neg (by simp [a1]),if_pos a2]
       rw [ec,if_pos (by decide)]at hch
       rw [hch,Ye tE (by decide)]at hK
       simp only [go_sem,hlt,hx,hi,hv,mC,a2];exact⟨hwx,λ_=>⟨hwx.2.2,hrx,hK⟩,λh=>absurd a1 h⟩
      | true=>
       by_cases a3:rv x.2.2=0
       .have ec:chkT (lastO l k) x=8:=by unfold chkT;rw [if_neg (by simp [a1]),if_neg (by simp [a2]),if_pos a3]
        rw [ec,if_pos (by decide)]at hch
        rw [hch,Ye tE (by decide)]at hK
        have a3' : ordQ (rv x.2.2) 0=0:=qj.2 a3;simp only [go_sem,hlt,hx,hi,hv,hs,mC,a2,a3'];exact⟨hwx,λ_=>⟨hwx.2.2,hrx,hwx.2.2,hrx,hK⟩,λh=>absurd a1 h⟩
       .have hin' : ∀t∈l.take (k+1),inM t:=λt ht=>by
         rw [List.take_add_one,hx0]at ht;rcases List.mem_append.1 ht with ht | ht
         .exact hin t ht
         .simp at ht;rw [ht];exact a1
        have a3' : ¬ordQ (rv x.2.2) 0=0:=λh=>a3 (qj.1 h);cases k with
        | zero=>
         simp only [go_sem,hlt,hx,hi,hv,hs,mC,a2,a3',Int.lt_irrefl];have ec:chkT (lastO l 0) x=0:=by unfold chkT;rw [if_neg (by simp [a1]),if_neg (by simp [a2]),if_neg a3,if_neg (by simp [lastO,badO])]
         rw [ec,if_neg (by decide)]at hch
         have hl1:lastO l 1=some x:=congrArg some hx;refine⟨hwx,λ_=>⟨hwx.2.2,hrx,hwx.2.2,hrx,by omega,1,za (by simp [bitvec_to_nat,msA,ms]) trivial,⟨by omega,by rw [hl1];exact hch,hin'⟩,by omega⟩,λh=>absurd a1 h⟩
        | succ j=>
         have hn1:((j+1:Nat):Int)-1=(j:Int):=by omega
         have hn2:(0:Int)<((j+1:Nat):Int):=by omega
         simp only [go_sem,hlt,hx,hi,hv,hs,ho,mC,a2,a3',hn1,hn2];have hym:l.getD j mo0∈l:=by
          rw [List.getD_eq_getElem?_getD,List.getElem?_eq_getElem (by omega)];exact List.getElem_mem _
         have hyt:l.getD j mo0∈l.take (j+1):=by
          rw [List.getD_eq_getElem?_getD,List.getElem?_eq_getElem (by omega),Option.getD_some]
          exact List.mem_iff_getElem.2 ⟨j,by rw [List.length_take];omega,by simp⟩
         have hiy:=hin _ hyt;have hwy:=hw _ hym;have hlj:lastO l (j+1)=some (l.getD j mo0):=rfl;have hl1:lastO l (j+1+1)=some x:=congrArg some hx;refine⟨hwx,λ_=>⟨hwx.2.2,hrx,hwx.2.2,hrx,by omega,by omega,hwy,hwx,hiy,a1,λh=>?_,λh=>?_⟩,λh=>absurd a1 h⟩
         .have h:0<=ordK (kM (l.getD j mo0)) (kM x):=h;rw [VaO]at h;have ec:chkT (lastO l (j+1)) x=12:=by unfold chkT;rw [if_neg (by simp [a1]),if_neg (by simp [a2]),if_neg a3,if_pos (by rw [hlj];simpa [badO] using h)]
          rw [ec,if_pos (by decide)]at hch
          rw [hch,Ye tE (by decide)]at hK
          exact hK
         .have h:¬0<=ordK (kM (l.getD j mo0)) (kM x):=h;rw [VaO]at h;have ec:chkT (lastO l (j+1)) x=0:=by unfold chkT;rw [if_neg (by simp [a1]),if_neg (by simp [a2]),if_neg a3,if_neg (by rw [hlj];simpa [badO] using h)]
          rw [ec,if_neg (by decide)]at hch
          exact⟨by omega,j+1+1,za (by simp [bitvec_to_nat,msA,ms]) trivial,⟨by omega,by rw [hl1];exact hch,hin'⟩,by omega⟩
     .have ec:chkT (lastO l k) x=3:=by unfold chkT;rw [if_pos a1]
      rw [ec,if_pos (by decide)]at hch
      rw [hch,Ye tE (by decide)]at hK
      simp only [go_sem,hlt,hx,hi,mC,decide_eq_false a1];exact⟨hwx,hK⟩
    .rw [List.drop_of_length_le (by omega)]at hch
     have e0:chkG (lastO l k) []=0:=rfl;rw [hch,e0,je]at hK;simp only [go_sem,hlt];exact hK
theorem uY(hΓ:Holds P Γ){f fk tE:Nat}(hk:Γ fk=.dat false (Zl tE))(hc:check P f=some (18,(Uo fk).strip,[.tmp 2])):Sound P f (.dat false (we tE)):=by
 refine Qa hc (qab tE) hΓ (λargs K hcl hfi hG=>?_);match args,hG with
 | [a],hG=>
  obtain⟨p,q,rfl,⟨hwp,hwq⟩,hp,hq,hK⟩:=hG;refine⟨by simp,?_⟩
  simp only [go_sem,Uo,ms];refine ja (λk:Nat=>⟨mkV [(6,.one (.slice [[ms p],[ms q]])),(7,.one (.lit (.int .i64 2))),(8,.one (.lit (.int .i64 k)))],mkH []⟩) (λk=>k<=2/\(0<k->chkB p=0)/\(1<k->chkB q=0)) (λk=>2-k) 0 ?_ ?_ ?_
  .exact za (by simp [bitvec_to_nat,ms]) trivial
  .exact⟨by decide,by omega,by omega⟩
  .rintro k ⟨hk2,h1,h2⟩;have hk3:k=0∨k=1∨k=2:=by omega
   unfold chk2 at hK;rcases hk3 with rfl | rfl | rfl
   .by_cases hx:chkB p=0
    .have e0:=je tE;rw [<-hx]at e0;simp only [go_sem,c02,hk,ms,e0];refine⟨hwp,hp,by decide,1,za (by simp [bitvec_to_nat,ms]) trivial,⟨by omega,by simp [hx],by omega⟩,by omega⟩
    .rw [if_pos hx]at hK;have e0:=Ye tE hx;rw [e0]at hK;simp only [go_sem,c02,hk,ms,e0];exact⟨hwp,hp,hK⟩
   .have hx:=h1 (by omega)
    rw [if_neg (by simp [hx])]at hK
    by_cases hy:chkB q=0
    .have e0:=je tE;rw [<-hy]at e0;simp only [go_sem,c12,kE,hk,ms,e0];refine⟨hwq,hq,by decide,2,za (by simp [bitvec_to_nat,ms]) trivial,⟨by omega,by simp [hx],by simp [hy]⟩,by omega⟩
    .have e0:=Ye tE hy;rw [e0]at hK;simp only [go_sem,c12,kE,hk,ms,e0];exact⟨hwq,hq,hK⟩
   .have hx:=h1 (by omega)
    have hy:=h2 (by omega)
    rw [if_neg (by simp [hx]),hy,je]at hK
    simp only [go_sem,c22];exact hK
theorem ZaJ(hΓ:Holds P Γ){f:Nat}(hc:check P f=some (21,Vj.strip,[.tmp 2])):Sound P f (.dat true xq):=by
 refine Qa hc Vaf hΓ (λargs K hcl hfi hG=>?_);match args,hG with
 | [a],hG=>
  obtain⟨l,rfl,hw,hin,hl,hK⟩:=hG;refine⟨by simp,?_⟩
  rcases hl0:l with _ | ⟨t,l0⟩
  .subst hl0;simp only [go_sem,Vj];simpa [degM] using hK
  .have hlen:l.length=l0.length+1:=by rw [hl0];rfl
   rw [<-hl0];obtain⟨y,hy⟩:∃y,l.getD l0.length mo0=y:=⟨_,rfl⟩;have hy0:=getDm (by omega) hy
   have hym:=List.mem_of_getElem? hy0;have hd:degM l=y.1+y.2.1:=by
    unfold degM;rw [List.getLast?_eq_getElem?,hlen,Nat.add_sub_cancel,hy0]
   rw [hd]at hK;obtain⟨i1,i2,i3⟩:=hin y hym;have hn1:((l0.length+1:Nat):Int)-1=(l0.length:Int):=by omega
   have hn0:¬((l0.length+1:Nat):Int)=0:=by omega
   simp only [go_sem,Vj,hlen,hn1,hn0,hy,mC];exact λ_=>⟨by omega,by omega,by omega,by omega,by omega,by omega,⟨by omega,by omega⟩,hK⟩
theorem jaJ(hΓ:Holds P Γ){f fm:Nat}(hm:Γ fm=.dat false Ql)(hc:check P f=some (28,(Vq fm).strip,[.tmp 4])):Sound P f (.dat false kx):=by
 refine Qa hc UaP hΓ (λargs K hcl hfi hG=>?_);match args,hG with
 | [a,c],hG=>
  obtain⟨l,rfl,hw,x,rfl,hwx,hrl,hrx,hl,hK⟩:=hG;refine⟨by simp,?_⟩
  simp only [go_sem,Vq,rA];intro _;refine ja (λk:Nat=>if k=0 then ⟨mkV [(3,.one (.ptr 3 1 0 0)),(5,.one .emp),(8,msA l),(9,.one (.lit (.int .i64 l.length))),(10,.one (.lit (.int .i64 k)))],mkH [(3,⟨1,some ⟨[[cb x,cn x,cd x]],3,true⟩⟩)]⟩
    else ⟨mkV [(3,.one (.ptr 3 1 0 0)),(5,.one (.own 25 1 5 0 k)),(8,msA l),(9,.one (.lit (.int .i64 l.length))),(10,.one (.lit (.int .i64 k)))],mkH [(3,⟨1,some ⟨[[cb x,cn x,cd x]],3,true⟩⟩),(25,⟨1,some ⟨(sclM (rv x) (l.take k)).map mC,5,true⟩⟩)]⟩) (λk=>k<=l.length) (λk=>l.length-k) 0 ?_ ?_ ?_
  .exact za (by simp [bitvec_to_nat,msA,ms]) ⟨vk,trivial⟩
  .exact Nat.zero_le _
  .intro k hk;by_cases hlt:k<l.length
   .obtain⟨y,hy⟩:∃y,l.getD k mo0=y:=⟨_,rfl⟩;have hy0:=getDm hlt hy;have hym:=List.mem_of_getElem? hy0;have hwy:=hw y hym;have hry:=hrl y hym;have ht:=Waa (c:=rv x) hy0;by_cases hk0:k=0
    .subst hk0;simp only [go_sem,hlt,hy,hm,mC];refine⟨hwx,hwy.2.2,by omega,by omega,λe he=>by rw [List.mem_singleton.1 he];rfl,by omega,1,?_,by omega,by omega⟩
     rw [if_neg (by decide)]
     exact za (by simp [bitvec_to_nat,msA,ms]) ⟨vk,Xb (by rw [ht];rfl),trivial⟩
    .have hlk:(sclM (rv x) (l.take k)).length=k:=by rw [kp,List.length_take];omega
     simp only [go_sem,hlt,hy,hm,mC,hk0,hlk];refine⟨hwx,hwy.2.2,by omega,by omega,λe he=>by rw [List.mem_singleton.1 he];rfl,by omega,by omega,k+1,?_,by omega,by omega⟩
     rw [if_neg (by omega)]
     exact za (by simp [bitvec_to_nat,msA,ms]) ⟨vk,Xb (by rw [ht];simp [mC]),trivial⟩
   .by_cases hk0:k=0
    .subst hk0;have hl0:l=[]:=List.length_eq_zero_iff.1 (by omega)
     subst hl0;simp only [go_sem,hlt];exact hK
    .have hlk:(sclM (rv x) (l.take k)).length=k:=by rw [kp,List.length_take];omega
     have et:l.take k=l:=List.take_of_length_le (by omega)
     simp only [go_sem,hlt,hk0];rw [if_pos (by omega),List.take_of_length_le (Nat.le_of_eq hlk),Xg _ (of_eq_true (Vd _)),et]
     exact hK
end Go.Abs
end
section
namespace Go.Num
open Go.Abs
theorem JK{c:Rat}{p:List Mo}(hi:∀t∈p,inM t)(hw:∀t∈p,WLM t)(hr:∀t∈p,rl t.2.2<=1000000000)(hc:rz c<=1000000000):∀u∈sclM c p,WLM u/\inM u/\rl u.2.2<=4294967296:=by
 intro u hu;obtain⟨t,ht,rfl⟩:=List.mem_map.1 hu;obtain⟨w1,w2,w3⟩:=hw t ht;refine⟨⟨w1,w2,zt _⟩,hi t ht,?_⟩;have h1:=Qo c (rv t.2.2);have h2:=ZA w3;have h3:=hr t ht;have h4:rl (rcan (c*rv t.2.2))=rz (c*rv t.2.2):=rfl;simp only;omega
theorem rneg1:((-1:Int):Rat) = -1:=by simp
end Go.Num
namespace Go.Abs
open Go.Num
variable {P:Program} {Γ:Nat->Spec}
def onM2f(k:List Mo->List Mo->Prop)(a:AV):Prop:=∃p q,a=.one (.full [[ms p],[ms q]])/\((∀x∈p,WLM x)/\(∀x∈q,WLM x))/\k p q
@[congr] theorem ZbP{k:List Mo->List Mo->Prop}{a a'}(h:a=a'):onM2f k a=onM2f k a':=by subst h;rfl
theorem Zak(k:List Mo->List Mo->Prop)(p q:List Mo):onM2f k (.one (.full [[.slice (p.map mC)],[.slice (q.map mC)]]))=(((∀x∈p,WLM x)/\(∀x∈q,WLM x))/\k p q):=by
 refine propext ⟨λ⟨x,y,h,h1,h2⟩=>?_,λh=>⟨p,q,rfl,h⟩⟩;simp only [ms,AV.one.injEq,C.full.injEq,List.cons.injEq,C.slice.injEq,and_true]at h;obtain⟨e1,e2⟩:=h;have:=Jm e1;have:=Jm e2
 subst_vars;exact⟨h1,h2⟩
theorem wbq{β:Type}{T:List Mo->List Mo->(β->Prop)->Prop}(h:∀p q,GoodT (T p q)){a:AV}:GoodT λK=>onM2f (λp q=>T p q K) a:=
 .of λK hx=>by
  obtain⟨p,q,rfl,hw,hk⟩:=hx;have:(λK=>onM2f (λp q=>T p q K) (.one (.full [[ms p],[ms q]])))=λK=>((∀x∈p,WLM x)/\(∀x∈q,WLM x))/\T p q K:=funext λK=>Zak _ p q;rw [this];exact .and λ_=>h p q
attribute [go_sem,go_sem ↓] Zak
def Ut(l:List AV)(K:List (List C)->Prop):Prop:=
 match l with
 | [a,n]=>a=.one .emp/\asInt (λk n=>k=.i64/\0<=n/\n<=1000000/\K []) n
 | _=>False
theorem Vat:type_of% @Ut.eq_1:=q_E @Ut.eq_1
@[congr] theorem qbR{K}{l l'}(h:l=l'):Ut l K=Ut l' K:=h▸rfl
attribute [go_sem,go_sem ↓] Vat
theorem VaJ:Good Ut:=Ja λas=>by
 unfold Ut;split
 .exact(.and λ_=>(vc (λ_ _=>(.and λ_=>(.and λ_=>(.and λ_=>(.ret _))))) _))
 .exact .of λK hk=>hk.elim
def Wt(l:List AV)(K:List (List C)->Prop):Prop:=
 match l with
 | [a]=>onM2f (λp q=>p.length<=400000/\q.length<=400000/\K ((p++q).map mC)) a
 | _=>False
theorem waH:type_of% @Wt.eq_1:=q_E @Wt.eq_1
@[congr] theorem ybO{K}{l l'}(h:l=l'):Wt l K=Wt l' K:=h▸rfl
attribute [go_sem,go_sem ↓] waH
theorem qaJ:Good Wt:=Ja λas=>by
 unfold Wt;split
 .exact wbq λ_ _=>.and λ_=>.and λ_=>.ret _
 .exact .of λK hk=>hk.elim
def km:AC:=(.o [.m 4 (.c (.one .emp))] [0,1] (.f (.o [.M 5 1,.I 6 .lss 5 0] [0,1,6] (.cond (.t 6) (.p [.u 7 (.bad),.n (.bad)]) .skip)) [0,1] (.f (.o [.M 8 1,.M 9 0,.u 10 (.cap (.t 9)),.M 11 0,.Z 12 11,.B 13 .sub 10 12,.B 14 .sub 8 13,.M 1 14] [0,1] (.o [.M 15 1,.I 16 .gtr 15 0] [0,1,16] (.cond (.t 16) (.p [.M 17 0,.M 18 0,.u 19 (.cap (.t 18)),.u 20 (.sl 5 (.t 17) none (some (.t 19))),.M 21 1,.u 22 (.appz 5 [(.lit (.int .i64 0)),(.lit (.int .i64 0)),.z,.emp,.emp] (.t 20) (.t 21)),.M 23 0,.Z 24 23,.u 25 (.sl 5 (.t 22) none (some (.t 24))),.M 0 25]) .skip))) [0] (.seq (.p [.M 26 0,.M 4 26]) .ret))))
def qk(f0:Nat):AC:=(.o [.m 2 (.c (.one .emp))] [0] (.o [.N 3 0] [0,3] (.f (.o [.M 9 0,.Z 10 9,.N 11 0] [0,3,9,10,11] (.block 0 (.loop (.o [.B 12 .lss 11 10] [0,3,9,10,11,12] (.f (.cond (.t 12) .skip (.exit 0)) [0,3,9,10,11] (.f (.block 1 (.o [.J 13 1 9 11,.F 14 1 13,.M 5 14] [0,3,5,9,10,11] (.o [.M 15 3,.M 16 5,.Z 17 16,.B 18 .add 15 17,.M 3 18] [0,3,9,10,11] (.o [.M 19 3,.I 20 .lss 19 0] [0,3,9,10,11,20] (.cond (.t 20) (.p [.u 21 (.bad),.n (.bad)]) .skip))))) [0,3,9,10,11] (.p [.I 22 .add 11 1,.M 11 22]))))))) [0,3] (.o [.M 23 3,.u 24 (.callf f0 [(.c (.one .emp)),(.t 23)]),.M 6 24] [0,6] (.f (.o [.M 25 0,.Z 26 25,.N 27 0] [6,25,26,27] (.block 2 (.loop (.o [.B 28 .lss 27 26] [6,25,26,27,28] (.f (.cond (.t 28) .skip (.exit 2)) [6,25,26,27] (.f (.block 3 (.o [.J 29 1 25 27,.F 30 1 29,.M 8 30] [6,8,25,26,27] (.p [.M 31 6,.M 32 8,.u 33 (.app 5 (.t 31) (.t 32)),.M 6 33]))) [6,25,26,27] (.p [.I 34 .add 27 1,.M 27 34]))))))) [6] (.seq (.p [.M 35 6,.M 2 35]) .ret))))))
def jp(f0 f1 f2:Nat):AC:=(.o [.m 4 (.c (.one .emp)),.m 5 (.c (.one (.lit .nilIface)))] [0,1] (.f (.o [.M 7 0,.M 8 1,.u 9 (.row 1 [[.x 1 (.t 7)],[.x 1 (.t 8)]]),.H 10 f0 9,.M 6 10] [0,1,6] (.o [.M 11 6,.R 12 11] [0,1,6,12] (.cond (.t 12) (.seq (.p [.M 13 6,.m 4 (.c (.one .emp)),.M 5 13]) .ret) .skip))) [0,1] (.seq (.p [.M 14 0,.M 15 1,.u 16 (.row 1 [[.x 1 (.t 14)],[.x 1 (.t 15)]]),.u 17 (.callf f1 [(.t 16)]),.H 18 f2 17,.M 4 18,.m 5 (.c (.one (.lit .nilIface)))]) .ret)))
def vp(f0 f1 f2 f3 f4:Nat):AC:=(.o [.m 4 (.c (.one .emp)),.m 5 (.c (.one (.lit .nilIface)))] [0,1] (.f (.o [.M 7 0,.M 8 1,.u 9 (.row 1 [[.x 1 (.t 7)],[.x 1 (.t 8)]]),.H 10 f0 9,.M 6 10] [0,1,6] (.o [.M 11 6,.R 12 11] [0,1,6,12] (.cond (.t 12) (.seq (.p [.M 13 6,.m 4 (.c (.one .emp)),.M 5 13]) .ret) .skip))) [0,1] (.seq (.p [.M 14 0,.u 15 (.callf f1 [(.t 14)]),.M 16 1,.u 17 (.call f2 [(.i (-1))]),.D 18 f3 16 17,.u 19 (.app 5 (.t 15) (.t 18)),.H 20 f4 19,.M 4 20,.m 5 (.c (.one (.lit .nilIface)))]) .ret)))
def wk(f0 f1 f2:Nat):AC:=(.o [.K 3 3 1,.m 4 (.c (.one .emp)),.m 5 (.c (.one (.lit .nilIface)))] [0,3] (.f (.o [.M 7 0,.H 8 f0 7,.M 6 8] [0,3,6] (.o [.M 9 6,.R 10 9] [0,3,6,10] (.cond (.t 10) (.seq (.p [.M 11 6,.m 4 (.c (.one .emp)),.M 5 11]) .ret) .skip))) [0,3] (.seq (.p [.M 12 0,.L 13 3 3,.D 14 f1 12 13,.H 15 f2 14,.M 4 15,.m 5 (.c (.one (.lit .nilIface)))]) .ret)))
theorem van(hΓ:Holds P Γ){f:Nat}(hc:check P f=some (27,km.strip,[.tmp 4])):Sound P f (.fresh 5 Ut):=by
 refine Yj hc VaJ hΓ (λargs K hcl hfi hG=>?_);match args,hG with
 | [a,b],hG=>
  obtain⟨rfl,hG⟩:=hG;obtain⟨k,n,rfl,rfl,h0,h1,hK⟩:=ua hG;refine⟨by simp,?_⟩
  simp only [go_sem,km];refine⟨λh=>by omega,λ_=>⟨by omega,by omega,λh=>⟨by omega,by omega,by omega,by omega,by omega,hK⟩,λh=>hK⟩⟩
def cat2(p q:List Mo):Nat->List Mo
 | 0=>[]
 | 1=>p
 | _=>p++q
theorem xam(hΓ:Holds P Γ){f fg:Nat}(hg:Γ fg=.fresh 5 Ut)(hc:check P f=some (36,(qk fg).strip,[.tmp 2])):Sound P f (.fresh 5 Wt):=by
 refine Yj hc qaJ hΓ (λargs K hcl hfi hG=>?_);match args,hG with
 | [a],hG=>
  obtain⟨p,q,rfl,⟨hwp,hwq⟩,hp,hq,hK⟩:=hG;refine⟨by simp,?_⟩
  simp only [go_sem,qk,hg,ms];refine ja (λk:Nat=>⟨mkV [(0,.one (.full [[ms p],[ms q]])),(3,.one (.lit (.int .i64 (cat2 p q k).length))),(9,.one (.full [[ms p],[ms q]])),(10,.one (.lit (.int .i64 2))),(11,.one (.lit (.int .i64 k)))],mkH []⟩) (λk=>k<=2) (λk=>2-k) 0 ?_ ?_ ?_
  .exact za (by simp [bitvec_to_nat,ms,cat2]) trivial
  .decide
  .intro k hk2;have hk3:k=0∨k=1∨k=2:=by omega
   rcases hk3 with rfl | rfl | rfl
   .simp only [go_sem,c02,ms,cat2];exact λ_=>⟨by omega,λh=>by omega,λ_=>⟨by decide,1,za (by simp [bitvec_to_nat,ms]) trivial,by omega,by omega⟩⟩
   .simp only [go_sem,c12,kE,ms,cat2];exact λ_=>⟨by omega,λh=>by omega,λ_=>⟨by decide,2,za (by simp [bitvec_to_nat,ms]) trivial,by omega,by omega⟩⟩
   .simp only [go_sem,c22,ms,cat2,hg];refine⟨by rw [List.length_append];omega,?_⟩
    refine ja (λk:Nat=>⟨mkV [(6,.one (.own 24 1 5 0 (cat2 p q k).length)),(25,.one (.full [[ms p],[ms q]])),(26,.one (.lit (.int .i64 2))),(27,.one (.lit (.int .i64 k)))],mkH [(24,⟨1,some ⟨(cat2 p q k).map mC,5,true⟩⟩)]⟩) (λk=>k<=2) (λk=>2-k) 0 ?_ ?_ ?_
    .exact za (by simp [bitvec_to_nat,ms,cat2]) ⟨Xb (by simp [cat2]),trivial⟩
    .decide
    .intro k hk2;have hk3:k=0∨k=1∨k=2:=by omega
     rcases hk3 with rfl | rfl | rfl
     .simp only [go_sem,c02,ms,cat2];exact⟨by omega,by decide,1,za (by simp [bitvec_to_nat,ms]) ⟨Xb rfl,trivial⟩,by omega,by omega⟩
     .simp only [go_sem,c12,kE,ms,cat2];exact⟨by omega,by decide,2,za (by simp [bitvec_to_nat,ms]) ⟨Xb rfl,trivial⟩,by omega,by omega⟩
     .simp only [go_sem,c22,ms,cat2];exact hK
theorem VaI(hΓ:Holds P Γ){f fk fc fs tE m:Nat}(hm:650<=m)(hk:Γ fk=.dat false (we tE))(hcc:Γ fc=.fresh 5 Wt)(hs:Γ fs=.dat false (Jk m))(hc:check P f=some (19,(jp fk fc fs).strip,[.tmp 4,.tmp 5])):Sound P f (.dat false (xz tE)):=by
 refine Qa hc (za4 tE) hΓ (λargs K hcl hfi hG=>?_);match args,hG with
 | [a,b],hG=>
  obtain⟨p,rfl,hwp,q,rfl,hwq,hp,hq,hsz,hK⟩:=hG;refine⟨by simp,?_⟩
  by_cases h0:chk2 p q=0
  .rw [h0,jz,je]at hK;obtain⟨c1,c2⟩:=Zz h0;obtain⟨i1,j1,l1⟩:=kh c1 hwp;obtain⟨i2,j2,l2⟩:=kh c2 hwq;have e0:=je tE;rw [<-h0]at e0;simp only [go_sem,jp,hk,hcc,hs,e0];refine⟨⟨hwp,hwq⟩,hp,hq,⟨hwp,hwq⟩,by omega,by omega,λx hx=>(List.mem_append.1 hx).elim (hwp x) (hwq x),λx hx=>(List.mem_append.1 hx).elim (λh=>⟨i1 x h,hp x h⟩) (λh=>⟨i2 x h,hq x h⟩),by rw [List.length_append];omega,by rw [List.map_append,Jd];exact hsz,?_⟩
   rw [List.map_append];exact hK
  .have e0:=Ye tE h0;rw [uw h0,e0]at hK;simp only [go_sem,jp,hk,hcc,hs,e0];exact⟨⟨hwp,hwq⟩,hp,hq,hK⟩
theorem UaJ(hΓ:Holds P Γ){f fk fc fo fl fs tE m:Nat}(hm:650<=m)(hk:Γ fk=.dat false (we tE))(hcl0:Γ fc=.fresh 5 yk)(ho:Γ fo=.dat false Xw)(hl:Γ fl=.dat false kx)(hs:Γ fs=.dat false (Jk m))(hc:check P f=some (21,(vp fk fc fo fl fs).strip,[.tmp 4,.tmp 5])):Sound P f (.dat false (yz tE)):=by
 refine Qa hc (zaX tE) hΓ (λargs K hcl hfi hG=>?_);match args,hG with
 | [a,b],hG=>
  obtain⟨p,rfl,hwp,q,rfl,hwq,hp,hq,hsz,hK⟩:=hG;refine⟨by simp,?_⟩
  have hp' : ∀t∈p,rl t.2.2<=4294967296:=λt ht=>Nat.le_trans (hp t ht) (by decide)
  have hq' : ∀t∈q,rl t.2.2<=4294967296:=λt ht=>Nat.le_trans (hq t ht) (by decide)
  by_cases h0:chk2 p q=0
  .rw [h0,jz,je]at hK;obtain⟨c1,c2⟩:=Zz h0;obtain⟨i1,j1,l1⟩:=kh c1 hwp;obtain⟨i2,j2,l2⟩:=kh c2 hwq;have e0:=je tE;rw [<-h0]at e0;simp only [go_sem,vp,hk,hcl0,ho,hl,hs,e0];have hz1:rz ((-1:Int):Rat)<=1000000000:=by rw [rneg1];have:=Ubw;omega
   have ho1:=JK (c:=((-1:Int):Rat)) i2 hwq hq hz1;have hsl:=kp ((-1:Int):Rat) q;refine⟨⟨hwp,hwq⟩,hp',hq',hwp,by omega,by decide,by decide,hwq,hq,hz1,by omega,by omega,?_⟩
   rw [if_pos (by rw [List.length_append];exact Nat.le_refl _),List.take_of_length_le (by rw [List.length_append];exact Nat.le_refl _),Xg _ (of_eq_true (Vd _)),UL]
   refine⟨λx hx=>(List.mem_append.1 hx).elim (hwp x) (λh=>(ho1 x h).1),λx hx=>(List.mem_append.1 hx).elim (λh=>⟨i1 x h,hp' x h⟩) (λh=>(ho1 x h).2),by rw [List.length_append];omega,?_,?_⟩
   .rw [List.map_append,Jd,Wx,rneg1,YD];exact hsz
   .rw [List.map_append,Wx,rneg1];exact hK
  .have e0:=Ye tE h0;rw [uw h0,e0]at hK;simp only [go_sem,vp,hk,hs,e0];exact⟨⟨hwp,hwq⟩,hp',hq',hK⟩
theorem X0(hΓ:Holds P Γ){f fk fl fs tE m:Nat}(hm:650<=m)(hk:Γ fk=.dat false (Zl tE))(hl:Γ fl=.dat false kx)(hs:Γ fs=.dat false (Jk m))(hc:check P f=some (16,(wk fk fl fs).strip,[.tmp 4,.tmp 5])):Sound P f (.dat false (jn tE)):=by
 refine Qa hc (jal tE) hΓ (λargs K hcl hfi hG=>?_);match args,hG with
 | [a,b],hG=>
  obtain⟨p,rfl,hwp,x,rfl,hwx,hp,hx,hsz,hK⟩:=hG;refine⟨by simp,?_⟩
  have hp' : ∀t∈p,rl t.2.2<=4294967296:=λt ht=>Nat.le_trans (hp t ht) (by decide)
  by_cases h0:chkB p=0
  .rw [h0,jz,je]at hK;obtain⟨i1,j1,l1⟩:=kh h0 hwp;have e0:=je tE;rw [<-h0]at e0;simp only [go_sem,wk,hk,hl,hs,e0,rA];have hrx:=ZA hwx;have ho1:=JK (c:=rv x) i1 hwp hp (by omega)
   have hsl:=kp (rv x) p;have hss:=uK (rv x) (p.map mv);refine⟨hwp,hp',hwp,hwx,hp,by omega,by omega,λu hu=>(ho1 u hu).1,λu hu=>(ho1 u hu).2,by omega,?_,?_⟩
   .rw [Wx];rw [List.length_map]at hss;have:=Nat.mul_le_mul l1 (show rz (rv x)+2<=1000002 by omega)
    omega
   .rw [Wx];exact hK
  .have e0:=Ye tE h0;rw [uw h0,e0]at hK;simp only [go_sem,wk,hk,hs,e0,rA];exact⟨hwp,hp',hK⟩
end Go.Abs
end
section
namespace Go.Num
open Go.Abs
def prodT(a b:Mo):Mo:=(a.1+b.1,a.2.1+b.2.1,rcan (rv a.2.2*rv b.2.2))
def prodM(p q:List Mo):List Mo:=p.flatMap λa=>q.map λb=>prodT a b
theorem xy(p q:List Mo):(prodM p q).map mv=mulL (p.map mv) (q.map mv):=by
 induction p with
 | nil=>rfl
 | cons a p ih=>
  have e:prodM (a::p) q=(q.map λb=>prodT a b)++prodM p q:=by unfold prodM;rw [List.flatMap_cons]
  rw [e,List.map_append,ih,List.map_cons,YI,List.map_map,List.map_map];congr 1;refine List.map_congr_left λb _=>?_;simp only [Function.comp,mv,prodT,mulT,zk]
theorem QC(p q:List Mo):(prodM p q).length=p.length*q.length:=by
 have:=congrArg List.length (xy p q);rw [List.length_map,Vbf,List.length_map,List.length_map]at this;exact this
theorem wQ{p q:List Mo}{k:Nat}{a:Mo}(ha:p[k]?=some a):prodM (p.take (k+1)) q=prodM (p.take k) q++q.map λb=>prodT a b:=by
 unfold prodM;rw [List.take_add_one,ha,List.flatMap_append];simp
theorem Xaz{p q:List Mo}(hwp:∀t∈p,WLM t)(hwq:∀t∈q,WLM t)(hp:∀t∈p,rl t.2.2<=1000000000)(hq:∀t∈q,rl t.2.2<=1000000000)(hi:InQ (mulL (p.map mv) (q.map mv))):∀t∈prodM p q,WLM t/\inM t/\rl t.2.2<=4294967296:=by
 intro t ht;have h1:inM t:=hi (mv t) (by rw [<-xy];exact List.mem_map.2 ⟨t,ht,rfl⟩)
 obtain⟨a,ha,hb⟩:=List.mem_flatMap.1 ht;obtain⟨b,hb',rfl⟩:=List.mem_map.1 hb;obtain⟨x1,x2,x3⟩:=h1;refine⟨⟨?_,?_,zt _⟩,⟨x1,x2,x3⟩,?_⟩
 .unfold i64r;omega
 .unfold i64r;omega
 .have h2:=Qo (rv a.2.2) (rv b.2.2);have h3:=ZA (hwp a ha).2.2;have h4:=ZA (hwq b hb').2.2;have h5:=hp a ha;have h6:=hq b hb';have h7:rl (prodT a b).2.2=rz (rv a.2.2*rv b.2.2):=rfl;omega
theorem Ya9{p:BQ}(hp:Canon p):∀t∈p,t.1+t.2.1<=degB p:=by
 intro t ht;unfold degB;cases hl:p.getLast? with
 | none=>rw [List.getLast?_eq_none_iff]at hl;subst hl;simp at ht
 | some u=>
  simp only;obtain⟨ys,hys⟩:=List.getLast?_eq_some_iff.1 hl;rw [hys]at ht hp;obtain⟨_,_,h3⟩:=List.pairwise_append.1 hp.str;rcases List.mem_append.1 ht with ht | ht
  .have:=h3 t ht u (by simp)
   rw [wb0 (hp.ins t (by simp [ht])) (hp.ins u (by simp))]at this
   omega
  .rw [List.mem_singleton.1 ht];exact Int.le_refl _
theorem Xt{p:BQ}(hp:Canon p):-1<=degB p/\degB p<=24:=by
 unfold degB;cases hl:p.getLast? with
 | none=>simp
 | some u=>
  simp only;obtain⟨a,b,c⟩:=hp.ins u (List.mem_of_getLast? hl);omega
theorem zI{p:BQ}(hp:Canon p)(h:p≠[]):0<=degB p:=by
 unfold degB;cases hl:p.getLast? with
 | none=>rw [List.getLast?_eq_none_iff]at hl;exact absurd hl h
 | some u=>
  simp only;obtain⟨a,b,c⟩:=hp.ins u (List.mem_of_getLast? hl);omega
theorem UA{p:BQ}(hp:Canon p):Deg (degB p).toNat p:=λt ht=>by
 have h1:=Ya9 hp t ht;have h2:=zI hp (λh=>by subst h;simp at ht)
 omega
theorem Ubo:∀a<25,∀b<25,a+b<=24->tri (a+1)*tri (b+1)<=8281:=by decide
def mulC(p q:List Mo):Nat:=if chk2 p q≠0 then chk2 p q else if p≠[]/\q≠[]/\24<degM p+degM q then 4 else 0
theorem Zbw{p q:List Mo}(hwp:∀t∈p,WLM t)(hwq:∀t∈q,WLM t)(h0:chk2 p q=0)(h1:¬(p≠[]/\q≠[]/\24<degM p+degM q)) :
  InQ (mulL (p.map mv) (q.map mv))/\p.length*q.length<=8281:=by
 obtain⟨c1,c2⟩:=Zz h0;obtain⟨k1,e1⟩:=zf c1 hwp;obtain⟨k2,e2⟩:=zf c2 hwq;by_cases hp:p=[]
 .subst hp;exact⟨λt ht=>by simp [qaF]at ht,by simp⟩
 by_cases hq:q=[]
 .subst hq;refine⟨?_,by simp⟩
  have:mulL (p.map mv) ([].map mv)=[]:=by unfold mulL;simp
  rw [this];exact λt ht=>by simp at ht
 have d1:degM p=degB (p.map mv):=by rw [<-ve,e1]
 have d2:degM q=degB (q.map mv):=by rw [<-ve,e2]
 have n1:=zI k1 (by simpa using hp)
 have n2:=zI k2 (by simpa using hq)
 have hd:degB (p.map mv)+degB (q.map mv)<=24:=by
  rw [<-d1,<-d2];exact Int.not_lt.1 λh=>h1 ⟨hp,hq,h⟩
 have D1:=UA k1;have D2:=UA k2;refine⟨ya9 k1.ins k2.ins D1 D2 (by omega),?_⟩
 have l1:=xA k1 D1;have l2:=xA k2 D2;rw [List.length_map]at l1 l2;exact Nat.le_trans (Nat.mul_le_mul l1 l2) (Ubo _ (by omega) _ (by omega) (by omega))
end Go.Num
namespace Go.Abs
open Go.Num
variable {P:Program} {Γ:Nat->Spec}
def qx(tE:Nat)(l:List AV)(K:AV->Prop):Prop:=
 match l with
 | [a,b]=>onMs (λp=>onMs (λq=>(∀t∈p,rl t.2.2<=1000000000)/\(∀t∈q,rl t.2.2<=1000000000)/\sz (p.map mv)+sz (q.map mv)<=3000000/\K (.tup [.one (.slice ((bres (mulC p q) (mulB (p.map mv) (q.map mv))).map mC)),errV tE (mulC p q)])) b) a
 | _=>False
theorem Za2:type_of% @qx.eq_1:=q_E @qx.eq_1
@[congr] theorem VbR tE{K}{l l'}(h:l=l'):qx tE l K=qx tE l' K:=by subst h;rfl
attribute [go_sem,go_sem ↓] Za2
theorem vaT(tE:Nat):Good (qx tE):=Ja λas=>by
 unfold qx;split
 .exact(xd λ_=>(xd λ_=>(.and λ_=>(.and λ_=>(.and λ_=>(.ret _))))))
 .exact .of λK hk=>hk.elim
def Vk(f0 f1 f2 f3 tE:Nat):AC:=(.o [.m 4 (.c (.one .emp)),.m 5 (.c (.one (.lit .nilIface)))] [0,1] (.f (.o [.M 12 0,.M 13 1,.u 14 (.row 1 [[.x 1 (.t 12)],[.x 1 (.t 13)]]),.H 15 f0 14,.M 6 15] [0,1,6] (.o [.M 16 6,.R 17 16] [0,1,6,17] (.cond (.t 17) (.seq (.p [.M 18 6,.m 4 (.c (.one .emp)),.M 5 18]) .ret) .skip))) [0,1] (.f (.o [.M 19 0,.Z 20 19,.I 21 .gtr 20 0,.M 22 21,.V 23 22 true 1,.w 24 22 true (.len (.t 23)),.w 25 22 true (.bin .gtr (.t 24) (.i 0)),.P 26 22 25,.M 27 26,.V 28 27 true 0,.W 29 27 true f1 28,.V 30 27 true 1,.W 31 27 true f1 30,.w 32 27 true (.bin .add (.t 29) (.t 31)),.w 33 27 true (.bin .gtr (.t 32) (.i 24)),.P 34 27 33] [0,1,34] (.cond (.t 34) (.seq (.p [.u 35 (.iface tE (.i 4)),.m 4 (.c (.one .emp)),.M 5 35]) .ret) .skip)) [0,1] (.o [.m 7 (.c (.one .emp))] [0,1,7] (.f (.o [.M 36 0,.Z 37 36,.N 38 0] [1,7,36,37,38] (.block 0 (.loop (.o [.B 39 .lss 38 37] [1,7,36,37,38,39] (.f (.cond (.t 39) .skip (.exit 0)) [1,7,36,37,38] (.f (.block 1 (.o [.J 40 5 36 38,.L 41 5 40,.G 9 [(.lit (.int .i64 0)),(.lit (.int .i64 0)),.z,.emp,.emp],.S 5 9 41] [1,7,9,36,37,38] (.o [.M 42 1,.Z 43 42,.N 44 0] [1,7,9,36,37,38,42,43,44] (.block 2 (.loop (.o [.B 45 .lss 44 43] [1,7,9,36,37,38,42,43,44,45] (.f (.cond (.t 45) .skip (.exit 2)) [1,7,9,36,37,38,42,43,44] (.f (.block 3 (.o [.J 46 5 42 44,.L 47 5 46,.G 11 [(.lit (.int .i64 0)),(.lit (.int .i64 0)),.z,.emp,.emp],.S 5 11 47] [1,7,9,11,36,37,38,42,43,44] (.y [.M 48 7,.A 49 0 9,.F 50 1 49,.A 51 0 11,.F 52 1 51,.B 53 .add 50 52,.A 54 1 9,.F 55 1 54,.A 56 1 11,.F 57 1 56,.B 58 .add 55 57,.A 59 2 9,.L 60 3 59,.A 61 2 11,.L 62 3 61,.D 63 f2 60 62,.u 64 (.build [.x 1 (.t 53),.x 1 (.t 58),.x 3 (.t 63)]),.u 65 (.row 5 [[.x 5 (.t 64)]]),.u 66 (.app 5 (.t 48) (.t 65)),.M 7 66]))) [1,7,9,36,37,38,42,43,44] (.p [.I 67 .add 44 1,.M 44 67]))))))))) [1,7,36,37,38] (.p [.I 68 .add 38 1,.M 38 68]))))))) [7] (.seq (.p [.M 69 7,.H 70 f3 69,.M 4 70,.m 5 (.c (.one (.lit .nilIface)))]) .ret))))))
theorem ZaK(hΓ:Holds P Γ){f fk fd fm fs tE m:Nat}(hm:10000<=m)(hk:Γ fk=.dat false (we tE))(hd:Γ fd=.dat true xq)(hmu:Γ fm=.dat false Ql)(hs:Γ fs=.dat false (Jk m))(hc:check P f=some (71,(Vk fk fd fm fs tE).strip,[.tmp 4,.tmp 5])):Sound P f (.dat false (qx tE)):=by
 refine Qa hc (vaT tE) hΓ (λargs K hcl hfi hG=>?_);match args,hG with
 | [a,b],hG=>
  obtain⟨p,rfl,hwp,q,rfl,hwq,hp,hq,hsz,hK⟩:=hG;refine⟨by simp,?_⟩
  have hp' : ∀t∈p,rl t.2.2<=4294967296:=λt ht=>Nat.le_trans (hp t ht) (by decide)
  have hq' : ∀t∈q,rl t.2.2<=4294967296:=λt ht=>Nat.le_trans (hq t ht) (by decide)
  by_cases h0:chk2 p q=0
  rotate_left
  .have e0:=Ye tE h0;have e1:mulC p q=chk2 p q:=if_pos h0;rw [e1,uw h0,e0]at hK;simp only [go_sem,Vk,hk,hs,e0];exact⟨⟨hwp,hwq⟩,hp',hq',hK⟩
  have e0:=je tE;rw [<-h0]at e0;obtain⟨c1,c2⟩:=Zz h0;obtain⟨i1,j1,l1⟩:=kh c1 hwp;obtain⟨i2,j2,l2⟩:=kh c2 hwq;by_cases h1:p≠[]/\q≠[]/\24<degM p+degM q
  .have e1:mulC p q=4:=by unfold mulC;rw [if_neg (by simp [h0]),if_pos h1]
   rw [e1,uw (by decide),Ye tE (by decide)]at hK
   obtain⟨g1,g2,g3⟩:=h1;have n1:(0:Int)<(p.length:Int):=by have:=List.length_pos_iff.2 g1;omega
   have n2:(0:Int)<(q.length:Int):=by have:=List.length_pos_iff.2 g2;omega
   obtain⟨k1,e1⟩:=zf c1 hwp;obtain⟨k2,e2⟩:=zf c2 hwq;have d1:degM p=degB (p.map mv):=by rw [<-ve,e1]
   have d2:degM q=degB (q.map mv):=by rw [<-ve,e2]
   have b1:=Xt k1;have b2:=Xt k2;simp only [go_sem,Vk,hk,hd,hs,e0,n1,n2,g3];exact⟨⟨hwp,hwq⟩,hp',hq',λ_ _=>⟨hwp,i1,by omega,hwq,i2,by omega,⟨by omega,by omega⟩,hK⟩⟩
  .have e1:mulC p q=0:=by unfold mulC;rw [if_neg (by simp [h0]),if_neg h1]
   rw [e1,jz,je]at hK;obtain⟨hin,hl⟩:=Zbw hwp hwq h0 h1;obtain⟨k1,q1⟩:=zf c1 hwp;obtain⟨k2,q2⟩:=zf c2 hwq;have d1:degM p=degB (p.map mv):=by rw [<-ve,q1]
   have d2:degM q=degB (q.map mv):=by rw [<-ve,q2]
   have b1:=Xt k1;have b2:=Xt k2;simp only [go_sem,Vk,hk,hd,hs,e0];refine⟨⟨hwp,hwq⟩,hp',hq',λ_=>⟨λn1 _=>⟨λn2=>⟨hwp,i1,by omega,hwq,i2,by omega,⟨by omega,by omega⟩,λh=>?_,λ_ _=>?_⟩,λ_ _=>?_⟩,λ_ _=>?_⟩⟩
   .exact absurd ⟨List.length_pos_iff.1 (by omega),List.length_pos_iff.1 (by omega),h⟩ h1
   all_goals
    have hmb:mulB (p.map mv) (q.map mv)=nf ((prodM p q).map mv):=by unfold mulB;rw [xy]
    have hpo:=Xaz hwp hwq hp hq hin;have hpl:(prodM p q).length<=m:=by rw [QC];omega
    have hps:sz ((prodM p q).map mv)<=1000000000:=by
     rw [xy];have h1:=vV (p.map mv) (q.map mv);rw [List.length_map,List.length_map]at h1;have h2:=Nat.mul_le_mul l2 (Nat.le_refl (sz (p.map mv)));have h3:=Nat.mul_le_mul l1 (Nat.le_refl (sz (q.map mv)));omega
    rw [hmb]at hK;refine ja (λk:Nat=>if prodM (p.take k) q=[] then ⟨mkV [(1,msA q),(7,.one .emp),(36,msA p),(37,.one (.lit (.int .i64 p.length))),(38,.one (.lit (.int .i64 k)))],mkH []⟩
      else ⟨mkV [(1,msA q),(7,.one (.own 66 1 5 0 (prodM (p.take k) q).length)),(36,msA p),(37,.one (.lit (.int .i64 p.length))),(38,.one (.lit (.int .i64 k)))],mkH [(66,⟨1,some ⟨(prodM (p.take k) q).map mC,5,true⟩⟩)]⟩) (λk=>k<=p.length) (λk=>p.length-k) 0 ?_ ?_ ?_
    .have e00:prodM (p.take 0) q=[]:=rfl;rw [if_pos e00];exact za (by simp [bitvec_to_nat,msA,ms]) trivial
    .exact Nat.zero_le _
    .intro k hk2;by_cases hlt:k<p.length
     .obtain⟨x,hx⟩:∃x,p.getD k mo0=x:=⟨_,rfl⟩;have hx0:=getDm hlt hx;have hxm:=List.mem_of_getElem? hx0;have hpt:=wQ (q:=q) hx0;obtain⟨x1,x2,x3⟩:=i1 x hxm;have hwx:=(hwp x hxm).2.2;have hrx:=hp x hxm;obtain⟨A,hA⟩:∃A,prodM (p.take k) q=A:=⟨_,rfl⟩;rw [hA]at hpt;have hAl:A.length<=400000:=by
       rw [<-hA,QC,List.length_take];have:=Nat.mul_le_mul (show min k p.length<=325 by omega) l2
       omega
      by_cases hA0:A=[]
      .have hA':=hA;rw [hA0]at hA';simp only [go_sem,hlt,hx,hA',mC];intro _;refine ja (λj:Nat=>if A++(q.take j).map (λb=>prodT x b)=[] then ⟨mkV [(1,msA q),(7,.one .emp),(9,.one (.ptr 9 1 0 0)),(36,msA p),(37,.one (.lit (.int .i64 p.length))),(38,.one (.lit (.int .i64 k))),(42,msA q),(43,.one (.lit (.int .i64 q.length))),(44,.one (.lit (.int .i64 j)))],mkH [(9,⟨1,some ⟨[mC x],5,true⟩⟩)]⟩
         else ⟨mkV [(1,msA q),(7,.one (.own 66 1 5 0 (A++(q.take j).map (λb=>prodT x b)).length)),(9,.one (.ptr 9 1 0 0)),(36,msA p),(37,.one (.lit (.int .i64 p.length))),(38,.one (.lit (.int .i64 k))),(42,msA q),(43,.one (.lit (.int .i64 q.length))),(44,.one (.lit (.int .i64 j)))],mkH [(9,⟨1,some ⟨[mC x],5,true⟩⟩),(66,⟨1,some ⟨(A++(q.take j).map (λb=>prodT x b)).map mC,5,true⟩⟩)]⟩) (λj=>j<=q.length) (λj=>q.length-j) 0 ?_ ?_ ?_
       .have e0:A++(q.take 0).map (λb=>prodT x b)=A:=by simp
        rw [e0]
        first
         | (rw [if_pos hA0];exact za (by simp [bitvec_to_nat,msA,ms]) ⟨Xb (l':=[x]) rfl,trivial⟩)
         | (rw [if_neg hA0];exact za (by simp [bitvec_to_nat,msA,ms]) ⟨Xb (l':=[x]) rfl,Xb rfl,trivial⟩)
       .exact Nat.zero_le _
       .intro j hj2;by_cases hlj:j<q.length
        .obtain⟨y,hy⟩:∃y,q.getD j mo0=y:=⟨_,rfl⟩;have hy0:=getDm hlj hy;have hym:=List.mem_of_getElem? hy0;obtain⟨y1,y2,y3⟩:=i2 y hym;have hwy:=(hwq y hym).2.2;have hry:=hq y hym;have hqt:A++(q.take (j+1)).map (λb=>prodT x b)=A++(q.take j).map (λb=>prodT x b)++[prodT x y]:=by rw [List.take_add_one,hy0];simp
         obtain⟨B,hB⟩:∃B,A++(q.take j).map (λb=>prodT x b)=B:=⟨_,rfl⟩;rw [hB]at hqt;have hBl:B.length<=500000:=by
          rw [<-hB,List.length_append,List.length_map,List.length_take];omega
         by_cases hB0:B=[]
         .rw [hB0]at hB;simp only [go_sem,hlj,hy,hB,hmu,mC];refine⟨⟨by omega,by omega⟩,⟨by omega,by omega⟩,hwx,hwy,by omega,by omega,λe he=>by rw [List.mem_singleton.1 he];rfl,?_⟩
          repeat first | refine q_Wk ?_ | intro _
          refine⟨j+1,?_,by omega,by omega⟩
          rw [hqt,if_neg (by simp)]
          exact za (by simp [bitvec_to_nat,msA,ms,hB0]) ⟨Xb (l':=[x]) rfl,Xb (by rw [hB0];simp [mC,prodT]),trivial⟩
         .simp only [go_sem,hlj,hy,hB,hB0,hmu,mC];refine⟨⟨by omega,by omega⟩,⟨by omega,by omega⟩,hwx,hwy,by omega,by omega,λe he=>by rw [List.mem_singleton.1 he];rfl,?_⟩
          repeat first | refine q_Wk ?_ | intro _
          refine⟨j+1,?_,by omega,by omega⟩
          rw [hqt,if_neg (by simp)]
          exact za (by simp [bitvec_to_nat,msA,ms]) ⟨Xb (l':=[x]) rfl,Xb (by simp [mC,prodT]),trivial⟩
        .have ej:A++(q.take j).map (λb=>prodT x b)=prodM (p.take (k+1)) q:=by rw [hpt,List.take_of_length_le (by omega)]
         obtain⟨B,hB⟩:∃B,prodM (p.take (k+1)) q=B:=⟨_,rfl⟩;rw [hB]at ej;by_cases hB0:B=[]
         .rw [hB0]at ej;simp only [go_sem,hlj,ej,mC];repeat first | refine q_Wk ?_ | intro _
          refine⟨k+1,?_,by omega,by omega⟩
          rw [hB,if_pos hB0];exact za (by simp [bitvec_to_nat,msA,ms]) trivial
         .simp only [go_sem,hlj,ej,hB0,mC];repeat first | refine q_Wk ?_ | intro _
          refine⟨k+1,?_,by omega,by omega⟩
          rw [hB,if_neg hB0];exact za (by simp [bitvec_to_nat,msA,ms]) ⟨Xb rfl,trivial⟩
      .simp only [go_sem,hlt,hx,hA,hA0,mC];intro _;refine ja (λj:Nat=>if A++(q.take j).map (λb=>prodT x b)=[] then ⟨mkV [(1,msA q),(7,.one .emp),(9,.one (.ptr 9 1 0 0)),(36,msA p),(37,.one (.lit (.int .i64 p.length))),(38,.one (.lit (.int .i64 k))),(42,msA q),(43,.one (.lit (.int .i64 q.length))),(44,.one (.lit (.int .i64 j)))],mkH [(9,⟨1,some ⟨[mC x],5,true⟩⟩)]⟩
         else ⟨mkV [(1,msA q),(7,.one (.own 66 1 5 0 (A++(q.take j).map (λb=>prodT x b)).length)),(9,.one (.ptr 9 1 0 0)),(36,msA p),(37,.one (.lit (.int .i64 p.length))),(38,.one (.lit (.int .i64 k))),(42,msA q),(43,.one (.lit (.int .i64 q.length))),(44,.one (.lit (.int .i64 j)))],mkH [(9,⟨1,some ⟨[mC x],5,true⟩⟩),(66,⟨1,some ⟨(A++(q.take j).map (λb=>prodT x b)).map mC,5,true⟩⟩)]⟩) (λj=>j<=q.length) (λj=>q.length-j) 0 ?_ ?_ ?_
       .have e0:A++(q.take 0).map (λb=>prodT x b)=A:=by simp
        rw [e0]
        first
         | (rw [if_pos hA0];exact za (by simp [bitvec_to_nat,msA,ms]) ⟨Xb (l':=[x]) rfl,trivial⟩)
         | (rw [if_neg hA0];exact za (by simp [bitvec_to_nat,msA,ms]) ⟨Xb (l':=[x]) rfl,Xb rfl,trivial⟩)
       .exact Nat.zero_le _
       .intro j hj2;by_cases hlj:j<q.length
        .obtain⟨y,hy⟩:∃y,q.getD j mo0=y:=⟨_,rfl⟩;have hy0:=getDm hlj hy;have hym:=List.mem_of_getElem? hy0;obtain⟨y1,y2,y3⟩:=i2 y hym;have hwy:=(hwq y hym).2.2;have hry:=hq y hym;have hqt:A++(q.take (j+1)).map (λb=>prodT x b)=A++(q.take j).map (λb=>prodT x b)++[prodT x y]:=by rw [List.take_add_one,hy0];simp
         obtain⟨B,hB⟩:∃B,A++(q.take j).map (λb=>prodT x b)=B:=⟨_,rfl⟩;rw [hB]at hqt;have hBl:B.length<=500000:=by
          rw [<-hB,List.length_append,List.length_map,List.length_take];omega
         by_cases hB0:B=[]
         .rw [hB0]at hB;simp only [go_sem,hlj,hy,hB,hmu,mC];refine⟨⟨by omega,by omega⟩,⟨by omega,by omega⟩,hwx,hwy,by omega,by omega,λe he=>by rw [List.mem_singleton.1 he];rfl,?_⟩
          repeat first | refine q_Wk ?_ | intro _
          refine⟨j+1,?_,by omega,by omega⟩
          rw [hqt,if_neg (by simp)]
          exact za (by simp [bitvec_to_nat,msA,ms,hB0]) ⟨Xb (l':=[x]) rfl,Xb (by rw [hB0];simp [mC,prodT]),trivial⟩
         .simp only [go_sem,hlj,hy,hB,hB0,hmu,mC];refine⟨⟨by omega,by omega⟩,⟨by omega,by omega⟩,hwx,hwy,by omega,by omega,λe he=>by rw [List.mem_singleton.1 he];rfl,?_⟩
          repeat first | refine q_Wk ?_ | intro _
          refine⟨j+1,?_,by omega,by omega⟩
          rw [hqt,if_neg (by simp)]
          exact za (by simp [bitvec_to_nat,msA,ms]) ⟨Xb (l':=[x]) rfl,Xb (by simp [mC,prodT]),trivial⟩
        .have ej:A++(q.take j).map (λb=>prodT x b)=prodM (p.take (k+1)) q:=by rw [hpt,List.take_of_length_le (by omega)]
         obtain⟨B,hB⟩:∃B,prodM (p.take (k+1)) q=B:=⟨_,rfl⟩;rw [hB]at ej;by_cases hB0:B=[]
         .rw [hB0]at ej;simp only [go_sem,hlj,ej,mC];repeat first | refine q_Wk ?_ | intro _
          refine⟨k+1,?_,by omega,by omega⟩
          rw [hB,if_pos hB0];exact za (by simp [bitvec_to_nat,msA,ms]) trivial
         .simp only [go_sem,hlj,ej,hB0,mC];repeat first | refine q_Wk ?_ | intro _
          refine⟨k+1,?_,by omega,by omega⟩
          rw [hB,if_neg hB0];exact za (by simp [bitvec_to_nat,msA,ms]) ⟨Xb rfl,trivial⟩
     .have ek:p.take k=p:=List.take_of_length_le (by omega)
      by_cases hA0:prodM p q=[]
      .rw [hA0]at hK;simp only [go_sem,hlt,ek,hA0,hs];exact⟨by simp,by omega,by simp [sz],hK⟩
      .simp only [go_sem,hlt,ek,hA0,hs];exact⟨λt ht=>(hpo t ht).1,λt ht=>(hpo t ht).2,hpl,hps,hK⟩
end Go.Abs
end
section
namespace Go.Num
open Go.Abs
theorem WbY{l:BQ}(h:InQ l)(x y:Rat):rz (ev l x y)<=sz l+l.length*(24*(rz x+2)+24*(rz y+2)+8):=by
 induction l with
 | nil=>have:=rz_0;simp only [ev,sz];omega
 | cons t l ih=>
  obtain⟨⟨a,b,c⟩,h2⟩:=Jf.1 h;have ih:=ih h2;have h3:=zbJ x t.1.toNat;have h4:=zbJ y t.2.1.toNat;have h5:=Qo (pw x t.1.toNat) (pw y t.2.1.toNat);have h6:=Qo t.2.2 (pw x t.1.toNat*pw y t.2.1.toNat);have h7:=jJ (mev t x y) (ev l x y);have h8:t.1.toNat*(rz x+2)<=24*(rz x+2):=Nat.mul_le_mul_right _ (by omega)
  have h9:t.2.1.toNat*(rz y+2)<=24*(rz y+2):=Nat.mul_le_mul_right _ (by omega)
  have h10:mev t x y=t.2.2*(pw x t.1.toNat*pw y t.2.1.toNat):=rfl;rw [h10]at h7;simp only [ev,mev,sz,List.length_cons,Nat.add_mul,Nat.one_mul]at *
  omega
theorem rone1:((1:Int):Rat)=1:=by simp
end Go.Num
namespace Go.Abs
open Go.Num
variable {P:Program} {Γ:Nat->Spec}
theorem rQ_0:rQ 0=.agg [.lit (.bool false),.slice [],.slice []]:=by unfold rQ;rw [Xf];rfl
theorem JE{h h' : Nat->HB}{z:Nat}{b:Bool}:okB h h' (some ⟨[[.lit (.bool false),.emp,.emp]],z,b⟩) (some ⟨[[.lit (.bool false),.emp,.emp]],z,b⟩):=
 ⟨⟨rfl,rfl⟩,.inl ⟨rfl,λe he c hc=>by
  rw [List.mem_singleton]at he;subst he;simp only [List.mem_cons,List.not_mem_nil,or_false]at hc;rcases hc with rfl | rfl | rfl
  .exact .lit _
  .exact .emp
  .exact .emp⟩⟩
def Yaw(tE:Nat)(l:List AV)(K:AV->Prop):Prop:=
 match l with
 | [a,n]=>onR (λx=>asInt (λk n=>k=.i64/\0<=n/\n<=64/\rl x<=10000000/\K (.tup [rQ (pw (rv x) n.toNat),errV tE 0])) n) a
 | _=>False
theorem Va9:type_of% @Yaw.eq_1:=q_E @Yaw.eq_1
@[congr] theorem UbY tE{K}{l l'}(h:l=l'):Yaw tE l K=Yaw tE l' K:=by subst h;rfl
attribute [go_sem,go_sem ↓] Va9
def JV(tE:Nat)(l:List AV)(K:AV->Prop):Prop:=
 match l with
 | [a,b,c]=>onMs (λp=>onR (λx=>onR (λy=>(∀t∈p,rl t.2.2<=1000000000)/\rl x<=10000/\rl y<=10000/\sz (p.map mv)<=100000000/\K (.tup [rQ (if chkB p=0 then ev (p.map mv) (rv x) (rv y) else 0),errV tE (chkB p)])) c) b) a
 | _=>False
theorem Qav:type_of% @JV.eq_1:=q_E @JV.eq_1
@[congr] theorem ubN tE{K}{l l'}(h:l=l'):JV tE l K=JV tE l' K:=by subst h;rfl
attribute [go_sem,go_sem ↓] Qav
end Go.Abs
end
section
namespace Go.Num
abbrev CpR:=V2×V2×Rat×Rat×Rat×Rat×Rat
structure CB (c:CpR):Prop where
 o1:rz c.1.1<=4000
 o2:rz c.1.2<=4000
 q1:rz c.2.1.1<=4000
 q2:rz c.2.1.2<=4000
 a2:rz c.2.2.1<=4000
 b2:rz c.2.2.2.1<=4000
 c2:rz c.2.2.2.2.1<=4000
 u:rz c.2.2.2.2.2.1<=4000
 v:rz c.2.2.2.2.2.2<=4000
def lxB(o:V2):BQ×BQ:=(linB false o.1,linB true o.2)
def timB(v:BQ×BQ)(u w:Rat):BQ×BQ:=(subB (sclB u v.1) (sclB w v.2),addB (sclB u v.2) (sclB w v.1))
def nrmB(v:BQ×BQ):BQ:=addB (mulB v.1 v.1) (mulB v.2 v.2)
def cRe(c:CpR):Rat:=1-c.2.2.2.2.2.1
def cAl(c:CpR):BQ×BQ:=timB (lxB c.1) c.2.2.2.2.2.1 (-c.2.2.2.2.2.2)
def cBe(c:CpR):BQ×BQ:=timB (lxB c.2.1) (cRe c) c.2.2.2.2.2.2
def cFi(c:CpR):Rat:=sqQ (c.2.2.2.2.2.1,c.2.2.2.2.2.2)*c.2.2.2.1-c.2.2.1
def cSe(c:CpR):Rat:=c.2.2.2.2.1-sqQ (cRe c,c.2.2.2.2.2.2)*c.2.2.2.1
def cE(c:CpR):BQ:=addB (nrmB (lxB c.1)) (conB (cFi c))
def cF(c:CpR):BQ:=subB (conB (cSe c)) (nrmB (lxB c.2.1))
def cM(c:CpR):BQ:=subB (mulB (cAl c).1 (cBe c).2) (mulB (cAl c).2 (cBe c).1)
def cX(c:CpR):BQ:=subB (mulB (cE c) (cBe c).2) (mulB (cF c) (cAl c).2)
def cY(c:CpR):BQ:=subB (mulB (cF c) (cAl c).1) (mulB (cE c) (cBe c).1)
def cMM(c:CpR):BQ:=mulB (cM c) (cM c)
def cLa(c:CpR):BQ:=sclB (4*c.2.2.2.1) (cMM c)
def cNo(c:CpR):BQ:=nrmB (cX c,cY c)
def cCur(c:CpR):BQ:=subB (cNo c) (cLa c)
theorem PB.nrm{v:BQ×BQ}{d s:Nat}(h1:PB d s v.1)(h2:PB d s v.2)(hd:d+d<=24):PB (d+d) (4*(tri (d+1)*s)) (nrmB v):=
 ((h1.mul h1 hd).add (h2.mul h2 hd)).mono (Nat.le_refl _) (by omega)
def timQ(a:V2)(u w:Rat):V2:=(a.1*u-a.2*w,a.2*u+a.1*w)
def wAl(c:CpR)(p:V2):V2:=timQ (subQ p c.1) c.2.2.2.2.2.1 (-c.2.2.2.2.2.2)
def wBe(c:CpR)(p:V2):V2:=timQ (subQ p c.2.1) (cRe c) c.2.2.2.2.2.2
def wE(c:CpR)(p:V2):Rat:=sqQ (subQ p c.1)+cFi c
def wF(c:CpR)(p:V2):Rat:=cSe c-sqQ (subQ p c.2.1)
def wM(c:CpR)(p:V2):Rat:=(wAl c p).1*(wBe c p).2-(wAl c p).2*(wBe c p).1
def wN(c:CpR)(p:V2):V2:=(wE c p*(wBe c p).2-wF c p*(wAl c p).2,wF c p*(wAl c p).1-wE c p*(wBe c p).1)
def wV(c:CpR)(p:V2):Rat:=sqQ (wN c p)-4*c.2.2.2.1*(wM c p*wM c p)
end Go.Num
end
section
namespace Go.Abs
open Go.Num
variable {P:Program} {Γ:Nat->Spec}
def pQ(x:V2):AV:=.agg [cb (rcan x.1),cn (rcan x.1),cd (rcan x.1),cb (rcan x.2),cn (rcan x.2),cd (rcan x.2)]
theorem jbK(x:V2):pQ x=.agg [cb (rcan x.1),cn (rcan x.1),cd (rcan x.1),cb (rcan x.2),cn (rcan x.2),cd (rcan x.2)]:=eq_of_heq (HEq.refl _)
def tQ(t:TnQ):AV:=.agg [cb (rcan t.1),cn (rcan t.1),cd (rcan t.1),.lit (.bool t.2)]
theorem QbI(t:TnQ):tQ t=.agg [cb (rcan t.1),cn (rcan t.1),cd (rcan t.1),.lit (.bool t.2)]:=eq_of_heq (HEq.refl _)
theorem wbi(a b:Rat):WLA (rcan a,rcan b)=True:=eq_true ⟨zt _,zt _⟩
attribute [go_sem,go_sem ↓] jbK QbI wbi
def kG(l:List AV)(K:AV->Prop):Prop:=
 match l with
 | [a]=>onA (λp=>al p<=100000000/\K (.one (.lit (.bool (avld p))))) a
 | _=>False
theorem Vai:type_of% @kG.eq_1:=q_E @kG.eq_1
@[congr] theorem kbz{K}{l l'}(h:l=l'):kG l K=kG l' K:=h▸rfl
attribute [go_sem,go_sem ↓] Vai
def vW(l:List AV)(K:AV->Prop):Prop:=
 match l with
 | [a,b]=>onA (λp=>onA (λq=>al p<=100000000/\al q<=100000000/\K (pQ (subQ (av p) (av q)))) b) a
 | _=>False
theorem Yaq:type_of% @vW.eq_1:=q_E @vW.eq_1
@[congr] theorem kbP{K}{l l'}(h:l=l'):vW l K=vW l' K:=h▸rfl
attribute [go_sem,go_sem ↓] Yaq
def vT(l:List AV)(K:AV->Prop):Prop:=
 match l with
 | [a,b]=>onA (λp=>onA (λq=>al p<=100000000/\al q<=100000000/\K (pQ (addQ (av p) (av q)))) b) a
 | _=>False
theorem jaH:type_of% @vT.eq_1:=q_E @vT.eq_1
@[congr] theorem wbO{K}{l l'}(h:l=l'):vT l K=vT l' K:=h▸rfl
attribute [go_sem,go_sem ↓] jaH
def JG(l:List AV)(K:AV->Prop):Prop:=
 match l with
 | [a,b]=>onA (λp=>onA (λq=>al p<=100000000/\al q<=100000000/\K (rQ (crossQ (av p) (av q)))) b) a
 | _=>False
theorem W3:type_of% @JG.eq_1:=q_E @JG.eq_1
@[congr] theorem JbG{K}{l l'}(h:l=l'):JG l K=JG l' K:=h▸rfl
attribute [go_sem,go_sem ↓] W3
def Zbe(l:List AV)(K:AV->Prop):Prop:=
 match l with
 | [a]=>onA (λp=>al p<=100000000/\K (rQ (sqQ (av p)))) a
 | _=>False
theorem vbl:type_of% @Zbe.eq_1:=q_E @Zbe.eq_1
@[congr] theorem xb1{K}{l l'}(h:l=l'):Zbe l K=Zbe l' K:=h▸rfl
attribute [go_sem,go_sem ↓] vbl
def xW(l:List AV)(K:AV->Prop):Prop:=
 match l with
 | [a,b]=>onA (λp=>onA (λq=>al p<=100000000/\al q<=100000000/\K (.one (.lit (.bool (decide (av p=av q)))))) b) a
 | _=>False
theorem WaB:type_of% @xW.eq_1:=q_E @xW.eq_1
@[congr] theorem WbN{K}{l l'}(h:l=l'):xW l K=xW l' K:=h▸rfl
attribute [go_sem,go_sem ↓] WaB
def kaG(l:List AV)(K:AV->Prop):Prop:=
 match l with
 | [a]=>onA (λp=>al p<=100000000/\K (pQ (negQ (av p)))) a
 | _=>False
theorem xa3:type_of% @kaG.eq_1:=q_E @kaG.eq_1
@[congr] theorem ybX{K}{l l'}(h:l=l'):kaG l K=kaG l' K:=h▸rfl
attribute [go_sem,go_sem ↓] xa3
def jF(l:List AV)(K:AV->Prop):Prop:=
 match l with
 | [a]=>onA (λp=>al p<=100000000/\K (pQ (av p))) a
 | _=>False
theorem jab:type_of% @jF.eq_1:=q_E @jF.eq_1
@[congr] theorem kbJ{K}{l l'}(h:l=l'):jF l K=jF l' K:=h▸rfl
attribute [go_sem,go_sem ↓] jab
def ZX(l:List AV)(K:AV->Prop):Prop:=
 match l with
 | [a]=>onR (λx=>rl x<=4294967296/\K (.one (.lit (.bool (decide (rv x=0)))))) a
 | _=>False
theorem Jav:type_of% @ZX.eq_1:=q_E @ZX.eq_1
@[congr] theorem qbO{K}{l l'}(h:l=l'):ZX l K=ZX l' K:=h▸rfl
attribute [go_sem,go_sem ↓] Jav
def xX(l:List AV)(K:AV->Prop):Prop:=
 match l with
 | [a,b]=>onR (λx=>onR (λy=>rl x<=1073741824/\rl y<=1073741824/\K (rQ (rv x / rv y))) b) a
 | _=>False
theorem Yas:type_of% @xX.eq_1:=q_E @xX.eq_1
@[congr] theorem zbO{K}{l l'}(h:l=l'):xX l K=xX l' K:=h▸rfl
attribute [go_sem,go_sem ↓] Yas
def WG(tE:Nat)(l:List AV)(K:AV->Prop):Prop:=
 match l with
 | [a]=>onT (λt=>rl t.1<=100000000/\K (errV tE (tchk t))) a
 | _=>False
theorem xag:type_of% @WG.eq_1:=q_E @WG.eq_1
@[congr] theorem ybC tE{K}{l l'}(h:l=l'):WG tE l K=WG tE l' K:=by subst h;rfl
attribute [go_sem,go_sem ↓] xag
def qG(l:List AV)(K:AV->Prop):Prop:=
 match l with
 | [a]=>onT (λt=>rl t.1<=100000000/\K (.one (.lit (.bool (decide (tchk t=0)))))) a
 | _=>False
theorem Z6:type_of% @qG.eq_1:=q_E @qG.eq_1
@[congr] theorem jbC{K}{l l'}(h:l=l'):qG l K=qG l' K:=h▸rfl
attribute [go_sem,go_sem ↓] Z6
def Qaq(l:List AV)(K:AV->Prop):Prop:=
 match l with
 | [a]=>onPo (λp=>pl p<=100000000/\K (.one (.lit (.bool (pvld p))))) a
 | _=>False
theorem ka8:type_of% @Qaq.eq_1:=q_E @Qaq.eq_1
@[congr] theorem VbV{K}{l l'}(h:l=l'):Qaq l K=Qaq l' K:=h▸rfl
attribute [go_sem,go_sem ↓] ka8
def Wau(l:List AV)(K:AV->Prop):Prop:=
 match l with
 | [a]=>onT (λt=>rl t.1<=100000000/\K (tQ (backQ (tv t)))) a
 | _=>False
theorem VaS:type_of% @Wau.eq_1:=q_E @Wau.eq_1
@[congr] theorem YbW{K}{l l'}(h:l=l'):Wau l K=Wau l' K:=h▸rfl
attribute [go_sem,go_sem ↓] VaS
def uax(l:List AV)(K:AV->Prop):Prop:=
 match l with
 | [a]=>onT (λt=>rl t.1<=10000000/\K (.tup [rQ (cosQ (tv t)),rQ (sinQ (tv t))])) a
 | _=>False
theorem JaT:type_of% @uax.eq_1:=q_E @uax.eq_1
@[congr] theorem kbU{K}{l l'}(h:l=l'):uax l K=uax l' K:=h▸rfl
attribute [go_sem,go_sem ↓] JaT
def jT(l:List AV)(K:AV->Prop):Prop:=
 match l with
 | [a,b]=>onA (λp=>onA (λq=>al p<=4294967296/\K (.one (.lit (.bool (decide (p=q)))))) b) a
 | _=>False
theorem VaH:type_of% @jT.eq_1:=q_E @jT.eq_1
@[congr] theorem ZbO{K}{l l'}(h:l=l'):jT l K=jT l' K:=h▸rfl
attribute [go_sem,go_sem ↓] VaH
end Go.Abs
end
section
namespace Go.Num
open Go.Abs
def aok(p:Ps)(q:Arc):Bool:=pvld p && avld q
def plchk(l:List Ps):Nat:=if l.length<2 then 10 else if 5<l.length then 4 else if l.all pvld then 0 else 2
def threeC(l:List Ps):Nat:=if plchk l≠0 then plchk l else if l.length=3 then 0 else 10
def imgs(l:List Ps)(q:Arc):List V2:=l.map λp=>appQ (pv p) (av q)
def imgC(l:List Ps)(q:Arc):Nat:=if l.all (λp=>aok p q) then 0 else 2
end Go.Num
namespace Go.Abs
open Go.Num
variable {P:Program} {Γ:Nat->Spec}
def psQ(p:PsQ):AV:=.agg [cb (rcan p.1.1),cn (rcan p.1.1),cd (rcan p.1.1),.lit (.bool p.1.2),cb (rcan p.2.1),cn (rcan p.2.1),cd (rcan p.2.1),cb (rcan p.2.2),cn (rcan p.2.2),cd (rcan p.2.2)]
theorem zbm(p:PsQ):psQ p=.agg [cb (rcan p.1.1),cn (rcan p.1.1),cd (rcan p.1.1),.lit (.bool p.1.2),cb (rcan p.2.1),cn (rcan p.2.1),cd (rcan p.2.1),cb (rcan p.2.2),cn (rcan p.2.2),cd (rcan p.2.2)]:=eq_of_heq (HEq.refl _)
attribute [go_sem,go_sem ↓] zbm
def yav(tE:Nat)(l:List AV)(K:AV->Prop):Prop:=
 match l with
 | [a]=>onT (λt=>rl t.1<=10000000/\K (.tup [rQ (if tchk t=0 then cosQ (tv t) else 0),errV tE (tchk t)])) a
 | _=>False
theorem WaZ:type_of% @yav.eq_1:=q_E @yav.eq_1
@[congr] theorem Ub0 tE{K}{l l'}(h:l=l'):yav tE l K=yav tE l' K:=by subst h;rfl
attribute [go_sem,go_sem ↓] WaZ
def vax(tE:Nat)(l:List AV)(K:AV->Prop):Prop:=
 match l with
 | [a]=>onT (λt=>rl t.1<=10000000/\K (.tup [rQ (if tchk t=0 then sinQ (tv t) else 0),errV tE (tchk t)])) a
 | _=>False
theorem yaV:type_of% @vax.eq_1:=q_E @vax.eq_1
@[congr] theorem ybZ tE{K}{l l'}(h:l=l'):vax tE l K=vax tE l' K:=by subst h;rfl
attribute [go_sem,go_sem ↓] yaV
def jaF(tE:Nat)(l:List AV)(K:AV->Prop):Prop:=
 match l with
 | [a]=>onT (λt=>rl t.1<=10000000/\K (.tup [rQ (if tchk t=0 then cosQ (tv t) else 0),rQ (if tchk t=0 then sinQ (tv t) else 0),errV tE (tchk t)])) a
 | _=>False
theorem Ya4:type_of% @jaF.eq_1:=q_E @jaF.eq_1
@[congr] theorem Yb0 tE{K}{l l'}(h:l=l'):jaF tE l K=jaF tE l' K:=by subst h;rfl
attribute [go_sem,go_sem ↓] Ya4
def Yat(tE:Nat)(l:List AV)(K:AV->Prop):Prop:=
 match l with
 | [a,b]=>onT (λt=>onA (λq=>rl t.1<=10000000/\al q<=10000000/\K (.tup [pQ (if tchk t=0 then rotQ (tv t) (av q) else (0,0)),errV tE (tchk t)])) b) a
 | _=>False
theorem uaY:type_of% @Yat.eq_1:=q_E @Yat.eq_1
@[congr] theorem zbX tE{K}{l l'}(h:l=l'):Yat tE l K=Yat tE l' K:=by subst h;rfl
attribute [go_sem,go_sem ↓] uaY
def vaC(l:List AV)(K:AV->Prop):Prop:=
 match l with
 | [a,b]=>onT (λt=>onA (λq=>rl t.1<=10000000/\al q<=10000000/\K (pQ (rotQ (tv t) (av q)))) b) a
 | _=>False
theorem ZaX:type_of% @vaC.eq_1:=q_E @vaC.eq_1
@[congr] theorem jbX{K}{l l'}(h:l=l'):vaC l K=vaC l' K:=h▸rfl
attribute [go_sem,go_sem ↓] ZaX
def uau(tE:Nat)(l:List AV)(K:AV->Prop):Prop:=
 match l with
 | [a,b]=>onPo (λp=>onA (λq=>pl p<=1000000/\al q<=1000000/\K (.tup [pQ (if aok p q=true then appQ (pv p) (av q) else (0,0)),errV tE (if aok p q=true then 0 else 2)])) b) a
 | _=>False
theorem UaZ:type_of% @uau.eq_1:=q_E @uau.eq_1
@[congr] theorem ubZ tE{K}{l l'}(h:l=l'):uau tE l K=uau tE l' K:=by subst h;rfl
attribute [go_sem,go_sem ↓] UaZ
def way(l:List AV)(K:AV->Prop):Prop:=
 match l with
 | [a,b]=>onPo (λp=>onA (λq=>pl p<=1000000/\al q<=1000000/\K (pQ (appQ (pv p) (av q)))) b) a
 | _=>False
theorem uaV:type_of% @way.eq_1:=q_E @way.eq_1
@[congr] theorem kbT{K}{l l'}(h:l=l'):way l K=way l' K:=h▸rfl
attribute [go_sem,go_sem ↓] uaV
def qZ(tE:Nat)(l:List AV)(K:AV->Prop):Prop:=
 match l with
 | [a]=>onT (λt=>rl t.1<=10000000/\K (.tup [tQ (if tchk t=0 then backQ (tv t) else (0,false)),errV tE (tchk t)])) a
 | _=>False
theorem War:type_of% @qZ.eq_1:=q_E @qZ.eq_1
@[congr] theorem wbQ tE{K}{l l'}(h:l=l'):qZ tE l K=qZ tE l' K:=by subst h;rfl
attribute [go_sem,go_sem ↓] War
def uaA(tE:Nat)(l:List AV)(K:AV->Prop):Prop:=
 match l with
 | [a]=>onPo (λp=>pl p<=1000000/\K (.tup [psQ (if pvld p=true then invQ (pv p) else ((0,false),(0,0))),errV tE (if pvld p=true then 0 else 2)])) a
 | _=>False
theorem ZaR:type_of% @uaA.eq_1:=q_E @uaA.eq_1
@[congr] theorem ybT tE{K}{l l'}(h:l=l'):uaA tE l K=uaA tE l' K:=by subst h;rfl
attribute [go_sem,go_sem ↓] ZaR
def vav(l:List AV)(K:AV->Prop):Prop:=
 match l with
 | [a]=>onPo (λp=>pl p<=1000000/\K (psQ (invQ (pv p)))) a
 | _=>False
theorem Ya7:type_of% @vav.eq_1:=q_E @vav.eq_1
@[congr] theorem VbS{K}{l l'}(h:l=l'):vav l K=vav l' K:=h▸rfl
attribute [go_sem,go_sem ↓] Ya7
end Go.Abs
end
section
namespace Go.Num
def inA(y:Rat)(x:Arc):Bool:=decide (rv x.1<=y) && decide (y<rv x.2)
def idxOf(y:Rat)(l:List Arc):Int:=match l.findIdx? (inA y) with | some i=>i | none=>-1
end Go.Num
namespace Go.Abs
open Go.Num
variable {P:Program} {Γ:Nat->Spec}
def pA(y:R):AV:=.one (.ref [cb y,cn y,cd y])
def kA(f:Nat)(y:R):AV:=.one (.clo f [.ref [cb y,cn y,cd y]])
theorem vbK(x y:R)(h:pA x=pA y):x=y:=Vs x y (by simpa [pA,rA] using h)
theorem qbA(f:Nat)(x y:R)(h:kA f x=kA f y):x=y:=Vs x y (by simpa [kA,rA] using h)
def onP(k:R->Prop)(a:AV):Prop:=onE pA (λx=>WLR x/\k x) a
@[congr] theorem ub1{k:R->Prop}{a a'}(h:a=a'):onP k a=onP k a':=by subst h;rfl
theorem ZbA(k:R->Prop)(x:R):onP k (.one (.ref [cb x,cn x,cd x]))=(WLR x/\k x):=Yg vbK (λx=>WLR x/\k x) x
def onKl(f:Nat)(k:R->Prop)(a:AV):Prop:=onE (kA f) (λx=>WLR x/\k x) a
@[congr] theorem wbZ{f}{k:R->Prop}{a a'}(h:a=a'):onKl f k a=onKl f k a':=by subst h;rfl
theorem Xbi(f:Nat)(k:R->Prop)(x:R):onKl f k (.one (.clo f [.ref [cb x,cn x,cd x]]))=(WLR x/\k x):=Yg (qbA f) (λx=>WLR x/\k x) x
attribute [go_sem,go_sem ↓] ZbA Xbi
theorem UR(y:R):CleanL [cb y,cn y,cd y]:=by
 intro c hc;simp only [List.mem_cons,List.not_mem_nil,or_false]at hc;rcases hc with rfl | rfl | rfl
 .exact of_eq_true (kj _)
 .exact of_eq_true (Jj _)
 .exact of_eq_true (wj _)
def ZU(l:List AV)(K:AV->Prop):Prop:=
 match l with
 | [a,b]=>onA (λx=>onP (λy=>al x<=4294967296/\rl y<=4294967296/\K (.one (.lit (.bool (inA (rv y) x))))) b) a
 | _=>False
theorem VaD:type_of% @ZU.eq_1:=q_E @ZU.eq_1
@[congr] theorem zbR{K}{l l'}(h:l=l'):ZU l K=ZU l' K:=h▸rfl
attribute [go_sem,go_sem ↓] VaD
def xas(fc:Nat)(l:List AV)(K:AV->Prop):Prop:=
 match l with
 | [a,c]=>onAs (λl=>onKl fc (λy=>okAs 4294967296 l/\rl y<=4294967296/\K (.one (.lit (.int .i64 (idxOf (rv y) l))))) c) a
 | _=>False
theorem ja3:type_of% @xas.eq_1:=q_E @xas.eq_1
@[congr] theorem ZbT fc{K}{l l'}(h:l=l'):xas fc l K=xas fc l' K:=by subst h;rfl
attribute [go_sem,go_sem ↓] ja3
def ZT(fc:Nat)(l:List AV)(K:AV->Prop):Prop:=
 match l with
 | [a,c]=>onAs (λl=>onKl fc (λy=>okAs 4294967296 l/\rl y<=4294967296/\K (.one (.lit (.bool (l.any (inA (rv y))))))) c) a
 | _=>False
theorem YaB:type_of% @ZT.eq_1:=q_E @ZT.eq_1
@[congr] theorem UbP fc{K}{l l'}(h:l=l'):ZT fc l K=ZT fc l' K:=by subst h;rfl
attribute [go_sem,go_sem ↓] YaB
def kaq(tE:Nat)(l:List AV)(K:AV->Prop):Prop:=
 match l with
 | [a,b]=>onAs (λl=>onR (λy=>okAs 4294967296 l/\rl y<=1000000000/\K (.tup [.one (.lit (.bool (decide (chk [l]=0) && (vldR y && l.any (inA (frac (rv y))))))),errV tE (if chk [l]=0 then (if vldR y then 0 else 3) else chk [l])])) b) a
 | _=>False
theorem vaO:type_of% @kaq.eq_1:=q_E @kaq.eq_1
@[congr] theorem qbT tE{K}{l l'}(h:l=l'):kaq tE l K=kaq tE l' K:=by subst h;rfl
attribute [go_sem,go_sem ↓] vaO
end Go.Abs
end
section
namespace Go.Num
def longR(x:R):Bool:=decide (4<x.2.1.length+x.2.2.length)
def largeL(l:List Arc):Bool:=if 20<l.length then (decide (l.length<=64) || decide (200<l.length)) else l.any λx=>longR x.1 || longR x.2
def validL(l:List Arc):Bool:=!largeL l && decide (chk1 l=0)
end Go.Num
namespace Go.Abs
open Go.Num
variable {P:Program} {Γ:Nat->Spec}
def XH(l:List AV)(K:AV->Prop):Prop:=
 match l with
 | [a]=>onAs (λl=>okAs 1073741824 l/\K (.one (.lit (.int .i64 (chk1 l:Nat))))) a
 | _=>False
theorem W0:type_of% @XH.eq_1:=q_E @XH.eq_1
@[congr] theorem XbF{K}{l l'}(h:l=l'):XH l K=XH l' K:=h▸rfl
attribute [go_sem,go_sem ↓] W0
def XV(l:List AV)(K:AV->Prop):Prop:=
 match l with
 | [a,b]=>onAs (λl=>onAs (λm=>okAs 1073741824 l/\okAs 1073741824 m/\K (.one (.lit (.bool (decide (vals l=vals m)))))) b) a
 | _=>False
theorem JaB:type_of% @XV.eq_1:=q_E @XV.eq_1
@[congr] theorem QbR{K}{l l'}(h:l=l'):XV l K=XV l' K:=h▸rfl
attribute [go_sem,go_sem ↓] JaB
def WY(l:List AV)(K:AV->Prop):Prop:=
 match l with
 | [a]=>onR (λx=>rl x<=1000000000/\K (.agg [cb (rcan (frac (rv x))),cn (rcan (frac (rv x))),cd (rcan (frac (rv x)))])) a
 | _=>False
theorem Qap:type_of% @WY.eq_1:=q_E @WY.eq_1
@[congr] theorem YbP{K}{l l'}(h:l=l'):WY l K=WY l' K:=h▸rfl
attribute [go_sem,go_sem ↓] Qap
def uZ(l:List AV)(K:AV->Prop):Prop:=
 match l with
 | [a,b]=>asInt (λk n=>asInt (λk' d=>k=.i64/\k' = .i64/\(-9223372036854775808<=n/\n<=9223372036854775807)/\(-9223372036854775808<=d/\d<=9223372036854775807)/\d≠0/\K (.agg [cb (rcan (Rat.divInt n d)),cn (rcan (Rat.divInt n d)),cd (rcan (Rat.divInt n d))])) b) a
 | _=>False
theorem waG:type_of% @uZ.eq_1:=q_E @uZ.eq_1
@[congr] theorem JbR{K}{l l'}(h:l=l'):uZ l K=uZ l' K:=h▸rfl
attribute [go_sem,go_sem ↓] waG
def wT(l:List AV)(K:AV->Prop):Prop:=
 match l with
 | [a]=>onR (λx=>rl x<=4294967296/\K (.one (.lit (.bool (longR x))))) a
 | _=>False
theorem kax:type_of% @wT.eq_1:=q_E @wT.eq_1
@[congr] theorem ybQ{K}{l l'}(h:l=l'):wT l K=wT l' K:=h▸rfl
attribute [go_sem,go_sem ↓] kax
def JH(l:List AV)(K:AV->Prop):Prop:=
 match l with
 | [a]=>onAs (λl=>okAs 1073741824 l/\K (.one (.lit (.bool (largeL l))))) a
 | _=>False
theorem xad:type_of% @JH.eq_1:=q_E @JH.eq_1
@[congr] theorem ZbD{K}{l l'}(h:l=l'):JH l K=JH l' K:=h▸rfl
attribute [go_sem,go_sem ↓] xad
def JB(l:List AV)(K:AV->Prop):Prop:=
 match l with
 | [a]=>onAs (λl=>okAs 1073741824 l/\K (.one (.lit (.bool (validL l))))) a
 | _=>False
theorem xM:type_of% @JB.eq_1:=q_E @JB.eq_1
@[congr] theorem ubx{K}{l l'}(h:l=l'):JB l K=JB l' K:=h▸rfl
attribute [go_sem,go_sem ↓] xM
def YH(tE:Nat)(l:List AV)(K:AV->Prop):Prop:=
 match l with
 | [a]=>onAs (λl=>K (.tup [.one (.slice ((if 64<l.length then [] else l).map aC)),errV tE (if 64<l.length then 4 else 0)])) a
 | _=>False
theorem Jag:type_of% @YH.eq_1:=q_E @YH.eq_1
@[congr] theorem ZbG tE{K}{l l'}(h:l=l'):YH tE l K=YH tE l' K:=by subst h;rfl
attribute [go_sem,go_sem ↓] Jag
end Go.Abs
end
