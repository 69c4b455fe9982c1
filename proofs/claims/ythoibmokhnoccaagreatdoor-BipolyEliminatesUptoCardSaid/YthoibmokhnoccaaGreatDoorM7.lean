/-
  Parts of the proof, merged: PolyF, PolyG, PolyH, PolyI, CoupP, PoseB, PoseC, ChartE, ChartF.
-/
import Derived.Test.YthoibmokhnoccaaGreatDoorM6
set_option linter.unusedVariables false
set_option linter.unusedSimpArgs false
set_option maxRecDepth 100000
section
namespace Go.Num
open Go.Abs
def lastO(l:List Mo):Nat->Option Mo
 | 0=>none
 | k+1=>some (l.getD k mo0)
theorem yab{l:List Mo}{k:Nat}{x:Mo}(o:Option Mo)(hx:l[k]?=some x):chkG o (l.drop k)=if chkT o x≠0 then chkT o x else chkG (some x) (l.drop (k+1)):=by
 rw [uA hx];rfl
def mkT(t:Mo):Nat:=if ¬inM t then 3 else if vldR t.2.2=false then 2 else 0
def mkG:List Mo->Nat
 | []=>0
 | t::l=>if mkT t≠0 then mkT t else mkG l
def mkC(l:List Mo):Nat:=if 325<l.length then 4 else mkG l
theorem yba{l:List Mo}{k:Nat}{x:Mo}(hx:l[k]?=some x):mkG (l.drop k)=if mkT x≠0 then mkT x else mkG (l.drop (k+1)):=by
 rw [uA hx];rfl
theorem jbW{t:Mo}(h:mkT t=0):inM t/\vldR t.2.2=true:=by
 unfold mkT at h;split at h
 .contradiction
 .rename_i h1;split at h
  .contradiction
  .rename_i h2;exact⟨by simpa using h1,by simpa using h2⟩
theorem qbL:∀{l:List Mo},mkG l=0->∀t∈l,inM t/\vldR t.2.2=true
 | [],_,t,ht=>by simp at ht
 | u::l,h,t,ht=>by
  rw [mkG]at h;split at h
  .rename_i h1;exact absurd h h1
  .rename_i h1;rcases List.mem_cons.1 ht with rfl | ht
   .exact jbW (by simpa using h1)
   .exact qbL h t ht
theorem Vs{l:List Mo}(h:chkB l=0)(hw:∀t∈l,WLM t):(∀t∈l,inM t)/\InQ (l.map mv)/\l.length<=325:=by
 obtain⟨h1,h2⟩:=Vl h hw;refine⟨λt ht=>?_,h1.ins,(xbh h).1⟩;exact h1.ins (mv t) (List.mem_map.2 ⟨t,ht,rfl⟩)
def sclM(c:Rat)(l:List Mo):List Mo:=l.map λt=>(t.1,t.2.1,rcan (c*rv t.2.2))
def degM(l:List Mo):Int:=match l.getLast? with
 | none=>-1
 | some t=>t.1+t.2.1
theorem zd(p:BQ):degM (mcs p)=degB p:=by
 unfold degM degB mcs;rw [List.getLast?_map];cases p.getLast? <;> rfl
def bres(c:Nat)(p:BQ):List Mo:=if c=0 then mcs p else []
theorem yW(p:BQ):bres 0 p=mcs p:=rfl
theorem kK{c:Nat}(h:c≠0)(p:BQ):bres c p=[]:=if_neg h
def chk2(p q:List Mo):Nat:=if chkB p≠0 then chkB p else chkB q
theorem way{p q:List Mo}(h:chk2 p q=0):chkB p=0/\chkB q=0:=by
 unfold chk2 at h;split at h
 .rename_i h1;exact absurd h h1
 .rename_i h1;exact⟨by simpa using h1,h⟩
end Go.Num
namespace Go.Abs
open Go.Num
variable {P:Program} {Γ:Nat->Spec}
def Yl(tE:Nat)(l:List AV)(K:AV->Prop):Prop:=
 match l with
 | [a]=>onMs (λl=>(∀t∈l,rl t.2.2<=4294967296)/\K (errV tE (chkB l))) a
 | _=>False
theorem W9 tE a K:Yl tE [a] K=(onMs (λl=>(∀t∈l,rl t.2.2<=4294967296)/\K (errV tE (chkB l))) a):=propext Iff.rfl
@[congr] theorem XbK tE{K}{l l'}(h:l=l'):Yl tE l K=Yl tE l' K:=by subst h;rfl
attribute [go_sem,go_sem ↓] W9
theorem Yal(tE:Nat):Good (Yl tE):=Ja λas=>by
 unfold Yl;split
 .exact(Jg λ_=>(.and λ_=>(.ret _)))
 .exact .of λK hk=>hk.elim
def Wg(tE:Nat)(l:List AV)(K:AV->Prop):Prop:=
 match l with
 | [a]=>onM2 (λp q=>(∀t∈p,rl t.2.2<=4294967296)/\(∀t∈q,rl t.2.2<=4294967296)/\K (errV tE (chk2 p q))) a
 | _=>False
theorem XK tE a K:Wg tE [a] K=onM2 (λp q=>(∀t∈p,rl t.2.2<=4294967296)/\(∀t∈q,rl t.2.2<=4294967296)/\K (errV tE (chk2 p q))) a:=propext Iff.rfl
@[congr] theorem Zbx{tE}{K}{l l'}(h:l=l'):Wg tE l K=Wg tE l' K:=by subst h;rfl
attribute [go_sem,go_sem ↓] XK
theorem uab(tE:Nat):Good (Wg tE):=Ja λas=>by
 unfold Wg;split
 .exact zaC λ_ _=>.and λ_=>.and λ_=>.ret _
 .exact .of λK hk=>hk.elim
def Qr(l:List AV)(K:AV->Prop):Prop:=
 match l with
 | [a]=>onMs (λl=>(∀t∈l,inM t)/\l.length<=1000000/\K (.one (.lit (.int .i64 (degM l))))) a
 | _=>False
theorem waL a K:Qr [a] K=(onMs (λl=>(∀t∈l,inM t)/\l.length<=1000000/\K (.one (.lit (.int .i64 (degM l))))) a):=propext Iff.rfl
@[congr] theorem jbZ{K}{l l'}(h:l=l'):Qr l K=Qr l' K:=by subst h;rfl
attribute [go_sem,go_sem ↓] waL
theorem V3:Good Qr:=Ja λas=>by
 unfold Qr;split
 .exact(Jg λ_=>(.and λ_=>(.and λ_=>(.ret _))))
 .exact .of λK hk=>hk.elim
def JaZ(l:List AV)(K:AV->Prop):Prop:=
 match l with
 | [a,c]=>onMs (λl=>onR (λx=>(∀t∈l,rl t.2.2<=1000000000)/\rl x<=1000000000/\l.length<=1000000/\K (.one (.slice ((sclM (rv x) l).map mC)))) c) a
 | _=>False
theorem ka5 a c K:JaZ [a,c] K=(onMs (λl=>onR (λx=>(∀t∈l,rl t.2.2<=1000000000)/\rl x<=1000000000/\l.length<=1000000/\K (.one (.slice ((sclM (rv x) l).map mC)))) c) a):=propext Iff.rfl
@[congr] theorem XbZ{K}{l l'}(h:l=l'):JaZ l K=JaZ l' K:=by subst h;rfl
attribute [go_sem,go_sem ↓] ka5
def Qv(tE:Nat)(l:List AV)(K:AV->Prop):Prop:=
 match l with
 | [a]=>onMs (λl=>(∀t∈l,rl t.2.2<=4294967296)/\sz (l.map mv)<=1000000000/\K (.tup [.one (.slice ((bres (mkC l) (nf (l.map mv))).map mC)),errV tE (mkC l)])) a
 | _=>False
theorem Jaz tE a K:Qv tE [a] K=(onMs (λl=>(∀t∈l,rl t.2.2<=4294967296)/\sz (l.map mv)<=1000000000/\K (.tup [.one (.slice ((bres (mkC l) (nf (l.map mv))).map mC)),errV tE (mkC l)])) a):=propext Iff.rfl
@[congr] theorem WbQ tE{K}{l l'}(h:l=l'):Qv tE l K=Qv tE l' K:=by subst h;rfl
attribute [go_sem,go_sem ↓] Jaz
theorem xaG(tE:Nat):Good (Qv tE):=Ja λas=>by
 unfold Qv;split
 .exact(Jg λ_=>(.and λ_=>(.and λ_=>(.ret _))))
 .exact .of λK hk=>hk.elim
def jA(tE:Nat)(l:List AV)(K:AV->Prop):Prop:=
 match l with
 | [a,b]=>onMs (λp=>onMs (λq=>(∀t∈p,rl t.2.2<=4294967296)/\(∀t∈q,rl t.2.2<=4294967296)/\sz (p.map mv)+sz (q.map mv)<=1000000000/\K (.tup [.one (.slice ((bres (chk2 p q) (addB (p.map mv) (q.map mv))).map mC)),errV tE (chk2 p q)])) b) a
 | _=>False
theorem UaL tE a b K:jA tE [a,b] K=(onMs (λp=>onMs (λq=>(∀t∈p,rl t.2.2<=4294967296)/\(∀t∈q,rl t.2.2<=4294967296)/\sz (p.map mv)+sz (q.map mv)<=1000000000/\K (.tup [.one (.slice ((bres (chk2 p q) (addB (p.map mv) (q.map mv))).map mC)),errV tE (chk2 p q)])) b) a):=propext Iff.rfl
@[congr] theorem UbX tE{K}{l l'}(h:l=l'):jA tE l K=jA tE l' K:=by subst h;rfl
attribute [go_sem,go_sem ↓] UaL
theorem XaT(tE:Nat):Good (jA tE):=Ja λas=>by
 unfold jA;split
 .exact(Jg λ_=>(Jg λ_=>(.and λ_=>(.and λ_=>(.and λ_=>(.ret _))))))
 .exact .of λK hk=>hk.elim
def XaO(tE:Nat)(l:List AV)(K:AV->Prop):Prop:=
 match l with
 | [a,b]=>onMs (λp=>onMs (λq=>(∀t∈p,rl t.2.2<=1000000000)/\(∀t∈q,rl t.2.2<=1000000000)/\sz (p.map mv)+sz (q.map mv)<=1000000000/\K (.tup [.one (.slice ((bres (chk2 p q) (subB (p.map mv) (q.map mv))).map mC)),errV tE (chk2 p q)])) b) a
 | _=>False
theorem Za8 tE a b K:XaO tE [a,b] K=(onMs (λp=>onMs (λq=>(∀t∈p,rl t.2.2<=1000000000)/\(∀t∈q,rl t.2.2<=1000000000)/\sz (p.map mv)+sz (q.map mv)<=1000000000/\K (.tup [.one (.slice ((bres (chk2 p q) (subB (p.map mv) (q.map mv))).map mC)),errV tE (chk2 p q)])) b) a):=propext Iff.rfl
@[congr] theorem VbS tE{K}{l l'}(h:l=l'):XaO tE l K=XaO tE l' K:=by subst h;rfl
attribute [go_sem,go_sem ↓] Za8
def UP(tE:Nat)(l:List AV)(K:AV->Prop):Prop:=
 match l with
 | [a,c]=>onMs (λp=>onR (λx=>(∀t∈p,rl t.2.2<=1000000000)/\rl x<=1000000/\sz (p.map mv)<=100000000/\K (.tup [.one (.slice ((bres (chkB p) (sclB (rv x) (p.map mv))).map mC)),errV tE (chkB p)])) c) a
 | _=>False
theorem JZ tE a c K:UP tE [a,c] K=(onMs (λp=>onR (λx=>(∀t∈p,rl t.2.2<=1000000000)/\rl x<=1000000/\sz (p.map mv)<=100000000/\K (.tup [.one (.slice ((bres (chkB p) (sclB (rv x) (p.map mv))).map mC)),errV tE (chkB p)])) c) a):=propext Iff.rfl
@[congr] theorem zbA tE{K}{l l'}(h:l=l'):UP tE l K=UP tE l' K:=by subst h;rfl
attribute [go_sem,go_sem ↓] JZ
def jk(f0 f1 f2 f3 tE:Nat):AC:=(.o [.m 2 (.c (.one (.lit .nilIface)))] [0] (.f (.o [.M 5 0,.Z 6 5,.I 7 .gtr 6 325] [0,7] (.cond (.t 7) (.seq (.p [.u 8 (.iface tE (.i 4)),.M 2 8]) .ret) .skip)) [0] (.f (.o [.M 9 0,.Z 10 9,.N 11 0] [0,9,10,11] (.block 0 (.loop (.o [.B 12 .lss 11 10] [0,9,10,11,12] (.f (.cond (.t 12) .skip (.exit 0)) [0,9,10,11] (.f (.block 1 (.o [.M 13 11,.J 14 5 9 11,.L 15 5 14,.G 4 [(.lit (.int .i64 0)),(.lit (.int .i64 0)),.z,.emp,.emp],.M 3 13,.S 5 4 15] [0,3,4,9,10,11] (.block 2 (.o [.L 17 5 4,.H 18 f0 17,.u 19 (.un .not (.t 18)),.M 16 19] [0,3,4,9,10,11,16] (.cond (.t 16) (.seq (.p [.u 20 (.iface tE (.i 3)),.M 2 20]) .ret) (.o [.A 22 2 4,.L 23 3 22,.H 24 f1 23,.u 25 (.un .not (.t 24)),.M 21 25] [0,3,4,9,10,11,21] (.cond (.t 21) (.seq (.p [.u 26 (.iface tE (.i 2)),.M 2 26]) .ret) (.o [.A 28 2 4,.L 29 3 28,.H 30 f2 29,.I 31 .eql 30 0,.M 27 31] [0,3,4,9,10,11,27] (.cond (.t 27) (.seq (.p [.u 32 (.iface tE (.i 8)),.M 2 32]) .ret) (.f (.y [.M 34 3,.I 35 .gtr 34 0,.M 36 35,.V 37 36 true 0,.V 38 36 true 3,.w 39 36 true (.bin .sub (.t 38) (.i 1)),.w 40 36 true (.idx 5 (.t 37) (.t 39)),.U 41 36 true 5 true 40,.U 42 36 true 5 true 4,.Y 43 36 true f3 41 42,.w 44 36 true (.bin .geq (.t 43) (.i 0)),.P 45 36 44,.M 33 45]) [0,9,10,11,33] (.cond (.t 33) (.seq (.p [.u 46 (.iface tE (.i 12)),.M 2 46]) .ret) .skip))))))))))) [0,9,10,11] (.p [.I 47 .add 11 1,.M 11 47]))))))) [] (.seq (.p [.m 2 (.c (.one (.lit .nilIface)))]) .ret))))
def zn(f0:Nat):AC:=(.o [.m 2 (.c (.one (.lit .nilIface)))] [0] (.f (.o [.M 6 0,.Z 7 6,.N 8 0] [6,7,8] (.block 0 (.loop (.o [.B 9 .lss 8 7] [6,7,8,9] (.f (.cond (.t 9) .skip (.exit 0)) [6,7,8] (.f (.block 1 (.o [.J 10 1 6 8,.F 11 1 10,.M 4 11] [4,6,7,8] (.o [.M 12 4,.H 13 f0 12,.M 5 13] [5,6,7,8] (.o [.M 14 5,.R 15 14] [5,6,7,8,15] (.cond (.t 15) (.seq (.p [.M 16 5,.M 2 16]) .ret) .skip))))) [6,7,8] (.p [.I 17 .add 8 1,.M 8 17]))))))) [] (.seq (.p [.m 2 (.c (.one (.lit .nilIface)))]) .ret)))
def Qj:AC:=(.o [.N 2 0] [0] (.f (.o [.M 3 0,.Z 4 3,.I 5 .eql 4 0] [0,5] (.cond (.t 5) (.seq (.p [.N 2 (-1)]) .ret) .skip)) [0] (.seq (.y [.M 6 0,.M 7 0,.Z 8 7,.I 9 .sub 8 1,.J 10 5 6 9,.A 11 0 10,.F 12 1 11,.M 13 0,.M 14 0,.Z 15 14,.I 16 .sub 15 1,.J 17 5 13 16,.A 18 1 17,.F 19 1 18,.B 20 .add 12 19,.M 2 20]) .ret)))
def Ul(f0 f1 f2 tE:Nat):AC:=(.o [.m 2 (.c (.one .emp)),.m 3 (.c (.one (.lit .nilIface)))] [0] (.f (.o [.M 6 0,.Z 7 6,.I 8 .gtr 7 325] [0,8] (.cond (.t 8) (.seq (.p [.u 9 (.iface tE (.i 4)),.m 2 (.c (.one .emp)),.M 3 9]) .ret) .skip)) [0] (.f (.o [.M 10 0,.Z 11 10,.N 12 0] [0,10,11,12] (.block 0 (.loop (.o [.B 13 .lss 12 11] [0,10,11,12,13] (.f (.cond (.t 13) .skip (.exit 0)) [0,10,11,12] (.f (.block 1 (.o [.J 14 5 10 12,.L 15 5 14,.G 5 [(.lit (.int .i64 0)),(.lit (.int .i64 0)),.z,.emp,.emp],.S 5 5 15] [0,5,10,11,12] (.f (.o [.L 16 5 5,.H 17 f0 16,.u 18 (.un .not (.t 17))] [0,5,10,11,12,18] (.cond (.t 18) (.seq (.p [.u 19 (.iface tE (.i 3)),.m 2 (.c (.one .emp)),.M 3 19]) .ret) .skip)) [0,5,10,11,12] (.o [.A 20 2 5,.L 21 3 20,.H 22 f1 21,.u 23 (.un .not (.t 22))] [0,10,11,12,23] (.cond (.t 23) (.seq (.p [.u 24 (.iface tE (.i 2)),.m 2 (.c (.one .emp)),.M 3 24]) .ret) .skip))))) [0,10,11,12] (.p [.I 25 .add 12 1,.M 12 25]))))))) [0] (.seq (.p [.M 26 0,.H 27 f2 26,.M 2 27,.m 3 (.c (.one (.lit .nilIface)))]) .ret))))
theorem ye{h h' : Nat->HB}{x:R}{z:Nat}{b:Bool}:okB h h' (some ⟨[[cb x,cn x,cd x]],z,b⟩) (some ⟨[[cb x,cn x,cd x]],z,b⟩):=
 ⟨⟨rfl,rfl⟩,.inl ⟨rfl,λe he c hc=>by
  rw [List.mem_singleton]at he;subst he;simp only [List.mem_cons,List.not_mem_nil,or_false]at hc;rcases hc with rfl | rfl | rfl
  .exact of_eq_true (Xi _)
  .exact of_eq_true (ui _)
  .exact of_eq_true (Ui _)⟩⟩
theorem yZ(hΓ:Holds P Γ){f fi fv fs fo tE:Nat}(hi:Γ fi=.dat true Ji)(hv:Γ fv=.dat true xd)(hs:Γ fs=.dat true Xf)(ho:Γ fo=.dat true Qt)(hc:check P f=some (48,(jk fi fv fs fo tE).strip,[.tmp 2])):Sound P f (.dat false (Yl tE)):=by
 refine Qa hc (Yal tE) hΓ (λargs K hcl hfi hG=>?_);match args,hG with
 | [a],hG=>
  obtain⟨l,rfl,hw,hrl,hK⟩:=hG;refine⟨by simp,?_⟩
  by_cases h325:325<l.length
  .have e:chkB l=4:=if_pos h325;rw [e,ud tE (by decide)]at hK
   have h325' : (325:Int)<(l.length:Int):=by omega
   simp only [go_sem,jk,h325'];exact λ_=>hK
  .have h325' : ¬(325:Int)<(l.length:Int):=by omega
   have e:chkB l=chkG none l:=if_neg h325;rw [e]at hK;simp only [go_sem,jk,h325'];intro _ _;refine ja (λk:Nat=>⟨mkV [(0,msA l),(9,msA l),(10,.one (.lit (.int .i64 l.length))),(11,.one (.lit (.int .i64 k)))],mkH []⟩) (λk=>k<=l.length/\chkG none l=chkG (lastO l k) (l.drop k)/\∀t∈l.take k,inM t) (λk=>l.length-k) 0 ?_ ?_ ?_
   .exact qa (by simp [bitvec_to_nat,msA,ms]) trivial
   .exact⟨Nat.zero_le _,rfl,by simp⟩
   .rintro k ⟨hk,hch,hin⟩;by_cases hlt:k<l.length
    .obtain⟨x,hx⟩:∃x,l.getD k mo0=x:=⟨_,rfl⟩;have hx0:=getDm hlt hx;have hxm:=List.mem_of_getElem? hx0;have hwx:=hw x hxm;have hrx:=hrl x hxm;rw [yab _ hx0]at hch;by_cases a1:inM x
     .cases a2:vldR x.2.2 with
      | false=>
       have ec:chkT (lastO l k) x=2:=by unfold chkT;rw [if_neg (by simp [a1]),if_pos a2]
       rw [ec,if_pos (by decide)]at hch
       rw [hch,ud tE (by decide)]at hK
       simp only [go_sem,hlt,hx,hi,hv,mC,a2];exact⟨hwx,λ_=>⟨hwx.2.2,hrx,hK⟩,λh=>absurd a1 h⟩
      | true=>
       by_cases a3:rv x.2.2=0
       .have ec:chkT (lastO l k) x=8:=by unfold chkT;rw [if_neg (by simp [a1]),if_neg (by simp [a2]),if_pos a3]
        rw [ec,if_pos (by decide)]at hch
        rw [hch,ud tE (by decide)]at hK
        have a3' : ordQ (rv x.2.2) 0=0:=Zj.2 a3;simp only [go_sem,hlt,hx,hi,hv,hs,mC,a2,a3'];exact⟨hwx,λ_=>⟨hwx.2.2,hrx,hwx.2.2,hrx,hK⟩,λh=>absurd a1 h⟩
       .have hin' : ∀t∈l.take (k+1),inM t:=λt ht=>by
         rw [List.take_add_one,hx0]at ht;rcases List.mem_append.1 ht with ht | ht
         .exact hin t ht
         .simp at ht;rw [ht];exact a1
        have a3' : ¬ordQ (rv x.2.2) 0=0:=λh=>a3 (Zj.1 h);cases k with
        | zero=>
         simp only [go_sem,hlt,hx,hi,hv,hs,mC,a2,a3',Int.lt_irrefl];have ec:chkT (lastO l 0) x=0:=by unfold chkT;rw [if_neg (by simp [a1]),if_neg (by simp [a2]),if_neg a3,if_neg (by simp [lastO,badO])]
         rw [ec,if_neg (by decide)]at hch
         have hl1:lastO l 1=some x:=congrArg some hx;refine⟨hwx,λ_=>⟨hwx.2.2,hrx,hwx.2.2,hrx,by omega,1,qa (by simp [bitvec_to_nat,msA,ms]) trivial,⟨by omega,by rw [hl1];exact hch,hin'⟩,by omega⟩,λh=>absurd a1 h⟩
        | succ j=>
         have hn1:((j+1:Nat):Int)-1=(j:Int):=by omega
         have hn2:(0:Int)<((j+1:Nat):Int):=by omega
         simp only [go_sem,hlt,hx,hi,hv,hs,ho,mC,a2,a3',hn1,hn2];have hym:l.getD j mo0∈l:=by
          rw [List.getD_eq_getElem?_getD,List.getElem?_eq_getElem (by omega)];exact List.getElem_mem _
         have hyt:l.getD j mo0∈l.take (j+1):=by
          rw [List.getD_eq_getElem?_getD,List.getElem?_eq_getElem (by omega),Option.getD_some]
          exact List.mem_iff_getElem.2 ⟨j,by rw [List.length_take];omega,by simp⟩
         have hiy:=hin _ hyt;have hwy:=hw _ hym;have hlj:lastO l (j+1)=some (l.getD j mo0):=rfl;have hl1:lastO l (j+1+1)=some x:=congrArg some hx;refine⟨hwx,λ_=>⟨hwx.2.2,hrx,hwx.2.2,hrx,by omega,by omega,hwy,hwx,hiy,a1,λh=>?_,λh=>?_⟩,λh=>absurd a1 h⟩
         .have h:0<=ordK (kM (l.getD j mo0)) (kM x):=h;rw [za1]at h;have ec:chkT (lastO l (j+1)) x=12:=by unfold chkT;rw [if_neg (by simp [a1]),if_neg (by simp [a2]),if_neg a3,if_pos (by rw [hlj];simpa [badO] using h)]
          rw [ec,if_pos (by decide)]at hch
          rw [hch,ud tE (by decide)]at hK
          exact hK
         .have h:¬0<=ordK (kM (l.getD j mo0)) (kM x):=h;rw [za1]at h;have ec:chkT (lastO l (j+1)) x=0:=by unfold chkT;rw [if_neg (by simp [a1]),if_neg (by simp [a2]),if_neg a3,if_neg (by rw [hlj];simpa [badO] using h)]
          rw [ec,if_neg (by decide)]at hch
          exact⟨by omega,j+1+1,qa (by simp [bitvec_to_nat,msA,ms]) trivial,⟨by omega,by rw [hl1];exact hch,hin'⟩,by omega⟩
     .have ec:chkT (lastO l k) x=3:=by unfold chkT;rw [if_pos a1]
      rw [ec,if_pos (by decide)]at hch
      rw [hch,ud tE (by decide)]at hK
      simp only [go_sem,hlt,hx,hi,mC,decide_eq_false a1];exact⟨hwx,hK⟩
    .rw [List.drop_of_length_le (by omega)]at hch
     have e0:chkG (lastO l k) []=0:=rfl;rw [hch,e0,Xd]at hK;simp only [go_sem,hlt];exact hK
theorem WW(hΓ:Holds P Γ){f fk tE:Nat}(hk:Γ fk=.dat false (Yl tE))(hc:check P f=some (18,(zn fk).strip,[.tmp 2])):Sound P f (.dat false (Wg tE)):=by
 refine Qa hc (uab tE) hΓ (λargs K hcl hfi hG=>?_);match args,hG with
 | [a],hG=>
  obtain⟨p,q,rfl,⟨hwp,hwq⟩,hp,hq,hK⟩:=hG;refine⟨by simp,?_⟩
  simp only [go_sem,zn,ms];refine ja (λk:Nat=>⟨mkV [(6,.one (.slice [[ms p],[ms q]])),(7,.one (.lit (.int .i64 2))),(8,.one (.lit (.int .i64 k)))],mkH []⟩) (λk=>k<=2/\(0<k->chkB p=0)/\(1<k->chkB q=0)) (λk=>2-k) 0 ?_ ?_ ?_
  .exact qa (by simp [bitvec_to_nat,ms]) trivial
  .exact⟨by decide,by omega,by omega⟩
  .rintro k ⟨hk2,h1,h2⟩;have hk3:k=0∨k=1∨k=2:=by omega
   unfold chk2 at hK;rcases hk3 with rfl | rfl | rfl
   .by_cases hx:chkB p=0
    .have e0:=Xd tE;rw [<-hx]at e0;simp only [go_sem,c02,hk,ms,e0];refine⟨hwp,hp,by decide,1,qa (by simp [bitvec_to_nat,ms]) trivial,⟨by omega,by simp [hx],by omega⟩,by omega⟩
    .rw [if_pos hx]at hK;have e0:=ud tE hx;rw [e0]at hK;simp only [go_sem,c02,hk,ms,e0];exact⟨hwp,hp,hK⟩
   .have hx:=h1 (by omega)
    rw [if_neg (by simp [hx])]at hK
    by_cases hy:chkB q=0
    .have e0:=Xd tE;rw [<-hy]at e0;simp only [go_sem,c12,ZC,hk,ms,e0];refine⟨hwq,hq,by decide,2,qa (by simp [bitvec_to_nat,ms]) trivial,⟨by omega,by simp [hx],by simp [hy]⟩,by omega⟩
    .have e0:=ud tE hy;rw [e0]at hK;simp only [go_sem,c12,ZC,hk,ms,e0];exact⟨hwq,hq,hK⟩
   .have hx:=h1 (by omega)
    have hy:=h2 (by omega)
    rw [if_neg (by simp [hx]),hy,Xd]at hK
    simp only [go_sem,c22];exact hK
theorem QaF(hΓ:Holds P Γ){f:Nat}(hc:check P f=some (21,Qj.strip,[.tmp 2])):Sound P f (.dat true Qr):=by
 refine Qa hc V3 hΓ (λargs K hcl hfi hG=>?_);match args,hG with
 | [a],hG=>
  obtain⟨l,rfl,hw,hin,hl,hK⟩:=hG;refine⟨by simp,?_⟩
  rcases hl0:l with _ | ⟨t,l0⟩
  .subst hl0;simp only [go_sem,Qj];simpa [degM] using hK
  .have hlen:l.length=l0.length+1:=by rw [hl0];rfl
   rw [<-hl0];obtain⟨y,hy⟩:∃y,l.getD l0.length mo0=y:=⟨_,rfl⟩;have hy0:=getDm (by omega) hy
   have hym:=List.mem_of_getElem? hy0;have hd:degM l=y.1+y.2.1:=by
    unfold degM;rw [List.getLast?_eq_getElem?,hlen,Nat.add_sub_cancel,hy0]
   rw [hd]at hK;obtain⟨i1,i2,i3⟩:=hin y hym;have hn1:((l0.length+1:Nat):Int)-1=(l0.length:Int):=by omega
   have hn0:¬((l0.length+1:Nat):Int)=0:=by omega
   simp only [go_sem,Qj,hlen,hn1,hn0,hy,mC];exact λ_=>⟨by omega,by omega,by omega,by omega,by omega,by omega,⟨by omega,by omega⟩,hK⟩
theorem xal(hΓ:Holds P Γ){f fi fv fs tE m:Nat}(hm:325<=m)(hi:Γ fi=.dat true Ji)(hv:Γ fv=.dat true xd)(hs:Γ fs=.dat false (kx m))(hc:check P f=some (28,(Ul fi fv fs tE).strip,[.tmp 2,.tmp 3])):Sound P f (.dat false (Qv tE)):=by
 refine Qa hc (xaG tE) hΓ (λargs K hcl hfi hG=>?_);match args,hG with
 | [a],hG=>
  obtain⟨l,rfl,hw,hrl,hsz,hK⟩:=hG;refine⟨by simp,?_⟩
  by_cases h325:325<l.length
  .have e:mkC l=4:=if_pos h325;rw [e,ud tE (by decide),kK (by decide)]at hK
   have h325' : (325:Int)<(l.length:Int):=by omega
   simp only [go_sem,Ul,h325'];exact λ_=>hK
  .have h325' : ¬(325:Int)<(l.length:Int):=by omega
   have e:mkC l=mkG l:=if_neg h325;rw [e]at hK;simp only [go_sem,Ul,h325'];intro _ _;refine ja (λk:Nat=>⟨mkV [(0,msA l),(10,msA l),(11,.one (.lit (.int .i64 l.length))),(12,.one (.lit (.int .i64 k)))],mkH []⟩) (λk=>k<=l.length/\mkG l=mkG (l.drop k)) (λk=>l.length-k) 0 ?_ ?_ ?_
   .exact qa (by simp [bitvec_to_nat,msA,ms]) trivial
   .exact⟨Nat.zero_le _,rfl⟩
   .rintro k ⟨hk,hch⟩;by_cases hlt:k<l.length
    .obtain⟨x,hx⟩:∃x,l.getD k mo0=x:=⟨_,rfl⟩;have hx0:=getDm hlt hx;have hxm:=List.mem_of_getElem? hx0;have hwx:=hw x hxm;have hrx:=hrl x hxm;rw [yba hx0]at hch;by_cases a1:inM x
     .cases a2:vldR x.2.2 with
      | false=>
       have ec:mkT x=2:=by unfold mkT;rw [if_neg (by simp [a1]),if_pos a2]
       rw [ec,if_pos (by decide)]at hch
       rw [hch,ud tE (by decide),kK (by decide)]at hK
       simp only [go_sem,hlt,hx,hi,hv,mC,a2];exact⟨hwx,λ_=>⟨hwx.2.2,hrx,hK⟩,λh=>absurd a1 h⟩
      | true=>
       have ec:mkT x=0:=by unfold mkT;rw [if_neg (by simp [a1]),if_neg (by simp [a2])]
       rw [ec,if_neg (by decide)]at hch
       simp only [go_sem,hlt,hx,hi,hv,mC,a2];exact⟨hwx,λ_=>⟨hwx.2.2,hrx,by omega,k+1,qa (by simp [bitvec_to_nat,msA,ms]) trivial,⟨by omega,hch⟩,by omega⟩,λh=>absurd a1 h⟩
     .have ec:mkT x=3:=by unfold mkT;rw [if_pos a1]
      rw [ec,if_pos (by decide)]at hch
      rw [hch,ud tE (by decide),kK (by decide)]at hK
      simp only [go_sem,hlt,hx,hi,mC,decide_eq_false a1];exact⟨hwx,hK⟩
    .rw [List.drop_of_length_le (by omega)]at hch
     have e0:mkG []=0:=rfl;rw [e0]at hch;rw [hch,Xd,yW]at hK;have hin:=qbL hch;simp only [go_sem,hlt,hs];exact⟨hw,λt ht=>⟨(hin t ht).1,hrl t ht⟩,by omega,hsz,hK⟩
end Go.Abs
end
section
namespace Go.Num
open Go.Abs
end Go.Num
namespace Go.Abs
open Go.Num
variable {P:Program} {Γ:Nat->Spec}
def onM2f(k:List Mo->List Mo->Prop)(a:AV):Prop:=∃p q,a=.one (.full [[ms p],[ms q]])/\((∀x∈p,WLM x)/\(∀x∈q,WLM x))/\k p q
@[congr] theorem QbO{k:List Mo->List Mo->Prop}{a a'}(h:a=a'):onM2f k a=onM2f k a':=by subst h;rfl
theorem vai(k:List Mo->List Mo->Prop)(p q:List Mo):onM2f k (.one (.full [[.slice (p.map mC)],[.slice (q.map mC)]]))=(((∀x∈p,WLM x)/\(∀x∈q,WLM x))/\k p q):=by
 refine propext ⟨λ⟨x,y,h,h1,h2⟩=>?_,λh=>⟨p,q,rfl,h⟩⟩;simp only [ms,AV.one.injEq,C.full.injEq,List.cons.injEq,C.slice.injEq,and_true]at h;obtain⟨e1,e2⟩:=h;have:=uk e1;have:=uk e2
 subst_vars;exact⟨h1,h2⟩
theorem Xbs{β:Type}{T:List Mo->List Mo->(β->Prop)->Prop}(h:∀p q,GoodT (T p q)){a:AV}:GoodT λK=>onM2f (λp q=>T p q K) a:=
 .of λK hx=>by
  obtain⟨p,q,rfl,hw,hk⟩:=hx;have:(λK=>onM2f (λp q=>T p q K) (.one (.full [[ms p],[ms q]])))=λK=>((∀x∈p,WLM x)/\(∀x∈q,WLM x))/\T p q K:=funext λK=>vai _ p q;rw [this];exact .and λ_=>h p q
attribute [go_sem,go_sem ↓] vai
def Qw(l:List AV)(K:List (List C)->Prop):Prop:=
 match l with
 | [a,n]=>a=.one .emp/\asInt (λk n=>k=.i64/\0<=n/\n<=1000000/\K []) n
 | _=>False
theorem Jax a n K:Qw [a,n] K=(a=.one .emp/\asInt (λk n=>k=.i64/\0<=n/\n<=1000000/\K []) n):=propext Iff.rfl
@[congr] theorem vbQ{K}{l l'}(h:l=l'):Qw l K=Qw l' K:=by subst h;rfl
attribute [go_sem,go_sem ↓] Jax
theorem QaH:Good Qw:=Ja λas=>by
 unfold Qw;split
 .exact(.and λ_=>(jc (λ_ _=>(.and λ_=>(.and λ_=>(.and λ_=>(.ret _))))) _))
 .exact .of λK hk=>hk.elim
def Uv(l:List AV)(K:List (List C)->Prop):Prop:=
 match l with
 | [a]=>onM2f (λp q=>p.length<=400000/\q.length<=400000/\K ((p++q).map mC)) a
 | _=>False
theorem Xap a K:Uv [a] K=onM2f (λp q=>p.length<=400000/\q.length<=400000/\K ((p++q).map mC)) a:=propext Iff.rfl
@[congr] theorem XbP{K}{l l'}(h:l=l'):Uv l K=Uv l' K:=by subst h;rfl
attribute [go_sem,go_sem ↓] Xap
theorem UaI:Good Uv:=Ja λas=>by
 unfold Uv;split
 .exact Xbs λ_ _=>.and λ_=>.and λ_=>.ret _
 .exact .of λK hk=>hk.elim
def Zl:AC:=(.o [.m 4 (.c (.one .emp))] [0,1] (.f (.o [.M 5 1,.I 6 .lss 5 0] [0,1,6] (.cond (.t 6) (.p [.u 7 (.bad),.n (.bad)]) .skip)) [0,1] (.f (.o [.M 8 1,.M 9 0,.u 10 (.cap (.t 9)),.M 11 0,.Z 12 11,.B 13 .sub 10 12,.B 14 .sub 8 13,.M 1 14] [0,1] (.o [.M 15 1,.I 16 .gtr 15 0] [0,1,16] (.cond (.t 16) (.p [.M 17 0,.M 18 0,.u 19 (.cap (.t 18)),.u 20 (.sl 5 (.t 17) none (some (.t 19))),.M 21 1,.u 22 (.appz 5 [(.lit (.int .i64 0)),(.lit (.int .i64 0)),.z,.emp,.emp] (.t 20) (.t 21)),.M 23 0,.Z 24 23,.u 25 (.sl 5 (.t 22) none (some (.t 24))),.M 0 25]) .skip))) [0] (.seq (.p [.M 26 0,.M 4 26]) .ret))))
def Wj(f0:Nat):AC:=(.o [.m 2 (.c (.one .emp))] [0] (.o [.N 3 0] [0,3] (.f (.o [.M 9 0,.Z 10 9,.N 11 0] [0,3,9,10,11] (.block 0 (.loop (.o [.B 12 .lss 11 10] [0,3,9,10,11,12] (.f (.cond (.t 12) .skip (.exit 0)) [0,3,9,10,11] (.f (.block 1 (.o [.J 13 1 9 11,.F 14 1 13,.M 5 14] [0,3,5,9,10,11] (.o [.M 15 3,.M 16 5,.Z 17 16,.B 18 .add 15 17,.M 3 18] [0,3,9,10,11] (.o [.M 19 3,.I 20 .lss 19 0] [0,3,9,10,11,20] (.cond (.t 20) (.p [.u 21 (.bad),.n (.bad)]) .skip))))) [0,3,9,10,11] (.p [.I 22 .add 11 1,.M 11 22]))))))) [0,3] (.o [.M 23 3,.u 24 (.callf f0 [(.c (.one .emp)),(.t 23)]),.M 6 24] [0,6] (.f (.o [.M 25 0,.Z 26 25,.N 27 0] [6,25,26,27] (.block 2 (.loop (.o [.B 28 .lss 27 26] [6,25,26,27,28] (.f (.cond (.t 28) .skip (.exit 2)) [6,25,26,27] (.f (.block 3 (.o [.J 29 1 25 27,.F 30 1 29,.M 8 30] [6,8,25,26,27] (.p [.M 31 6,.M 32 8,.u 33 (.app 5 (.t 31) (.t 32)),.M 6 33]))) [6,25,26,27] (.p [.I 34 .add 27 1,.M 27 34]))))))) [6] (.seq (.p [.M 35 6,.M 2 35]) .ret))))))
def Jo(f0 f1 f2:Nat):AC:=(.o [.m 4 (.c (.one .emp)),.m 5 (.c (.one (.lit .nilIface)))] [0,1] (.f (.o [.M 7 0,.M 8 1,.u 9 (.row 1 [[.x 1 (.t 7)],[.x 1 (.t 8)]]),.H 10 f0 9,.M 6 10] [0,1,6] (.o [.M 11 6,.R 12 11] [0,1,6,12] (.cond (.t 12) (.seq (.p [.M 13 6,.m 4 (.c (.one .emp)),.M 5 13]) .ret) .skip))) [0,1] (.seq (.p [.M 14 0,.M 15 1,.u 16 (.row 1 [[.x 1 (.t 14)],[.x 1 (.t 15)]]),.u 17 (.callf f1 [(.t 16)]),.H 18 f2 17,.M 4 18,.m 5 (.c (.one (.lit .nilIface)))]) .ret)))
theorem Waj(hΓ:Holds P Γ){f:Nat}(hc:check P f=some (27,Zl.strip,[.tmp 4])):Sound P f (.fresh 5 Qw):=by
 refine zl hc QaH hΓ (λargs K hcl hfi hG=>?_);match args,hG with
 | [a,b],hG=>
  obtain⟨rfl,hG⟩:=hG;obtain⟨k,n,rfl,rfl,h0,h1,hK⟩:=ua hG;refine⟨by simp,?_⟩
  simp only [go_sem,Zl];refine⟨λh=>by omega,λ_=>⟨by omega,by omega,λh=>⟨by omega,by omega,by omega,by omega,by omega,hK⟩,λh=>hK⟩⟩
def cat2(p q:List Mo):Nat->List Mo
 | 0=>[]
 | 1=>p
 | _=>p++q
theorem xam(hΓ:Holds P Γ){f fg:Nat}(hg:Γ fg=.fresh 5 Qw)(hc:check P f=some (36,(Wj fg).strip,[.tmp 2])):Sound P f (.fresh 5 Uv):=by
 refine zl hc UaI hΓ (λargs K hcl hfi hG=>?_);match args,hG with
 | [a],hG=>
  obtain⟨p,q,rfl,⟨hwp,hwq⟩,hp,hq,hK⟩:=hG;refine⟨by simp,?_⟩
  simp only [go_sem,Wj,hg,ms];refine ja (λk:Nat=>⟨mkV [(0,.one (.full [[ms p],[ms q]])),(3,.one (.lit (.int .i64 (cat2 p q k).length))),(9,.one (.full [[ms p],[ms q]])),(10,.one (.lit (.int .i64 2))),(11,.one (.lit (.int .i64 k)))],mkH []⟩) (λk=>k<=2) (λk=>2-k) 0 ?_ ?_ ?_
  .exact qa (by simp [bitvec_to_nat,ms,cat2]) trivial
  .decide
  .intro k hk2;have hk3:k=0∨k=1∨k=2:=by omega
   rcases hk3 with rfl | rfl | rfl
   .simp only [go_sem,c02,ms,cat2];exact λ_=>⟨by omega,λh=>by omega,λ_=>⟨by decide,1,qa (by simp [bitvec_to_nat,ms]) trivial,by omega,by omega⟩⟩
   .simp only [go_sem,c12,ZC,ms,cat2];exact λ_=>⟨by omega,λh=>by omega,λ_=>⟨by decide,2,qa (by simp [bitvec_to_nat,ms]) trivial,by omega,by omega⟩⟩
   .simp only [go_sem,c22,ms,cat2,hg];refine⟨by rw [List.length_append];omega,?_⟩
    refine ja (λk:Nat=>⟨mkV [(6,.one (.own 24 1 5 0 (cat2 p q k).length)),(25,.one (.full [[ms p],[ms q]])),(26,.one (.lit (.int .i64 2))),(27,.one (.lit (.int .i64 k)))],mkH [(24,⟨1,some ⟨(cat2 p q k).map mC,5,true⟩⟩)]⟩) (λk=>k<=2) (λk=>2-k) 0 ?_ ?_ ?_
    .exact qa (by simp [bitvec_to_nat,ms,cat2]) ⟨Wi (by simp [cat2]),trivial⟩
    .decide
    .intro k hk2;have hk3:k=0∨k=1∨k=2:=by omega
     rcases hk3 with rfl | rfl | rfl
     .simp only [go_sem,c02,ms,cat2];exact⟨by omega,by decide,1,qa (by simp [bitvec_to_nat,ms]) ⟨Wi rfl,trivial⟩,by omega,by omega⟩
     .simp only [go_sem,c12,ZC,ms,cat2];exact⟨by omega,by decide,2,qa (by simp [bitvec_to_nat,ms]) ⟨Wi rfl,trivial⟩,by omega,by omega⟩
     .simp only [go_sem,c22,ms,cat2];exact hK
theorem uaE(hΓ:Holds P Γ){f fk fc fs tE m:Nat}(hm:650<=m)(hk:Γ fk=.dat false (Wg tE))(hcc:Γ fc=.fresh 5 Uv)(hs:Γ fs=.dat false (kx m))(hc:check P f=some (19,(Jo fk fc fs).strip,[.tmp 4,.tmp 5])):Sound P f (.dat false (jA tE)):=by
 refine Qa hc (XaT tE) hΓ (λargs K hcl hfi hG=>?_);match args,hG with
 | [a,b],hG=>
  obtain⟨p,rfl,hwp,q,rfl,hwq,hp,hq,hsz,hK⟩:=hG;refine⟨by simp,?_⟩
  by_cases h0:chk2 p q=0
  .rw [h0,yW,Xd]at hK;obtain⟨c1,c2⟩:=way h0;obtain⟨i1,j1,l1⟩:=Vs c1 hwp;obtain⟨i2,j2,l2⟩:=Vs c2 hwq;have e0:=Xd tE;rw [<-h0]at e0;simp only [go_sem,Jo,hk,hcc,hs,e0];refine⟨⟨hwp,hwq⟩,hp,hq,⟨hwp,hwq⟩,by omega,by omega,λx hx=>(List.mem_append.1 hx).elim (hwp x) (hwq x),λx hx=>(List.mem_append.1 hx).elim (λh=>⟨i1 x h,hp x h⟩) (λh=>⟨i2 x h,hq x h⟩),by rw [List.length_append];omega,by rw [List.map_append,ki];exact hsz,?_⟩
   rw [List.map_append];exact hK
  .have e0:=ud tE h0;rw [kK h0,e0]at hK;simp only [go_sem,Jo,hk,hcc,hs,e0];exact⟨⟨hwp,hwq⟩,hp,hq,hK⟩
end Go.Abs
end
section
namespace Go.Num
open Go.Abs
def prodT(a b:Mo):Mo:=(a.1+b.1,a.2.1+b.2.1,rcan (rv a.2.2*rv b.2.2))
def prodM(p q:List Mo):List Mo:=p.flatMap λa=>q.map λb=>prodT a b
theorem ZE(p q:List Mo):(prodM p q).map mv=mulL (p.map mv) (q.map mv):=by
 induction p with
 | nil=>rfl
 | cons a p ih=>
  have e:prodM (a::p) q=(q.map λb=>prodT a b)++prodM p q:=by unfold prodM;rw [List.flatMap_cons]
  rw [e,List.map_append,ih,List.map_cons,QJ,List.map_map,List.map_map];congr 1;refine List.map_congr_left λb _=>?_;simp only [Function.comp,mv,prodT,mulT,we]
theorem U5(p q:List Mo):(prodM p q).length=p.length*q.length:=by
 have:=congrArg List.length (ZE p q);rw [List.length_map,jbe,List.length_map,List.length_map]at this;exact this
theorem uaI{p q:List Mo}{k:Nat}{a:Mo}(ha:p[k]?=some a):prodM (p.take (k+1)) q=prodM (p.take k) q++q.map λb=>prodT a b:=by
 unfold prodM;rw [List.take_add_one,ha,List.flatMap_append];simp
theorem Wba{p q:List Mo}(hwp:∀t∈p,WLM t)(hwq:∀t∈q,WLM t)(hp:∀t∈p,rl t.2.2<=1000000000)(hq:∀t∈q,rl t.2.2<=1000000000)(hi:InQ (mulL (p.map mv) (q.map mv))):∀t∈prodM p q,WLM t/\inM t/\rl t.2.2<=4294967296:=by
 intro t ht;have h1:inM t:=hi (mv t) (by rw [<-ZE];exact List.mem_map.2 ⟨t,ht,rfl⟩)
 obtain⟨a,ha,hb⟩:=List.mem_flatMap.1 ht;obtain⟨b,hb',rfl⟩:=List.mem_map.1 hb;obtain⟨x1,x2,x3⟩:=h1;refine⟨⟨?_,?_,qw _⟩,⟨x1,x2,x3⟩,?_⟩
 .unfold i64r;omega
 .unfold i64r;omega
 .have h2:=vm (rv a.2.2) (rv b.2.2);have h3:=Uw (hwp a ha).2.2;have h4:=Uw (hwq b hb').2.2;have h5:=hp a ha;have h6:=hq b hb';have h7:rl (prodT a b).2.2=rz (rv a.2.2*rv b.2.2):=rfl;omega
theorem yH{p:BQ}(hp:Canon p):∀t∈p,t.1+t.2.1<=degB p:=by
 intro t ht;unfold degB;cases hl:p.getLast? with
 | none=>rw [List.getLast?_eq_none_iff]at hl;subst hl;simp at ht
 | some u=>
  simp only;obtain⟨ys,hys⟩:=List.getLast?_eq_some_iff.1 hl;rw [hys]at ht hp;obtain⟨_,_,h3⟩:=List.pairwise_append.1 hp.str;rcases List.mem_append.1 ht with ht | ht
  .have:=h3 t ht u (by simp)
   rw [QbD (hp.ins t (by simp [ht])) (hp.ins u (by simp))]at this
   omega
  .rw [List.mem_singleton.1 ht];exact Int.le_refl _
theorem xw{p:BQ}(hp:Canon p):-1<=degB p/\degB p<=24:=by
 unfold degB;cases hl:p.getLast? with
 | none=>simp
 | some u=>
  simp only;obtain⟨a,b,c⟩:=hp.ins u (List.mem_of_getLast? hl);omega
theorem Zz{p:BQ}(hp:Canon p)(h:p≠[]):0<=degB p:=by
 unfold degB;cases hl:p.getLast? with
 | none=>rw [List.getLast?_eq_none_iff]at hl;exact absurd hl h
 | some u=>
  simp only;obtain⟨a,b,c⟩:=hp.ins u (List.mem_of_getLast? hl);omega
theorem Jx{p:BQ}(hp:Canon p):Deg (degB p).toNat p:=λt ht=>by
 have h1:=yH hp t ht;have h2:=Zz hp (λh=>by subst h;simp at ht)
 omega
theorem Xbo:∀a<25,∀b<25,a+b<=24->tri (a+1)*tri (b+1)<=8281:=by decide
def mulC(p q:List Mo):Nat:=if chk2 p q≠0 then chk2 p q else if p≠[]/\q≠[]/\24<degM p+degM q then 4 else 0
theorem Jb1{p q:List Mo}(hwp:∀t∈p,WLM t)(hwq:∀t∈q,WLM t)(h0:chk2 p q=0)(h1:¬(p≠[]/\q≠[]/\24<degM p+degM q)) :
  InQ (mulL (p.map mv) (q.map mv))/\p.length*q.length<=8281:=by
 obtain⟨c1,c2⟩:=way h0;obtain⟨k1,e1⟩:=Vl c1 hwp;obtain⟨k2,e2⟩:=Vl c2 hwq;by_cases hp:p=[]
 .subst hp;exact⟨λt ht=>by simp [zas]at ht,by simp⟩
 by_cases hq:q=[]
 .subst hq;refine⟨?_,by simp⟩
  have:mulL (p.map mv) ([].map mv)=[]:=by unfold mulL;simp
  rw [this];exact λt ht=>by simp at ht
 have d1:degM p=degB (p.map mv):=by rw [<-zd,e1]
 have d2:degM q=degB (q.map mv):=by rw [<-zd,e2]
 have n1:=Zz k1 (by simpa using hp)
 have n2:=Zz k2 (by simpa using hq)
 have hd:degB (p.map mv)+degB (q.map mv)<=24:=by
  rw [<-d1,<-d2];exact Int.not_lt.1 λh=>h1 ⟨hp,hq,h⟩
 have D1:=Jx k1;have D2:=Jx k2;refine⟨xa7 k1.ins k2.ins D1 D2 (by omega),?_⟩
 have l1:=xu k1 D1;have l2:=xu k2 D2;rw [List.length_map]at l1 l2;exact Nat.le_trans (Nat.mul_le_mul l1 l2) (Xbo _ (by omega) _ (by omega) (by omega))
end Go.Num
namespace Go.Abs
open Go.Num
variable {P:Program} {Γ:Nat->Spec}
def Xz(tE:Nat)(l:List AV)(K:AV->Prop):Prop:=
 match l with
 | [a,b]=>onMs (λp=>onMs (λq=>(∀t∈p,rl t.2.2<=1000000000)/\(∀t∈q,rl t.2.2<=1000000000)/\sz (p.map mv)+sz (q.map mv)<=3000000/\K (.tup [.one (.slice ((bres (mulC p q) (mulB (p.map mv) (q.map mv))).map mC)),errV tE (mulC p q)])) b) a
 | _=>False
theorem jaO tE a b K:Xz tE [a,b] K=(onMs (λp=>onMs (λq=>(∀t∈p,rl t.2.2<=1000000000)/\(∀t∈q,rl t.2.2<=1000000000)/\sz (p.map mv)+sz (q.map mv)<=3000000/\K (.tup [.one (.slice ((bres (mulC p q) (mulB (p.map mv) (q.map mv))).map mC)),errV tE (mulC p q)])) b) a):=propext Iff.rfl
@[congr] theorem jbT tE{K}{l l'}(h:l=l'):Xz tE l K=Xz tE l' K:=by subst h;rfl
attribute [go_sem,go_sem ↓] jaO
theorem qa2(tE:Nat):Good (Xz tE):=Ja λas=>by
 unfold Xz;split
 .exact(Jg λ_=>(Jg λ_=>(.and λ_=>(.and λ_=>(.and λ_=>(.ret _))))))
 .exact .of λK hk=>hk.elim
def Zk(f0 f1 f2 f3 tE:Nat):AC:=(.o [.m 4 (.c (.one .emp)),.m 5 (.c (.one (.lit .nilIface)))] [0,1] (.f (.o [.M 12 0,.M 13 1,.u 14 (.row 1 [[.x 1 (.t 12)],[.x 1 (.t 13)]]),.H 15 f0 14,.M 6 15] [0,1,6] (.o [.M 16 6,.R 17 16] [0,1,6,17] (.cond (.t 17) (.seq (.p [.M 18 6,.m 4 (.c (.one .emp)),.M 5 18]) .ret) .skip))) [0,1] (.f (.o [.M 19 0,.Z 20 19,.I 21 .gtr 20 0,.M 22 21,.V 23 22 true 1,.w 24 22 true (.len (.t 23)),.w 25 22 true (.bin .gtr (.t 24) (.i 0)),.P 26 22 25,.M 27 26,.V 28 27 true 0,.W 29 27 true f1 28,.V 30 27 true 1,.W 31 27 true f1 30,.w 32 27 true (.bin .add (.t 29) (.t 31)),.w 33 27 true (.bin .gtr (.t 32) (.i 24)),.P 34 27 33] [0,1,34] (.cond (.t 34) (.seq (.p [.u 35 (.iface tE (.i 4)),.m 4 (.c (.one .emp)),.M 5 35]) .ret) .skip)) [0,1] (.o [.m 7 (.c (.one .emp))] [0,1,7] (.f (.o [.M 36 0,.Z 37 36,.N 38 0] [1,7,36,37,38] (.block 0 (.loop (.o [.B 39 .lss 38 37] [1,7,36,37,38,39] (.f (.cond (.t 39) .skip (.exit 0)) [1,7,36,37,38] (.f (.block 1 (.o [.J 40 5 36 38,.L 41 5 40,.G 9 [(.lit (.int .i64 0)),(.lit (.int .i64 0)),.z,.emp,.emp],.S 5 9 41] [1,7,9,36,37,38] (.o [.M 42 1,.Z 43 42,.N 44 0] [1,7,9,36,37,38,42,43,44] (.block 2 (.loop (.o [.B 45 .lss 44 43] [1,7,9,36,37,38,42,43,44,45] (.f (.cond (.t 45) .skip (.exit 2)) [1,7,9,36,37,38,42,43,44] (.f (.block 3 (.o [.J 46 5 42 44,.L 47 5 46,.G 11 [(.lit (.int .i64 0)),(.lit (.int .i64 0)),.z,.emp,.emp],.S 5 11 47] [1,7,9,11,36,37,38,42,43,44] (.y [.M 48 7,.A 49 0 9,.F 50 1 49,.A 51 0 11,.F 52 1 51,.B 53 .add 50 52,.A 54 1 9,.F 55 1 54,.A 56 1 11,.F 57 1 56,.B 58 .add 55 57,.A 59 2 9,.L 60 3 59,.A 61 2 11,.L 62 3 61,.D 63 f2 60 62,.u 64 (.build [.x 1 (.t 53),.x 1 (.t 58),.x 3 (.t 63)]),.u 65 (.row 5 [[.x 5 (.t 64)]]),.u 66 (.app 5 (.t 48) (.t 65)),.M 7 66]))) [1,7,9,36,37,38,42,43,44] (.p [.I 67 .add 44 1,.M 44 67]))))))))) [1,7,36,37,38] (.p [.I 68 .add 38 1,.M 38 68]))))))) [7] (.seq (.p [.M 69 7,.H 70 f3 69,.M 4 70,.m 5 (.c (.one (.lit .nilIface)))]) .ret))))))
theorem XaG(hΓ:Holds P Γ){f fk fd fm fs tE m:Nat}(hm:10000<=m)(hk:Γ fk=.dat false (Wg tE))(hd:Γ fd=.dat true Qr)(hmu:Γ fm=.dat false Jp)(hs:Γ fs=.dat false (kx m))(hc:check P f=some (71,(Zk fk fd fm fs tE).strip,[.tmp 4,.tmp 5])):Sound P f (.dat false (Xz tE)):=by
 refine Qa hc (qa2 tE) hΓ (λargs K hcl hfi hG=>?_);match args,hG with
 | [a,b],hG=>
  obtain⟨p,rfl,hwp,q,rfl,hwq,hp,hq,hsz,hK⟩:=hG;refine⟨by simp,?_⟩
  have hp' : ∀t∈p,rl t.2.2<=4294967296:=λt ht=>Nat.le_trans (hp t ht) (by decide)
  have hq' : ∀t∈q,rl t.2.2<=4294967296:=λt ht=>Nat.le_trans (hq t ht) (by decide)
  by_cases h0:chk2 p q=0
  rotate_left
  .have e0:=ud tE h0;have e1:mulC p q=chk2 p q:=if_pos h0;rw [e1,kK h0,e0]at hK;simp only [go_sem,Zk,hk,hs,e0];exact⟨⟨hwp,hwq⟩,hp',hq',hK⟩
  have e0:=Xd tE;rw [<-h0]at e0;obtain⟨c1,c2⟩:=way h0;obtain⟨i1,j1,l1⟩:=Vs c1 hwp;obtain⟨i2,j2,l2⟩:=Vs c2 hwq;by_cases h1:p≠[]/\q≠[]/\24<degM p+degM q
  .have e1:mulC p q=4:=by unfold mulC;rw [if_neg (by simp [h0]),if_pos h1]
   rw [e1,kK (by decide),ud tE (by decide)]at hK
   obtain⟨g1,g2,g3⟩:=h1;have n1:(0:Int)<(p.length:Int):=by have:=List.length_pos_iff.2 g1;omega
   have n2:(0:Int)<(q.length:Int):=by have:=List.length_pos_iff.2 g2;omega
   obtain⟨k1,e1⟩:=Vl c1 hwp;obtain⟨k2,e2⟩:=Vl c2 hwq;have d1:degM p=degB (p.map mv):=by rw [<-zd,e1]
   have d2:degM q=degB (q.map mv):=by rw [<-zd,e2]
   have b1:=xw k1;have b2:=xw k2;simp only [go_sem,Zk,hk,hd,hs,e0,n1,n2,g3];exact⟨⟨hwp,hwq⟩,hp',hq',λ_ _=>⟨hwp,i1,by omega,hwq,i2,by omega,⟨by omega,by omega⟩,hK⟩⟩
  .have e1:mulC p q=0:=by unfold mulC;rw [if_neg (by simp [h0]),if_neg h1]
   rw [e1,yW,Xd]at hK;obtain⟨hin,hl⟩:=Jb1 hwp hwq h0 h1;obtain⟨k1,q1⟩:=Vl c1 hwp;obtain⟨k2,q2⟩:=Vl c2 hwq;have d1:degM p=degB (p.map mv):=by rw [<-zd,q1]
   have d2:degM q=degB (q.map mv):=by rw [<-zd,q2]
   have b1:=xw k1;have b2:=xw k2;simp only [go_sem,Zk,hk,hd,hs,e0];refine⟨⟨hwp,hwq⟩,hp',hq',λ_=>⟨λn1 _=>⟨λn2=>⟨hwp,i1,by omega,hwq,i2,by omega,⟨by omega,by omega⟩,λh=>?_,λ_ _=>?_⟩,λ_ _=>?_⟩,λ_ _=>?_⟩⟩
   .exact absurd ⟨List.length_pos_iff.1 (by omega),List.length_pos_iff.1 (by omega),h⟩ h1
   all_goals
    have hmb:mulB (p.map mv) (q.map mv)=nf ((prodM p q).map mv):=by unfold mulB;rw [ZE]
    have hpo:=Wba hwp hwq hp hq hin;have hpl:(prodM p q).length<=m:=by rw [U5];omega
    have hps:sz ((prodM p q).map mv)<=1000000000:=by
     rw [ZE];have h1:=JaL (p.map mv) (q.map mv);rw [List.length_map,List.length_map]at h1;have h2:=Nat.mul_le_mul l2 (Nat.le_refl (sz (p.map mv)));have h3:=Nat.mul_le_mul l1 (Nat.le_refl (sz (q.map mv)));omega
    rw [hmb]at hK;refine ja (λk:Nat=>if prodM (p.take k) q=[] then ⟨mkV [(1,msA q),(7,.one .emp),(36,msA p),(37,.one (.lit (.int .i64 p.length))),(38,.one (.lit (.int .i64 k)))],mkH []⟩
      else ⟨mkV [(1,msA q),(7,.one (.own 66 1 5 0 (prodM (p.take k) q).length)),(36,msA p),(37,.one (.lit (.int .i64 p.length))),(38,.one (.lit (.int .i64 k)))],mkH [(66,⟨1,some ⟨(prodM (p.take k) q).map mC,5,true⟩⟩)]⟩) (λk=>k<=p.length) (λk=>p.length-k) 0 ?_ ?_ ?_
    .have e00:prodM (p.take 0) q=[]:=rfl;rw [if_pos e00];exact qa (by simp [bitvec_to_nat,msA,ms]) trivial
    .exact Nat.zero_le _
    .intro k hk2;by_cases hlt:k<p.length
     .obtain⟨x,hx⟩:∃x,p.getD k mo0=x:=⟨_,rfl⟩;have hx0:=getDm hlt hx;have hxm:=List.mem_of_getElem? hx0;have hpt:=uaI (q:=q) hx0;obtain⟨x1,x2,x3⟩:=i1 x hxm;have hwx:=(hwp x hxm).2.2;have hrx:=hp x hxm;obtain⟨A,hA⟩:∃A,prodM (p.take k) q=A:=⟨_,rfl⟩;rw [hA]at hpt;have hAl:A.length<=400000:=by
       rw [<-hA,U5,List.length_take];have:=Nat.mul_le_mul (show min k p.length<=325 by omega) l2
       omega
      by_cases hA0:A=[]
      .have hA':=hA;rw [hA0]at hA';simp only [go_sem,hlt,hx,hA',mC];intro _;refine ja (λj:Nat=>if A++(q.take j).map (λb=>prodT x b)=[] then ⟨mkV [(1,msA q),(7,.one .emp),(9,.one (.ptr 9 1 0 0)),(36,msA p),(37,.one (.lit (.int .i64 p.length))),(38,.one (.lit (.int .i64 k))),(42,msA q),(43,.one (.lit (.int .i64 q.length))),(44,.one (.lit (.int .i64 j)))],mkH [(9,⟨1,some ⟨[mC x],5,true⟩⟩)]⟩
         else ⟨mkV [(1,msA q),(7,.one (.own 66 1 5 0 (A++(q.take j).map (λb=>prodT x b)).length)),(9,.one (.ptr 9 1 0 0)),(36,msA p),(37,.one (.lit (.int .i64 p.length))),(38,.one (.lit (.int .i64 k))),(42,msA q),(43,.one (.lit (.int .i64 q.length))),(44,.one (.lit (.int .i64 j)))],mkH [(9,⟨1,some ⟨[mC x],5,true⟩⟩),(66,⟨1,some ⟨(A++(q.take j).map (λb=>prodT x b)).map mC,5,true⟩⟩)]⟩) (λj=>j<=q.length) (λj=>q.length-j) 0 ?_ ?_ ?_
       .have e0:A++(q.take 0).map (λb=>prodT x b)=A:=by simp
        rw [e0]
        first
         | (rw [if_pos hA0];exact qa (by simp [bitvec_to_nat,msA,ms]) ⟨Wi (l':=[x]) rfl,trivial⟩)
         | (rw [if_neg hA0];exact qa (by simp [bitvec_to_nat,msA,ms]) ⟨Wi (l':=[x]) rfl,Wi rfl,trivial⟩)
       .exact Nat.zero_le _
       .intro j hj2;by_cases hlj:j<q.length
        .obtain⟨y,hy⟩:∃y,q.getD j mo0=y:=⟨_,rfl⟩;have hy0:=getDm hlj hy;have hym:=List.mem_of_getElem? hy0;obtain⟨y1,y2,y3⟩:=i2 y hym;have hwy:=(hwq y hym).2.2;have hry:=hq y hym;have hqt:A++(q.take (j+1)).map (λb=>prodT x b)=A++(q.take j).map (λb=>prodT x b)++[prodT x y]:=by rw [List.take_add_one,hy0];simp
         obtain⟨B,hB⟩:∃B,A++(q.take j).map (λb=>prodT x b)=B:=⟨_,rfl⟩;rw [hB]at hqt;have hBl:B.length<=500000:=by
          rw [<-hB,List.length_append,List.length_map,List.length_take];omega
         by_cases hB0:B=[]
         .rw [hB0]at hB;simp only [go_sem,hlj,hy,hB,hmu,mC];refine⟨⟨by omega,by omega⟩,⟨by omega,by omega⟩,hwx,hwy,by omega,by omega,λe he=>by rw [List.mem_singleton.1 he];rfl,?_⟩
          repeat first | refine q_Wk ?_ | intro _
          refine⟨j+1,?_,by omega,by omega⟩
          rw [hqt,if_neg (by simp)]
          exact qa (by simp [bitvec_to_nat,msA,ms,hB0]) ⟨Wi (l':=[x]) rfl,Wi (by rw [hB0];simp [mC,prodT]),trivial⟩
         .simp only [go_sem,hlj,hy,hB,hB0,hmu,mC];refine⟨⟨by omega,by omega⟩,⟨by omega,by omega⟩,hwx,hwy,by omega,by omega,λe he=>by rw [List.mem_singleton.1 he];rfl,?_⟩
          repeat first | refine q_Wk ?_ | intro _
          refine⟨j+1,?_,by omega,by omega⟩
          rw [hqt,if_neg (by simp)]
          exact qa (by simp [bitvec_to_nat,msA,ms]) ⟨Wi (l':=[x]) rfl,Wi (by simp [mC,prodT]),trivial⟩
        .have ej:A++(q.take j).map (λb=>prodT x b)=prodM (p.take (k+1)) q:=by rw [hpt,List.take_of_length_le (by omega)]
         obtain⟨B,hB⟩:∃B,prodM (p.take (k+1)) q=B:=⟨_,rfl⟩;rw [hB]at ej;by_cases hB0:B=[]
         .rw [hB0]at ej;simp only [go_sem,hlj,ej,mC];repeat first | refine q_Wk ?_ | intro _
          refine⟨k+1,?_,by omega,by omega⟩
          rw [hB,if_pos hB0];exact qa (by simp [bitvec_to_nat,msA,ms]) trivial
         .simp only [go_sem,hlj,ej,hB0,mC];repeat first | refine q_Wk ?_ | intro _
          refine⟨k+1,?_,by omega,by omega⟩
          rw [hB,if_neg hB0];exact qa (by simp [bitvec_to_nat,msA,ms]) ⟨Wi rfl,trivial⟩
      .simp only [go_sem,hlt,hx,hA,hA0,mC];intro _;refine ja (λj:Nat=>if A++(q.take j).map (λb=>prodT x b)=[] then ⟨mkV [(1,msA q),(7,.one .emp),(9,.one (.ptr 9 1 0 0)),(36,msA p),(37,.one (.lit (.int .i64 p.length))),(38,.one (.lit (.int .i64 k))),(42,msA q),(43,.one (.lit (.int .i64 q.length))),(44,.one (.lit (.int .i64 j)))],mkH [(9,⟨1,some ⟨[mC x],5,true⟩⟩)]⟩
         else ⟨mkV [(1,msA q),(7,.one (.own 66 1 5 0 (A++(q.take j).map (λb=>prodT x b)).length)),(9,.one (.ptr 9 1 0 0)),(36,msA p),(37,.one (.lit (.int .i64 p.length))),(38,.one (.lit (.int .i64 k))),(42,msA q),(43,.one (.lit (.int .i64 q.length))),(44,.one (.lit (.int .i64 j)))],mkH [(9,⟨1,some ⟨[mC x],5,true⟩⟩),(66,⟨1,some ⟨(A++(q.take j).map (λb=>prodT x b)).map mC,5,true⟩⟩)]⟩) (λj=>j<=q.length) (λj=>q.length-j) 0 ?_ ?_ ?_
       .have e0:A++(q.take 0).map (λb=>prodT x b)=A:=by simp
        rw [e0]
        first
         | (rw [if_pos hA0];exact qa (by simp [bitvec_to_nat,msA,ms]) ⟨Wi (l':=[x]) rfl,trivial⟩)
         | (rw [if_neg hA0];exact qa (by simp [bitvec_to_nat,msA,ms]) ⟨Wi (l':=[x]) rfl,Wi rfl,trivial⟩)
       .exact Nat.zero_le _
       .intro j hj2;by_cases hlj:j<q.length
        .obtain⟨y,hy⟩:∃y,q.getD j mo0=y:=⟨_,rfl⟩;have hy0:=getDm hlj hy;have hym:=List.mem_of_getElem? hy0;obtain⟨y1,y2,y3⟩:=i2 y hym;have hwy:=(hwq y hym).2.2;have hry:=hq y hym;have hqt:A++(q.take (j+1)).map (λb=>prodT x b)=A++(q.take j).map (λb=>prodT x b)++[prodT x y]:=by rw [List.take_add_one,hy0];simp
         obtain⟨B,hB⟩:∃B,A++(q.take j).map (λb=>prodT x b)=B:=⟨_,rfl⟩;rw [hB]at hqt;have hBl:B.length<=500000:=by
          rw [<-hB,List.length_append,List.length_map,List.length_take];omega
         by_cases hB0:B=[]
         .rw [hB0]at hB;simp only [go_sem,hlj,hy,hB,hmu,mC];refine⟨⟨by omega,by omega⟩,⟨by omega,by omega⟩,hwx,hwy,by omega,by omega,λe he=>by rw [List.mem_singleton.1 he];rfl,?_⟩
          repeat first | refine q_Wk ?_ | intro _
          refine⟨j+1,?_,by omega,by omega⟩
          rw [hqt,if_neg (by simp)]
          exact qa (by simp [bitvec_to_nat,msA,ms,hB0]) ⟨Wi (l':=[x]) rfl,Wi (by rw [hB0];simp [mC,prodT]),trivial⟩
         .simp only [go_sem,hlj,hy,hB,hB0,hmu,mC];refine⟨⟨by omega,by omega⟩,⟨by omega,by omega⟩,hwx,hwy,by omega,by omega,λe he=>by rw [List.mem_singleton.1 he];rfl,?_⟩
          repeat first | refine q_Wk ?_ | intro _
          refine⟨j+1,?_,by omega,by omega⟩
          rw [hqt,if_neg (by simp)]
          exact qa (by simp [bitvec_to_nat,msA,ms]) ⟨Wi (l':=[x]) rfl,Wi (by simp [mC,prodT]),trivial⟩
        .have ej:A++(q.take j).map (λb=>prodT x b)=prodM (p.take (k+1)) q:=by rw [hpt,List.take_of_length_le (by omega)]
         obtain⟨B,hB⟩:∃B,prodM (p.take (k+1)) q=B:=⟨_,rfl⟩;rw [hB]at ej;by_cases hB0:B=[]
         .rw [hB0]at ej;simp only [go_sem,hlj,ej,mC];repeat first | refine q_Wk ?_ | intro _
          refine⟨k+1,?_,by omega,by omega⟩
          rw [hB,if_pos hB0];exact qa (by simp [bitvec_to_nat,msA,ms]) trivial
         .simp only [go_sem,hlj,ej,hB0,mC];repeat first | refine q_Wk ?_ | intro _
          refine⟨k+1,?_,by omega,by omega⟩
          rw [hB,if_neg hB0];exact qa (by simp [bitvec_to_nat,msA,ms]) ⟨Wi rfl,trivial⟩
     .have ek:p.take k=p:=List.take_of_length_le (by omega)
      by_cases hA0:prodM p q=[]
      .rw [hA0]at hK;simp only [go_sem,hlt,ek,hA0,hs];exact⟨by simp,by omega,by simp [sz],hK⟩
      .simp only [go_sem,hlt,ek,hA0,hs];exact⟨λt ht=>(hpo t ht).1,λt ht=>(hpo t ht).2,hpl,hps,hK⟩
end Go.Abs
end
section
namespace Go.Num
open Go.Abs
theorem xbB{l:BQ}(h:InQ l)(x y:Rat):rz (ev l x y)<=sz l+l.length*(24*(rz x+2)+24*(rz y+2)+8):=by
 induction l with
 | nil=>have:=rz_0;simp only [ev,sz];omega
 | cons t l ih=>
  obtain⟨⟨a,b,c⟩,h2⟩:=xc.1 h;have ih:=ih h2;have h3:=Ua6 x t.1.toNat;have h4:=Ua6 y t.2.1.toNat;have h5:=vm (pw x t.1.toNat) (pw y t.2.1.toNat);have h6:=vm t.2.2 (pw x t.1.toNat*pw y t.2.1.toNat);have h7:=VF (mev t x y) (ev l x y);have h8:t.1.toNat*(rz x+2)<=24*(rz x+2):=Nat.mul_le_mul_right _ (by omega)
  have h9:t.2.1.toNat*(rz y+2)<=24*(rz y+2):=Nat.mul_le_mul_right _ (by omega)
  have h10:mev t x y=t.2.2*(pw x t.1.toNat*pw y t.2.1.toNat):=rfl;rw [h10]at h7;simp only [ev,mev,sz,List.length_cons,Nat.add_mul,Nat.one_mul]at *
  omega
theorem Vbq{l:List Mo}{k:Nat}{t:Mo}(ht:l[k]?=some t)(x y:Rat):ev ((l.take (k+1)).map mv) x y=ev ((l.take k).map mv) x y+rv t.2.2*(pw x t.1.toNat*pw y t.2.1.toNat):=by
 rw [xF ht,U7];simp only [ev,mev,mv,Rat.add_zero]
theorem rone1:((1:Int):Rat)=1:=by simp
end Go.Num
namespace Go.Abs
open Go.Num
variable {P:Program} {Γ:Nat->Spec}
theorem XbS(N:Nat):mx (N:Int) (-(N:Int))=N:=by
 unfold mx;split <;> omega
theorem rQ_0:rQ 0=.agg [.lit (.bool false),.slice [],.slice []]:=by unfold rQ;rw [qf];rfl
theorem Xv{h h' : Nat->HB}{z:Nat}{b:Bool}:okB h h' (some ⟨[[.lit (.bool false),.emp,.emp]],z,b⟩) (some ⟨[[.lit (.bool false),.emp,.emp]],z,b⟩):=
 ⟨⟨rfl,rfl⟩,.inl ⟨rfl,λe he c hc=>by
  rw [List.mem_singleton]at he;subst he;simp only [List.mem_cons,List.not_mem_nil,or_false]at hc;rcases hc with rfl | rfl | rfl
  .exact .lit _
  .exact .emp
  .exact .emp⟩⟩
def YA(tE:Nat)(l:List AV)(K:AV->Prop):Prop:=
 match l with
 | [a,n]=>onR (λx=>asInt (λk n=>k=.i64/\0<=n/\n<=64/\rl x<=10000000/\K (.tup [rQ (pw (rv x) n.toNat),errV tE 0])) n) a
 | _=>False
theorem yaZ tE a n K:YA tE [a,n] K=(onR (λx=>asInt (λk n=>k=.i64/\0<=n/\n<=64/\rl x<=10000000/\K (.tup [rQ (pw (rv x) n.toNat),errV tE 0])) n) a):=propext Iff.rfl
@[congr] theorem ybU tE{K}{l l'}(h:l=l'):YA tE l K=YA tE l' K:=by subst h;rfl
attribute [go_sem,go_sem ↓] yaZ
theorem qaO(tE:Nat):Good (YA tE):=Ja λas=>by
 unfold YA;split
 .exact(Qo λ_=>(jc (λ_ _=>(.and λ_=>(.and λ_=>(.and λ_=>(.and λ_=>(.ret _)))))) _))
 .exact .of λK hk=>hk.elim
def vv(tE:Nat)(l:List AV)(K:AV->Prop):Prop:=
 match l with
 | [a,b,c]=>onMs (λp=>onR (λx=>onR (λy=>(∀t∈p,rl t.2.2<=1000000000)/\rl x<=10000/\rl y<=10000/\sz (p.map mv)<=100000000/\K (.tup [rQ (if chkB p=0 then ev (p.map mv) (rv x) (rv y) else 0),errV tE (chkB p)])) c) b) a
 | _=>False
theorem Uaz tE a b c K:vv tE [a,b,c] K=(onMs (λp=>onR (λx=>onR (λy=>(∀t∈p,rl t.2.2<=1000000000)/\rl x<=10000/\rl y<=10000/\sz (p.map mv)<=100000000/\K (.tup [rQ (if chkB p=0 then ev (p.map mv) (rv x) (rv y) else 0),errV tE (chkB p)])) c) b) a):=propext Iff.rfl
@[congr] theorem jbQ tE{K}{l l'}(h:l=l'):vv tE l K=vv tE l' K:=by subst h;rfl
attribute [go_sem,go_sem ↓] Uaz
theorem XaI(tE:Nat):Good (vv tE):=Ja λas=>by
 unfold vv;split
 .exact(Jg λ_=>(Qo λ_=>(Qo λ_=>(.and λ_=>(.and λ_=>(.and λ_=>(.and λ_=>(.ret _))))))))
 .exact .of λK hk=>hk.elim
def Jl(f0 f1 f2 tE:Nat):AC:=(.o [.K 2 3 0,.G 4 [.z,.emp,.emp],.m 5 (.c (.one (.lit .nilIface)))] [1,2,4] (.f (.o [.M 7 1,.I 8 .lss 7 (-64),.M 9 8,.V 10 9 false 1,.w 11 9 false (.bin .gtr (.t 10) (.i 64)),.Q 12 9 11] [1,2,4,12] (.cond (.t 12) (.seq (.p [.u 13 (.build [.z [.z,.emp,.emp]]),.u 14 (.iface tE (.i 3)),.S 3 4 13,.M 5 14]) .ret) .skip)) [1,2,4] (.o [.u 15 (.call f0 [(.i 1)]),.G 6 [.z,.emp,.emp],.S 3 6 15] [1,2,4,6] (.f (.o [.M 16 1,.M 17 1,.u 18 (.un .neg (.t 17)),.u 19 (.max [(.t 16),(.t 18)]),.N 20 0] [1,2,4,6,19,20] (.block 0 (.loop (.o [.B 21 .lss 20 19] [1,2,4,6,19,20,21] (.f (.cond (.t 21) .skip (.exit 0)) [1,2,4,6,19,20] (.f (.block 1 (.p [.L 22 3 6,.L 23 3 2,.D 24 f1 22 23,.S 3 6 24])) [1,2,4,6,19,20] (.p [.I 25 .add 20 1,.M 20 25]))))))) [1,4,6] (.f (.o [.M 26 1,.I 27 .lss 26 0] [4,6,27] (.cond (.t 27) (.seq (.y [.u 28 (.call f0 [(.i 1)]),.L 29 3 6,.D 30 f2 28 29,.X 31 0 30,.X 32 1 30,.S 3 4 31,.M 5 32]) .ret) .skip)) [4,6] (.seq (.p [.L 33 3 6,.S 3 4 33,.m 5 (.c (.one (.lit .nilIface)))]) .ret))))))
def Zm(f0 f1 f2 f3:Nat):AC:=(.o [.K 4 3 1,.K 5 3 2,.G 6 [.z,.emp,.emp],.m 7 (.c (.one (.lit .nilIface)))] [0,4,5,6] (.f (.o [.M 15 0,.H 16 f0 15,.M 8 16] [0,4,5,6,8] (.o [.M 17 8,.R 18 17] [0,4,5,6,8,18] (.cond (.t 18) (.seq (.p [.u 19 (.build [.z [.z,.emp,.emp]]),.M 20 8,.S 3 6 19,.M 7 20]) .ret) .skip))) [0,4,5,6] (.o [.G 9 [.z,.emp,.emp]] [0,4,5,6,9] (.f (.o [.M 21 0,.Z 22 21,.N 23 0] [4,5,6,9,21,22,23] (.block 0 (.loop (.o [.B 24 .lss 23 22] [4,5,6,9,21,22,23,24] (.f (.cond (.t 24) .skip (.exit 0)) [4,5,6,9,21,22,23] (.f (.block 1 (.o [.J 25 5 21 23,.L 26 5 25,.G 11 [(.lit (.int .i64 0)),(.lit (.int .i64 0)),.z,.emp,.emp],.S 5 11 26] [4,5,6,9,11,21,22,23] (.o [.L 28 3 4,.A 29 0 11,.F 30 1 29,.D 31 f1 28 30,.M 27 31,.X 32 0 27,.X 33 1 27,.G 12 [.z,.emp,.emp],.S 3 12 32,.M 13 33] [4,5,6,9,11,12,13,21,22,23] (.f (.o [.M 34 13,.R 35 34] [4,5,6,9,11,12,13,21,22,23,35] (.cond (.t 35) (.seq (.p [.u 36 (.build [.z [.z,.emp,.emp]]),.M 37 13,.S 3 6 36,.M 7 37]) .ret) .skip)) [4,5,6,9,11,12,21,22,23] (.o [.L 39 3 5,.A 40 1 11,.F 41 1 40,.D 42 f1 39 41,.M 38 42,.X 43 0 38,.X 44 1 38,.G 14 [.z,.emp,.emp],.S 3 14 43,.M 13 44] [4,5,6,9,11,12,13,14,21,22,23] (.f (.o [.M 45 13,.R 46 45] [4,5,6,9,11,12,13,14,21,22,23,46] (.cond (.t 46) (.seq (.p [.u 47 (.build [.z [.z,.emp,.emp]]),.M 48 13,.S 3 6 47,.M 7 48]) .ret) .skip)) [4,5,6,9,11,12,14,21,22,23] (.y [.L 49 3 9,.A 50 2 11,.L 51 3 50,.L 52 3 12,.L 53 3 14,.D 54 f2 52 53,.D 55 f2 51 54,.D 56 f3 49 55,.S 3 9 56]))))))) [4,5,6,9,21,22,23] (.p [.I 57 .add 23 1,.M 23 57]))))))) [6,9] (.seq (.p [.L 58 3 9,.S 3 6 58,.m 7 (.c (.one (.lit .nilIface)))]) .ret)))))
theorem VaE(hΓ:Holds P Γ){f fo fm fd tE:Nat}(ho:Γ fo=.dat false Qz)(hm:Γ fm=.dat false Jp)(hc:check P f=some (34,(Jl fo fm fd tE).strip,[.cell 4 3 true,.tmp 5])):Sound P f (.dat false (YA tE)):=by
 refine Qa hc (qaO tE) hΓ (λargs K hcl hfi hG=>?_);match args,hG with
 | [a,b],hG=>
  obtain⟨x,rfl,hwx,hG⟩:=hG;obtain⟨k,n,rfl,rfl,h0,h1,hrx,hK⟩:=ua hG;refine⟨by simp,?_⟩
  obtain⟨N,rfl⟩:∃N:Nat,n=N:=⟨n.toNat,by omega⟩
  rw [Int.toNat_natCast,Xd]at hK;have n1:¬(N:Int) < -64:=by omega
  have n2:¬(64:Int)<(N:Int):=by omega
  have n3:¬(N:Int)<0:=by omega
  simp only [go_sem,Jl,ho,rA,n1,n2,XbS,rone1];refine⟨by decide,by decide,⟨by omega,by omega⟩,?_⟩
  refine ja (λk:Nat=>⟨mkV [(1,.one (.lit (.int .i64 N))),(2,.one (.ptr 2 1 0 0)),(4,.one (.ptr 4 1 0 0)),(6,.one (.ptr 6 1 0 0)),(19,.one (.lit (.int .i64 N))),(20,.one (.lit (.int .i64 k)))],mkH [(2,⟨1,some ⟨[[cb x,cn x,cd x]],3,true⟩⟩),(4,⟨1,some ⟨[[.lit (.bool false),.emp,.emp]],3,true⟩⟩),(6,⟨1,some ⟨[[cb (rcan (pw (rv x) k)),cn (rcan (pw (rv x) k)),cd (rcan (pw (rv x) k))]],3,true⟩⟩)]⟩) (λk=>k<=N) (λk=>N-k) 0 ?_ ?_ ?_
  .exact qa (by simp [bitvec_to_nat]) ⟨ye,Xv,ye,trivial⟩
  .exact Nat.zero_le _
  .intro k hk;have hz:=Ua6 (rv x) k;have hz2:=Uw hwx;have hz3:k*(rz (rv x)+2)<=64*(rz (rv x)+2):=Nat.mul_le_mul_right _ (by omega)
   by_cases hlt:k<N
   .simp only [go_sem,hlt,hm,we];exact⟨hwx,by omega,by omega,by omega,k+1,qa (by simp [bitvec_to_nat]) ⟨ye,Xv,ye,trivial⟩,by omega,by omega⟩
   .have ek:k=N:=by omega
    subst ek;simp only [go_sem,hlt,n3,Int.lt_irrefl,Nat.lt_irrefl];exact hK
theorem Uah(hΓ:Holds P Γ){f fk fp fm fa tE:Nat}(hk:Γ fk=.dat false (Yl tE))(hp:Γ fp=.dat false (YA tE))(hm:Γ fm=.dat false Jp)(ha:Γ fa=.dat false kp)(hc:check P f=some (59,(Zm fk fp fm fa).strip,[.cell 6 3 true,.tmp 7])):Sound P f (.dat false (vv tE)):=by
 refine Qa hc (XaI tE) hΓ (λargs K hcl hfi hG=>?_);match args,hG with
 | [a,b,c],hG=>
  obtain⟨p,rfl,hwp,x,rfl,hwx,y,rfl,hwy,hrp,hrx,hry,hsz,hK⟩:=hG;refine⟨by simp,?_⟩
  have hrp' : ∀t∈p,rl t.2.2<=4294967296:=λt ht=>Nat.le_trans (hrp t ht) (by decide)
  by_cases h0:chkB p=0
  .have e0:=Xd tE;rw [if_pos h0,h0,Xd]at hK;rw [<-h0]at e0;obtain⟨i1,j1,l1⟩:=Vs h0 hwp;simp only [go_sem,Zm,hk,rA,e0];refine⟨hwp,hrp',λ_=>?_⟩;refine ja (λk:Nat=>⟨mkV [(4,.one (.ptr 4 1 0 0)),(5,.one (.ptr 5 1 0 0)),(6,.one (.ptr 6 1 0 0)),(9,.one (.ptr 9 1 0 0)),(21,msA p),(22,.one (.lit (.int .i64 p.length))),(23,.one (.lit (.int .i64 k)))],mkH [(4,⟨1,some ⟨[[cb x,cn x,cd x]],3,true⟩⟩),(5,⟨1,some ⟨[[cb y,cn y,cd y]],3,true⟩⟩),(6,⟨1,some ⟨[[.lit (.bool false),.emp,.emp]],3,true⟩⟩),(9,⟨1,some ⟨[if k=0 then [.lit (.bool false),.emp,.emp] else [cb (rcan (ev ((p.take k).map mv) (rv x) (rv y))),cn (rcan (ev ((p.take k).map mv) (rv x) (rv y))),cd (rcan (ev ((p.take k).map mv) (rv x) (rv y)))]],3,true⟩⟩)]⟩) (λk=>k<=p.length) (λk=>p.length-k) 0 ?_ ?_ ?_
   .rw [if_pos rfl];exact qa (by simp [bitvec_to_nat,msA,ms]) ⟨ye,ye,Xv,Xv,trivial⟩
   .exact Nat.zero_le _
   .intro k hk2;by_cases hlt:k<p.length
    .obtain⟨t,ht⟩:∃t,p.getD k mo0=t:=⟨_,rfl⟩;have ht0:=getDm hlt ht;have htm:=List.mem_of_getElem? ht0;obtain⟨t1,t2,t3⟩:=i1 t htm;have hwt:=(hwp t htm).2.2;have hrt:=hrp t htm;have het:=Vbq ht0 (rv x) (rv y);have z0:=rz_0;have z1:=Uw hwx;have z2:=Uw hwy;have z3:=Uw hwt;have z4:=Ua6 (rv x) t.1.toNat;have z5:=Ua6 (rv y) t.2.1.toNat;have z6:t.1.toNat*(rz (rv x)+2)<=24*(rz (rv x)+2):=Nat.mul_le_mul_right _ (by omega)
     have z7:t.2.1.toNat*(rz (rv y)+2)<=24*(rz (rv y)+2):=Nat.mul_le_mul_right _ (by omega)
     have z8:=vm (pw (rv x) t.1.toNat) (pw (rv y) t.2.1.toNat);have z9:=vm (rv t.2.2) (pw (rv x) t.1.toNat*pw (rv y) t.2.1.toNat);have z10:rz (ev ((p.take k).map mv) (rv x) (rv y))<=1000000000:=by
      have w1:=xbB (l:=(p.take k).map mv) (λu hu=>by
       obtain⟨v,hv,rfl⟩:=List.mem_map.1 hu;exact i1 v (List.mem_of_mem_take hv)) (rv x) (rv y)
      have w2:=vP (p.map mv) k;rw [<-List.map_take]at w2;rw [List.length_map,List.length_take]at w1;have w3:=Nat.mul_le_mul (show min k p.length<=325 by omega) (show 24*(rz (rv x)+2)+24*(rz (rv y)+2)+8<=24*10002+24*10002+8 by omega)
      omega
     have e1:=Xd tE;by_cases hk0:k=0
     .subst hk0;simp only [go_sem,hlt,ht,hp,hm,ha,mC,e1,we,rQ];repeat first | refine q_Wk ?_ | intro _
      refine⟨1,?_,by omega,by omega⟩
      rw [if_neg (by decide)]
      have het0:ev ((p.take 1).map mv) (rv x) (rv y)=0+rv t.2.2*(pw (rv x) t.1.toNat*pw (rv y) t.2.1.toNat):=het;rw [het0];exact qa (by simp [bitvec_to_nat,msA,ms]) ⟨ye,ye,Xv,ye,trivial⟩
     .simp only [go_sem,hlt,ht,hp,hm,ha,mC,e1,we,rQ,hk0];repeat first | refine q_Wk ?_ | intro _
      refine⟨k+1,?_,by omega,by omega⟩
      rw [if_neg (by omega),het]
      exact qa (by simp [bitvec_to_nat,msA,ms]) ⟨ye,ye,Xv,ye,trivial⟩
    .have ek:p.take k=p:=List.take_of_length_le (by omega)
     by_cases hk0:k=0
     .subst hk0;simp only [go_sem,hlt,rQ];have hp0:p=[]:=List.length_eq_zero_iff.1 (by omega)
      subst hp0;have e00:ev (([]:List Mo).map mv) (rv x) (rv y)=0:=rfl;rw [e00,rQ_0]at hK;exact hK
     .simp only [go_sem,hlt,rQ,hk0,ek];exact hK
  .have e0:=ud tE h0;rw [if_neg h0,e0]at hK;simp only [go_sem,Zm,hk,rA,e0];rw [rQ_0]at hK;exact⟨hwp,hrp',hK⟩
end Go.Abs
end
section
namespace Go.Num
abbrev CpR:=V2×V2×Rat×Rat×Rat×Rat×Rat
structure CB (c:CpR):Prop where
 o1:rz c.1.1<=4000
 o2:rz c.1.2<=4000
 q1:rz c.2.1.1<=4000
 q2:rz c.2.1.2<=4000
 a2:rz c.2.2.1<=4000
 b2:rz c.2.2.2.1<=4000
 c2:rz c.2.2.2.2.1<=4000
 u:rz c.2.2.2.2.2.1<=4000
 v:rz c.2.2.2.2.2.2<=4000
def lxB(o:V2):BQ×BQ:=(linB false o.1,linB true o.2)
def timB(v:BQ×BQ)(u w:Rat):BQ×BQ:=(subB (sclB u v.1) (sclB w v.2),addB (sclB u v.2) (sclB w v.1))
def nrmB(v:BQ×BQ):BQ:=addB (mulB v.1 v.1) (mulB v.2 v.2)
def cRe(c:CpR):Rat:=1-c.2.2.2.2.2.1
def cAl(c:CpR):BQ×BQ:=timB (lxB c.1) c.2.2.2.2.2.1 (-c.2.2.2.2.2.2)
def cBe(c:CpR):BQ×BQ:=timB (lxB c.2.1) (cRe c) c.2.2.2.2.2.2
def cFi(c:CpR):Rat:=sqQ (c.2.2.2.2.2.1,c.2.2.2.2.2.2)*c.2.2.2.1-c.2.2.1
def cSe(c:CpR):Rat:=c.2.2.2.2.1-sqQ (cRe c,c.2.2.2.2.2.2)*c.2.2.2.1
def cE(c:CpR):BQ:=addB (nrmB (lxB c.1)) (conB (cFi c))
def cF(c:CpR):BQ:=subB (conB (cSe c)) (nrmB (lxB c.2.1))
def cM(c:CpR):BQ:=subB (mulB (cAl c).1 (cBe c).2) (mulB (cAl c).2 (cBe c).1)
def cX(c:CpR):BQ:=subB (mulB (cE c) (cBe c).2) (mulB (cF c) (cAl c).2)
def cY(c:CpR):BQ:=subB (mulB (cF c) (cAl c).1) (mulB (cE c) (cBe c).1)
def cMM(c:CpR):BQ:=mulB (cM c) (cM c)
def cLa(c:CpR):BQ:=sclB (4*c.2.2.2.1) (cMM c)
def cNo(c:CpR):BQ:=nrmB (cX c,cY c)
def cCur(c:CpR):BQ:=subB (cNo c) (cLa c)
theorem PB.nrm{v:BQ×BQ}{d s:Nat}(h1:PB d s v.1)(h2:PB d s v.2)(hd:d+d<=24):PB (d+d) (4*(tri (d+1)*s)) (nrmB v):=
 ((h1.mul h1 hd).add (h2.mul h2 hd)).mono (Nat.le_refl _) (by omega)
def timQ(a:V2)(u w:Rat):V2:=(a.1*u-a.2*w,a.2*u+a.1*w)
def wAl(c:CpR)(p:V2):V2:=timQ (subQ p c.1) c.2.2.2.2.2.1 (-c.2.2.2.2.2.2)
def wBe(c:CpR)(p:V2):V2:=timQ (subQ p c.2.1) (cRe c) c.2.2.2.2.2.2
def wE(c:CpR)(p:V2):Rat:=sqQ (subQ p c.1)+cFi c
def wF(c:CpR)(p:V2):Rat:=cSe c-sqQ (subQ p c.2.1)
def wM(c:CpR)(p:V2):Rat:=(wAl c p).1*(wBe c p).2-(wAl c p).2*(wBe c p).1
def wN(c:CpR)(p:V2):V2:=(wE c p*(wBe c p).2-wF c p*(wAl c p).2,wF c p*(wAl c p).1-wE c p*(wBe c p).1)
def wV(c:CpR)(p:V2):Rat:=sqQ (wN c p)-4*c.2.2.2.1*(wM c p*wM c p)
end Go.Num
end
section
namespace Go.Abs
open Go.Num
variable {P:Program} {Γ:Nat->Spec}
def pQ(x:V2):AV:=.agg [cb (rcan x.1),cn (rcan x.1),cd (rcan x.1),cb (rcan x.2),cn (rcan x.2),cd (rcan x.2)]
theorem uby(x:V2):pQ x=.agg [cb (rcan x.1),cn (rcan x.1),cd (rcan x.1),cb (rcan x.2),cn (rcan x.2),cd (rcan x.2)]:=eq_of_heq (HEq.refl _)
def tQ(t:TnQ):AV:=.agg [cb (rcan t.1),cn (rcan t.1),cd (rcan t.1),.lit (.bool t.2)]
theorem WbA(t:TnQ):tQ t=.agg [cb (rcan t.1),cn (rcan t.1),cd (rcan t.1),.lit (.bool t.2)]:=eq_of_heq (HEq.refl _)
theorem vbj(a b:Rat):WLA (rcan a,rcan b)=True:=eq_true ⟨qw _,qw _⟩
attribute [go_sem,go_sem ↓] uby WbA vbj
def XV(l:List AV)(K:AV->Prop):Prop:=
 match l with
 | [a]=>onA (λp=>al p<=100000000/\K (.one (.lit (.bool (avld p))))) a
 | _=>False
theorem Z7 a K:XV [a] K=(onA (λp=>al p<=100000000/\K (.one (.lit (.bool (avld p))))) a):=propext Iff.rfl
@[congr] theorem XbL{K}{l l'}(h:l=l'):XV l K=XV l' K:=by subst h;rfl
attribute [go_sem,go_sem ↓] Z7
def jak(l:List AV)(K:AV->Prop):Prop:=
 match l with
 | [a,b]=>onA (λp=>onA (λq=>al p<=100000000/\al q<=100000000/\K (pQ (subQ (av p) (av q)))) b) a
 | _=>False
theorem yas a b K:jak [a,b] K=(onA (λp=>onA (λq=>al p<=100000000/\al q<=100000000/\K (pQ (subQ (av p) (av q)))) b) a):=propext Iff.rfl
@[congr] theorem ZbQ{K}{l l'}(h:l=l'):jak l K=jak l' K:=by subst h;rfl
attribute [go_sem,go_sem ↓] yas
def Wal(l:List AV)(K:AV->Prop):Prop:=
 match l with
 | [a,b]=>onA (λp=>onA (λq=>al p<=100000000/\al q<=100000000/\K (pQ (addQ (av p) (av q)))) b) a
 | _=>False
theorem Waq a b K:Wal [a,b] K=(onA (λp=>onA (λq=>al p<=100000000/\al q<=100000000/\K (pQ (addQ (av p) (av q)))) b) a):=propext Iff.rfl
@[congr] theorem qbP{K}{l l'}(h:l=l'):Wal l K=Wal l' K:=by subst h;rfl
attribute [go_sem,go_sem ↓] Waq
def yU(l:List AV)(K:AV->Prop):Prop:=
 match l with
 | [a,b]=>onA (λp=>onA (λq=>al p<=100000000/\al q<=100000000/\K (rQ (crossQ (av p) (av q)))) b) a
 | _=>False
theorem XY a b K:yU [a,b] K=(onA (λp=>onA (λq=>al p<=100000000/\al q<=100000000/\K (rQ (crossQ (av p) (av q)))) b) a):=propext Iff.rfl
@[congr] theorem XbI{K}{l l'}(h:l=l'):yU l K=yU l' K:=by subst h;rfl
attribute [go_sem,go_sem ↓] XY
def Ubo(l:List AV)(K:AV->Prop):Prop:=
 match l with
 | [a]=>onA (λp=>al p<=100000000/\K (rQ (sqQ (av p)))) a
 | _=>False
theorem Vbj a K:Ubo [a] K=(onA (λp=>al p<=100000000/\K (rQ (sqQ (av p)))) a):=propext Iff.rfl
@[congr] theorem Wb2{K}{l l'}(h:l=l'):Ubo l K=Ubo l' K:=by subst h;rfl
attribute [go_sem,go_sem ↓] Vbj
def vaf(l:List AV)(K:AV->Prop):Prop:=
 match l with
 | [a,b]=>onA (λp=>onA (λq=>al p<=100000000/\al q<=100000000/\K (.one (.lit (.bool (decide (av p=av q)))))) b) a
 | _=>False
theorem jav a b K:vaf [a,b] K=(onA (λp=>onA (λq=>al p<=100000000/\al q<=100000000/\K (.one (.lit (.bool (decide (av p=av q)))))) b) a):=propext Iff.rfl
@[congr] theorem xbQ{K}{l l'}(h:l=l'):vaf l K=vaf l' K:=by subst h;rfl
attribute [go_sem,go_sem ↓] jav
def xaN(l:List AV)(K:AV->Prop):Prop:=
 match l with
 | [a]=>onA (λp=>al p<=100000000/\K (pQ (negQ (av p)))) a
 | _=>False
theorem Wa7 a K:xaN [a] K=(onA (λp=>al p<=100000000/\K (pQ (negQ (av p)))) a):=propext Iff.rfl
@[congr] theorem jb0{K}{l l'}(h:l=l'):xaN l K=xaN l' K:=by subst h;rfl
attribute [go_sem,go_sem ↓] Wa7
def wS(l:List AV)(K:AV->Prop):Prop:=
 match l with
 | [a]=>onA (λp=>al p<=100000000/\K (pQ (av p))) a
 | _=>False
theorem xZ a K:wS [a] K=(onA (λp=>al p<=100000000/\K (pQ (av p))) a):=propext Iff.rfl
@[congr] theorem wbL{K}{l l'}(h:l=l'):wS l K=wS l' K:=by subst h;rfl
attribute [go_sem,go_sem ↓] xZ
def xai(l:List AV)(K:AV->Prop):Prop:=
 match l with
 | [a]=>onR (λx=>rl x<=4294967296/\K (.one (.lit (.bool (decide (rv x=0)))))) a
 | _=>False
theorem kav a K:xai [a] K=(onR (λx=>rl x<=4294967296/\K (.one (.lit (.bool (decide (rv x=0)))))) a):=propext Iff.rfl
@[congr] theorem qbQ{K}{l l'}(h:l=l'):xai l K=xai l' K:=by subst h;rfl
attribute [go_sem,go_sem ↓] kav
def jal(l:List AV)(K:AV->Prop):Prop:=
 match l with
 | [a,b]=>onR (λx=>onR (λy=>rl x<=1073741824/\rl y<=1073741824/\K (rQ (rv x / rv y))) b) a
 | _=>False
theorem Xan a b K:jal [a,b] K=(onR (λx=>onR (λy=>rl x<=1073741824/\rl y<=1073741824/\K (rQ (rv x / rv y))) b) a):=propext Iff.rfl
@[congr] theorem zbO{K}{l l'}(h:l=l'):jal l K=jal l' K:=by subst h;rfl
attribute [go_sem,go_sem ↓] Xan
def yR(tE:Nat)(l:List AV)(K:AV->Prop):Prop:=
 match l with
 | [a]=>onT (λt=>rl t.1<=100000000/\K (errV tE (tchk t))) a
 | _=>False
theorem J2 tE a K:yR tE [a] K=(onT (λt=>rl t.1<=100000000/\K (errV tE (tchk t))) a):=propext Iff.rfl
@[congr] theorem UbL tE{K}{l l'}(h:l=l'):yR tE l K=yR tE l' K:=by subst h;rfl
attribute [go_sem,go_sem ↓] J2
def ZQ(l:List AV)(K:AV->Prop):Prop:=
 match l with
 | [a]=>onT (λt=>rl t.1<=100000000/\K (.one (.lit (.bool (decide (tchk t=0)))))) a
 | _=>False
theorem Vae a K:ZQ [a] K=(onT (λt=>rl t.1<=100000000/\K (.one (.lit (.bool (decide (tchk t=0)))))) a):=propext Iff.rfl
@[congr] theorem jby{K}{l l'}(h:l=l'):ZQ l K=ZQ l' K:=by subst h;rfl
attribute [go_sem,go_sem ↓] Vae
def UaW(l:List AV)(K:AV->Prop):Prop:=
 match l with
 | [a]=>onPo (λp=>pl p<=100000000/\K (.one (.lit (.bool (pvld p))))) a
 | _=>False
theorem Va0 a K:UaW [a] K=(onPo (λp=>pl p<=100000000/\K (.one (.lit (.bool (pvld p))))) a):=propext Iff.rfl
@[congr] theorem ZbT{K}{l l'}(h:l=l'):UaW l K=UaW l' K:=by subst h;rfl
attribute [go_sem,go_sem ↓] Va0
def za6(l:List AV)(K:AV->Prop):Prop:=
 match l with
 | [a]=>onT (λt=>rl t.1<=100000000/\K (tQ (backQ (tv t)))) a
 | _=>False
theorem uaO a K:za6 [a] K=(onT (λt=>rl t.1<=100000000/\K (tQ (backQ (tv t)))) a):=propext Iff.rfl
@[congr] theorem JbW{K}{l l'}(h:l=l'):za6 l K=za6 l' K:=by subst h;rfl
attribute [go_sem,go_sem ↓] uaO
def ZaQ(l:List AV)(K:AV->Prop):Prop:=
 match l with
 | [a]=>onT (λt=>rl t.1<=10000000/\K (.tup [rQ (cosQ (tv t)),rQ (sinQ (tv t))])) a
 | _=>False
theorem Xa5 a K:ZaQ [a] K=(onT (λt=>rl t.1<=10000000/\K (.tup [rQ (cosQ (tv t)),rQ (sinQ (tv t))])) a):=propext Iff.rfl
@[congr] theorem ZbS{K}{l l'}(h:l=l'):ZaQ l K=ZaQ l' K:=by subst h;rfl
attribute [go_sem,go_sem ↓] Xa5
def wah(l:List AV)(K:AV->Prop):Prop:=
 match l with
 | [a,b]=>onA (λp=>onA (λq=>al p<=4294967296/\K (.one (.lit (.bool (decide (p=q)))))) b) a
 | _=>False
theorem yat a b K:wah [a,b] K=(onA (λp=>onA (λq=>al p<=4294967296/\K (.one (.lit (.bool (decide (p=q)))))) b) a):=propext Iff.rfl
@[congr] theorem VbO{K}{l l'}(h:l=l'):wah l K=wah l' K:=by subst h;rfl
attribute [go_sem,go_sem ↓] yat
end Go.Abs
end
section
namespace Go.Num
open Go.Abs
def aok(p:Ps)(q:Arc):Bool:=pvld p && avld q
def plchk(l:List Ps):Nat:=if l.length<2 then 10 else if 5<l.length then 4 else if l.all pvld then 0 else 2
def threeC(l:List Ps):Nat:=if plchk l≠0 then plchk l else if l.length=3 then 0 else 10
def imgs(l:List Ps)(q:Arc):List V2:=l.map λp=>appQ (pv p) (av q)
def imgC(l:List Ps)(q:Arc):Nat:=if l.all (λp=>aok p q) then 0 else 2
end Go.Num
namespace Go.Abs
open Go.Num
variable {P:Program} {Γ:Nat->Spec}
def psQ(p:PsQ):AV:=.agg [cb (rcan p.1.1),cn (rcan p.1.1),cd (rcan p.1.1),.lit (.bool p.1.2),cb (rcan p.2.1),cn (rcan p.2.1),cd (rcan p.2.1),cb (rcan p.2.2),cn (rcan p.2.2),cd (rcan p.2.2)]
theorem Xbj(p:PsQ):psQ p=.agg [cb (rcan p.1.1),cn (rcan p.1.1),cd (rcan p.1.1),.lit (.bool p.1.2),cb (rcan p.2.1),cn (rcan p.2.1),cd (rcan p.2.1),cb (rcan p.2.2),cn (rcan p.2.2),cd (rcan p.2.2)]:=eq_of_heq (HEq.refl _)
attribute [go_sem,go_sem ↓] Xbj
def vaN(tE:Nat)(l:List AV)(K:AV->Prop):Prop:=
 match l with
 | [a]=>onT (λt=>rl t.1<=10000000/\K (.tup [rQ (if tchk t=0 then cosQ (tv t) else 0),errV tE (tchk t)])) a
 | _=>False
theorem vaY tE a K:vaN tE [a] K=(onT (λt=>rl t.1<=10000000/\K (.tup [rQ (if tchk t=0 then cosQ (tv t) else 0),errV tE (tchk t)])) a):=propext Iff.rfl
@[congr] theorem ZbY tE{K}{l l'}(h:l=l'):vaN tE l K=vaN tE l' K:=by subst h;rfl
attribute [go_sem,go_sem ↓] vaY
def JaP(tE:Nat)(l:List AV)(K:AV->Prop):Prop:=
 match l with
 | [a]=>onT (λt=>rl t.1<=10000000/\K (.tup [rQ (if tchk t=0 then sinQ (tv t) else 0),errV tE (tchk t)])) a
 | _=>False
theorem Va1 tE a K:JaP tE [a] K=(onT (λt=>rl t.1<=10000000/\K (.tup [rQ (if tchk t=0 then sinQ (tv t) else 0),errV tE (tchk t)])) a):=propext Iff.rfl
@[congr] theorem ub0 tE{K}{l l'}(h:l=l'):JaP tE l K=JaP tE l' K:=by subst h;rfl
attribute [go_sem,go_sem ↓] Va1
def WaL(tE:Nat)(l:List AV)(K:AV->Prop):Prop:=
 match l with
 | [a]=>onT (λt=>rl t.1<=10000000/\K (.tup [rQ (if tchk t=0 then cosQ (tv t) else 0),rQ (if tchk t=0 then sinQ (tv t) else 0),errV tE (tchk t)])) a
 | _=>False
theorem XaU tE a K:WaL tE [a] K=(onT (λt=>rl t.1<=10000000/\K (.tup [rQ (if tchk t=0 then cosQ (tv t) else 0),rQ (if tchk t=0 then sinQ (tv t) else 0),errV tE (tchk t)])) a):=propext Iff.rfl
@[congr] theorem QbU tE{K}{l l'}(h:l=l'):WaL tE l K=WaL tE l' K:=by subst h;rfl
attribute [go_sem,go_sem ↓] XaU
def wa8(tE:Nat)(l:List AV)(K:AV->Prop):Prop:=
 match l with
 | [a,b]=>onT (λt=>onA (λq=>rl t.1<=10000000/\al q<=10000000/\K (.tup [pQ (if tchk t=0 then rotQ (tv t) (av q) else (0,0)),errV tE (tchk t)])) b) a
 | _=>False
theorem vaL tE a b K:wa8 tE [a,b] K=(onT (λt=>onA (λq=>rl t.1<=10000000/\al q<=10000000/\K (.tup [pQ (if tchk t=0 then rotQ (tv t) (av q) else (0,0)),errV tE (tchk t)])) b) a):=propext Iff.rfl
@[congr] theorem QbZ tE{K}{l l'}(h:l=l'):wa8 tE l K=wa8 tE l' K:=by subst h;rfl
attribute [go_sem,go_sem ↓] vaL
def WaX(l:List AV)(K:AV->Prop):Prop:=
 match l with
 | [a,b]=>onT (λt=>onA (λq=>rl t.1<=10000000/\al q<=10000000/\K (pQ (rotQ (tv t) (av q)))) b) a
 | _=>False
theorem JaO a b K:WaX [a,b] K=(onT (λt=>onA (λq=>rl t.1<=10000000/\al q<=10000000/\K (pQ (rotQ (tv t) (av q)))) b) a):=propext Iff.rfl
@[congr] theorem jbS{K}{l l'}(h:l=l'):WaX l K=WaX l' K:=by subst h;rfl
attribute [go_sem,go_sem ↓] JaO
def YaL(tE:Nat)(l:List AV)(K:AV->Prop):Prop:=
 match l with
 | [a,b]=>onPo (λp=>onA (λq=>pl p<=1000000/\al q<=1000000/\K (.tup [pQ (if aok p q=true then appQ (pv p) (av q) else (0,0)),errV tE (if aok p q=true then 0 else 2)])) b) a
 | _=>False
theorem Ja5 tE a b K:YaL tE [a,b] K=(onPo (λp=>onA (λq=>pl p<=1000000/\al q<=1000000/\K (.tup [pQ (if aok p q=true then appQ (pv p) (av q) else (0,0)),errV tE (if aok p q=true then 0 else 2)])) b) a):=propext Iff.rfl
@[congr] theorem VbW tE{K}{l l'}(h:l=l'):YaL tE l K=YaL tE l' K:=by subst h;rfl
attribute [go_sem,go_sem ↓] Ja5
def jaM(l:List AV)(K:AV->Prop):Prop:=
 match l with
 | [a,b]=>onPo (λp=>onA (λq=>pl p<=1000000/\al q<=1000000/\K (pQ (appQ (pv p) (av q)))) b) a
 | _=>False
theorem QaY a b K:jaM [a,b] K=(onPo (λp=>onA (λq=>pl p<=1000000/\al q<=1000000/\K (pQ (appQ (pv p) (av q)))) b) a):=propext Iff.rfl
@[congr] theorem XbW{K}{l l'}(h:l=l'):jaM l K=jaM l' K:=by subst h;rfl
attribute [go_sem,go_sem ↓] QaY
def Ual(tE:Nat)(l:List AV)(K:AV->Prop):Prop:=
 match l with
 | [a]=>onT (λt=>rl t.1<=10000000/\K (.tup [tQ (if tchk t=0 then backQ (tv t) else (0,false)),errV tE (tchk t)])) a
 | _=>False
theorem uaz tE a K:Ual tE [a] K=(onT (λt=>rl t.1<=10000000/\K (.tup [tQ (if tchk t=0 then backQ (tv t) else (0,false)),errV tE (tchk t)])) a):=propext Iff.rfl
@[congr] theorem ZbN tE{K}{l l'}(h:l=l'):Ual tE l K=Ual tE l' K:=by subst h;rfl
attribute [go_sem,go_sem ↓] uaz
def Ya7(tE:Nat)(l:List AV)(K:AV->Prop):Prop:=
 match l with
 | [a]=>onPo (λp=>pl p<=1000000/\K (.tup [psQ (if pvld p=true then invQ (pv p) else ((0,false),(0,0))),errV tE (if pvld p=true then 0 else 2)])) a
 | _=>False
theorem yaN tE a K:Ya7 tE [a] K=(onPo (λp=>pl p<=1000000/\K (.tup [psQ (if pvld p=true then invQ (pv p) else ((0,false),(0,0))),errV tE (if pvld p=true then 0 else 2)])) a):=propext Iff.rfl
@[congr] theorem ubX tE{K}{l l'}(h:l=l'):Ya7 tE l K=Ya7 tE l' K:=by subst h;rfl
attribute [go_sem,go_sem ↓] yaN
def wa5(l:List AV)(K:AV->Prop):Prop:=
 match l with
 | [a]=>onPo (λp=>pl p<=1000000/\K (psQ (invQ (pv p)))) a
 | _=>False
theorem wa3 a K:wa5 [a] K=(onPo (λp=>pl p<=1000000/\K (psQ (invQ (pv p)))) a):=propext Iff.rfl
@[congr] theorem XbR{K}{l l'}(h:l=l'):wa5 l K=wa5 l' K:=by subst h;rfl
attribute [go_sem,go_sem ↓] wa3
end Go.Abs
end
section
namespace Go.Num
def inA(y:Rat)(x:Arc):Bool:=decide (rv x.1<=y) && decide (y<rv x.2)
def idxOf(y:Rat)(l:List Arc):Int:=match l.findIdx? (inA y) with | some i=>i | none=>-1
end Go.Num
namespace Go.Abs
open Go.Num
variable {P:Program} {Γ:Nat->Spec}
def pA(y:R):AV:=.one (.ref [cb y,cn y,cd y])
def kA(f:Nat)(y:R):AV:=.one (.clo f [.ref [cb y,cn y,cd y]])
theorem ybB(x y:R)(h:pA x=pA y):x=y:=kr x y (by simpa [pA,rA] using h)
theorem ZbB(f:Nat)(x y:R)(h:kA f x=kA f y):x=y:=kr x y (by simpa [kA,rA] using h)
def onP(k:R->Prop)(a:AV):Prop:=onE pA (λx=>WLR x/\k x) a
@[congr] theorem Zb2{k:R->Prop}{a a'}(h:a=a'):onP k a=onP k a':=by subst h;rfl
theorem ubz(k:R->Prop)(x:R):onP k (.one (.ref [cb x,cn x,cd x]))=(WLR x/\k x):=jg ybB (λx=>WLR x/\k x) x
def onKl(f:Nat)(k:R->Prop)(a:AV):Prop:=onE (kA f) (λx=>WLR x/\k x) a
@[congr] theorem Ub0{f}{k:R->Prop}{a a'}(h:a=a'):onKl f k a=onKl f k a':=by subst h;rfl
theorem wbm(f:Nat)(k:R->Prop)(x:R):onKl f k (.one (.clo f [.ref [cb x,cn x,cd x]]))=(WLR x/\k x):=jg (ZbB f) (λx=>WLR x/\k x) x
attribute [go_sem,go_sem ↓] ubz wbm
theorem JaJ(y:R):CleanL [cb y,cn y,cd y]:=by
 intro c hc;simp only [List.mem_cons,List.not_mem_nil,or_false]at hc;rcases hc with rfl | rfl | rfl
 .exact of_eq_true (Xi _)
 .exact of_eq_true (ui _)
 .exact of_eq_true (Ui _)
def Xag(l:List AV)(K:AV->Prop):Prop:=
 match l with
 | [a,b]=>onA (λx=>onP (λy=>al x<=4294967296/\rl y<=4294967296/\K (.one (.lit (.bool (inA (rv y) x))))) b) a
 | _=>False
theorem wav a b K:Xag [a,b] K=(onA (λx=>onP (λy=>al x<=4294967296/\rl y<=4294967296/\K (.one (.lit (.bool (inA (rv y) x))))) b) a):=propext Iff.rfl
@[congr] theorem QbQ{K}{l l'}(h:l=l'):Xag l K=Xag l' K:=by subst h;rfl
attribute [go_sem,go_sem ↓] wav
def ya8(fc:Nat)(l:List AV)(K:AV->Prop):Prop:=
 match l with
 | [a,c]=>onAs (λl=>onKl fc (λy=>okAs 4294967296 l/\rl y<=4294967296/\K (.one (.lit (.int .i64 (idxOf (rv y) l))))) c) a
 | _=>False
theorem Ya5 fc a c K:ya8 fc [a,c] K=(onAs (λl=>onKl fc (λy=>okAs 4294967296 l/\rl y<=4294967296/\K (.one (.lit (.int .i64 (idxOf (rv y) l))))) c) a):=propext Iff.rfl
@[congr] theorem ZbW fc{K}{l l'}(h:l=l'):ya8 fc l K=ya8 fc l' K:=by subst h;rfl
attribute [go_sem,go_sem ↓] Ya5
def Zaj(fc:Nat)(l:List AV)(K:AV->Prop):Prop:=
 match l with
 | [a,c]=>onAs (λl=>onKl fc (λy=>okAs 4294967296 l/\rl y<=4294967296/\K (.one (.lit (.bool (l.any (inA (rv y))))))) c) a
 | _=>False
theorem uaB fc a c K:Zaj fc [a,c] K=(onAs (λl=>onKl fc (λy=>okAs 4294967296 l/\rl y<=4294967296/\K (.one (.lit (.bool (l.any (inA (rv y))))))) c) a):=propext Iff.rfl
@[congr] theorem UbQ fc{K}{l l'}(h:l=l'):Zaj fc l K=Zaj fc l' K:=by subst h;rfl
attribute [go_sem,go_sem ↓] uaB
def va6(tE:Nat)(l:List AV)(K:AV->Prop):Prop:=
 match l with
 | [a,b]=>onAs (λl=>onR (λy=>okAs 4294967296 l/\rl y<=1000000000/\K (.tup [.one (.lit (.bool (decide (chk [l]=0) && (vldR y && l.any (inA (frac (rv y))))))),errV tE (if chk [l]=0 then (if vldR y then 0 else 3) else chk [l])])) b) a
 | _=>False
theorem yaM tE a b K:va6 tE [a,b] K=(onAs (λl=>onR (λy=>okAs 4294967296 l/\rl y<=1000000000/\K (.tup [.one (.lit (.bool (decide (chk [l]=0) && (vldR y && l.any (inA (frac (rv y))))))),errV tE (if chk [l]=0 then (if vldR y then 0 else 3) else chk [l])])) b) a):=propext Iff.rfl
@[congr] theorem VbT tE{K}{l l'}(h:l=l'):va6 tE l K=va6 tE l' K:=by subst h;rfl
attribute [go_sem,go_sem ↓] yaM
end Go.Abs
end
section
namespace Go.Num
def longR(x:R):Bool:=decide (4<x.2.1.length+x.2.2.length)
def largeL(l:List Arc):Bool:=if 20<l.length then (decide (l.length<=64) || decide (200<l.length)) else l.any λx=>longR x.1 || longR x.2
def validL(l:List Arc):Bool:=!largeL l && decide (chk1 l=0)
end Go.Num
namespace Go.Abs
open Go.Num
variable {P:Program} {Γ:Nat->Spec}
def ZV(l:List AV)(K:AV->Prop):Prop:=
 match l with
 | [a]=>onAs (λl=>okAs 1073741824 l/\K (.one (.lit (.int .i64 (chk1 l:Nat))))) a
 | _=>False
theorem Q8 a K:ZV [a] K=(onAs (λl=>okAs 1073741824 l/\K (.one (.lit (.int .i64 (chk1 l:Nat))))) a):=propext Iff.rfl
@[congr] theorem UbH{K}{l l'}(h:l=l'):ZV l K=ZV l' K:=by subst h;rfl
attribute [go_sem,go_sem ↓] Q8
def uak(l:List AV)(K:AV->Prop):Prop:=
 match l with
 | [a,b]=>onAs (λl=>onAs (λm=>okAs 1073741824 l/\okAs 1073741824 m/\K (.one (.lit (.bool (decide (vals l=vals m)))))) b) a
 | _=>False
theorem Jaq a b K:uak [a,b] K=(onAs (λl=>onAs (λm=>okAs 1073741824 l/\okAs 1073741824 m/\K (.one (.lit (.bool (decide (vals l=vals m)))))) b) a):=propext Iff.rfl
@[congr] theorem ZbR{K}{l l'}(h:l=l'):uak l K=uak l' K:=by subst h;rfl
attribute [go_sem,go_sem ↓] Jaq
def Vag(l:List AV)(K:AV->Prop):Prop:=
 match l with
 | [a]=>onR (λx=>rl x<=1000000000/\K (.agg [cb (rcan (frac (rv x))),cn (rcan (frac (rv x))),cd (rcan (frac (rv x)))])) a
 | _=>False
theorem Uaw a K:Vag [a] K=(onR (λx=>rl x<=1000000000/\K (.agg [cb (rcan (frac (rv x))),cn (rcan (frac (rv x))),cd (rcan (frac (rv x)))])) a):=propext Iff.rfl
@[congr] theorem VbN{K}{l l'}(h:l=l'):Vag l K=Vag l' K:=by subst h;rfl
attribute [go_sem,go_sem ↓] Uaw
def Xae(l:List AV)(K:AV->Prop):Prop:=
 match l with
 | [a,b]=>asInt (λk n=>asInt (λk' d=>k=.i64/\k' = .i64/\(-9223372036854775808<=n/\n<=9223372036854775807)/\(-9223372036854775808<=d/\d<=9223372036854775807)/\d≠0/\K (.agg [cb (rcan (Rat.divInt n d)),cn (rcan (Rat.divInt n d)),cd (rcan (Rat.divInt n d))])) b) a
 | _=>False
theorem Jas a b K:Xae [a,b] K=(asInt (λk n=>asInt (λk' d=>k=.i64/\k' = .i64/\(-9223372036854775808<=n/\n<=9223372036854775807)/\(-9223372036854775808<=d/\d<=9223372036854775807)/\d≠0/\K (.agg [cb (rcan (Rat.divInt n d)),cn (rcan (Rat.divInt n d)),cd (rcan (Rat.divInt n d))])) b) a):=propext Iff.rfl
@[congr] theorem YbN{K}{l l'}(h:l=l'):Xae l K=Xae l' K:=by subst h;rfl
attribute [go_sem,go_sem ↓] Jas
def Xaf(l:List AV)(K:AV->Prop):Prop:=
 match l with
 | [a]=>onR (λx=>rl x<=4294967296/\K (.one (.lit (.bool (longR x))))) a
 | _=>False
theorem yay a K:Xaf [a] K=(onR (λx=>rl x<=4294967296/\K (.one (.lit (.bool (longR x))))) a):=propext Iff.rfl
@[congr] theorem kbO{K}{l l'}(h:l=l'):Xaf l K=Xaf l' K:=by subst h;rfl
attribute [go_sem,go_sem ↓] yay
def ZT(l:List AV)(K:AV->Prop):Prop:=
 match l with
 | [a]=>onAs (λl=>okAs 1073741824 l/\K (.one (.lit (.bool (largeL l))))) a
 | _=>False
theorem Jac a K:ZT [a] K=(onAs (λl=>okAs 1073741824 l/\K (.one (.lit (.bool (largeL l))))) a):=propext Iff.rfl
@[congr] theorem ubL{K}{l l'}(h:l=l'):ZT l K=ZT l' K:=by subst h;rfl
attribute [go_sem,go_sem ↓] Jac
def uI(l:List AV)(K:AV->Prop):Prop:=
 match l with
 | [a]=>onAs (λl=>okAs 1073741824 l/\K (.one (.lit (.bool (validL l))))) a
 | _=>False
theorem JM a K:uI [a] K=(onAs (λl=>okAs 1073741824 l/\K (.one (.lit (.bool (validL l))))) a):=propext Iff.rfl
@[congr] theorem vbx{K}{l l'}(h:l=l'):uI l K=uI l' K:=by subst h;rfl
attribute [go_sem,go_sem ↓] JM
def wR(tE:Nat)(l:List AV)(K:AV->Prop):Prop:=
 match l with
 | [a]=>onAs (λl=>K (.tup [.one (.slice ((if 64<l.length then [] else l).map aC)),errV tE (if 64<l.length then 4 else 0)])) a
 | _=>False
theorem Q1 tE a K:wR tE [a] K=(onAs (λl=>K (.tup [.one (.slice ((if 64<l.length then [] else l).map aC)),errV tE (if 64<l.length then 4 else 0)])) a):=propext Iff.rfl
@[congr] theorem kbF tE{K}{l l'}(h:l=l'):wR tE l K=wR tE l' K:=by subst h;rfl
attribute [go_sem,go_sem ↓] Q1
end Go.Abs
end
