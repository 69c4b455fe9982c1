/-
  Parts of the proof, merged: BurW, BurX, CoupR, CogW, BurY, IntC, IntD, IntE, IntF, IntG, IntH, IntK, PolyS, PolyU.
-/
import Derived.Test.YtneiiodebbmcaaaGreatDoorM14
import Derived.Lib.BitFns
set_option linter.unusedVariables false
set_option linter.unusedSimpArgs false
set_option maxRecDepth 100000
section
namespace Go.Abs
open Go.Num
variable {P:Program} {Γ:Nat->Spec}
theorem J5:∀(A B:List (List C)),(∀a∈A,a.length=147)->(fl (A++B)).take (147*A.length)=fl A
 | [],B,_=>by simp [fl]
 | a::A,B,h=>by
  have ih:=J5 A B λx hx=>h x (List.mem_cons_of_mem _ hx);have ha:=h a (by simp)
  have e:147*(a::A).length=a.length+147*A.length:=by rw [ha,List.length_cons];omega
  have e2:fl (a::A++B)=a++fl (A++B):=rfl;rw [e,e2,List.take_length_add_append,ih];rfl
theorem WU:∀(A B:List (List C)),(∀a∈A,a.length=147)->(fl (A++B)).drop (147*A.length)=fl B
 | [],B,_=>by simp
 | a::A,B,h=>by
  have ih:=WU A B λx hx=>h x (List.mem_cons_of_mem _ hx);have ha:=h a (by simp)
  have e:147*(a::A).length=a.length+147*A.length:=by rw [ha,List.length_cons];omega
  have e2:fl (a::A++B)=a++fl (A++B):=rfl;rw [e,e2,List.drop_length_add_append,ih]
theorem al_n:∀a∈([]:List (List C)),a.length=147:=λa h=>by simp at h
theorem al_c{a:List C}{L:List (List C)}(h:a.length=147)(k:∀x∈L,x.length=147):∀x∈a::L,x.length=147:=λx hx=>by
 rcases List.mem_cons.1 hx with rfl | hx
 .exact h
 .exact k x hx
theorem tk147{a:List C}(ha:a.length=147)(L:List (List C)):(fl (a::L)).take 147=a:=(J5 [a] L (al_c ha (al_n))).trans (List.append_nil a)
theorem dr147{a:List C}(ha:a.length=147)(L:List (List C)):(fl (a::L)).drop 147=fl L:=WU [a] L (al_c ha (al_n))
theorem tk294{a b:List C}(ha:a.length=147)(hb:b.length=147)(L:List (List C)):(fl (a::b::L)).take 294=fl [a,b]:=J5 [a,b] L (al_c ha (al_c hb (al_n)))
theorem dr294{a b:List C}(ha:a.length=147)(hb:b.length=147)(L:List (List C)):(fl (a::b::L)).drop 294=fl L:=WU [a,b] L (al_c ha (al_c hb (al_n)))
theorem tk441{a b c:List C}(ha:a.length=147)(hb:b.length=147)(hc:c.length=147)(L:List (List C)):(fl (a::b::c::L)).take 441=fl [a,b,c]:=J5 [a,b,c] L (al_c ha (al_c hb (al_c hc (al_n))))
theorem dr441{a b c:List C}(ha:a.length=147)(hb:b.length=147)(hc:c.length=147)(L:List (List C)):(fl (a::b::c::L)).drop 441=fl L:=WU [a,b,c] L (al_c ha (al_c hb (al_c hc (al_n))))
theorem tk588{a b c d:List C}(ha:a.length=147)(hb:b.length=147)(hc:c.length=147)(hd:d.length=147)(L:List (List C)):(fl (a::b::c::d::L)).take 588=fl [a,b,c,d]:=J5 [a,b,c,d] L (al_c ha (al_c hb (al_c hc (al_c hd (al_n)))))
theorem dr588{a b c d:List C}(ha:a.length=147)(hb:b.length=147)(hc:c.length=147)(hd:d.length=147)(L:List (List C)):(fl (a::b::c::d::L)).drop 588=fl L:=WU [a,b,c,d] L (al_c ha (al_c hb (al_c hc (al_c hd (al_n)))))
theorem tk735{a b c d e:List C}(ha:a.length=147)(hb:b.length=147)(hc:c.length=147)(hd:d.length=147)(he:e.length=147)(L:List (List C)):(fl (a::b::c::d::e::L)).take 735=fl [a,b,c,d,e]:=J5 [a,b,c,d,e] L (al_c ha (al_c hb (al_c hc (al_c hd (al_c he (al_n))))))
theorem dr735{a b c d e:List C}(ha:a.length=147)(hb:b.length=147)(hc:c.length=147)(hd:d.length=147)(he:e.length=147)(L:List (List C)):(fl (a::b::c::d::e::L)).drop 735=fl L:=WU [a,b,c,d,e] L (al_c ha (al_c hb (al_c hc (al_c hd (al_c he (al_n))))))
theorem tk882{a b c d e f:List C}(ha:a.length=147)(hb:b.length=147)(hc:c.length=147)(hd:d.length=147)(he:e.length=147)(hf:f.length=147)(L:List (List C)):(fl (a::b::c::d::e::f::L)).take 882=fl [a,b,c,d,e,f]:=J5 [a,b,c,d,e,f] L (al_c ha (al_c hb (al_c hc (al_c hd (al_c he (al_c hf (al_n)))))))
theorem dr882{a b c d e f:List C}(ha:a.length=147)(hb:b.length=147)(hc:c.length=147)(hd:d.length=147)(he:e.length=147)(hf:f.length=147)(L:List (List C)):(fl (a::b::c::d::e::f::L)).drop 882=fl L:=WU [a,b,c,d,e,f] L (al_c ha (al_c hb (al_c hc (al_c hd (al_c he (al_c hf (al_n)))))))
theorem tk1029{a b c d e f g:List C}(ha:a.length=147)(hb:b.length=147)(hc:c.length=147)(hd:d.length=147)(he:e.length=147)(hf:f.length=147)(hg:g.length=147)(L:List (List C)):(fl (a::b::c::d::e::f::g::L)).take 1029=fl [a,b,c,d,e,f,g]:=J5 [a,b,c,d,e,f,g] L (al_c ha (al_c hb (al_c hc (al_c hd (al_c he (al_c hf (al_c hg (al_n))))))))
theorem dr1029{a b c d e f g:List C}(ha:a.length=147)(hb:b.length=147)(hc:c.length=147)(hd:d.length=147)(he:e.length=147)(hf:f.length=147)(hg:g.length=147)(L:List (List C)):(fl (a::b::c::d::e::f::g::L)).drop 1029=fl L:=WU [a,b,c,d,e,f,g] L (al_c ha (al_c hb (al_c hc (al_c hd (al_c he (al_c hf (al_c hg (al_n))))))))
theorem tk1176{a b c d e f g h:List C}(ha:a.length=147)(hb:b.length=147)(hc:c.length=147)(hd:d.length=147)(he:e.length=147)(hf:f.length=147)(hg:g.length=147)(hh:h.length=147)(L:List (List C)):(fl (a::b::c::d::e::f::g::h::L)).take 1176=fl [a,b,c,d,e,f,g,h]:=J5 [a,b,c,d,e,f,g,h] L (al_c ha (al_c hb (al_c hc (al_c hd (al_c he (al_c hf (al_c hg (al_c hh (al_n)))))))))
theorem dr1176{a b c d e f g h:List C}(ha:a.length=147)(hb:b.length=147)(hc:c.length=147)(hd:d.length=147)(he:e.length=147)(hf:f.length=147)(hg:g.length=147)(hh:h.length=147)(L:List (List C)):(fl (a::b::c::d::e::f::g::h::L)).drop 1176=fl L:=WU [a,b,c,d,e,f,g,h] L (al_c ha (al_c hb (al_c hc (al_c hd (al_c he (al_c hf (al_c hg (al_c hh (al_n)))))))))
theorem dr1323{a b c d e f g h i:List C}(ha:a.length=147)(hb:b.length=147)(hc:c.length=147)(hd:d.length=147)(he:e.length=147)(hf:f.length=147)(hg:g.length=147)(hh:h.length=147)(hi:i.length=147):(fl [a,b,c,d,e,f,g,h,i]).drop 1323=[]:=WU [a,b,c,d,e,f,g,h,i] [] (al_c ha (al_c hb (al_c hc (al_c hd (al_c he (al_c hf (al_c hg (al_c hh (al_c hi (al_n))))))))))
theorem UbD(a:Gr)(L:List (List C)):gC a++fl L=fl (gC a::L):=rfl
theorem uF(A L:List (List C)):fl A++fl L=fl (A++L):=List.flatten_append.symm
theorem vbQ:fl []=[]:=rfl
theorem ZbH(A:List (List C))(a:Gr):fl A++gC a=fl (A++[gC a]):=by
 have e:gC a=fl [gC a]:=(List.append_nil _).symm;have e2:fl A++fl [gC a]=fl (A++[gC a]):=uF _ _;rw [<-e2,<-e]
theorem qbm(a:List C)(L:List (List C)):(fl (a::L)).length=a.length+(fl L).length:=List.length_append
theorem qbo:(fl []).length=0:=rfl
theorem wbn:∀n k:Nat,zrs (n+k)=zrs n++zrs k
 | 0,k=>by rw [Nat.zero_add];rfl
 | n+1,k=>by
  have e:n+1+k=(n+k)+1:=by omega
  rw [e];simp only [zrs,List.cons_append];rw [wbn n k]
theorem z_c(n:Nat):zrs (49+n)=fl [zrs 49]++zrs n:=by rw [wbn];simp [fl]
theorem z147:zrs 147=fl [zrs 49,zrs 49,zrs 49]:=by
 rw [show(147:Nat)=49+(49+49) from rfl,z_c,z_c];have e:zrs 49=fl [zrs 49]:=(List.append_nil _).symm;rw [show fl [zrs 49]++(fl [zrs 49]++zrs 49)=fl [zrs 49]++(fl [zrs 49]++fl [zrs 49]) from by rw [<-e],uF,uF];rfl
theorem z441:zrs 441=fl [zrs 49,zrs 49,zrs 49,zrs 49,zrs 49,zrs 49,zrs 49,zrs 49,zrs 49]:=by
 rw [show(441:Nat)=147+(147+147) from rfl,wbn,wbn,z147,uF,uF];rfl
theorem jbg(a:List C)(L:List (List C)):Jd (fl (a::L))=(Jd a/\Jd (fl L)):=propext ⟨λh=>⟨λc hc=>h c (List.mem_append.2 (.inl hc)),λc hc=>h c (List.mem_append.2 (.inr hc))⟩,λh c hc=>(List.mem_append.1 hc).elim (h.1 c) (h.2 c)⟩
theorem ybj:Jd (fl [])=True:=jaE
theorem wbR(g:Gr):Jd (gC g)=True:=eq_true (JO g)
theorem Xbv(n:Nat):Jd (zrs n)=True:=eq_true (uP n)
theorem Z8{g:Gr}(h:g.length=49):(gC g).length=147:=by rw [Vl,h]
theorem Xbh:(zrs 49).drop 147=[]:=List.drop_of_length_le (Nat.le_of_eq Q7)
theorem JbN{g:Gr}(h:g.length=49):(gC g).drop 147=[]:=List.drop_of_length_le (Nat.le_of_eq (Z8 h))
theorem Vap:(zrs 49).take 147=zrs 49:=List.take_of_length_le (Nat.le_of_eq Q7)
def gwA(a:Gw):AV:=.agg (fl [gC a.1,gC a.2.1,gC a.2.2])
theorem jbz(a:Gw):gwA a=.agg (fl [gC a.1,gC a.2.1,gC a.2.2]):=eq_of_heq (HEq.refl _)
theorem xbr(h:Nat->HB)(a b c:Gr):(fl [gC a,gC b,gC c]).map (datC h)=fl [gC a,gC b,gC c]:=by
 have e:fl [gC a,gC b,gC c]=gC a++(gC b++(gC c++[])):=rfl;rw [e,List.map_append,List.map_append,List.map_append,Uai,Uai,Uai];rfl
theorem uap:∀n,(zrs n).flatMap ownC=[]
 | 0=>rfl
 | n+1=>by
  show ownC _++(ownC _++(ownC _++(zrs n).flatMap ownC))=[];rw [uap n];rfl
attribute [go_sem,go_sem ↓] uap jbg ybj wbR Xbv jbz xbr Xbh Vap
def inL:List (Nat×AV)->Nat->Bool
 | [],_=>false
 | x::l,c=>Nat.beq x.1 c || inL l c
theorem kbH{body:AC}{Q:Ex->S->Prop}(c:Nat){n:Nat}{l:List (Nat×AV)}{k:List (Nat×HB)}(ks bs:List Nat)(hh:okS (mkH k) (mkH (kpH k bs)) (mkV l) (keepV l ks)/\cleanK (kpH k bs))(hc:inL l c=true)
  (h:wpA Γ body (Ex.seq (λs'=>UnAt Γ body Q n s' .mk) Q) ⟨mkV (keepV l ks),mkH (kpH k bs)⟩) {t:Tok (Γ,body,Q,n+1)}:UnAt Γ body Q (n+1) ⟨mkV l,mkH k⟩ t:=ww ks bs hh h
theorem XbK{body:AC}{Q:Ex->S->Prop}(c n:Nat){l:List (Nat×AV)}{k:List (Nat×HB)}(ks bs:List Nat)(hh:okS (mkH k) (mkH (kpH k bs)) (mkV l) (keepV l ks)/\cleanK (kpH k bs))(hc:inL l c=true)
  (h:wpA Γ body (Ex.seq (λs'=>UnAt Γ body Q n s' .mk) Q) ⟨mkV (keepV l ks),mkH (kpH k bs)⟩) {t:Tok (Γ,body,Q)}:LoopAt Γ body Q ⟨mkV l,mkH k⟩ t:=qG n ks bs hh h
def JL(l:List AV)(K:AV->Prop):Prop:=
 match l with
 | [a,b]=>onG (λa=>onG (λb=>gz a+gz b<=2000000000/\K (gA (mnG a b))) b) a
 | _=>False
theorem Qa8 a b K:JL [a,b] K=(onG (λa=>onG (λb=>gz a+gz b<=2000000000/\K (gA (mnG a b))) b) a):=propext Iff.rfl
@[congr] theorem yb8{K}{l l'}(h:l=l'):JL l K=JL l' K:=by subst h;rfl
attribute [go_sem,go_sem ↓] Qa8
theorem wbi:Good JL:=Wa λas=>by
 unfold JL;split
 .exact(yaq λ_=>(yaq λ_=>(.and λ_=>(.ret _))))
 .exact .of λK hk=>hk.elim
def VN(l:List AV)(K:AV->Prop):Prop:=
 match l with
 | [a]=>onPo (λp=>pl p<=1000/\pvld p=true/\K (gwA (rwG (pv p)))) a
 | _=>False
theorem Xa7 a K:VN [a] K=(onPo (λp=>pl p<=1000/\pvld p=true/\K (gwA (rwG (pv p)))) a):=propext Iff.rfl
@[congr] theorem xb6{K}{l l'}(h:l=l'):VN l K=VN l' K:=by subst h;rfl
attribute [go_sem,go_sem ↓] Xa7
theorem waU:Good VN:=Wa λas=>by
 unfold VN;split
 .exact(Q1 λ_=>(.and λ_=>(.and λ_=>(.ret _))))
 .exact .of λK hk=>hk.elim
def qI(l:List AV)(K:AV->Prop):Prop:=
 match l with
 | [a]=>onPs (λl=>okPs 1000 l/\Vd l=0/\K (gA (detG l))) a
 | _=>False
theorem Ybd a K:qI [a] K=(onPs (λl=>okPs 1000 l/\Vd l=0/\K (gA (detG l))) a):=propext Iff.rfl
@[congr] theorem jcc{K}{l l'}(h:l=l'):qI l K=qI l' K:=by subst h;rfl
attribute [go_sem,go_sem ↓] Ybd
theorem ZaY:Good qI:=Wa λas=>by
 unfold qI;split
 .exact(Qs λ_=>(.and λ_=>(.and λ_=>(.ret _))))
 .exact .of λK hk=>hk.elim
def qj(f0 f1:Nat):AC:=(.o [.K 2 147 0,.K 3 147 1,.u 4 (.alloc (zrs 49))] [2,3,4] (.seq (.y [.L 5 147 2,.u 6 (.call f0 [(.i (-1))]),.L 7 147 3,.E 8 f1 5 6 7,.S 147 4 8]) .ret))
def Wl(f0 f1 f2 f3 f4 f5:Nat):AC:=(.o [.K 1 10 0,.u 2 (.alloc (zrs 147))] [1,2] (.o [.A 9 0 1,.L 10 4 9,.H 11 f0 10,.M 8 11,.X 12 0 8,.X 13 1 8,.G 3 [.z,.emp,.emp],.G 4 [.z,.emp,.emp],.S 3 3 12,.S 3 4 13] [1,2,3,4] (.f (.y [.A 14 4 1,.A 15 0 14,.L 16 3 15,.L 17 3 3,.L 18 3 4,.H 19 f1 18,.E 20 f2 16 17 19,.u 5 (.alloc (zrs 49)),.S 147 5 20]) [1,2,3,4,5] (.o [.A 21 4 1,.A 22 3 21,.L 23 3 22,.L 24 3 4,.L 25 3 3,.E 26 f2 23 24 25,.u 6 (.alloc (zrs 49)),.S 147 6 26] [2,5,6] (.f (.y [.L 27 147 5,.L 28 147 5,.D 29 f3 27 28,.u 30 (.call f4 [(.i 1)]),.L 31 147 6,.L 32 147 6,.D 33 f3 31 32,.E 34 f5 29 30 33,.u 7 (.alloc (zrs 49)),.S 147 7 34]) [2,5,6,7] (.seq (.p [.L 35 147 7,.L 36 147 5,.L 37 147 6,.u 38 (.build [.x 147 (.t 35),.x 147 (.t 36),.x 147 (.t 37)]),.S 441 2 38]) .ret))))))
def Ye(f0 f1 f2 f3 f4:Nat):AC:=(.o [.u 2 (.alloc (zrs 49))] [0,2] (.o [.M 13 0,.u 14 (.idx 10 (.t 13) (.i 0)),.L 15 10 14,.H 16 f0 15,.u 3 (.alloc (zrs 147)),.S 441 3 16] [0,2,3] (.o [.u 4 (.alloc (zrs 441))] [0,2,3,4] (.f (.o [.N 17 0] [0,2,3,4,17] (.block 0 (.loop (.o [.I 18 .lss 17 3] [0,2,3,4,17,18] (.f (.cond (.t 18) .skip (.exit 0)) [0,2,3,4,17] (.f (.block 1 (.o [.M 19 17,.M 5 19] [0,2,3,4,5,17] (.o [.M 20 0,.M 21 5,.I 22 .add 21 1,.J 23 10 20 22,.L 24 10 23,.H 25 f0 24,.u 6 (.alloc (zrs 147)),.S 441 6 25] [0,2,3,4,5,6,17] (.o [.N 26 0] [0,2,3,4,5,6,17,26] (.block 2 (.loop (.o [.I 27 .lss 26 3] [0,2,3,4,5,6,17,26,27] (.f (.cond (.t 27) .skip (.exit 2)) [0,2,3,4,5,6,17,26] (.f (.block 3 (.o [.M 28 26,.M 7 28] [0,2,3,4,5,6,7,17,26] (.y [.M 29 5,.M 30 7,.M 31 7,.u 32 (.ai 147 3 (.t 6) (.t 31)),.L 33 147 32,.M 34 7,.u 35 (.ai 147 3 (.t 3) (.t 34)),.L 36 147 35,.D 37 f1 33 36,.u 38 (.ai 441 3 (.t 4) (.t 29)),.u 39 (.ai 147 3 (.t 38) (.t 30)),.S 147 39 37]))) [0,2,3,4,5,6,17,26] (.p [.I 40 .add 26 1,.M 26 40])))))))))) [0,2,3,4,17] (.p [.I 41 .add 17 1,.M 17 41]))))))) [2,4] (.o [.u 8 (.alloc (zrs 49))] [2,4,8] (.f (.o [.N 42 0] [2,4,8,42] (.block 4 (.loop (.o [.I 43 .lss 42 3] [2,4,8,42,43] (.f (.cond (.t 43) .skip (.exit 4)) [2,4,8,42] (.f (.block 5 (.o [.M 44 42,.M 9 44] [2,4,8,9,42] (.f (.y [.M 45 9,.I 46 .add 45 1,.I 47 .rem 46 3,.u 48 (.ai 441 3 (.t 4) (.t 47)),.u 49 (.ld (some 4) 441 true (.t 48)),.M 50 9,.I 51 .add 50 2,.I 52 .rem 51 3,.u 53 (.ai 441 3 (.t 4) (.t 52)),.u 54 (.ld (some 4) 441 true (.t 53)),.u 10 (.alloc (zrs 147)),.u 11 (.alloc (zrs 147)),.n (.st (some 10) 441 (.t 10) (.t 49)),.n (.st (some 11) 441 (.t 11) (.t 54))]) [2,4,8,9,10,11,42] (.f (.y [.u 55 (.ai 147 3 (.t 10) (.i 1)),.L 56 147 55,.u 57 (.ai 147 3 (.t 11) (.i 2)),.L 58 147 57,.D 59 f2 56 58,.u 60 (.ai 147 3 (.t 10) (.i 2)),.L 61 147 60,.u 62 (.ai 147 3 (.t 11) (.i 1)),.L 63 147 62,.D 64 f2 61 63,.D 65 f1 59 64,.u 12 (.alloc (zrs 49)),.S 147 12 65]) [2,4,8,9,12,42] (.y [.L 66 147 8,.u 67 (.call f3 [(.i 1)]),.M 68 9,.u 69 (.ai 441 3 (.t 4) (.t 68)),.u 70 (.ai 147 3 (.t 69) (.i 0)),.L 71 147 70,.L 72 147 12,.D 73 f2 71 72,.E 74 f4 66 67 73,.S 147 8 74]))))) [2,4,8,42] (.p [.I 75 .add 42 1,.M 42 75]))))))) [2,8] (.seq (.p [.L 76 147 8,.S 147 2 76]) .ret)))))))
theorem kaS(hΓ:Xa P Γ){f fo fp:Nat}(ho:Γ fo=.dat false XE)(hp:Γ fp=.dat false ky)(hc:check P f=some (9,(qj fo fp).strip,[.cell 4 147 true])):ua P f (.dat false JL):=by
 refine ka hc wbi hΓ (λargs K hcl hfi hG=>?_);match args,hG with
 | [u,w],hG=>
  obtain⟨a,rfl,la,b,rfl,lb,hz,hK⟩:=hG;refine⟨by simp,?_⟩
  have e1:(((-1:Int)):Rat) = -1:=rfl;have r1:=Nat.le_trans zat (by decide:2<=1000000)
  have c1:=Z8 la;have c2:=Z8 lb;have t1:=jy la;have t2:=jy lb;have hM:plusG a (-1) b=mnG a b:=rfl;have lM:=zam la lb;obtain⟨M,hM2⟩:∃M,mnG a b=M:=⟨_,rfl⟩;rw [hM2]at hM lM hK;have c3:=Z8 lM;have t3:=jy lM;simp only [go_sem,qj,ho,hp,e1,c1,c2,t1,t2,la,lb,Vb,hM,c3,t3,lM,List.append_nil];repeat refine Wr ?_
  exact hK
theorem xaR(hΓ:Xa P Γ){f fd fn fl' fp fo fs:Nat}(hd:Γ fd=.dat false xC)(hn:Γ fn=.dat false VA)(hl:Γ fl' = .dat false ZL)(hp:Γ fp=.dat false uB)(ho:Γ fo=.dat false XE)(hs:Γ fs=.dat false ky)(hc:check P f=some (39,(Wl fd fn fl' fp fo fs).strip,[.cell 2 441 true])):ua P f (.dat false VN):=by
 refine ka hc waU hΓ (λargs K hcl hfi hG=>?_);match args,hG with
 | [u],hG=>
  obtain⟨p,rfl,wp,lp,vp,hK⟩:=hG;refine⟨by simp,?_⟩
  have k:=Yg wp lp;have gb:=QA k;obtain⟨vt,va⟩:=Vbd vp;have va':=va;unfold avld at va';simp only [Bool.and_eq_true]at va';obtain⟨v1,v2⟩:=va';have ht:rl p.1.1<=10000000:=Nat.le_trans (Nat.le_trans (Nat.le_max_left _ _) lp) (by decide)
  have hX:linG (rv p.2.1) (cosQ (tv p.1)) (-sinQ (tv p.1))=gX (pv p):=rfl;have hY:linG (rv p.2.2) (sinQ (tv p.1)) (cosQ (tv p.1))=gY (pv p):=rfl;have hS:gS (pv p)=plusG (Qg (gX (pv p)) (gX (pv p))) 1 (Qg (gY (pv p)) (gY (pv p))):=rfl;have hR:gwA (rwG (pv p))=.agg (fl [gC (gS (pv p)),gC (gX (pv p)),gC (gY (pv p))]):=rfl;have lS:(gS (pv p)).length=49:=gb.l1;have lX:(gX (pv p)).length=49:=gb.l2;have lY:(gY (pv p)).length=49:=gb.l3;have zX:gz (gX (pv p))<=9100:=gb.z2;have zY:gz (gY (pv p))<=9100:=gb.z3;have z1:=vm lX lX;have z2:=vm lY lY;have r1:rz (1:Rat)<=1000000:=Nat.le_trans rz_1 (by decide)
  obtain⟨X,hXX⟩:∃X,gX (pv p)=X:=⟨_,rfl⟩;obtain⟨Y,hYY⟩:∃Y,gY (pv p)=Y:=⟨_,rfl⟩;obtain⟨S,hSS⟩:∃S,gS (pv p)=S:=⟨_,rfl⟩;rw [hXX]at hX hS hR lX zX z1;rw [hYY]at hY hS hR lY zY z2;rw [hSS]at hS hR lS;have hS2:=hS.symm;have a1:gz X+gz X<=20000000:=by omega
  have a2:gz Y+gz Y<=20000000:=by omega
  have a3:gz (Qg X X)+gz (Qg Y Y)<=2000000000:=by omega
  have e1:(((1:Int)):Rat)=1:=rfl;have cX:=Z8 lX;have cY:=Z8 lY;have cS:=Z8 lS;have tX:=jy lX;have tY:=jy lY;have tS:=jy lS;have p1:(Qg X X).length=49:=Ub _ _;have p2:(Qg Y Y).length=49:=Ub _ _;have e3:fl [gC S,gC X,gC Y]=gC S++(gC X++gC Y):=by simp [fl]
  have t3:(gC S++(gC X++gC Y)).take 441=gC S++(gC X++gC Y):=List.take_of_length_le (by rw [List.length_append,List.length_append,cS,cX,cY];decide)
  have zl:(zrs 147).length=441:=kK 147;have zd:(zrs 147).drop 441=[]:=List.drop_of_length_le (Nat.le_of_eq zl);rw [hR,e3]at hK;have zs2:rz (sinQ (tv p.1))<=4294967296:=by
   have h1:=XH (tv p.1);have h2:rz (tv p.1).1<=1000:=k.1;omega
  have wt:=wp.1;have w1:=wp.2.1;have w2:=wp.2.2;simp only [go_sem,Wl,hd,hn,hl,hp,ho,hs,poA,xaM,Wb,Vb,Qp,hX,hY,hS2,e1,cX,cY,cS,tX,tY,tS,p1,p2,lX,lY,lS,List.append_nil,List.length_append,List.map_append,t3,zl,zd,v1,v2];repeat refine Wr ?_
  exact hK
set_option maxHeartbeats 4000000 in
theorem kaO(hΓ:Xa P Γ){f fr fm fp fo fs:Nat}(hr:Γ fr=.dat false VN)(hm:Γ fm=.dat false JL)(hp:Γ fp=.dat false uB)(ho:Γ fo=.dat false XE)(hs:Γ fs=.dat false ky)(hc:check P f=some (77,(Ye fr fm fp fo fs).strip,[.cell 2 147 true])):ua P f (.dat false qI):=by
 refine ka hc ZaY hΓ (λargs K hcl hfi hG=>?_);match args,hG with
 | [u],hG=>
  obtain⟨l,rfl,hw,hl,h4,hK⟩:=hG;refine⟨by simp,?_⟩
  obtain⟨hlen,hval⟩:=kG h4;obtain⟨p,q,r,s,rfl⟩:=Y7 hlen;simp only [List.all_cons,List.all_nil,Bool.and_true,Bool.and_eq_true]at hval;obtain⟨vp,vq,vr,vs⟩:=hval;have wp:=(hl p (by simp)).1
  have wq:=(hl q (by simp)).1
  have wr:=(hl r (by simp)).1
  have ws':=(hl s (by simp)).1
  have lp:=(hl p (by simp)).2
  have lq:=(hl q (by simp)).2
  have lr:=(hl r (by simp)).2
  have ls:=(hl s (by simp)).2
  have g0:=QA (Yg wp lp);have g1:=QA (Yg wq lq);have g2:=QA (Yg wr lr);have g3:=QA (Yg ws' ls);have hD:detG [p,q,r,s]=d3G (dfG (rwG (pv q)) (rwG (pv p))) (dfG (rwG (pv r)) (rwG (pv p))) (dfG (rwG (pv s)) (rwG (pv p))):=rfl;rw [hD]at hK;obtain⟨R0,hR0⟩:∃R,rwG (pv p)=R:=⟨_,rfl⟩;obtain⟨R1,hR1⟩:∃R,rwG (pv q)=R:=⟨_,rfl⟩;obtain⟨R2,hR2⟩:∃R,rwG (pv r)=R:=⟨_,rfl⟩;obtain⟨R3,hR3⟩:∃R,rwG (pv s)=R:=⟨_,rfl⟩;rw [hR0,hR1,hR2,hR3]at hK;rw [hR0]at g0;rw [hR1]at g1;rw [hR2]at g2;rw [hR3]at g3;have k1:=Qab g1 g0;have k2:=Qab g2 g0;have k3:=Qab g3 g0;obtain⟨D1,hD1⟩:∃D,dfG R1 R0=D:=⟨_,rfl⟩;have d11:mnG R1.1 R0.1=D1.1:=by rw [<-hD1];rfl
  have d12:mnG R1.2.1 R0.2.1=D1.2.1:=by rw [<-hD1];rfl
  have d13:mnG R1.2.2 R0.2.2=D1.2.2:=by rw [<-hD1];rfl
  rw [hD1]at k1 hK;obtain⟨D2,hD2⟩:∃D,dfG R2 R0=D:=⟨_,rfl⟩;have d21:mnG R2.1 R0.1=D2.1:=by rw [<-hD2];rfl
  have d22:mnG R2.2.1 R0.2.1=D2.2.1:=by rw [<-hD2];rfl
  have d23:mnG R2.2.2 R0.2.2=D2.2.2:=by rw [<-hD2];rfl
  rw [hD2]at k2 hK;obtain⟨D3,hD3⟩:∃D,dfG R3 R0=D:=⟨_,rfl⟩;have d31:mnG R3.1 R0.1=D3.1:=by rw [<-hD3];rfl
  have d32:mnG R3.2.1 R0.2.1=D3.2.1:=by rw [<-hD3];rfl
  have d33:mnG R3.2.2 R0.2.2=D3.2.2:=by rw [<-hD3];rfl
  rw [hD3]at k3 hK;obtain⟨lm1,_,zm1,_⟩:=W7 k2 k3;obtain⟨M1,hM1⟩:∃M,miG D2 D3=M:=⟨_,rfl⟩;have m1:mnG (Qg D2.2.1 D3.2.2) (Qg D2.2.2 D3.2.1)=M1:=hM1;rw [hM1]at lm1 zm1;obtain⟨lm2,_,zm2,_⟩:=W7 k3 k1;obtain⟨M2,hM2⟩:∃M,miG D3 D1=M:=⟨_,rfl⟩;have m2:mnG (Qg D3.2.1 D1.2.2) (Qg D3.2.2 D1.2.1)=M2:=hM2;rw [hM2]at lm2 zm2;obtain⟨lm3,_,zm3,_⟩:=W7 k1 k2;obtain⟨M3,hM3⟩:∃M,miG D1 D2=M:=⟨_,rfl⟩;have m3:mnG (Qg D1.2.1 D2.2.2) (Qg D1.2.2 D2.2.1)=M3:=hM3;rw [hM3]at lm3 zm3;have lT1:=JJ Qy D1.1 M1;have zT1:=jbf (s:=zG) k1.l1 lm1;obtain⟨T1,hT1⟩:∃T,stG zG D1.1 M1=T:=⟨_,rfl⟩;rw [hT1]at lT1 zT1;have lT2:=JJ lT1 D2.1 M2;have zT2:=jbf (s:=T1) k2.l1 lm2;obtain⟨T2,hT2⟩:∃T,stG T1 D2.1 M2=T:=⟨_,rfl⟩;rw [hT2]at lT2 zT2;have lT3:=JJ lT2 D3.1 M3;obtain⟨T3,hT3⟩:∃T,stG T2 D3.1 M3=T:=⟨_,rfl⟩;rw [hT3]at lT3;have hd3:d3G D1 D2 D3=T3:=by unfold d3G;rw [hM1,hM2,hM3,hT1,hT2,hT3]
  rw [hd3]at hK;have s1:plusG zG 1 (Qg D1.1 M1)=T1:=hT1;have s2:plusG T1 1 (Qg D2.1 M2)=T2:=hT2;have s3:plusG T2 1 (Qg D3.1 M3)=T3:=hT3;have i3:((3:Nat):Int)=3:=rfl;have hz:List.replicate 49 (0:Rat)=zG:=rfl;have e1:(((1:Int)):Rat)=1:=rfl;have r1:rz (1:Rat)<=1000000:=Nat.le_trans rz_1 (by decide)
  have r0a:=g0.l1;have r0b:=g0.l2;have r0c:=g0.l3;have y0a:=g0.z1;have y0b:=g0.z2;have y0c:=g0.z3;have r1a:=g1.l1;have r1b:=g1.l2;have r1c:=g1.l3;have y1a:=g1.z1;have y1b:=g1.z2;have y1c:=g1.z3;have r2a:=g2.l1;have r2b:=g2.l2;have r2c:=g2.l3;have y2a:=g2.z1;have y2b:=g2.z2;have y2c:=g2.z3;have r3a:=g3.l1;have r3b:=g3.l2;have r3c:=g3.l3;have y3a:=g3.z1;have y3b:=g3.z2;have y3c:=g3.z3;have x1a:=k1.l1;have x1b:=k1.l2;have x1c:=k1.l3;have z1a:=k1.z1;have z1b:=k1.z2;have z1c:=k1.z3;have x2a:=k2.l1;have x2b:=k2.l2;have x2c:=k2.l3;have z2a:=k2.z1;have z2b:=k2.z2;have z2c:=k2.z3;have x3a:=k3.l1;have x3b:=k3.l2;have x3c:=k3.l3;have z3a:=k3.z1;have z3b:=k3.z2;have z3c:=k3.z3;have n1:∀{A B:Nat},A<=1900000->B<=1900000->A+B<=2000000000:=λh k=>by omega
  have n2:∀{A B:Nat},A<=9100->B<=9100->A+B<=2000000000:=λh k=>by omega
  have n3:∀{A B:Nat},A<=9100+9100+300->B<=9100+9100+300->A+B<=20000000:=λh k=>by omega
  have n4:∀{A B:Nat},A<=1900000+1900000+300->B<=196*(9100+9100+300)+19508->A+B<=20000000:=λh k=>by omega
  have n5:∀{A B C D E F:Nat},A<=49*C+49*D+9604->B<=49*E+49*F+9604->C<=9100+9100+300->D<=9100+9100+300->E<=9100+9100+300->F<=9100+9100+300->A+B<=2000000000:=λh k a b c d=>by omega
  have n6:∀{A B T:Nat},A<=1900000+1900000+300->B<=196*(9100+9100+300)+19508->∀{S:Nat},T<=S+(49*A+49*B+9604)+300->T<=S+400000000:=λh k {S} e=>by omega
  have n7:∀{A B C T:Nat},A<=1900000+1900000+300->B<=196*(9100+9100+300)+19508->C<=49*A+49*B+9604->T<=1000000000->T+C<=2000000000:=λh k e f=>by omega
  have zz:gz zG<=0:=Nat.le_of_eq gz_z;have tz1:gz T1<=400000000:=Nat.le_trans (n6 z1a zm1 zT1) (Nat.le_trans (Nat.add_le_add_right zz 400000000) (by decide))
  have tz2:gz T2<=800000000:=Nat.le_trans (n6 z2a zm2 zT2) (Nat.le_trans (Nat.add_le_add_right tz1 400000000) (by decide))
  have q1:=n7 z1a zm1 (vm x1a lm1) (Nat.le_trans zz (by decide:0<=1000000000))
  have q2:=n7 z2a zm2 (vm x2a lm2) (Nat.le_trans tz1 (by decide:400000000<=1000000000))
  have q3:=n7 z3a zm3 (vm x3a lm3) (Nat.le_trans tz2 (by decide:800000000<=1000000000))
  have w1:=n4 z1a zm1;have w2:=n4 z2a zm2;have w3:=n4 z3a zm3;have u1a:=n1 y1a y0a;have u1b:=n2 y1b y0b;have u1c:=n2 y1c y0c;have u2a:=n1 y2a y0a;have u2b:=n2 y2b y0b;have u2c:=n2 y2c y0c;have u3a:=n1 y3a y0a;have u3b:=n2 y3b y0b;have u3c:=n2 y3c y0c;have v1a:=n3 z2b z3c;have v1b:=n3 z2c z3b;have v1c:=n5 (vm x2b x3c) (vm x2c x3b) z2b z3c z2c z3b;have pa1:(Qg D2.2.1 D3.2.2).length=49:=Ub _ _;have pb1:(Qg D2.2.2 D3.2.1).length=49:=Ub _ _;have pc1:(Qg D1.1 M1).length=49:=Ub _ _;have v2a:=n3 z3b z1c;have v2b:=n3 z3c z1b;have v2c:=n5 (vm x3b x1c) (vm x3c x1b) z3b z1c z3c z1b;have pa2:(Qg D3.2.1 D1.2.2).length=49:=Ub _ _;have pb2:(Qg D3.2.2 D1.2.1).length=49:=Ub _ _;have pc2:(Qg D2.1 M2).length=49:=Ub _ _;have v3a:=n3 z1b z2c;have v3b:=n3 z1c z2b;have v3c:=n5 (vm x1b x2c) (vm x1c x2b) z1b z2c z1c z2b;have pa3:(Qg D1.2.1 D2.2.2).length=49:=Ub _ _;have pb3:(Qg D1.2.2 D2.2.1).length=49:=Ub _ _;have pc3:(Qg D3.1 M3).length=49:=Ub _ _;have zl:=Qy;have ev:∀x:Ps,x∈[p,q,r,s]->True:=λ_ _=>trivial;repeat
   simp only [go_sem,Ye,List.map_cons,List.map_nil,Int.reduceAdd,Int.reduceLT,Int.reduceMod,Int.reduceLE,Nat.reduceSub,i3,Z8,JbN,jy,Vap,W8,hz,e1,Vb,hr,hm,hp,ho,hs,hR0,hR1,hR2,hR3,d11,d12,d13,d21,d22,d23,d31,d32,d33,m1,m2,m3,s1,s2,s3,z147,z441,List.drop_zero,List.take_zero,vbQ,ZbH,UbD,uF,List.cons_append,List.nil_append,List.append_nil,tk147,dr147,tk294,dr294,tk441,dr441,tk588,dr588,tk735,dr735,tk882,dr882,tk1029,dr1029,tk1176,dr1176,dr1323,qbm,qbo,r0a,r0b,r0c,r1a,r1b,r1c,r2a,r2b,r2c,r3a,r3b,r3c,x1a,x1b,x1c,x2a,x2b,x2c,x3a,x3b,x3c,lm1,lm2,lm3,lT1,lT2,lT3,zl,pa1,pb1,pc1,pa2,pb2,pc2,pa3,pb3,pc3];repeat refine Wr ?_
   first
    | exact hK
    | refine XbK 26 3 [0,2,3,4,5,6,17,26] [2,3,4,6] (by simp [go_sem]) rfl ?_
    | refine kbH 26 [0,2,3,4,5,6,17,26] [2,3,4,6] (by simp [go_sem]) rfl ?_
    | refine XbK 42 3 [2,4,8,42] [2,4,8] (by simp [go_sem]) rfl ?_
    | refine kbH 42 [2,4,8,42] [2,4,8] (by simp [go_sem]) rfl ?_
    | refine qG 3 [0,2,3,4,17] [2,3,4] (by simp [go_sem]) ?_
    | refine ww [0,2,3,4,17] [2,3,4] (by simp [go_sem]) ?_
end Go.Abs
end
section
namespace Go.Num
open Go.Abs
theorem YaV{T S M K A:Nat}(h:T<=S+(49*M+49*K+9604)+300)(h1:M<=3800300)(h2:K<=3646008+19508)(h3:S<=A):T<=A+400000000:=by omega
theorem kav{l:List Ps}(hl:okPs 1000 l)(h:Vd l=0):(detG l).length=49/\gz (detG l)<=1200000000:=by
 obtain⟨hlen,_⟩:=kG h;obtain⟨p,q,r,s,rfl⟩:=Y7 hlen;have k1:=QA (Yg (hl p (by simp)).1 (hl p (by simp)).2)
 have k2:=QA (Yg (hl q (by simp)).1 (hl q (by simp)).2)
 have k3:=QA (Yg (hl r (by simp)).1 (hl r (by simp)).2)
 have k4:=QA (Yg (hl s (by simp)).1 (hl s (by simp)).2)
 have a:=Qab k2 k1;have b:=Qab k3 k1;have c:=Qab k4 k1;obtain⟨bc1,_,bc3,_⟩:=W7 b c;obtain⟨ca1,_,ca3,_⟩:=W7 c a;obtain⟨ab1,_,ab3,_⟩:=W7 a b;have e:detG [p,q,r,s]=d3G (dfG (rwG (pv q)) (rwG (pv p))) (dfG (rwG (pv r)) (rwG (pv p))) (dfG (rwG (pv s)) (rwG (pv p))):=rfl;rw [e];unfold d3G;refine⟨JJ (JJ (JJ Qy _ _) _ _) _ _,?_⟩;have z1:=YaV (jbf (s:=zG) a.l1 bc1) a.z1 (Nat.le_trans bc3 (by decide)) (Nat.le_of_eq gz_z)
 have z2:=YaV (jbf (s:=stG zG _ _) b.l1 ca1) b.z1 (Nat.le_trans ca3 (by decide)) z1
 have z3:=YaV (jbf (s:=stG (stG zG _ _) _ _) c.l1 ab1) c.z1 (Nat.le_trans ab3 (by decide)) z2
 exact z3
end Go.Num
namespace Go.Abs
open Go.Num
variable {P:Program} {Γ:Nat->Spec}
def jF(l:List AV)(K:AV->Prop):Prop:=
 match l with
 | [a]=>onPs (λl=>okPs 90 l/\Vd l=0/\K (.one (.slice ((invL l).map pC)))) a
 | _=>False
theorem waw a K:jF [a] K=(onPs (λl=>okPs 90 l/\Vd l=0/\K (.one (.slice ((invL l).map pC)))) a):=propext Iff.rfl
@[congr] theorem Vb4{K}{l l'}(h:l=l'):jF l K=jF l' K:=by subst h;rfl
attribute [go_sem,go_sem ↓] waw
theorem QaP:Good jF:=Wa λas=>by
 unfold jF;split
 .exact(Qs λ_=>(.and λ_=>(.and λ_=>(.ret _))))
 .exact .of λK hk=>hk.elim
def QM(l:List AV)(K:AV->Prop):Prop:=
 match l with
 | [a,b]=>onPs (λl=>onR (λx=>okPs 1000 l/\Vd l=0/\rl x<=10000/\K (.one (.slice (((aloL l (rv x)).map rcan).map rC)))) b) a
 | _=>False
theorem Qa1 a b K:QM [a,b] K=(onPs (λl=>onR (λx=>okPs 1000 l/\Vd l=0/\rl x<=10000/\K (.one (.slice (((aloL l (rv x)).map rcan).map rC)))) b) a):=propext Iff.rfl
@[congr] theorem vcf{K}{l l'}(h:l=l'):QM l K=QM l' K:=by subst h;rfl
attribute [go_sem,go_sem ↓] Qa1
theorem zbh:Good QM:=Wa λas=>by
 unfold QM;split
 .exact(Qs λ_=>(Jj λ_=>(.and λ_=>(.and λ_=>(.and λ_=>(.ret _))))))
 .exact .of λK hk=>hk.elim
def jg(f0:Nat):AC:=(.o [.m 2 (.c (.one .emp))] [0] (.o [.m 3 (.c (.one .emp))] [0,3] (.f (.o [.M 6 0,.Z 7 6,.N 8 0] [3,6,7,8] (.block 0 (.loop (.o [.B 9 .lss 8 7] [3,6,7,8,9] (.f (.cond (.t 9) .skip (.exit 0)) [3,6,7,8] (.f (.block 1 (.o [.J 10 10 6 8,.L 11 10 10,.G 5 [.z,.emp,.emp,.z,.z,.emp,.emp,.z,.emp,.emp],.S 10 5 11] [3,5,6,7,8] (.p [.M 12 3,.L 13 10 5,.H 14 f0 13,.u 15 (.row 10 [[.x 10 (.t 14)]]),.u 16 (.app 10 (.t 12) (.t 15)),.M 3 16]))) [3,6,7,8] (.p [.I 17 .add 8 1,.M 8 17]))))))) [3] (.seq (.p [.M 18 3,.M 2 18]) .ret))))
def ki(f0 f1 f2 f3:Nat):AC:=(.o [.K 3 3 1,.m 4 (.c (.one .emp))] [0,3] (.o [.M 10 0,.H 11 f0 10,.u 5 (.alloc (zrs 49)),.S 147 5 11] [3,5] (.o [.u 12 (.mk 3 [.z,.emp,.emp] (.i 4) (.i 4)),.M 6 12] [3,5,6] (.f (.o [.N 13 0] [3,5,6,13] (.block 0 (.loop (.o [.I 14 .lss 13 4] [3,5,6,13,14] (.f (.cond (.t 14) .skip (.exit 0)) [3,5,6,13] (.f (.block 1 (.o [.M 15 13,.M 7 15] [3,5,6,7,13] (.o [.u 16 (.call f1 [(.i 1)]),.G 8 [.z,.emp,.emp],.S 3 8 16] [3,5,6,7,8,13] (.o [.N 17 0] [3,5,6,7,8,13,17] (.block 2 (.loop (.o [.I 18 .lss 17 4] [3,5,6,7,8,13,17,18] (.f (.cond (.t 18) .skip (.exit 2)) [3,5,6,7,8,13,17] (.f (.block 3 (.o [.M 19 17,.M 9 19] [3,5,6,7,8,9,13,17] (.f (.y [.M 20 6,.M 21 7,.M 22 6,.M 23 7,.J 24 3 22 23,.L 25 3 24,.L 26 3 8,.M 27 9,.M 28 7,.u 29 (.ai 21 7 (.t 5) (.t 27)),.u 30 (.ai 3 7 (.t 29) (.t 28)),.L 31 3 30,.D 32 f2 26 31,.D 33 f3 25 32,.J 34 3 20 21,.S 3 34 33]) [3,5,6,7,8,13,17] (.p [.L 35 3 8,.L 36 3 3,.D 37 f2 35 36,.S 3 8 37])))) [3,5,6,7,8,13,17] (.p [.I 38 .add 17 1,.M 17 38])))))))))) [3,5,6,13] (.p [.I 39 .add 13 1,.M 13 39]))))))) [6] (.seq (.p [.M 40 6,.M 4 40]) .ret)))))
set_option maxHeartbeats 1000000 in
theorem xar(hΓ:Xa P Γ){f fi:Nat}(hi:Γ fi=.dat false qL)(hc:check P f=some (19,(jg fi).strip,[.tmp 2])):ua P f (.dat false jF):=by
 refine ka hc QaP hΓ (λargs K hcl hfi hG=>?_);match args,hG with
 | [a],hG=>
  obtain⟨l,rfl,hw,hl,h0,hK⟩:=hG;refine⟨by simp,?_⟩
  obtain⟨hlen,hval⟩:=kG h0;obtain⟨p,q,r,s,rfl⟩:=Y7 hlen;have wp:=(hl p (by simp)).1
  have wq:=(hl q (by simp)).1
  have wr:=(hl r (by simp)).1
  have ws':=(hl s (by simp)).1
  have lp:=Nat.le_trans (hl p (by simp)).2 (by decide:_<=1000000)
  have lq:=Nat.le_trans (hl q (by simp)).2 (by decide:_<=1000000)
  have lr:=Nat.le_trans (hl r (by simp)).2 (by decide:_<=1000000)
  have ls:=Nat.le_trans (hl s (by simp)).2 (by decide:_<=1000000)
  obtain⟨p',hp'⟩:∃x,pcan (invQ (pv p))=x:=⟨_,rfl⟩;have np:=ZF (pv p) hp';have hpl:∀e:List C,e∈[pC p']->e.length=10:=λe he=>by rw [List.mem_singleton.1 he];exact uh _
  obtain⟨q',hq'⟩:∃x,pcan (invQ (pv q))=x:=⟨_,rfl⟩;have nq:=ZF (pv q) hq';have hql:∀e:List C,e∈[pC q']->e.length=10:=λe he=>by rw [List.mem_singleton.1 he];exact uh _
  obtain⟨r',hr'⟩:∃x,pcan (invQ (pv r))=x:=⟨_,rfl⟩;have nr:=ZF (pv r) hr';have hrl:∀e:List C,e∈[pC r']->e.length=10:=λe he=>by rw [List.mem_singleton.1 he];exact uh _
  obtain⟨s',hs'⟩:∃x,pcan (invQ (pv s))=x:=⟨_,rfl⟩;have ns:=ZF (pv s) hs';have hsl:∀e:List C,e∈[pC s']->e.length=10:=λe he=>by rw [List.mem_singleton.1 he];exact uh _
  have eI:invL [p,q,r,s]=[p',q',r',s']:=by rw [<-hp',<-hq',<-hr',<-hs'];rfl
  rw [eI]at hK;have hD:datO (some [pC p',pC q',pC r',pC s'])=.slice [pC p',pC q',pC r',pC s']:=uo _ (cleanP [p',q',r',s']);have c4:∀L:List Ps,jc (L.map pC):=cleanP;have c1' : Jd (pC p'):=cleanP [p'] _ (by simp)
  have c2' : Jd (pC q'):=cleanP [q'] _ (by simp)
  have c3' : Jd (pC r'):=cleanP [r'] _ (by simp)
  have c4' : Jd (pC s'):=cleanP [s'] _ (by simp)
  have i4:((4:Nat):Int)=4:=rfl;simp only [go_sem,jg,List.map_cons,List.map_nil,i4];refine qG 4 [3,6,7,8] [] (by simp [go_sem]) ?_
  iterate 4
   simp only [go_sem,List.map_cons,List.map_nil,Int.reduceAdd,Int.reduceLT,i4,hi,Wb,np,nq,nr,ns,List.cons_append,List.nil_append];repeat refine Wr ?_
   refine ww [3,6,7,8] [16] (by simp [go_sem,c1',c2',c3',c4']) ?_
  simp only [go_sem,List.map_cons,List.map_nil,Int.reduceAdd,Int.reduceLT,i4,hD];exact hK
set_option maxHeartbeats 4000000 in
theorem qaS(hΓ:Xa P Γ){f fd fo fm fa:Nat}(hd:Γ fd=.dat false qI)(ho:Γ fo=.dat false XE)(hm:Γ fm=.dat false jl)(ha:Γ fa=.dat false wl)(hc:check P f=some (41,(ki fd fo fm fa).strip,[.tmp 4])):ua P f (.dat false QM):=by
 refine ka hc zbh hΓ (λargs K hcl hfi hG=>?_);match args,hG with
 | [a,b],hG=>
  obtain⟨l,rfl,hw,x,rfl,wx,hl,h4,lx,hK⟩:=hG;refine⟨by simp,?_⟩
  obtain⟨ld,zd⟩:=kav hl h4;have zx:=Nat.le_trans (Vg wx) lx;have al:∀j,j<7->_:=λj hj=>Qbr hl h4 (rv x) (j:=j) hj;have lx2:rl x<=4294967296:=Nat.le_trans lx (by decide)
  unfold aloL at hK;rw [al 0 (by decide),al 1 (by decide),al 2 (by decide),al 3 (by decide)]at hK
  clear al;obtain⟨D,hD⟩:∃D,detG l=D:=⟨_,rfl⟩;rw [hD]at ld zd hK;obtain⟨X,hX⟩:∃X,rv x=X:=⟨_,rfl⟩;rw [hX]at hK zx;obtain⟨X2,hX2⟩:∃Y,X*X=Y:=⟨_,rfl⟩;have y2:rz X2<=100000:=by rw [<-hX2];have:=Zc X X;omega
  obtain⟨X3,hX3⟩:∃Y,X2*X=Y:=⟨_,rfl⟩;have y3:rz X3<=200000:=by rw [<-hX3];have:=Zc X2 X;omega
  rw [hX2,hX3]at hK;obtain⟨d,hdd⟩:∃d:Nat->Nat->Rat,∀i j,gat D i j=d i j:=⟨_,λ_ _=>rfl⟩;simp only [hdd,List.map_cons,List.map_nil]at hK;have g:∀i j k:Nat,k=3*(i*7+j)->k<147->List.take 3 (List.drop k (gC D))=[cb (rcan (d i j)),cn (rcan (d i j)),cd (rcan (d i j))]:=λi j k hk h7=>by
   rw [hk,WN (by omega),<-hdd];rfl
  have g0:=g 0 0 0 rfl (by decide)
  rw [List.drop_zero]at g0;have zz:∀i j,rz (d i j)<=1200000000:=λi j=>by rw [<-hdd];exact Nat.le_trans (QP D _ _) zd
  have z0:∀i j,(rz (d i j)<=4294967296)=True:=λi j=>eq_true (Nat.le_trans (zz i j) (by decide))
  have m1:∀i j,rz (X*d i j)<=1210000000:=λi j=>by have:=Zc X (d i j);have:=zz i j;omega
  have m2:∀i j,rz (X2*d i j)<=1210000000:=λi j=>by have:=Zc X2 (d i j);have:=zz i j;omega
  have m3:∀i j,rz (X3*d i j)<=1210000000:=λi j=>by have:=Zc X3 (d i j);have:=zz i j;omega
  have n1:∀i j,(rz (X*d i j)<=4294967296)=True:=λi j=>eq_true (Nat.le_trans (m1 i j) (by decide))
  have n2:∀i j,(rz (X2*d i j)<=4294967296)=True:=λi j=>eq_true (Nat.le_trans (m2 i j) (by decide))
  have n3:∀i j,(rz (X3*d i j)<=4294967296)=True:=λi j=>eq_true (Nat.le_trans (m3 i j) (by decide))
  have s1:∀i j k,rz (d i j+X*d k j)<=2500000000:=λi j k=>by have:=km (d i j) (X*d k j);have:=zz i j;have:=m1 k j;omega
  have u1:∀i j k,(rz (d i j+X*d k j)<=4294967296)=True:=λi j k=>eq_true (Nat.le_trans (s1 i j k) (by decide))
  have u2:∀i j k n,(rz (d i j+X*d k j+X2*d n j)<=4294967296)=True:=λi j k n=>eq_true (by have:=km (d i j+X*d k j) (X2*d n j);have:=s1 i j k;have:=m2 n j;omega)
  have e1:(((1:Int)):Rat)=1:=rfl;have r1:rz (1:Rat)<=4294967296:=Nat.le_trans rz_1 (by decide)
  have r0:rz (0:Rat)<=4294967296:=Nat.le_trans (Nat.le_of_eq rz_0) (by decide)
  have c1:=Z8 ld;have t1:=jy ld;have le:∀k,k<=144->(3<=(List.drop k (gC D)).length)=True:=λk hk=>eq_true (by rw [List.length_drop,c1];omega)
  have rp:∀r:List C,List.replicate 4 r=[r,r,r,r]:=λr=>rfl;repeat
   simp only [go_sem,ki,rp,List.set_cons_zero,List.set_cons_succ,List.getElem?_cons_zero,List.getElem?_cons_succ,Int.reduceAdd,Int.reduceLT,Int.reduceLE,Nat.reduceSub,rA,XU,hX,hX2,hX3,Vb,hd,ho,hm,ha,hD,c1,t1,ld,e1,Rat.one_mul,Rat.zero_add,dR_0,dR_e,List.drop_zero,List.take_zero,List.append_nil,List.map_cons,List.map_nil,g0,g 1 0 21 rfl (by decide),g 2 0 42 rfl (by decide),g 3 0 63 rfl (by decide),g 0 1 3 rfl (by decide),g 1 1 24 rfl (by decide),g 2 1 45 rfl (by decide),g 3 1 66 rfl (by decide),g 0 2 6 rfl (by decide),g 1 2 27 rfl (by decide),g 2 2 48 rfl (by decide),g 3 2 69 rfl (by decide),g 0 3 9 rfl (by decide),g 1 3 30 rfl (by decide),g 2 3 51 rfl (by decide),g 3 3 72 rfl (by decide),le,z0,n1,n2,n3,u1,u2,true_and]
   repeat refine Wr ?_
   first
    | exact hK
    | refine XbK 7 4 [3,5,6,7,8,13,17] [3,5,8,12] (by simp [go_sem]) rfl ?_
    | refine kbH 7 [3,5,6,7,8,13,17] [3,5,8,12] (by simp [go_sem]) rfl ?_
    | refine qG 4 [3,5,6,13] [3,5,12] (by simp [go_sem]) ?_
    | refine ww [3,5,6,13] [3,5,12] (by simp [go_sem]) ?_
end Go.Abs
end
section
namespace Go.Num
open Go.Abs
end Go.Num
namespace Go.Abs
open Go.Num
variable {P:Program} {Γ:Nat->Spec}
theorem zbO(p:Ps):poA p=.agg (pC p):=eq_of_heq (HEq.refl _)
theorem Ya2(p:Ps):(pC p).take 10=pC p:=List.take_of_length_le (Nat.le_of_eq (uh p))
theorem wbb(p:Ps):(pC p).drop 0=pC p:=eq_of_heq (HEq.refl _)
theorem vbu(k:List Ps->Prop)(p:Ps):onPs k (.one (.slice [pC p]))=((∀x∈[p],WLP x)/\k [p]):=JM k [p]
attribute [go_sem,go_sem ↓] zbO Ya2 wbb vbu
def zbj(l:List AV)(K:AV->Prop):Prop:=
 match l with
 | [c,g]=>onCp (λc=>onPo (λg=>cl c<=1000/\pl g<=1000/\cchk c=0/\K (cqR (movQ38 (cpv c) (pv g)))) g) c
 | _=>False
theorem jbe c g K:zbj [c,g] K=(onCp (λc=>onPo (λg=>cl c<=1000/\pl g<=1000/\cchk c=0/\K (cqR (movQ38 (cpv c) (pv g)))) g) c):=propext Iff.rfl
@[congr] theorem Vcc{K}{l l'}(h:l=l'):zbj l K=zbj l' K:=by subst h;rfl
attribute [go_sem,go_sem ↓] jbe
def uaS(l:List AV)(K:AV->Prop):Prop:=
 match l with
 | [c,k]=>onCp (λc=>onR (λk=>cl c<=1000/\rl k<=1000/\cchk c=0/\K (cqR (sclQ38 (cpv c) (rv k)))) k) c
 | _=>False
theorem Wa5 c k K:uaS [c,k] K=(onCp (λc=>onR (λk=>cl c<=1000/\rl k<=1000/\cchk c=0/\K (cqR (sclQ38 (cpv c) (rv k)))) k) c):=propext Iff.rfl
@[congr] theorem zcd{K}{l l'}(h:l=l'):uaS l K=uaS l' K:=by subst h;rfl
attribute [go_sem,go_sem ↓] Wa5
end Go.Abs
end
section
namespace Go.Abs
open Go.Num
variable {P:Program} {Γ:Nat->Spec}
def Yx(l:List AV)(K:AV->Prop):Prop:=
 match l with
 | [a,b]=>onMs (λl=>onMs (λl'=>l=l'/\l.length<=1000000/\(∀t∈l,rl t.2.2<=4294967296)/\K (.one (.lit (.bool true)))) b) a
 | _=>False
theorem Xaj a b K:Yx [a,b] K=(onMs (λl=>onMs (λl'=>l=l'/\l.length<=1000000/\(∀t∈l,rl t.2.2<=4294967296)/\K (.one (.lit (.bool true)))) b) a):=propext Iff.rfl
@[congr] theorem xbZ{K}{l l'}(h:l=l'):Yx l K=Yx l' K:=by subst h;rfl
attribute [go_sem,go_sem ↓] Xaj
theorem Yap:Good Yx:=Wa λas=>by
 unfold Yx;split
 .repeat (first | exact .ret _ | exact .of (λK hk=>hk.elim) | (refine .and λ_=>?_) | (refine Zh λ_=>?_) | (refine xt λ_=>?_) | (refine Xd (λ_ _=>?_) _) | (refine yJ (λ_=>?_) _) | (refine ZJ ?_ ?_) | (intro _) | assumption)
 .exact .of λK hk=>hk.elim
def Zj(f0:Nat):AC:=(.o [.m 4 .fa] [0,1] (.f (.o [.M 6 0,.Z 7 6,.M 8 1,.Z 9 8,.B 10 .neq 7 9] [0,1,10] (.cond (.t 10) (.seq (.p [.m 4 .fa]) .ret) .skip)) [0,1] (.f (.o [.M 11 0,.Z 12 11,.N 13 0] [0,1,12,13] (.block 0 (.loop (.o [.B 14 .lss 13 12] [0,1,12,13,14] (.f (.cond (.t 14) .skip (.exit 0)) [0,1,12,13] (.f (.block 1 (.o [.M 15 13,.M 5 15] [0,1,5,12,13] (.f (.y [.M 16 0,.M 17 5,.J 18 5 16 17,.A 19 0 18,.F 20 1 19,.M 21 1,.M 22 5,.J 23 5 21 22,.A 24 0 23,.F 25 1 24,.B 26 .neq 20 25,.M 27 26,.V 28 27 false 0,.V 29 27 false 5,.w 30 27 false (.idx 5 (.t 28) (.t 29)),.T 31 27 false 1 30,.U 32 27 false 1 false 31,.V 33 27 false 1,.V 34 27 false 5,.w 35 27 false (.idx 5 (.t 33) (.t 34)),.T 36 27 false 1 35,.U 37 27 false 1 false 36,.w 38 27 false (.bin .neq (.t 32) (.t 37)),.Q 39 27 38,.M 40 39,.V 41 40 false 0,.V 42 40 false 5,.w 43 40 false (.idx 5 (.t 41) (.t 42)),.T 44 40 false 2 43,.U 45 40 false 3 true 44,.V 46 40 false 1,.V 47 40 false 5,.w 48 40 false (.idx 5 (.t 46) (.t 47)),.T 49 40 false 2 48,.U 50 40 false 3 true 49,.Y 51 40 false f0 45 50,.w 52 40 false (.un .not (.t 51)),.Q 53 40 52]) [0,1,12,13,53] (.cond (.t 53) (.seq (.p [.m 4 .fa]) .ret) .skip)))) [0,1,12,13] (.p [.I 54 .add 13 1,.M 13 54]))))))) [] (.seq (.p [.m 4 .tr]) .ret))))
theorem Yah(hΓ:Xa P Γ){f fr:Nat}(hr:Γ fr=.dat true kH)(hc:check P f=some (55,(Zj fr).strip,[.tmp 4])):ua P f (.dat false Yx):=by
 refine ka hc Yap hΓ (λargs K hcl hfi hG=>?_);match args,hG with
 | [a,b],hG=>
  obtain⟨l,rfl,hw,l',rfl,hw',rfl,hl,hrl,hK⟩:=hG;refine⟨by simp,?_⟩
  simp only [go_sem,Zj,hr];intro _ _ _;refine Ya (λk:Nat=>⟨mkV [(0,.one (ms l)),(1,.one (ms l)),(12,.one (.lit (.int .i64 l.length))),(13,.one (.lit (.int .i64 k)))],mkH []⟩) (λk=>k<=l.length) (λk=>l.length-k) 0 ?_ ?_ ?_
  .exact Qa (by simp [okS,okV,okC,okL,okH,okB,okE,ja,Ja,qa,Va,wsA,ws,ms]) trivial
  .exact Nat.zero_le _
  .intro k hk;by_cases hlt:k<l.length
   .obtain⟨y,hy⟩:∃y,l.getD k mo0=y:=⟨_,rfl⟩;have hy0:=getDm hlt hy;have hym:=List.mem_of_getElem? hy0;have hwy:=hw y hym;have hry:=hrl y hym;simp only [go_sem,hlt,hy,hr,mC];exact⟨hwy.2.2,hwy.2.2,hry,by omega,k+1,Qa (by simp [okS,okV,okC,okL,okH,okB,okE,ja,Ja,qa,Va,wsA,ws,ms]) trivial,by omega,by omega⟩
   .simp only [go_sem,hlt];exact hK
end Go.Abs
end
section
namespace Go.Num
open Go.Abs
theorem UbY{l:List Ps}{x:R}(h:Vd l≠0):aloC l x=Vd l:=if_pos h
theorem YbV{l:List Ps}{x:R}(h:Vd l=0)(h2:vldR x=false):aloC l x=2:=by unfold aloC;rw [if_neg (by omega),if_pos h2]
theorem zbP{l:List Ps}{x:R}(h:Vd l=0)(h2:vldR x=true):aloC l x=0:=by unfold aloC;rw [if_neg (by omega),if_neg (by simp [h2])]
end Go.Num
namespace Go.Abs
open Go.Num
variable {P:Program} {Γ:Nat->Spec}
theorem JQ(K:AV->Prop)(dr:Bool)(x:R):lenA K dr (.one (cn x))=bndK dr x.2.1.length (intR K .i64 (x.2.1.length:Nat)):=by
 unfold cn ws;rw [WO,List.length_map]
theorem YQ(K:AV->Prop)(dr:Bool)(x:R):lenA K dr (.one (cd x))=bndK dr x.2.2.length (intR K .i64 (x.2.2.length:Nat)):=by
 unfold cd ws;rw [WO,List.length_map]
def Qo(l:List AV)(K:AV->Prop):Prop:=
 match l with
 | [a,b]=>onPs (λl=>onR (λx=>okPs 1048576 l/\rl x<=1048576/\K (.one (.lit (.bool true)))) b) a
 | _=>False
theorem qP a b K:Qo [a,b] K=(onPs (λl=>onR (λx=>okPs 1048576 l/\rl x<=1048576/\K (.one (.lit (.bool true)))) b) a):=propext Iff.rfl
@[congr] theorem ubL{K}{l l'}(h:l=l'):Qo l K=Qo l' K:=by subst h;rfl
attribute [go_sem,go_sem ↓] qP
theorem Jaa:Good Qo:=Wa λas=>by
 unfold Qo;split
 .exact(Qs λ_=>(Jj λ_=>(.and λ_=>(.and λ_=>(.ret _)))))
 .exact .of λK hk=>hk.elim
def Jb(f0 f1 f2 f3 f4 f5 f6 f7 f8 f9 f10 f11 f12 f13 f14:Nat):AC:=(.o [.K 3 3 1,.m 4 .fa] [0,3] (.f (.o [.u 12 (.call f0 []),.u 13 (.un .not (.t 12)),.M 14 13,.V 15 14 false 0,.W 16 14 false f1 15,.w 17 14 false (.un .not (.t 16)),.Q 18 14 17,.M 19 18,.T 20 19 false 1 3,.U 21 19 false 1 false 20,.w 22 19 false (.len (.t 21)),.w 23 19 false (.bin .gtr (.t 22) (.i 2)),.Q 24 19 23,.M 25 24,.T 26 25 false 2 3,.U 27 25 false 1 false 26,.w 28 25 false (.len (.t 27)),.w 29 25 false (.bin .gtr (.t 28) (.i 2)),.Q 30 25 29] [0,3,30] (.cond (.t 30) (.seq (.p [.u 31 (.call f0 []),.M 4 31]) .ret) .skip)) [0,3] (.o [.M 33 0,.H 34 f2 33,.M 32 34,.X 35 0 32,.X 36 1 32,.M 5 35,.M 6 36] [0,3,5,6] (.o [.M 38 0,.H 39 f3 38,.M 37 39,.X 40 0 37,.X 41 1 37,.M 7 40,.M 8 41] [0,3,5,6,7,8] (.o [.M 43 0,.L 44 3 3,.D 45 f4 43 44,.M 42 45,.X 46 0 42,.X 47 1 42,.M 9 46,.M 10 47] [0,3,5,6,7,8,9,10] (.f (.o [.M 48 0,.H 49 f5 48,.M 11 49] [0,3,5,6,7,8,9,10,11] (.o [.M 50 11,.I 51 .neq 50 0] [0,3,5,6,7,8,9,10,11,51] (.cond (.t 51) (.seq (.p [.M 52 6,.H 53 f6 52,.M 54 11,.B 55 .eql 53 54,.M 56 55,.V 57 56 true 8,.W 58 56 true f6 57,.V 59 56 true 11,.w 60 56 true (.bin .eql (.t 58) (.t 59)),.P 61 56 60,.M 62 61,.V 63 62 true 10,.W 64 62 true f6 63,.V 65 62 true 11,.w 66 62 true (.bin .eql (.t 64) (.t 65)),.P 67 62 66,.M 68 67,.V 69 68 true 5,.w 70 68 true (.len (.t 69)),.V 71 68 true 7,.w 72 68 true (.len (.t 71)),.w 73 68 true (.bin .add (.t 70) (.t 72)),.V 74 68 true 9,.w 75 68 true (.len (.t 74)),.w 76 68 true (.bin .add (.t 73) (.t 75)),.w 77 68 true (.bin .eql (.t 76) (.i 0)),.P 78 68 77,.M 4 78]) .ret) .skip))) [0,3,5,6,7,8,9,10] (.f (.o [.M 79 6,.R 80 79,.M 81 80,.V 82 81 false 8,.w 83 81 false (.binn .neq (.t 82) (.c (.one (.lit .nilIface)))),.Q 84 81 83,.M 85 84,.V 86 85 false 5,.V 87 85 false 0,.W 88 85 false f7 87,.W 89 85 false f8 88,.Y 90 85 false f9 86 89,.w 91 85 false (.un .not (.t 90)),.Q 92 85 91,.M 93 92,.V 94 93 false 7,.V 95 93 false 0,.W 96 93 false f10 95,.W 97 93 false f7 96,.W 98 93 false f8 97,.Y 99 93 false f9 94 98,.w 100 93 false (.un .not (.t 99)),.Q 101 93 100] [0,3,9,10,101] (.cond (.t 101) (.seq (.p [.m 4 .fa]) .ret) .skip)) [0,3,9,10] (.f (.o [.L 102 3 3,.H 103 f11 102,.u 104 (.un .not (.t 103))] [0,3,9,10,104] (.cond (.t 104) (.seq (.p [.M 105 10,.u 106 (.call f12 [(.t 105),(.i 2)]),.M 107 106,.V 108 107 true 9,.w 109 107 true (.len (.t 108)),.w 110 107 true (.bin .eql (.t 109) (.i 0)),.P 111 107 110,.M 4 111]) .ret) .skip)) [0,3,9,10] (.seq (.p [.M 112 10,.u 113 (.binn .eql (.t 112) (.c (.one (.lit .nilIface)))),.M 114 113,.V 115 114 true 9,.V 116 114 true 0,.U 117 114 true 3 true 3,.Y 118 114 true f13 116 117,.Y 119 114 true f14 115 118,.P 120 114 119,.M 4 120]) .ret)))))))))
set_option maxHeartbeats 0 in
theorem yU(hΓ:Xa P Γ){f fw fs fc fe fa f4 fn fd fl ft fi fv fz fr fo tE:Nat}(hw:Γ fw=.dat true zE)(hs:Γ fs=.dat true Zx)(hC:Γ fc=.dat false (XI tE))(he:Γ fe=.dat false (jL tE))(ha:Γ fa=.dat false (kN tE))(h4:Γ f4=.dat true UC)(hn:Γ fn=.dat true (QI tE))(hd:Γ fd=.dat false qI)(hl:Γ fl=.dat false ZD)(ht:Γ ft=.dat false Yx)(hi:Γ fi=.dat false jF)(hv:Γ fv=.dat true qf)(hz:Γ fz=.dat true (van tE))(ho:Γ fo=.dat false QM)(hr:Γ fr=.dat true qE)(hc:check P f=some (121,(Jb fw fs fc fe fa f4 fn fd fl ft fi fv fz fo fr).strip,[.tmp 4])):ua P f (.dat true Qo):=by
 refine ka hc Jaa hΓ (λargs K hcl hfi hG=>?_);match args,hG with
 | [a,b],hG=>
  obtain⟨l,rfl,hwl,x,rfl,hwx,hok,hx,hK⟩:=hG;refine⟨by simp,?_⟩
  have ok1:=Uh hok (by decide:1048576<=4294967296)
  cases hsl:(decide (l.length<=20) && l.all sP) with
  | false=>
   simp only [go_sem,Jb,hw,hs,hsl,rA];repeat first | refine Wk ?_ | intro _
   exact hK
  | true=>
  have ln:∀n:Nat,(2<(n:Int))=(2<n):=λn=>propext ⟨λh=>by omega,λh=>by omega⟩
  have xl:=hx;unfold rl at xl;obtain⟨xl1,xl2⟩:=Nat.max_le.1 xl;by_cases g1:2<x.2.1.length
  .have g1':=decide_eq_true g1;simp only [go_sem,Jb,hw,hs,hsl,rA,JQ,YQ,ln,g1'];repeat first | refine Wk ?_ | intro _
   exact hK
  by_cases g2:2<x.2.2.length
  .have g1':=decide_eq_false g1;have g2':=decide_eq_true g2;simp only [go_sem,Jb,hw,hs,hsl,rA,JQ,YQ,ln,g1',g2'];repeat first | refine Wk ?_ | intro _
   exact hK
  have g1':=decide_eq_false g1;have g2':=decide_eq_false g2;have hsl2:=hsl;simp only [Bool.and_eq_true,decide_eq_true_eq]at hsl2;have o2l:=wbp hwl hsl2.2;have ok2:=Uh o2l (by decide:2<=1000)
  have ok3:=Uh o2l (by decide:2<=100000000)
  have ok9:=Uh o2l (by decide:2<=90)
  have lx:rl x<=10000:=Nat.le_trans (Nat.max_le.2 ⟨Nat.le_of_not_lt g1,Nat.le_of_not_lt g2⟩) (by decide)
  have e0:=Qc tE;by_cases f0:Vd l=0
  case neg=>
   have es:=Zd tE f0;have f0i:¬((Vd l:Nat):Int)=0:=by omega
   have f0d:=decide_eq_false f0;have ea:=UbY (x:=x) f0;simp only [go_sem,Jb,hw,hs,hsl,rA,JQ,YQ,ln,g1',g2',hC,he,ha,h4,hn,wG f0,f0,f0i,f0d,ea,Int.add_zero,Int.reduceLE,Int.reduceNeg,decide_true,List.map_nil,List.length_nil,ubA];repeat first | refine Wk ?_ | intro _
   exact hK
  obtain⟨pb,_⟩:=VI ok2 f0;have okI:=vaT ok9;have f1:=uax f0;obtain⟨pb2,_⟩:=VI okI f1;have dl:=Ja0 ok2 f0;have dlI:=Ja0 okI f1;obtain⟨ld,zd⟩:=kav ok2 f0;obtain⟨ldI,zdI⟩:=kav okI f1;have eC:cnL l=bcL (invL l):=rfl;obtain⟨I,hI⟩:∃I,invL l=I:=⟨_,rfl⟩;rw [hI]at okI f1 pb2 dlI ldI zdI eC;have c1:=vG (p:=bcL l) (N:=1000000000) (Nat.le_trans pb.size (by decide))
  have c2:=vG (p:=bcL I) (N:=1000000000) (Nat.le_trans pb2.size (by decide))
  have w1:=uy pb.canon.ins;have w2:=uy pb2.canon.ins;have n1:(mcs (bcL l)).length<=1000000:=Nat.le_trans (Nat.le_of_eq (List.length_map _)) (Nat.le_trans (VF pb.canon) (by decide))
  have n2:(mcs (bcL I)).length<=1000000:=Nat.le_trans (Nat.le_of_eq (List.length_map _)) (Nat.le_trans (VF pb2.canon) (by decide))
  have q1:∀t∈mcs (bcL l),rl t.2.2<=4294967296:=λt ht=>Nat.le_trans (c1 t ht) (by decide)
  have q2:∀t∈mcs (bcL I),rl t.2.2<=4294967296:=λt ht=>Nat.le_trans (c2 t ht) (by decide)
  have wI:∀p∈I,WLP p:=λp hp=>(okI p hp).1;have z1:=Nat.le_trans zd (by decide:1200000000<=4294967296)
  have z2:=Nat.le_trans zdI (by decide:1200000000<=4294967296)
  cases hvx:vldR x with
  | false=>
   have ea:=YbV f0 hvx;have es:=Zd tE (by decide:(2:Nat)≠0)
   simp only [go_sem,Jb,hw,hs,hsl,rA,JQ,YQ,ln,g1',g2',hC,he,ha,h4,hn,hd,hl,ht,hi,hv,hz,kb9,f0,yC,ea,e0,eC,hI,dl,dlI,hvx,ubA];repeat first | refine Wk ?_ | intro _
   exact hK
  | true=>
   have ea:=zbP f0 hvx;have zx:=Vg hwx;have fxb:∀k,rz (fxB false (rv x) k (bcL l))<=100000000:=λk=>by
    have u1:=VbL false (rv x) k pb.canon.ins;have u2:=VF pb.canon;have u3:=pb.size;have u4:=Nat.mul_le_mul u2 (show 24*(rz (rv x)+2)+8<=24*10002+8 by omega)
    omega
   have oA:okRs 4294967296 ((aloL l (rv x)).map rcan):=λy hy=>by
    unfold aloL at hy;simp only [List.map_cons,List.map_nil,List.mem_cons,List.not_mem_nil,or_false]at hy;rcases hy with rfl | rfl | rfl | rfl <;> exact⟨Zp _,Nat.le_trans (fxb _) (by decide)⟩
   have wA:∀y∈(aloL l (rv x)).map rcan,WLR y:=λy hy=>(oA y hy).1;obtain⟨A,hA⟩:∃A,(aloL l (rv x)).map rcan=A:=⟨_,rfl⟩;rw [hA]at oA wA;simp only [go_sem,Jb,hw,hs,hsl,rA,JQ,YQ,ln,g1',g2',hC,he,ha,h4,hn,hd,hl,ht,hi,hv,hz,hr,ho,f0,yC,ea,e0,eC,hI,dl,dlI,hvx,ubA,hA];repeat first | refine Wk ?_ | intro _
   exact hK
end Go.Abs
end
section
namespace Go.Abs
open Go.Num
variable {P:Program} {Γ:Nat->Spec}
def Wv:AC:=(.o [.m 2 (.c (.one .emp))] [0] (.o [.M 4 0,.Z 5 4,.M 3 5] [0,3] (.f (.block 0 (.loop (.f (.o [.M 6 3,.I 7 .gtr 6 0,.M 8 7,.V 9 8 true 0,.V 10 8 true 3,.w 11 8 true (.bin .sub (.t 10) (.i 1)),.w 12 8 true (.idx 1 (.t 9) (.t 11)),.U 13 8 true 1 false 12,.w 14 8 true (.bin .eql (.t 13) (.c (.one (.lit (.int .u32 0))))),.P 15 8 14] [0,3,15] (.cond (.t 15) .skip (.exit 0))) [0,3] (.block 1 (.p [.M 16 3,.I 17 .sub 16 1,.M 3 17]))))) [0,3] (.f (.o [.M 18 3,.I 19 .eql 18 0] [0,3,19] (.cond (.t 19) (.seq (.p [.m 2 (.c (.one .emp))]) .ret) .skip)) [0,3] (.seq (.p [.m 20 (.c (.one .emp)),.M 21 0,.M 22 3,.u 23 (.sl 1 (.t 21) none (some (.t 22))),.u 24 (.app0 1 (.t 20) (.t 23)),.M 2 24]) .ret)))))
def Jo:AC:=(.o [.m 4 (.c (.one (.lit (.int .u64 0))))] [0,1] (.f (.o [.M 5 1,.M 6 0,.Z 7 6,.B 8 .lss 5 7] [0,1,8] (.cond (.t 8) (.seq (.p [.M 9 0,.M 10 1,.J 11 1 9 10,.F 12 1 11,.u 13 (.conv .u64 (.t 12)),.M 4 13]) .ret) .skip)) [] (.seq (.p [.m 4 (.c (.one (.lit (.int .u64 0))))]) .ret)))
def Jv(f0 f1:Nat):AC:=(.o [.m 4 (.c (.one .emp))] [0,1] (.o [.M 8 0,.Z 9 8,.M 10 1,.Z 11 10,.u 12 (.max [(.t 9),(.t 11)]),.I 13 .add 12 1,.u 14 (.mk 1 [(.lit (.int .u32 0))] (.t 13) (.t 13)),.M 5 14] [0,1,5] (.o [.m 6 (.c (.one (.lit (.int .u64 0))))] [0,1,5,6] (.f (.o [.M 15 5,.Z 16 15,.N 17 0] [0,1,5,6,16,17] (.block 0 (.loop (.o [.B 18 .lss 17 16] [0,1,5,6,16,17,18] (.f (.cond (.t 18) .skip (.exit 0)) [0,1,5,6,16,17] (.f (.block 1 (.o [.M 19 17,.M 7 19] [0,1,5,6,7,16,17] (.o [.M 20 6,.M 21 0,.M 22 7,.D 23 f0 21 22,.M 24 1,.M 25 7,.D 26 f0 24 25,.B 27 .add 23 26,.B 28 .add 20 27,.M 6 28] [0,1,5,6,7,16,17] (.o [.M 29 5,.M 30 7,.M 31 6,.u 32 (.conv .u32 (.t 31)),.J 33 1 29 30,.S 1 33 32] [0,1,5,6,16,17] (.p [.M 34 6,.u 35 (.bin .shr (.t 34) (.c (.one (.lit (.int .u64 32))))),.M 6 35]))))) [0,1,5,6,16,17] (.p [.I 36 .add 17 1,.M 17 36]))))))) [5] (.seq (.p [.M 37 5,.H 38 f1 37,.M 4 38]) .ret)))))
theorem WaR(hΓ:Xa P Γ){f:Nat}(hc:check P f=some (25,Wv.strip,[.tmp 2])):ua P f (.dat false qx):=by
 refine ka hc xa9 hΓ (λargs K hcl hfi hG=>?_);match args,hG with
 | [a],hG=>
  obtain⟨l,rfl,hl,hlen,hK⟩:=hG;refine⟨by simp,?_⟩
  simp only [go_sem,Wv];intro hmax;refine Ya (λn:Nat=>⟨mkV [(0,wsA l),(3,.one (.lit (.int .i64 n)))],mkH []⟩) (λn=>n<=l.length/\val (l.take n)=val l) id l.length ?_ ?_ ?_
  .exact Qa (by simp [okS,okV,okC,okL,okH,okB,okE,ja,Ja,qa,Va,wsA,ws]) trivial
  .simp
  .rintro n ⟨hn,ht⟩;simp only [go_sem];refine⟨λh=>⟨by omega,by omega,by omega,λh0=>⟨by omega,n-1,Qa (by simp [okS,okV,okC,okL,okH,okB,okE,ja,Ja,qa,Va,wsA,ws];omega) trivial,⟨by omega,?_⟩,?_⟩,λh0=>⟨λh1=>by omega,λ_=>⟨by omega,by simp;omega,?_⟩⟩⟩,λh=>⟨λh1=>?_,λh1=>by omega⟩⟩
   .rw [show((n:Int)-1).toNat=n-1 by omega]at h0
    have:=uc l (n-1);rw [show n-1+1=n by omega,h0,Nat.mul_zero,Nat.add_zero]at this
    rw [<-this];exact ht
   .simp only [id];omega
   .rw [show((n:Int)-1).toNat=n-1 by omega]at h0
    have:=Zf (VB hl n) (QT h hn h0);rw [<-this,ht];exact hK
   .subst h1;have:val l=0:=by rw [<-ht];simp [val]
    rw [this,qc]at hK;exact hK
theorem V3(hΓ:Xa P Γ){f:Nat}(hc:check P f=some (14,Jo.strip,[.tmp 4])):ua P f (.dat true Qq):=by
 refine ka hc Uba hΓ (λargs K hcl hfi hG=>?_);match args,hG with
 | [a,b],hG=>
  obtain⟨l,rfl,hl,hG⟩:=hG;obtain⟨k,i,rfl,rfl,hi,hK⟩:=Yb hG;refine⟨by simp,?_⟩
  simp only [go_sem,Jo];intro hmax;refine⟨λh=>⟨hi,by omega,?_⟩,λh=>?_⟩
  .have:=Jc hl i.toNat;rw [Nat.mod_eq_of_lt (by omega)];exact hK
  .rw [List.getD_eq_getElem?_getD,List.getElem?_eq_none (by omega)]at hK;exact hK
theorem kaM(hΓ:Xa P Γ){f fw ft:Nat}(hw:Γ fw=.dat true Qq)(ht:Γ ft=.dat false qx)(hc:check P f=some (39,(Jv fw ft).strip,[.tmp 4])):ua P f (.dat false qy):=by
 refine ka hc Jam hΓ (λargs K hcl hfi hG=>?_);match args,hG with
 | [a,b],hG=>
  obtain⟨x,rfl,hx,y,rfl,hy,hxl,hyl,hK⟩:=hG;refine⟨by simp,?_⟩
  simp only [go_sem,Jv,hw,ht];intro h1 h2;refine⟨by omega,by omega,λhN=>?_⟩
  generalize hNN:max x.length y.length+1=N at hN;refine Ya (λp:List Nat×Nat=>⟨mkV [(0,wsA x),(1,wsA y),(5,.one (.own 14 1 1 0 N)),(6,.one (.lit (.int .u64 p.2))),(16,.one (.lit (.int .i64 N))),(17,.one (.lit (.int .i64 p.1.length)))],mkH [(14,⟨1,some ⟨(p.1++List.replicate (N-p.1.length) 0).map wc,1,true⟩⟩)]⟩)
   (λp=>p.1.length<=N/\WL p.1/\p.2<=1/\val p.1+4294967296 ^ p.1.length*p.2=val (x.take p.1.length)+val (y.take p.1.length)) (λp=>N-p.1.length) ([],0) ?_ ?_ ?_
  .exact Qa (by simp [okS,okV,okC,okL,okH,okB,okE,ja,Ja,qa,Va,wsA,ws]) (qi (by simp))
  .simp [Wd,val]
  .rintro⟨o,c⟩ ⟨hoN,ho,hc1,hval⟩;simp only at hoN ho hc1 hval;have hlen:(o++List.replicate (N-o.length) 0).length=N:=by simp;omega
   simp only [go_sem,hw,ht,hlen];refine⟨λhlt=>⟨hx,hy,hlt,hlt,by omega,by omega,?_⟩,λhge=>?_⟩
   .have g1:=Jc hx o.length;have g2:=Jc hy o.length;rw [Nat.mod_eq_of_lt (show x.getD o.length 0+y.getD o.length 0<18446744073709551616 by omega),Nat.mod_eq_of_lt (show c+(x.getD o.length 0+y.getD o.length 0)<18446744073709551616 by omega)]
    generalize hs:c+(x.getD o.length 0+y.getD o.length 0)=s;refine⟨(o++[s % 4294967296],s / 4294967296),Qa (by simp [okS,okV,okC,okL,okH,okB,okE,ja,Ja,qa,Va,wsA,ws]) (qi ?_),⟨by simp;omega,uf.2 ⟨ho,kd.2 ⟨Nat.mod_lt _ (by omega),Wd⟩⟩,by simp only;omega,?_⟩,by simp;omega⟩
    .rw [show N-o.length=N-(o.length+1)+1 by omega,Uaq];simp
    .simp only [List.length_append,List.length_cons,List.length_nil,Nat.zero_add,uc,vd,Yk,Jq,Nat.mul_zero,Nat.add_zero,Nat.pow_succ];rw [Nat.mul_assoc,Nat.add_assoc,<-Nat.mul_add,Nat.mod_add_div,<-hs,Nat.mul_add,<-Nat.add_assoc,hval,Nat.mul_add];omega
   .have e:o.length=N:=by omega
    simp only [e,Nat.sub_self,List.replicate_zero,List.append_nil,Nat.le_refl,if_true,uK];have hv:val o=val x+val y:=by
     rw [e,kk (by omega),kk (by omega)]at hval
     exact Vaw hx hy (by omega) (by omega) (by omega) hval
    refine⟨ho,by omega,?_⟩
    rw [hv];exact hK
end Go.Abs
end
section
namespace Go.Abs
open Go.Num
variable {P:Program} {Γ:Nat->Spec}
def jv(f0 f1:Nat):AC:=(.o [.m 4 (.c (.one .emp))] [0,1] (.o [.M 9 0,.Z 10 9,.u 11 (.mk 1 [(.lit (.int .u32 0))] (.t 10) (.t 10)),.M 5 11] [0,1,5] (.o [.m 6 (.c (.one (.lit (.int .u64 0))))] [0,1,5,6] (.f (.o [.M 12 5,.Z 13 12,.N 14 0] [0,1,5,6,13,14] (.block 0 (.loop (.o [.B 15 .lss 14 13] [0,1,5,6,13,14,15] (.f (.cond (.t 15) .skip (.exit 0)) [0,1,5,6,13,14] (.f (.block 1 (.o [.M 16 14,.M 7 16] [0,1,5,6,7,13,14] (.f (.y [.M 17 0,.M 18 7,.J 19 1 17 18,.F 20 1 19,.u 21 (.conv .u64 (.t 20)),.M 22 1,.M 23 7,.D 24 f0 22 23,.B 25 .sub 21 24,.M 26 6,.B 27 .sub 25 26,.M 8 27]) [0,1,5,7,8,13,14] (.o [.M 28 5,.M 29 7,.M 30 8,.u 31 (.conv .u32 (.t 30)),.J 32 1 28 29,.S 1 32 31] [0,1,5,8,13,14] (.p [.M 33 8,.u 34 (.bin .shr (.t 33) (.c (.one (.lit (.int .u64 63))))),.M 6 34]))))) [0,1,5,6,13,14] (.p [.I 35 .add 14 1,.M 14 35]))))))) [5] (.seq (.p [.M 36 5,.H 37 f1 36,.M 4 37]) .ret)))))
def xo:AC:=(.o [.N 4 0] [0,1] (.f (.o [.M 6 0,.Z 7 6,.M 8 1,.Z 9 8,.B 10 .neq 7 9] [0,1,10] (.cond (.t 10) (.f (.o [.M 11 0,.Z 12 11,.M 13 1,.Z 14 13,.B 15 .lss 12 14] [15] (.cond (.t 15) (.seq (.p [.N 4 (-1)]) .ret) .skip)) [] (.seq (.p [.N 4 1]) .ret)) .skip)) [0,1] (.f (.o [.M 16 0,.Z 17 16,.I 18 .sub 17 1,.M 5 18] [0,1,5] (.block 0 (.loop (.f (.o [.M 19 5,.I 20 .geq 19 0] [0,1,5,20] (.cond (.t 20) .skip (.exit 0))) [0,1,5] (.f (.block 1 (.f (.y [.M 23 0,.M 24 5,.J 25 1 23 24,.F 26 1 25,.M 27 1,.M 28 5,.J 29 1 27 28,.F 30 1 29,.B 31 .neq 26 30]) [0,1,5,31] (.cond (.t 31) (.f (.f (.y [.M 32 0,.M 33 5,.J 34 1 32 33,.F 35 1 34,.M 36 1,.M 37 5,.J 38 1 36 37,.F 39 1 38,.B 40 .lss 35 39]) [40] (.cond (.t 40) (.seq (.p [.N 4 (-1)]) .ret) .skip)) [] (.seq (.p [.N 4 1]) .ret)) .skip))) [0,1,5] (.p [.M 21 5,.I 22 .sub 21 1,.M 5 22])))))) [] (.seq (.p [.N 4 0]) .ret))))
def Jt(f0:Nat):AC:=(.o [.m 4 (.c (.one .emp)),.m 5 (.c (.one (.lit (.int .u32 0))))] [0,1] (.o [.M 9 0,.Z 10 9,.u 11 (.mk 1 [(.lit (.int .u32 0))] (.t 10) (.t 10)),.M 6 11] [0,1,6] (.o [.m 7 (.c (.one (.lit (.int .u64 0))))] [0,1,6,7] (.f (.o [.M 12 0,.Z 13 12,.I 14 .sub 13 1,.M 8 14] [0,1,6,7,8] (.block 0 (.loop (.f (.o [.M 15 8,.I 16 .geq 15 0] [0,1,6,7,8,16] (.cond (.t 16) .skip (.exit 0))) [0,1,6,7,8] (.f (.block 1 (.o [.M 19 7,.u 20 (.bin .shl (.t 19) (.c (.one (.lit (.int .u64 32))))),.M 21 0,.M 22 8,.J 23 1 21 22,.F 24 1 23,.u 25 (.conv .u64 (.t 24)),.B 26 .or 20 25,.M 7 26] [0,1,6,7,8] (.o [.M 27 6,.M 28 8,.M 29 7,.M 30 1,.u 31 (.conv .u64 (.t 30)),.B 32 .quo 29 31,.u 33 (.conv .u32 (.t 32)),.J 34 1 27 28,.S 1 34 33] [0,1,6,7,8] (.p [.M 35 7,.M 36 1,.u 37 (.conv .u64 (.t 36)),.B 38 .rem 35 37,.M 7 38])))) [0,1,6,7,8] (.p [.M 17 8,.I 18 .sub 17 1,.M 8 18])))))) [6,7] (.seq (.p [.M 39 6,.H 40 f0 39,.M 41 7,.u 42 (.conv .u32 (.t 41)),.M 4 40,.M 5 42]) .ret)))))
theorem jaS(hΓ:Xa P Γ){f fw ft:Nat}(hw:Γ fw=.dat true Qq)(ht:Γ ft=.dat false qx)(hc:check P f=some (38,(jv fw ft).strip,[.tmp 4])):ua P f (.dat false uA):=by
 refine ka hc Wad hΓ (λargs K hcl hfi hG=>?_);match args,hG with
 | [a,b],hG=>
  obtain⟨x,rfl,hx,y,rfl,hy,hxl,hle,hK⟩:=hG;refine⟨by simp,?_⟩
  simp only [go_sem,jv,hw,ht];intro h1;refine⟨by omega,λ_=>?_⟩
  generalize hN:x.length=N at h1 hxl;refine Ya (λp:List Nat×Nat=>⟨mkV [(0,wsA x),(1,wsA y),(5,.one (.own 11 1 1 0 N)),(6,.one (.lit (.int .u64 p.2))),(13,.one (.lit (.int .i64 N))),(14,.one (.lit (.int .i64 p.1.length)))],mkH [(11,⟨1,some ⟨(p.1++List.replicate (N-p.1.length) 0).map wc,1,true⟩⟩)]⟩)
   (λp=>p.1.length<=N/\WL p.1/\p.2<=1/\val p.1+val (y.take p.1.length)=val (x.take p.1.length)+4294967296 ^ p.1.length*p.2) (λp=>N-p.1.length) ([],0) ?_ ?_ ?_
  .exact Qa (by simp [okS,okV,okC,okL,okH,okB,okE,ja,Ja,qa,Va,wsA,ws]) (qi (by simp))
  .simp [Wd,val]
  .rintro⟨o,c⟩ ⟨hoN,ho,hc1,hval⟩;simp only at hoN ho hc1 hval;have hlen:(o++List.replicate (N-o.length) 0).length=N:=by simp;omega
   simp only [go_sem,hw,ht,hlen];refine⟨λhlt=>⟨by omega,hy,hlt,hlt,by omega,by omega,?_⟩,λhge=>?_⟩
   .have g1:=Jc hx o.length;have g2:=Jc hy o.length;rw [Nat.mod_eq_of_lt (show x.getD o.length 0<18446744073709551616 by omega)]
    obtain⟨s1,s2⟩:=ZaF g1 g2 hc1;generalize sub64 (sub64 (x.getD o.length 0) (y.getD o.length 0)) c=s at s1 s2;refine⟨(o++[s % 4294967296],s / 9223372036854775808),Qa (by simp [okS,okV,okC,okL,okH,okB,okE,ja,Ja,qa,Va,wsA,ws]) (qi ?_),⟨by simp;omega,uf.2 ⟨ho,kd.2 ⟨Nat.mod_lt _ (by omega),Wd⟩⟩,s2,?_⟩,by simp;omega⟩
    .rw [show N-o.length=N-(o.length+1)+1 by omega,Uaq];simp
    .simp only [List.length_append,List.length_cons,List.length_nil,Nat.zero_add,uc,vd,Yk,Jq,Nat.mul_zero,Nat.add_zero,Nat.pow_succ];exact zO hval s1
   .have e:o.length=N:=by omega
    have hv:=ZO ho hx (by omega) hle hval
    simp only [e,Nat.sub_self,List.replicate_zero,List.append_nil];refine⟨ho,by omega,?_⟩
    rw [hv];exact hK
theorem J8(hΓ:Xa P Γ){f:Nat}(hc:check P f=some (41,xo.strip,[.tmp 4])):ua P f (.dat false Wm):=by
 refine ka hc Uah hΓ (λargs K hcl hfi hG=>?_);match args,hG with
 | [a,b],hG=>
  obtain⟨x,rfl,hx,y,rfl,hy,hzx,hzy,hK⟩:=hG;refine⟨by simp,?_⟩
  simp only [go_sem,xo];intro h1 h2;refine⟨λhl _=>⟨by omega,?_⟩,λhne _ _=>⟨λhlt=>?_,λhge=>?_⟩⟩
  rotate_left
  .rw [Q6 (XT hx hzy hlt)]at hK;exact hK
  .rw [vau (XT hy hzx (by omega))]at hK;exact hK
  refine Ya (λn:Nat=>⟨mkV [(0,wsA x),(1,wsA y),(5,.one (.lit (.int .i64 ((n:Int)-1))))],mkH []⟩) (λn=>n<=x.length/\x.drop n=y.drop n) id x.length ?_ ?_ ?_
  .exact Qa (by simp [okS,okV,okC,okL,okH,okB,okE,ja,Ja,qa,Va,wsA,ws]) trivial
  .simp [hl]
  .rintro n ⟨hn,hd⟩;simp only [go_sem];refine⟨λh=>⟨by omega,by omega,by omega,by omega,λhe=>⟨by omega,n-1,Qa (by simp [okS,okV,okC,okL,okH,okB,okE,ja,Ja,qa,Va,wsA,ws];omega) trivial,⟨by omega,?_⟩,by simp only [id];omega⟩,λhne=>?_⟩,λh=>?_⟩
   .rw [show((n:Int)-1).toNat=n-1 by omega]at he
    rw [List.getD_eq_getElem?_getD,List.getD_eq_getElem?_getD,List.getElem?_eq_getElem (by omega),List.getElem?_eq_getElem (by omega)]at he
    have e1:=List.getElem_cons_drop (as:=x) (i:=n-1) (by omega)
    have e2:=List.getElem_cons_drop (as:=y) (i:=n-1) (by omega)
    rw [show n-1+1=n by omega]at e1 e2
    rw [<-e1,<-e2,hd];simp only [Option.getD_some]at he;rw [he]
   .rw [show((n:Int)-1).toNat=n-1 by omega]at hne ⊢
    refine⟨by omega,by omega,by omega,by omega,λhlt=>?_,λhge=>?_⟩
    .rw [Q6 (Wbu (i:=n-1) hx hl (by omega) (by rw [show n-1+1=n by omega];exact hd) hlt)]at hK;exact hK
    .rw [vau (Wbu (i:=n-1) hy hl.symm (by omega) (by rw [show n-1+1=n by omega];exact hd.symm) (by omega))]at hK;exact hK
   .have:n=0:=by omega
    subst this;simp only [List.drop_zero]at hd;rw [hd,JaW]at hK;exact hK
theorem yar(hΓ:Xa P Γ){f ft:Nat}(ht:Γ ft=.dat false qx)(hc:check P f=some (43,(Jt ft).strip,[.tmp 4,.tmp 5])):ua P f (.dat false vC):=by
 refine ka hc ZaN hΓ (λargs K hcl hfi hG=>?_);match args,hG with
 | [a,b],hG=>
  obtain⟨x,rfl,hx,hG⟩:=hG;obtain⟨k,m,rfl,rfl,hm,hmB,hxl,hK⟩:=Yb hG;obtain⟨m,rfl⟩:∃n:Nat,m=n:=⟨m.toNat,by omega⟩
  simp only [Int.toNat_natCast]at hK;refine⟨by simp,?_⟩
  simp only [go_sem,Jt,ht];intro h1;refine⟨hxl,λ_=>⟨by omega,?_⟩⟩
  refine Ya (λp:List Nat×Nat=>⟨mkV [(0,wsA x),(1,.one (.lit (.int .u32 m))),(6,.one (.own 11 1 1 0 x.length)),(7,.one (.lit (.int .u64 p.2))),(8,.one (.lit (.int .i64 ((x.length:Int)-p.1.length-1))))],mkH [(11,⟨1,some ⟨(List.replicate (x.length-p.1.length) 0++p.1).map wc,1,true⟩⟩)]⟩)
   (λp=>p.1.length<=x.length/\WL p.1/\p.2<m/\val p.1*m+p.2=val (x.drop (x.length-p.1.length))) (λp=>x.length-p.1.length) ([],0) ?_ ?_ ?_
  .exact Qa (by simp [okS,okV,okC,okL,okH,okB,okE,ja,Ja,qa,Va,wsA,ws]) (qi (by simp))
  .simp [Wd,val];omega
  .rintro⟨q,r⟩ ⟨hq,hqw,hr,hval⟩;simp only at hq hqw hr hval;have hlen:(List.replicate (x.length-q.length) 0++q).length=x.length:=by simp;omega
   simp only [go_sem,ht,hlen];refine⟨λh=>?_,λh=>?_⟩
   .obtain⟨n,hn⟩:∃n,n=x.length-q.length:=⟨_,rfl⟩;have hn0:0<n:=by omega
    have hi:((x.length:Int)-q.length-1).toNat=n-1:=by omega
    have g1:=Jc hx (n-1);have hd:=QS x hn0 (by omega)
    obtain⟨s1,s2⟩:=wbq (by omega) hr g1
    have s3:=zbl (B:=4294967296) (a:=x.getD (n-1) 0) (by omega) (hn▸hval)
    have e1:r*4294967296 % 18446744073709551616=r*4294967296:=by omega
    have e2:x.getD (n-1) 0 % 18446744073709551616=x.getD (n-1) 0:=by omega
    have e3:m % 18446744073709551616=m:=by omega
    rw [hi,<-hn,e1,e2,e3,or32 _ _ g1];generalize hs:r*4294967296+x.getD (n-1) 0=s at s1 s2 s3;rw [Nat.mod_eq_of_lt (show s / m<18446744073709551616 by omega),Nat.mod_eq_of_lt s1]
    have hm0:s % m<m:=Nat.mod_lt _ (by omega)
    refine⟨⟨rfl,by omega⟩,by omega,by omega,⟨rfl,by omega,by omega⟩,by omega,⟨by omega,by omega⟩,by omega,by omega,by omega,(s / m::q,s % m),Qa (by simp [okS,okV,okC,okL,okH,okB,okE,ja,Ja,qa,Va,wsA,ws];omega) (qi ?_),⟨by simp;omega,kd.2 ⟨s1,hqw⟩,hm0,?_⟩,by simp;omega⟩
    .simp only [List.length_cons];rw [vw q _ hn0,show x.length-(q.length+1)=n-1 by omega]
    .rw [Yk,List.length_cons,show x.length-(q.length+1)=n-1 by omega,hd];exact s3
   .have e:x.length-q.length=0:=by omega
    simp only [e,List.replicate_zero,List.nil_append,List.drop_zero]at hval ⊢;have h1:=Nat.div_mod_unique (show 0<m by omega) (a:=val x) (c:=r) (d:=val q)
    obtain⟨h2,h3⟩:=h1.2 ⟨by rw [<-hval,Nat.mul_comm m,Nat.add_comm],hr⟩
    rw [h2,h3]at hK;refine⟨hqw,by omega,?_⟩
    rw [Nat.mod_eq_of_lt (by omega)];exact hK
end Go.Abs
end
section
namespace Go.Abs
open Go.Num
variable {P:Program} {Γ:Nat->Spec}
def ZB:AC:=(.o [.m 4 (.c (.one .emp))] [0,1] (.o [.M 9 0,.Z 10 9,.I 11 .add 10 1,.u 12 (.mk 1 [(.lit (.int .u32 0))] (.t 11) (.t 11)),.M 5 12] [0,1,5] (.f (.o [.M 13 0,.Z 14 13,.N 15 0] [1,5,13,14,15] (.block 0 (.loop (.o [.B 16 .lss 15 14] [1,5,13,14,15,16] (.f (.cond (.t 16) .skip (.exit 0)) [1,5,13,14,15] (.f (.block 1 (.o [.M 17 15,.J 18 1 13 15,.F 19 1 18,.M 6 17,.M 7 19] [1,5,6,7,13,14,15] (.o [.M 20 7,.u 21 (.conv .u64 (.t 20)),.M 22 1,.B 23 .shl 21 22,.M 8 23] [1,5,6,8,13,14,15] (.o [.M 24 5,.M 25 6,.J 26 1 24 25,.F 27 1 26,.M 28 8,.u 29 (.conv .u32 (.t 28)),.B 30 .or 27 29,.J 31 1 24 25,.S 1 31 30] [1,5,6,8,13,14,15] (.p [.M 32 5,.M 33 6,.I 34 .add 33 1,.M 35 8,.u 36 (.bin .shr (.t 35) (.c (.one (.lit (.int .u64 32))))),.u 37 (.conv .u32 (.t 36)),.J 38 1 32 34,.S 1 38 37]))))) [1,5,13,14,15] (.p [.I 39 .add 15 1,.M 15 39]))))))) [5] (.seq (.p [.M 40 5,.M 4 40]) .ret))))
def Uv(f0 f1:Nat):AC:=(.o [.m 4 (.c (.one .emp))] [0,1] (.o [.M 7 0,.Z 8 7,.u 9 (.mk 1 [(.lit (.int .u32 0))] (.t 8) (.t 8)),.M 5 9] [0,1,5] (.f (.o [.M 10 0,.Z 11 10,.N 12 0] [0,1,5,11,12] (.block 0 (.loop (.o [.B 13 .lss 12 11] [0,1,5,11,12,13] (.f (.cond (.t 13) .skip (.exit 0)) [0,1,5,11,12] (.f (.block 1 (.o [.M 14 12,.M 6 14] [0,1,5,6,11,12] (.y [.M 15 5,.M 16 6,.M 17 0,.M 18 6,.J 19 1 17 18,.F 20 1 19,.u 21 (.conv .u64 (.t 20)),.M 22 0,.M 23 6,.I 24 .add 23 1,.D 25 f0 22 24,.u 26 (.bin .shl (.t 25) (.c (.one (.lit (.int .u64 32))))),.B 27 .or 21 26,.M 28 1,.B 29 .shr 27 28,.u 30 (.conv .u32 (.t 29)),.J 31 1 15 16,.S 1 31 30]))) [0,1,5,11,12] (.p [.I 32 .add 12 1,.M 12 32]))))))) [5] (.seq (.p [.M 33 5,.H 34 f1 33,.M 4 34]) .ret))))
def Vt(f0:Nat):AC:=(.o [.m 4 (.c (.one .emp))] [0,1] (.o [.M 11 0,.Z 12 11,.M 13 1,.Z 14 13,.B 15 .add 12 14,.u 16 (.mk 1 [(.lit (.int .u32 0))] (.t 15) (.t 15)),.M 5 16] [0,1,5] (.f (.o [.M 17 0,.Z 18 17,.N 19 0] [1,5,17,18,19] (.block 0 (.loop (.o [.B 20 .lss 19 18] [1,5,17,18,19,20] (.f (.cond (.t 20) .skip (.exit 0)) [1,5,17,18,19] (.f (.block 1 (.o [.M 21 19,.J 22 1 17 19,.F 23 1 22,.M 6 21,.M 7 23] [1,5,6,7,17,18,19] (.o [.m 8 (.c (.one (.lit (.int .u64 0))))] [1,5,6,7,8,17,18,19] (.f (.o [.M 24 1,.Z 25 24,.N 26 0] [1,5,6,7,8,17,18,19,24,25,26] (.block 2 (.loop (.o [.B 27 .lss 26 25] [1,5,6,7,8,17,18,19,24,25,26,27] (.f (.cond (.t 27) .skip (.exit 2)) [1,5,6,7,8,17,18,19,24,25,26] (.f (.block 3 (.o [.M 28 26,.J 29 1 24 26,.F 30 1 29,.M 9 28,.M 10 30] [1,5,6,7,8,9,10,17,18,19,24,25,26] (.o [.M 31 8,.M 32 7,.u 33 (.conv .u64 (.t 32)),.M 34 10,.u 35 (.conv .u64 (.t 34)),.B 36 .mul 33 35,.M 37 5,.M 38 6,.M 39 9,.B 40 .add 38 39,.J 41 1 37 40,.F 42 1 41,.u 43 (.conv .u64 (.t 42)),.B 44 .add 36 43,.B 45 .add 31 44,.M 8 45] [1,5,6,7,8,9,17,18,19,24,25,26] (.o [.M 46 5,.M 47 6,.M 48 9,.B 49 .add 47 48,.M 50 8,.u 51 (.conv .u32 (.t 50)),.J 52 1 46 49,.S 1 52 51] [1,5,6,7,8,17,18,19,24,25,26] (.p [.M 53 8,.u 54 (.bin .shr (.t 53) (.c (.one (.lit (.int .u64 32))))),.M 8 54]))))) [1,5,6,7,8,17,18,19,24,25,26] (.p [.I 55 .add 26 1,.M 26 55]))))))) [1,5,6,8,17,18,19] (.p [.M 56 5,.M 57 6,.M 58 1,.Z 59 58,.B 60 .add 57 59,.M 61 8,.u 62 (.conv .u32 (.t 61)),.J 63 1 56 60,.S 1 63 62]))))) [1,5,17,18,19] (.p [.I 64 .add 19 1,.M 19 64]))))))) [5] (.seq (.p [.M 65 5,.H 66 f0 65,.M 4 66]) .ret))))
theorem Vbo(hΓ:Xa P Γ){f:Nat}(hc:check P f=some (41,ZB.strip,[.tmp 4])):ua P f (.fresh 1 up_G):=by
 refine xq hc ybH hΓ (λargs K hcl hfi hG=>?_);match args,hG with
 | [a,b],hG=>
  obtain⟨x,rfl,hx,hG⟩:=hG;obtain⟨k,m,rfl,rfl,hm,hmB,hxl,hK⟩:=Yb hG;obtain⟨m,rfl⟩:∃n:Nat,m=n:=⟨m.toNat,by omega⟩
  simp only [Int.toNat_natCast]at hK;refine⟨by simp,?_⟩
  simp only [go_sem,ZB];intro h1;refine⟨by omega,by omega,λ_=>?_⟩
  refine Ya (λp:List Nat×Nat=>⟨mkV [(1,.one (.lit (.int .i64 m))),(5,.one (.own 12 1 1 0 (x.length+1))),(13,wsA x),(14,.one (.lit (.int .i64 x.length))),(15,.one (.lit (.int .i64 p.1.length)))],mkH [(12,⟨1,some ⟨(p.1++p.2::List.replicate (x.length-p.1.length) 0).map wc,1,true⟩⟩)]⟩)
   (λp=>p.1.length<=x.length/\WL p.1/\p.2<2 ^ m/\val p.1+4294967296 ^ p.1.length*p.2=val (x.take p.1.length)*2 ^ m) (λp=>x.length-p.1.length) ([],0) ?_ ?_ ?_
  .exact Qa (by simp [okS,okV,okC,okL,okH,okB,okE,ja,Ja,qa,Va,wsA,ws]) (qi (by simp [List.replicate_succ]))
  .simp [Wd,val];exact Nat.pow_pos (by omega)
  .rintro⟨o,c⟩ ⟨hoN,ho,hc1,hval⟩;simp only at hoN ho hc1 hval;have hlen:(o++c::List.replicate (x.length-o.length) 0).length=x.length+1:=by simp;omega
   simp only [go_sem,hlen,List.length_set];refine⟨λhlt=>?_,λhge=>?_⟩
   .have g1:=Jc hx o.length;obtain⟨s1,s2,s3,s4⟩:=QbB (by omega) hc1 g1
    have e1:x.getD o.length 0 % 18446744073709551616=x.getD o.length 0:=by omega
    have hp:=Jac (show m<32 by omega)
    rw [wbU,e1,Nat.mod_eq_of_lt s1,s2,QbW];generalize hy:x.getD o.length 0*2 ^ m=y at s1 s2 s3 s4;rw [Nat.mod_eq_of_lt (show y / 4294967296<4294967296 by omega)]
    refine⟨hlt,⟨rfl,by omega⟩,by omega,by omega,⟨rfl,by omega,by omega⟩,by omega,by omega,by omega,by omega,by omega,by omega,by omega,(o++[y % 4294967296+c],y / 4294967296),Qa (by simp [okS,okV,okC,okL,okH,okB,okE,ja,Ja,qa,Va,wsA,ws]) (qi ?_),⟨by simp;omega,uf.2 ⟨ho,kd.2 ⟨s3,Wd⟩⟩,s4,?_⟩,by simp;omega⟩
    .rw [show x.length-o.length=(x.length-(o.length+1))+1 by omega,List.replicate_succ,ubF];simp
    .simp only [List.length_append,List.length_cons,List.length_nil,Nat.zero_add,uc,vd,Yk,Jq,Nat.mul_zero,Nat.add_zero,Nat.pow_succ];rw [WbS (B:=4294967296) (x:=y) hval rfl,Nat.add_mul,<-hy,Nat.mul_assoc]
   .have e:o.length=x.length:=by omega
    have hcB:c<4294967296:=by have:=Jac (show m<32 by omega);omega
    rw [e,kk (Nat.le_refl _)]at hval;simp only [e,Nat.sub_self,List.replicate_zero];have hw:WL (o++[c]):=uf.2 ⟨ho,kd.2 ⟨hcB,Wd⟩⟩;have hv:val (o++[c])=val x*2 ^ m:=by rw [vd,e];simpa [val] using hval
    have:=ZH hw;rw [hv,List.length_append,List.length_singleton,e]at this;rw [<-this];exact hK
theorem JaQ(hΓ:Xa P Γ){f fw ft:Nat}(hw:Γ fw=.dat true Qq)(ht:Γ ft=.dat false qx)(hc:check P f=some (35,(Uv fw ft).strip,[.tmp 4])):ua P f (.dat false zM):=by
 refine ka hc Va9 hΓ (λargs K hcl hfi hG=>?_);match args,hG with
 | [a,b],hG=>
  obtain⟨x,rfl,hx,hG⟩:=hG;obtain⟨k,m,rfl,rfl,hm,hmB,hxl,hK⟩:=Yb hG;obtain⟨m,rfl⟩:∃n:Nat,m=n:=⟨m.toNat,by omega⟩
  simp only [Int.toNat_natCast]at hK;refine⟨by simp,?_⟩
  simp only [go_sem,Uv,hw,ht];intro h1;refine⟨by omega,λ_=>?_⟩
  refine Ya (λo:List Nat=>⟨mkV [(0,wsA x),(1,.one (.lit (.int .i64 m))),(5,.one (.own 9 1 1 0 x.length)),(11,.one (.lit (.int .i64 x.length))),(12,.one (.lit (.int .i64 o.length)))],mkH [(9,⟨1,some ⟨(o++List.replicate (x.length-o.length) 0).map wc,1,true⟩⟩)]⟩)
   (λo=>o.length<=x.length/\WL o/\val o=val x / 2 ^ m % 4294967296 ^ o.length) (λo=>x.length-o.length) [] ?_ ?_ ?_
  .exact Qa (by simp [okS,okV,okC,okL,okH,okB,okE,ja,Ja,qa,Va,wsA,ws]) (qi (by simp))
  .simp [Wd,val,Nat.mod_one]
  .rintro o ⟨hoN,ho,hval⟩;have hlen:(o++List.replicate (x.length-o.length) 0).length=x.length:=by simp;omega
   simp only [go_sem,hw,ht,hlen];refine⟨λhlt=>⟨hlt,by omega,hx,⟨rfl,by omega⟩,⟨rfl,by omega,by omega⟩,by omega,hlt,hlt,by omega,?_⟩,λhge=>?_⟩
   .have g1:=Jc hx o.length;have g2:=Jc hx (o.length+1);have e1:x.getD o.length 0 % 18446744073709551616=x.getD o.length 0:=by omega
    have e2:x.getD (o.length+1) 0*4294967296 % 18446744073709551616=x.getD (o.length+1) 0*4294967296:=by omega
    rw [e1,e2,or32' _ _ g1,show x.getD (o.length+1) 0*4294967296+x.getD o.length 0=x.getD o.length 0+4294967296*x.getD (o.length+1) 0 by omega,Waf hx (by omega)]
    generalize hv:val x / 2 ^ m / 4294967296 ^ o.length % 4294967296=v;have hvB:v<4294967296:=by rw [<-hv];exact Nat.mod_lt _ (by omega)
    refine⟨o++[v],Qa (by simp [okS,okV,okC,okL,okH,okB,okE,ja,Ja,qa,Va,wsA,ws]) (qi ?_),⟨by simp;omega,uf.2 ⟨ho,kd.2 ⟨hvB,Wd⟩⟩,?_⟩,by simp;omega⟩
    .rw [show x.length-o.length=x.length-(o.length+1)+1 by omega,Uaq];simp
    .rw [vd,List.length_append,List.length_singleton,XL,hv,<-hval];simp [val]
   .have e:o.length=x.length:=by omega
    have hlt:val x / 2 ^ m<4294967296 ^ x.length:=Nat.lt_of_le_of_lt (Nat.div_le_self _ _) (Up hx);rw [e,Nat.mod_eq_of_lt hlt]at hval;simp only [e,Nat.sub_self,List.replicate_zero,List.append_nil];refine⟨ho,by omega,?_⟩
    rw [hval];exact hK
theorem jao(hΓ:Xa P Γ){f ft:Nat}(ht:Γ ft=.dat false qx)(hc:check P f=some (67,(Vt ft).strip,[.tmp 4])):ua P f (.dat false Jz):=by
 refine ka hc UX hΓ (λargs K hcl hfi hG=>?_);match args,hG with
 | [a,b],hG=>
  obtain⟨x,rfl,hx,y,rfl,hy,hxl,hyl,hK⟩:=hG;refine⟨by simp,?_⟩
  simp only [go_sem,Vt,ht];intro h1 h2;refine⟨by omega,by omega,λ_=>?_⟩
  generalize hN:x.length+y.length=N;refine Ya (λp:Nat×List Nat=>⟨mkV [(1,wsA y),(5,.one (.own 16 1 1 0 N)),(17,wsA x),(18,.one (.lit (.int .i64 x.length))),(19,.one (.lit (.int .i64 p.1)))],mkH [(16,⟨1,some ⟨p.2.map wc,1,true⟩⟩)]⟩)
   (λp=>p.1<=x.length/\WL p.2/\p.2.length=N/\val p.2=val (x.take p.1)*val y/\∀j,p.1+y.length<=j->p.2.getD j 0=0) (λp=>x.length-p.1) (0,List.replicate N 0) ?_ ?_ ?_
  .exact Qa (by simp [okS,okV,okC,okL,okH,okB,okE,ja,Ja,qa,Va,wsA,ws]) (qi (by simp))
  .simp [Xa3,val,jab];intro j _;rw [List.getElem?_replicate];split <;> rfl
  .rintro⟨i,o⟩ ⟨hi,ho,hoN,hval,hz⟩;simp only at hi ho hoN hval hz;simp only [go_sem,ht,hoN];refine⟨λhlt=>⟨hlt,λ_=>?_⟩,λhge=>?_⟩
   .have g1:=Jc hx i;refine Ya (λp:Nat×Nat×List Nat=>⟨mkV [(1,wsA y),(5,.one (.own 16 1 1 0 N)),(6,.one (.lit (.int .i64 i))),(7,.one (.lit (.int .u32 (x.getD i 0:Nat)))),(8,.one (.lit (.int .u64 p.2.1))),(17,wsA x),(18,.one (.lit (.int .i64 x.length))),(19,.one (.lit (.int .i64 i))),(24,wsA y),(25,.one (.lit (.int .i64 y.length))),(26,.one (.lit (.int .i64 p.1)))],mkH [(16,⟨1,some ⟨p.2.2.map wc,1,true⟩⟩)]⟩)
     (λp=>p.1<=y.length/\p.2.1<4294967296/\WL p.2.2/\p.2.2.length=N/\val p.2.2+4294967296 ^ i*4294967296 ^ p.1*p.2.1=val (x.take i)*val y+4294967296 ^ i*x.getD i 0*val (y.take p.1)/\∀j,i+y.length<=j->p.2.2.getD j 0=0) (λp=>y.length-p.1) (0,0,o) ?_ ?_ ?_
    .exact Qa (by simp [okS,okV,okC,okL,okH,okB,okE,ja,Ja,qa,Va,wsA,ws]) (qi rfl)
    .exact⟨Nat.zero_le _,by simp,ho,hoN,by simp [val,hval],hz⟩
    .rintro⟨k,c,o⟩ ⟨hk,hc,ho,hoN,hval,hz⟩;simp only at hk hc ho hoN hval hz;simp only [go_sem,ht,hoN];refine⟨λhlt2=>?_,λhge2=>?_⟩
     .have g2:=Jc hy k;have g3:=Jc ho (i+k);have s1:=Uab g1 g2 hc g3;have e1:x.getD i 0 % 18446744073709551616=x.getD i 0:=by omega
      have e2:y.getD k 0 % 18446744073709551616=y.getD k 0:=by omega
      have e3:o.getD (i+k) 0 % 18446744073709551616=o.getD (i+k) 0:=by omega
      have hstep:=YZ hval (by omega) rfl
      rw [e1,e2,e3,Nat.mod_eq_of_lt (show x.getD i 0*y.getD k 0<18446744073709551616 by omega),Nat.mod_eq_of_lt (show x.getD i 0*y.getD k 0+o.getD (i+k) 0<18446744073709551616 by omega),Nat.mod_eq_of_lt s1]
      generalize hs:c+(x.getD i 0*y.getD k 0+o.getD (i+k) 0)=s at s1 hstep;refine⟨hlt2,by omega,by omega,by omega,by omega,by omega,by omega,by omega,by omega,(k+1,s / 4294967296,o.set (i+k) (s % 4294967296)),Qa (by simp [okS,okV,okC,okL,okH,okB,okE,ja,Ja,qa,Va,wsA,ws]) (qi rfl),⟨by simp only;omega,by simp only;omega,wag ho _ (Nat.mod_lt _ (by omega)),by simp [hoN],hstep,?_⟩,by simp only;omega⟩
      intro j hj;simp only;rw [Num.getD_set_ne (by omega)];exact hz j hj
     .have e:k=y.length:=by omega
      subst e;have hend:=xam hval (by omega) (hz _ (Nat.le_refl _))
      rw [Nat.mod_eq_of_lt hc];refine λ_=>⟨by omega,by omega,by omega,by omega,(i+1,o.set (i+y.length) c),Qa (by simp [okS,okV,okC,okL,okH,okB,okE,ja,Ja,qa,Va,wsA,ws]) (qi rfl),⟨by simp only;omega,wag ho _ hc,by simp [hoN],hend,?_⟩,by simp only;omega⟩
      intro j hj;simp only at hj ⊢;rw [Num.getD_set_ne (by omega)];exact hz j (by omega)
   .have e:i=x.length:=by omega
    subst e;rw [kk (Nat.le_refl _)]at hval;refine⟨ho,by omega,?_⟩
    rw [hval];exact hK
end Go.Abs
end
section
namespace Go.Abs
open Go.Num
variable {P:Program} {Γ:Nat->Spec}
def Yq(f0:Nat):AC:=(.o [.m 6 .fa] [0,1,2] (.o [.m 7 (.c (.one (.lit (.int .u64 0)))),.m 8 (.c (.one (.lit (.int .u64 0))))] [0,1,2,7,8] (.f (.o [.M 11 0,.Z 12 11,.N 13 0] [0,1,2,7,8,12,13] (.block 0 (.loop (.o [.B 14 .lss 13 12] [0,1,2,7,8,12,13,14] (.f (.cond (.t 14) .skip (.exit 0)) [0,1,2,7,8,12,13] (.f (.block 1 (.o [.M 15 13,.M 9 15] [0,1,2,7,8,9,12,13] (.o [.M 16 7,.M 17 2,.M 18 1,.M 19 9,.D 20 f0 18 19,.B 21 .mul 17 20,.B 22 .add 16 21,.M 7 22] [0,1,2,7,8,9,12,13] (.o [.M 23 0,.M 24 9,.J 25 1 23 24,.F 26 1 25,.u 27 (.conv .u64 (.t 26)),.M 28 7,.u 29 (.conv .u32 (.t 28)),.u 30 (.conv .u64 (.t 29)),.B 31 .sub 27 30,.M 32 8,.B 33 .sub 31 32,.M 10 33] [0,1,2,7,9,10,12,13] (.o [.M 34 0,.M 35 9,.M 36 10,.u 37 (.conv .u32 (.t 36)),.J 38 1 34 35,.S 1 38 37] [0,1,2,7,10,12,13] (.o [.M 39 10,.u 40 (.bin .shr (.t 39) (.c (.one (.lit (.int .u64 63))))),.M 8 40] [0,1,2,7,8,12,13] (.p [.M 41 7,.u 42 (.bin .shr (.t 41) (.c (.one (.lit (.int .u64 32))))),.M 7 42]))))))) [0,1,2,7,8,12,13] (.p [.I 43 .add 13 1,.M 13 43]))))))) [8] (.seq (.p [.M 44 8,.u 45 (.bin .eql (.t 44) (.c (.one (.lit (.int .u64 1))))),.M 6 45]) .ret))))
def kw(f0:Nat):AC:=(.o [.m 4 (.c (.one (.lit (.int .u64 0))))] [0,1,4] (.o [.M 6 0,.Z 7 6,.N 8 0] [0,1,4,7,8] (.block 0 (.loop (.o [.B 9 .lss 8 7] [0,1,4,7,8,9] (.f (.cond (.t 9) .skip (.exit 0)) [0,1,4,7,8] (.f (.block 1 (.o [.M 10 8,.M 5 10] [0,1,4,5,7,8] (.f (.y [.M 11 4,.M 12 0,.M 13 5,.J 14 1 12 13,.F 15 1 14,.u 16 (.conv .u64 (.t 15)),.M 17 1,.M 18 5,.D 19 f0 17 18,.B 20 .add 16 19,.B 21 .add 11 20,.M 4 21]) [0,1,4,5,7,8] (.o [.M 22 0,.M 23 5,.M 24 4,.u 25 (.conv .u32 (.t 24)),.J 26 1 22 23,.S 1 26 25] [0,1,4,7,8] (.p [.M 27 4,.u 28 (.bin .shr (.t 27) (.c (.one (.lit (.int .u64 32))))),.M 4 28]))))) [0,1,4,7,8] (.p [.I 29 .add 8 1,.M 8 29]))))))))
theorem wam(hΓ:Xa P Γ){f fw:Nat}(hw:Γ fw=.dat true Qq)(hc:check P f=some (46,(Yq fw).strip,[.tmp 6])):ua P f (.own Xw):=by
 refine xh hc hΓ (λd args h K hG=>?_);unfold Xw at hG;split at hG
 case h_2=>exact hG.elim
 rename_i r ver off len b n;obtain⟨v,rfl,hv,pre,seg,post,m,rfl,rfl,rfl,hr,hseg,hm,hvl,hlt,hsl,hK⟩:=hG;refine⟨[r],[⟨(pre++seg++post).map wc,1,true⟩],[.one (.own 1048576 ver 1 pre.length seg.length),wsA v,.one (.lit (.int .u64 m))],by simp,rfl,?_,?_,?_,λhfi=>⟨by simp,?_⟩⟩
 .intro i r' b h1 h2;cases i with
  | zero=>simp only [List.getElem?_cons_zero,Option.some.injEq]at h1 h2;subst h1 h2;exact⟨by rw [hr],rfl,of_eq_true (Qf _)⟩
  | succ i=>simp at h1
 .simp [exA,exC,exB,Wc,pinA,wsA,ws]
 .intro a ha;simp only [List.mem_cons,List.not_mem_nil,or_false]at ha;rcases ha with rfl | rfl | rfl
  .simp [pasA,pasC,pasB,Wc,pinA]
  .exact .slice _ (of_eq_true (Qf _))
  .exact .lit _
 simp only [go_sem,Yq,hw,hr];intro h1;refine Ya (λp:List Nat×Nat×Nat×Nat=>⟨mkV [(0,.one (.own 1048576 ver 1 pre.length seg.length)),(1,wsA v),(2,.one (.lit (.int .u64 m))),(7,.one (.lit (.int .u64 p.2.1))),(8,.one (.lit (.int .u64 p.2.2.1))),(12,.one (.lit (.int .i64 seg.length))),(13,.one (.lit (.int .i64 p.1.length)))],
   mkH [(1048576,⟨ver,some ⟨(pre++(p.1++seg.drop p.1.length)++post).map wc,1,true⟩⟩)]⟩)
  (λp=>p.1.length<=seg.length/\WL p.1/\(p.2.1=0∨p.2.1<m)/\p.2.2.1<=1/\p.2.2.2+4294967296 ^ p.1.length*p.2.1=m*val (v.take p.1.length)/\val p.1+p.2.2.2=val (seg.take p.1.length)+4294967296 ^ p.1.length*p.2.2.1) (λp=>seg.length-p.1.length) ([],0,0,0) ?_ ?_ ?_
 .exact Qa (by simp [okS,okV,okC,okL,okH,okB,okE,ja,Ja,qa,Va,wsA,ws]) (qi (by simp))
 .simp [Wd,val]
 .rintro⟨o,c,bw,p⟩ ⟨hoN,ho,hc1,hb1,hp1,hp2⟩;simp only at hoN ho hc1 hb1 hp1 hp2;have hlen:(pre++(o++seg.drop o.length)++post).length=pre.length+seg.length+post.length:=by simp;omega
  simp only [go_sem,hw,hr,hlen];refine⟨λhlt2=>?_,λhge=>?_⟩
  .have g1:=Jc hseg o.length;have g2:=Jc hv o.length;obtain⟨s1,s2⟩:=Ubi hm g2 hc1;have a1:=Vbm (B:=4294967296) (v:=v.getD o.length 0) hp1;have e1:m*v.getD o.length 0 % 18446744073709551616=m*v.getD o.length 0:=Nat.mod_eq_of_lt (by omega)
   have e2:seg.getD o.length 0 % 18446744073709551616=seg.getD o.length 0:=by omega
   rw [waY _ _ _ _ hlt2,e1,e2,Nat.mod_eq_of_lt s1,kar _ _ _ _ _ hlt2];generalize hs:c+m*v.getD o.length 0=s at s1 s2 a1;have e3:s % 4294967296 % 18446744073709551616=s % 4294967296:=by omega
   rw [e3];obtain⟨t1,t2⟩:=ZaF (b:=s % 4294967296) g1 (by omega) hb1
   generalize sub64 (sub64 (seg.getD o.length 0) (s % 4294967296)) bw=d at t1 t2;have a2:=xbm hp2 t1;refine⟨hv,hlt2,by omega,hlt2,by omega,by omega,by omega,by omega,(o++[d % 4294967296],s / 4294967296,d / 9223372036854775808,p+4294967296 ^ o.length*(s % 4294967296)),Qa (by simp [okS,okV,okC,okL,okH,okB,okE,ja,Ja,qa,Va,wsA,ws]) (qi rfl),⟨by simp;omega,uf.2 ⟨ho,kd.2 ⟨Nat.mod_lt _ (by omega),Wd⟩⟩,s2,t2,?_,?_⟩,by simp;omega⟩
   .simp only [List.length_append,List.length_cons,List.length_nil,Nat.zero_add,uc,Nat.pow_succ];exact a1
   .simp only [List.length_append,List.length_cons,List.length_nil,Nat.zero_add,uc,vd,Yk,Jq,Nat.mul_zero,Nat.add_zero,Nat.pow_succ];exact a2
  .have e:o.length=seg.length:=by omega
   rw [e]at hp1 hp2;rw [kk hvl]at hp1;rw [kk (Nat.le_refl _)]at hp2;obtain⟨t1,t2⟩:=jbF ho e hp1 hlt hp2 hb1;rw [List.drop_of_length_le (by omega),List.append_nil]
   rw [<-t1]at hK;have:(decide ((bw:Int)=1))=decide (val seg<m*val v):=by
    rw [decide_eq_decide,<-t2];omega
   rw [this];exact hK
theorem yaQ(hΓ:Xa P Γ){f fw:Nat}(hw:Γ fw=.dat true Qq)(hc:check P f=some (30,(kw fw).strip,[])):ua P f (.own ZN):=by
 refine xh hc hΓ (λd args h K hG=>?_);unfold ZN at hG;split at hG
 case h_2=>exact hG.elim
 rename_i r ver off len b;obtain⟨v,rfl,hv,pre,seg,post,rfl,rfl,hr,hseg,hvl,hsl,hK⟩:=hG;refine⟨[r],[⟨(pre++seg++post).map wc,1,true⟩],[.one (.own 1048576 ver 1 pre.length seg.length),wsA v],by simp,rfl,?_,?_,?_,λhfi=>⟨by simp,?_⟩⟩
 .intro i r' b h1 h2;cases i with
  | zero=>simp only [List.getElem?_cons_zero,Option.some.injEq]at h1 h2;subst h1 h2;exact⟨by rw [hr],rfl,of_eq_true (Qf _)⟩
  | succ i=>simp at h1
 .simp [exA,exC,exB,Wc,pinA,wsA,ws]
 .intro a ha;simp only [List.mem_cons,List.not_mem_nil,or_false]at ha;rcases ha with rfl | rfl
  .simp [pasA,pasC,pasB,Wc,pinA]
  .exact .slice _ (of_eq_true (Qf _))
 simp only [go_sem,kw,hw,hr];intro h1;refine Ya (λp:List Nat×Nat=>⟨mkV [(0,.one (.own 1048576 ver 1 pre.length seg.length)),(1,wsA v),(4,.one (.lit (.int .u64 p.2))),(7,.one (.lit (.int .i64 seg.length))),(8,.one (.lit (.int .i64 p.1.length)))],
   mkH [(1048576,⟨ver,some ⟨(pre++(p.1++seg.drop p.1.length)++post).map wc,1,true⟩⟩)]⟩)
  (λp=>p.1.length<=seg.length/\WL p.1/\p.2<=1/\val p.1+4294967296 ^ p.1.length*p.2=val (seg.take p.1.length)+val (v.take p.1.length)) (λp=>seg.length-p.1.length) ([],0) ?_ ?_ ?_
 .exact Qa (by simp [okS,okV,okC,okL,okH,okB,okE,ja,Ja,qa,Va,wsA,ws]) (qi (by simp))
 .simp [Wd,val]
 .rintro⟨o,c⟩ ⟨hoN,ho,hc1,hp1⟩;simp only at hoN ho hc1 hp1;have hlen:(pre++(o++seg.drop o.length)++post).length=pre.length+seg.length+post.length:=by simp;omega
  simp only [go_sem,hw,hr,hlen];refine⟨λhlt2=>?_,λhge=>?_⟩
  .have g1:=Jc hseg o.length;have g2:=Jc hv o.length;have e2:seg.getD o.length 0 % 18446744073709551616=seg.getD o.length 0:=by omega
   rw [waY _ _ _ _ hlt2,e2,Nat.mod_eq_of_lt (show seg.getD o.length 0+v.getD o.length 0<18446744073709551616 by omega),Nat.mod_eq_of_lt (show c+(seg.getD o.length 0+v.getD o.length 0)<18446744073709551616 by omega),kar _ _ _ _ _ hlt2]
   have a1:=qbn (B:=4294967296) (a:=seg.getD o.length 0) (b:=v.getD o.length 0) hp1 rfl;generalize hs:c+(seg.getD o.length 0+v.getD o.length 0)=s at a1;refine⟨hlt2,by omega,hv,hlt2,by omega,by omega,by omega,(o++[s % 4294967296],s / 4294967296),Qa (by simp [okS,okV,okC,okL,okH,okB,okE,ja,Ja,qa,Va,wsA,ws]) (qi rfl),⟨by simp;omega,uf.2 ⟨ho,kd.2 ⟨Nat.mod_lt _ (by omega),Wd⟩⟩,by simp only;omega,?_⟩,by simp;omega⟩
   simp only [List.length_append,List.length_cons,List.length_nil,Nat.zero_add,uc,vd,Yk,Jq,Nat.mul_zero,Nat.add_zero,Nat.pow_succ];exact a1
  .have e:o.length=seg.length:=by omega
   rw [e,kk hvl,kk (Nat.le_refl _)]at hp1;have t1:=Vbr ho e hp1;rw [List.drop_of_length_le (by omega),List.append_nil]
   rw [<-t1]at hK;exact hK
end Go.Abs
end
section
namespace Go.Num
theorem yF:∀(a b X:Nat),dig (a+b) X=dig a X++dig b (X / 4294967296 ^ a)
 | 0,b,X=>by simp [dig]
 | a+1,b,X=>by
  rw [show a+1+b=(a+b)+1 by omega,dig,dig,yF a b,Nat.div_div_eq_div_mul,Nat.pow_succ,Nat.mul_comm 4294967296];simp
theorem yax:∀k,dig k 0=List.replicate k 0
 | 0=>rfl
 | k+1=>by rw [dig,Nat.zero_mod,Nat.zero_div,yax k,List.replicate_succ]
theorem qac:∀(k i X:Nat),i<k->(dig k X).getD i 0=X / 4294967296 ^ i % 4294967296
 | k+1,0,X,_=>by simp [dig]
 | k+1,i+1,X,h=>by
  rw [dig,List.getD_cons_succ,qac k i _ (by omega),Nat.div_div_eq_div_mul,Nat.pow_succ,Nat.mul_comm 4294967296]
theorem qaa:∀(k X:Nat),dig k (X % 4294967296 ^ k)=dig k X:=by
 intro k X;refine Wap (Vo _ _) (Vo _ _) (by rw [jb,jb]) ?_
 rw [Wn,Wn,Nat.mod_mod]
theorem VbI{j X Y:Nat}:dig j (X % 4294967296 ^ j+4294967296 ^ j*Y)=dig j X:=by
 rw [<-qaa,Nat.add_mul_mod_self_left,Nat.mod_mod,qaa]
theorem UP{L j n X:Nat}(h:j+(n+1)<=L)(hX:X / 4294967296 ^ j<4294967296 ^ (n+1)) :
  dig L X=dig j X++dig (n+1) (X / 4294967296 ^ j)++List.replicate (L-(j+(n+1))) 0:=by
 conv=>lhs;rw [show L=j+(n+1)+(L-(j+(n+1))) by omega]
 rw [yF,yF,Nat.pow_add,<-Nat.div_div_eq_div_mul,Nat.div_eq_of_lt hX,yax]
theorem UaJ{L j n X R:Nat}(h:j+(n+1)<=L)(hR:R<4294967296 ^ (n+1)) :
  dig j X++dig (n+1) R++List.replicate (L-(j+(n+1))) 0=dig L (X % 4294967296 ^ j+4294967296 ^ j*R):=by
 have e:(X % 4294967296 ^ j+4294967296 ^ j*R) / 4294967296 ^ j=R:=by
  rw [Nat.add_mul_div_left _ _ (pow_pos j),Nat.div_eq_of_lt (Nat.mod_lt _ (pow_pos j)),Nat.zero_add]
 rw [UP h (by rw [e];exact hR),e,VbI]
structure Step (B n V P top next head u2:Nat):Prop where
 hB:2<=B
 hn:2<=n
 vlow:∃l,V=(top*B+next)*B ^ (n-2)+l/\l<B ^ (n-2)
 plow:∃l,P=(head*B+u2)*B ^ (n-2)+l/\l<B ^ (n-2)
 nextB:next<B
 topB:top<B
 half:B<=2*top
 u2B:u2<B
 lt:P<V*B
namespace Step
variable {B n V P top next head u2:Nat}
theorem vpos(s:Step B n V P top next head u2):0<V:=by
 obtain⟨l,h,_⟩:=s.vlow;have:0<B ^ (n-2):=Nat.pow_pos (by have:=s.hB;omega)
 have h2:0<top*B+next:=by
  have:=Nat.mul_pos (show 0<top by have:=s.half;have:=s.hB;omega) (show 0<B by have:=s.hB;omega)
  omega
 have:=Nat.mul_pos h2 this;omega
theorem down(s:Step B n V P top next head u2){g r:Nat}(hg:g*top+r=head)(h:B<=g∨r*B+u2<g*next):P / V<g:=by
 rw [Nat.div_lt_iff_lt_mul s.vpos];rcases h with h | h
 .have h1:=Nat.mul_le_mul_right V h;have:=s.lt;rw [Nat.mul_comm V]at this;omega
 .obtain⟨lv,hv,hlv⟩:=s.vlow;obtain⟨lp,hp,hlp⟩:=s.plow;generalize B ^ (n-2)=p at hv hlv hp hlp;have h1:head*B+u2+1<=g*(top*B+next):=by
   rw [<-hg];have:(g*top+r)*B=g*(top*B)+r*B:=by rw [Nat.add_mul,Nat.mul_assoc]
   rw [this,Nat.mul_add];omega
  have h2:=Nat.mul_le_mul_right p h1;rw [Nat.add_mul,Nat.one_mul]at h2;have h3:g*(top*B+next)*p<=g*V:=by
   rw [Nat.mul_assoc];exact Nat.mul_le_mul_left _ (by omega)
  omega
theorem stop(s:Step B n V P top next head u2){g r:Nat}(hg:g*top+r=head)(hgB:g<=B)(h:B<=r∨(g<B/\g*next<=r*B+u2)):g*V<=P+V:=by
 obtain⟨lv,hv,hlv⟩:=s.vlow;obtain⟨lp,hp,hlp⟩:=s.plow;have hB:=s.hB;have hn:=s.hn;have hpp:0<B ^ (n-2):=Nat.pow_pos (by omega)
 have h1:g*(top*B+next)<=head*B+u2:=by
  rw [<-hg,Nat.add_mul,Nat.mul_add,Nat.mul_assoc];rcases h with h | h
  .have h3:g*next<=B*B:=Nat.mul_le_mul hgB (Nat.le_of_lt s.nextB)
   have h4:B*B<=r*B:=Nat.mul_le_mul_right _ h;omega
  .omega
 have hVtop:B*B ^ (n-2)<=V:=by
  have:B<=top*B:=Nat.le_mul_of_pos_left _ (by have:=s.half;omega)
  have:=Nat.mul_le_mul_right (B ^ (n-2)) (show B<=top*B+next by omega)
  omega
 generalize B ^ (n-2)=p at hv hlv hp hlp hpp hVtop;have h2:=Nat.mul_le_mul_right p h1;have h5:g*V<=g*((top*B+next)*p)+g*p:=by
  rw [hv,Nat.mul_add];exact Nat.add_le_add_left (Nat.mul_le_mul_left _ (Nat.le_of_lt hlv)) _
 have h6:g*p<=B*p:=Nat.mul_le_mul_right _ hgB;rw [<-Nat.mul_assoc]at h5;omega
theorem first(s:Step B n V P top next head u2):head / top<=B+1/\P / V<=head / top:=by
 have hB:=s.hB;have ht:0<top:=by have:=s.half;omega
 obtain⟨lv,hv,hlv⟩:=s.vlow;obtain⟨lp,hp,hlp⟩:=s.plow;have hlt:=s.lt;have hnext:=s.nextB;have hu2:=s.u2B;constructor
 .have h1:head<=top*B+next:=by
   rcases Nat.lt_or_ge (top*B+next) head with h | h
   .exfalso;have h2:=Nat.mul_le_mul_right (B ^ (n-2)) (Nat.mul_le_mul_right B h);have h3:(top*B+next+1)*B*B ^ (n-2)=((top*B+next)*B ^ (n-2)+B ^ (n-2))*B:=by
     generalize B ^ (n-2)=p;grind
    rw [Nat.succ_eq_add_one,h3]at h2;have h4:V*B<=((top*B+next)*B ^ (n-2)+B ^ (n-2))*B:=Nat.mul_le_mul_right _ (by omega)
    have h5:head*B*B ^ (n-2)<=P:=by
     rw [hp,Nat.add_mul];omega
    omega
   .exact h
  have h2:head<(B+2)*top:=by
   have:=s.half;have:(B+2)*top=top*B+2*top:=by rw [Nat.add_mul,Nat.mul_comm B]
   omega
  have:=(Nat.div_lt_iff_lt_mul ht).2 h2;omega
 .have:P / V<head / top+1:=by
   rw [Nat.div_lt_iff_lt_mul s.vpos];have h1:head<(head / top+1)*top:=by
    have:=Nat.div_add_mod head top;have:=Nat.mod_lt head ht;rw [Nat.add_mul,Nat.one_mul,Nat.mul_comm (head / top)];omega
   have h2:head+1<=(head / top+1)*top:=h1;have h3:=Nat.mul_le_mul_right (B ^ (n-2)) (Nat.mul_le_mul_right B h2);have h4:(head / top+1)*top*B*B ^ (n-2)<=(head / top+1)*V:=by
    rw [Nat.mul_assoc,Nat.mul_assoc];refine Nat.mul_le_mul_left _ ?_;rw [hv,Nat.add_mul,<-Nat.mul_assoc];omega
   have h5:P<(head+1)*B*B ^ (n-2):=by
    rw [hp];have:(head*B+u2+1)*B ^ (n-2)<=(head+1)*B*B ^ (n-2):=Nat.mul_le_mul_right _ (by rw [Nat.add_mul,Nat.one_mul];omega)
    rw [Nat.add_mul,Nat.one_mul]at this;omega
   omega
  omega
theorem left(s:Step B n V P top next head u2){g:Nat}(h1:P / V<=g)(h2:g*V<=P+V) :
  (P<g*V->g=P / V+1)/\(¬P<g*V->g=P / V):=by
 have hv:=s.vpos;have e:=Nat.div_add_mod P V;have m:=Nat.mod_lt P hv;constructor
 .intro h;have h3:g<=P / V+1:=by
   rcases Nat.lt_or_ge (P / V+1) g with h4 | h4
   .exfalso;have:=Nat.mul_le_mul_right V (show P / V+2<=g from h4);rw [Nat.add_mul,Nat.mul_comm (P / V)]at this;omega
   .exact h4
  have h5:P / V<g:=by rw [Nat.div_lt_iff_lt_mul hv];exact h
  omega
 .intro h;have:g<=P / V:=by rw [Nat.le_div_iff_mul_le hv];omega
  omega
theorem quot(s:Step B n V P top next head u2):P / V<B:=by
 rw [Nat.div_lt_iff_lt_mul s.vpos,Nat.mul_comm];exact s.lt
end Step
theorem zbn(n k X:Nat):(dig (n+k) X).take n=dig n X:=by
 rw [yF,List.take_append_of_le_length (by rw [jb];exact Nat.le_refl _),List.take_of_length_le (by rw [jb];exact Nat.le_refl _)]
theorem yaS{t:Nat}(h0:0<t)(h:t<4294967296):Lib.bitLen t=Nat.log2 t+1:=by
 have h1:2 ^ Nat.log2 t<=t:=Nat.log2_self_le (by omega)
 have h2:t<2 ^ (Nat.log2 t+1):=Nat.lt_log2_self;rw [Lib.bitLen_shift _ _ h1 (by omega)]
 have:t / 2 ^ Nat.log2 t=1:=by
  rw [Nat.pow_succ]at h2;have hp:0<2 ^ Nat.log2 t:=Nat.pow_pos (by omega)
  generalize 2 ^ Nat.log2 t=p at h1 h2 hp;have a:t / p<2:=(Nat.div_lt_iff_lt_mul hp).2 (by omega)
  have b:1<=t / p:=(Nat.le_div_iff_mul_le hp).2 (by omega)
  omega
 rw [this];rfl
theorem QbG{t:Nat}(h0:0<t)(h:t<4294967296):∃s:Nat,s<32/\(32-(Lib.bitLen t:Int))=s/\2147483648<=t*2 ^ s/\(t+1)*2 ^ s<=4294967296:=by
 have h1:2 ^ Nat.log2 t<=t:=Nat.log2_self_le (by omega)
 have h2:t<2 ^ (Nat.log2 t+1):=Nat.lt_log2_self;have hl:Nat.log2 t<32:=by rw [Nat.log2_lt (by omega)];exact h
 rw [yaS h0 h];refine⟨31-Nat.log2 t,by omega,by omega,?_,?_⟩
 .have:=Nat.mul_le_mul_right (2 ^ (31-Nat.log2 t)) h1;rw [<-Nat.pow_add,show Nat.log2 t+(31-Nat.log2 t)=31 by omega]at this
  exact this
 .have:=Nat.mul_le_mul_right (2 ^ (31-Nat.log2 t)) (show t+1<=_ from h2);rw [<-Nat.pow_add,show Nat.log2 t+1+(31-Nat.log2 t)=32 by omega]at this
  exact this
theorem shifted{y:List Nat}{s:Nat}(hy:WL y)(hn:0<y.length)(h1:2147483648<=y.getD (y.length-1) 0*2 ^ s)(h2:(y.getD (y.length-1) 0+1)*2 ^ s<=4294967296) :
  val y*2 ^ s<4294967296 ^ y.length/\4294967296 ^ y.length<=2*(val y*2 ^ s):=by
 have e:=vR y (y.length-1) (by omega)
 rw [List.drop_of_length_le (by omega),Jq,Nat.mul_zero,Nat.add_zero]at e
 have hl:=Up (VB hy (y.length-1));rw [List.length_take,Nat.min_eq_left (by omega)]at hl
 rw [e,QO hn];generalize y.getD (y.length-1) 0=t at *
 generalize 4294967296 ^ (y.length-1)=p at *
 generalize val (y.take (y.length-1))=v at *
 have hs:0<2 ^ s:=Nat.pow_pos (by omega)
 generalize 2 ^ s=q at *
 have a1:=Nat.mul_le_mul_left p h1;have a2:=Nat.mul_le_mul_left p h2;have a3:=(Nat.mul_lt_mul_right hs).2 hl;rw [Nat.add_mul,Nat.one_mul,Nat.mul_add]at a2;rw [Nat.add_mul,Nat.mul_assoc p t q];constructor
 .omega
 .have:2*(p*2147483648)=p*(2*2147483648):=Nat.mul_left_comm _ _ _;rw [show 2*2147483648=4294967296 from rfl]at this;rw [<-this];exact Nat.mul_le_mul_left 2 (Nat.le_trans a1 (Nat.le_add_left _ _))
theorem ybo{x y:List Nat}{s:Nat}(hx:WL x)(hs:s<32)(hV:4294967296 ^ y.length<=2*(val y*2 ^ s))(hl:y.length<=x.length+1) :
  val x*2 ^ s<val y*2 ^ s*4294967296 ^ (x.length+1-y.length):=by
 have h1:=Up hx;have h2:=Jac hs;have h3:4294967296 ^ x.length*4294967296=4294967296 ^ y.length*4294967296 ^ (x.length+1-y.length):=by
  rw [<-Nat.pow_succ,<-Nat.pow_add];congr 1;omega
 have h4:=Nat.mul_le_mul_right (4294967296 ^ (x.length+1-y.length)) hV;rw [<-h3,Nat.mul_assoc]at h4;have h5:val x*2 ^ s<4294967296 ^ x.length*2147483648:=
  Nat.lt_of_lt_of_le ((Nat.mul_lt_mul_right (Nat.pow_pos (by omega))).2 h1) (Nat.mul_le_mul_left _ h2)
 omega
theorem JbG{n V P:Nat}(hn:2<=n)(hV1:V<4294967296 ^ n)(hV2:4294967296 ^ n<=2*V)(hP:P<V*4294967296) :
  Step 4294967296 n V P (V / 4294967296 ^ (n-1) % 4294967296) (V / 4294967296 ^ (n-2) % 4294967296) (P / 4294967296 ^ n % 4294967296*4294967296+P / 4294967296 ^ (n-1) % 4294967296) (P / 4294967296 ^ (n-2) % 4294967296):=by
 have e1:4294967296 ^ n=4294967296 ^ (n-1)*4294967296:=QO (by omega)
 have e2:4294967296 ^ (n-1)=4294967296 ^ (n-2)*4294967296:=by rw [QO (show 0<n-1 by omega),show n-1-1=n-2 by omega]
 have hp:=pow_pos (n-2);have ht:V / 4294967296 ^ (n-1)<4294967296:=by
  rw [Nat.div_lt_iff_lt_mul (pow_pos _),Nat.mul_comm,<-e1];exact hV1
 have hh:P / 4294967296 ^ n<4294967296:=by
  rw [Nat.div_lt_iff_lt_mul (pow_pos _)];have:=(Nat.mul_lt_mul_right (show 0<4294967296 by omega)).2 hV1
  rw [Nat.mul_comm (4294967296 ^ n)]at this;omega
 have q1:V / 4294967296 ^ (n-1)=V / 4294967296 ^ (n-2) / 4294967296:=by rw [e2,Nat.div_div_eq_div_mul]
 have q2:P / 4294967296 ^ (n-1)=P / 4294967296 ^ (n-2) / 4294967296:=by rw [e2,Nat.div_div_eq_div_mul]
 have q3:P / 4294967296 ^ n=P / 4294967296 ^ (n-1) / 4294967296:=by rw [e1,Nat.div_div_eq_div_mul]
 refine⟨by omega,hn,⟨V % 4294967296 ^ (n-2),?_,Nat.mod_lt _ hp⟩,⟨P % 4294967296 ^ (n-2),?_,Nat.mod_lt _ hp⟩,Nat.mod_lt _ (by omega),Nat.mod_lt _ (by omega),?_,Nat.mod_lt _ (by omega),hP⟩
 .rw [Nat.mod_eq_of_lt ht,q1];rw [Nat.div_add_mod' (V / 4294967296 ^ (n-2)),Nat.mul_comm];exact(Nat.div_add_mod _ _).symm
 .rw [Nat.mod_eq_of_lt hh,q3,q2];rw [Nat.div_add_mod' (P / 4294967296 ^ (n-2) / 4294967296),Nat.div_add_mod' (P / 4294967296 ^ (n-2)),Nat.mul_comm];exact(Nat.div_add_mod _ _).symm
 .rw [Nat.mod_eq_of_lt ht];have:2147483648<=V / 4294967296 ^ (n-1):=by
   rw [Nat.le_div_iff_mul_le (pow_pos _)];rw [e1]at hV2;generalize 4294967296 ^ (n-1)=p at hV2 ⊢;omega
  omega
theorem ybq{a b:Nat}(h:¬a<b):(ordN a b<0)=False:=by
 unfold ordN;rw [if_neg h];split <;> simp
theorem qax{j X V A q Q:Nat}(hV:0<V)(hA:A=X+V*4294967296 ^ (j+1)*Q)(hq:q=X / 4294967296 ^ j / V) :
  A=(X % 4294967296 ^ j+4294967296 ^ j*(X / 4294967296 ^ j % V))+V*4294967296 ^ j*(q+4294967296*Q)/\X % 4294967296 ^ j+4294967296 ^ j*(X / 4294967296 ^ j % V)<V*4294967296 ^ j:=by
 have hp:=pow_pos j;rw [Nat.pow_succ]at hA;generalize 4294967296 ^ j=p at *
 have e1:=Nat.div_add_mod X p;have e2:=Nat.div_add_mod (X / p) V;have m1:=Nat.mod_lt X hp;have m2:=Nat.mod_lt (X / p) hV;rw [<-hq]at e2;generalize X % p=r at *
 generalize hS:X / p % V=S at *
 generalize X / p=Z at *
 generalize 4294967296=B at hA ⊢;subst hA e2 e1;constructor
 .grind
 .have:p*(S+1)<=p*V:=Nat.mul_le_mul_left _ m2;rw [Nat.mul_add,Nat.mul_one]at this;rw [Nat.mul_comm V];omega
theorem Z0(k X:Nat):dig k (X+4294967296 ^ k)=dig k X:=by
 rw [<-qaa,Nat.add_mod_right,qaa]
theorem qbA{k P V g:Nat}(hg:g=P / V):dig k (P+4294967296 ^ k-g*V)=dig k (P % V):=by
 have e:g*V+P % V=P:=by rw [hg,Nat.mul_comm];exact Nat.div_add_mod P V
 clear hg;generalize P % V=r at *
 generalize hp:4294967296 ^ k=p;rw [show P+p-g*V=r+p by omega,<-hp,Z0]
theorem Ybu{k P V g:Nat}(hg:g=P / V+1)(hb:P<g*V)(hk:g*V<4294967296 ^ k):dig k (val (dig k (P+4294967296 ^ k-g*V))+V)=dig k (P % V):=by
 have e:P / V*V+P % V=P:=by rw [Nat.mul_comm];exact Nat.div_add_mod P V
 have:g*V=P / V*V+V:=by rw [hg,Nat.add_mul,Nat.one_mul]
 rw [Wn,Nat.mod_eq_of_lt (by omega)]
 clear hg;generalize P / V*V=q at *
 generalize P % V=r at *
 generalize g*V=gv at *
 generalize hp:4294967296 ^ k=p at *
 rw [show P+p-gv+V=r+p by omega,<-hp,Z0]
theorem Qa5{a b:Nat}(ha:a<4294967296)(hb:b<4294967296):a*b<18446744073709551616:=by
 have h:=Uab ha hb (c:=0) (d:=0) (by decide) (by decide)
 rwa [Nat.zero_add,Nat.add_zero]at h
theorem wZ{q:Nat}(h:q<4294967296):sub64 (q+1) 1=q:=by rw [xF (by omega) (by omega)];omega
theorem zbC{r:Nat}(h:r<4294967296):r*4294967296 % 18446744073709551616=r*4294967296:=by omega
end Go.Num
end
section
namespace Go.Abs
open Go.Num
variable {P:Program} {Γ:Nat->Spec}
def Ql(f0 f1 f2 f3 f4 f5 f6 f7:Nat):AC:=(.o [.m 4 (.c (.one .emp)),.m 5 (.c (.one .emp))] [0,1] (.f (.o [.M 19 0,.M 20 1,.D 21 f0 19 20,.I 22 .lss 21 0] [0,1,22] (.cond (.t 22) (.seq (.p [.M 23 0,.H 24 f1 23,.m 4 (.c (.one .emp)),.M 5 24]) .ret) .skip)) [0,1] (.f (.o [.M 25 1,.Z 26 25,.I 27 .eql 26 1] [0,1,27] (.cond (.t 27) (.o [.M 29 0,.M 30 1,.u 31 (.idx 1 (.t 30) (.i 0)),.F 32 1 31,.D 33 f2 29 32,.M 28 33,.X 34 0 28,.X 35 1 28,.M 6 34,.M 7 35] [6,7] (.seq (.p [.M 36 6,.M 37 7,.u 38 (.row 1 [[.x 1 (.t 37)]]),.H 39 f1 38,.M 4 36,.M 5 39]) .ret)) .skip)) [0,1] (.o [.M 40 1,.M 41 1,.Z 42 41,.I 43 .sub 42 1,.J 44 1 40 43,.F 45 1 44,.H 46 f3 45,.M 8 46] [0,1,8] (.f (.y [.M 47 1,.M 48 8,.u 49 (.callf f4 [(.t 47),(.t 48)]),.M 50 1,.Z 51 50,.u 52 (.sl 1 (.t 49) none (some (.t 51))),.M 53 0,.M 54 8,.u 55 (.callf f4 [(.t 53),(.t 54)]),.M 9 52,.M 10 55]) [8,9,10] (.fz [9] (.o [.M 56 10,.Z 57 56,.M 58 9,.Z 59 58,.B 60 .sub 57 59,.u 61 (.mk 1 [(.lit (.int .u32 0))] (.t 60) (.t 60)),.M 11 61] [8,9,10,11] (.f (.y [.M 62 9,.M 63 9,.Z 64 63,.I 65 .sub 64 1,.J 66 1 62 65,.F 67 1 66,.u 68 (.conv .u64 (.t 67)),.M 69 9,.M 70 9,.Z 71 70,.I 72 .sub 71 2,.J 73 1 69 72,.F 74 1 73,.u 75 (.conv .u64 (.t 74)),.M 12 68,.M 13 75]) [8,9,10,11,12,13] (.f (.o [.M 76 11,.Z 77 76,.I 78 .sub 77 1,.M 14 78] [8,9,10,11,12,13,14] (.block 0 (.loop (.f (.o [.M 79 14,.I 80 .geq 79 0] [8,9,10,11,12,13,14,80] (.cond (.t 80) .skip (.exit 0))) [8,9,10,11,12,13,14] (.f (.block 1 (.o [.M 83 10,.M 84 14,.M 85 14,.M 86 9,.Z 87 86,.B 88 .add 85 87,.I 89 .add 88 1,.u 90 (.sl 1 (.t 83) (some (.t 84)) (some (.t 89))),.M 15 90] [8,9,10,11,12,13,14,15] (.f (.y [.M 91 15,.M 92 9,.Z 93 92,.J 94 1 91 93,.F 95 1 94,.u 96 (.conv .u64 (.t 95)),.u 97 (.bin .shl (.t 96) (.c (.one (.lit (.int .u64 32))))),.M 98 15,.M 99 9,.Z 100 99,.I 101 .sub 100 1,.J 102 1 98 101,.F 103 1 102,.u 104 (.conv .u64 (.t 103)),.B 105 .or 97 104,.M 16 105]) [8,9,10,11,12,13,14,15,16] (.f (.y [.M 106 16,.M 107 12,.B 108 .quo 106 107,.M 109 16,.M 110 12,.B 111 .rem 109 110,.M 17 108,.M 18 111]) [8,9,10,11,12,13,14,15,17,18] (.f (.block 2 (.loop (.f (.o [.M 112 18,.u 113 (.bin .lss (.t 112) (.c (.one (.lit (.int .u64 4294967296))))),.M 114 113,.V 115 114 true 17,.w 116 114 true (.bin .geq (.t 115) (.c (.one (.lit (.int .u64 4294967296))))),.V 117 114 true 116,.V 118 117 false 17,.V 119 117 false 13,.w 120 117 false (.bin .mul (.t 118) (.t 119)),.V 121 117 false 18,.w 122 117 false (.bin .shl (.t 121) (.c (.one (.lit (.int .u64 32))))),.V 123 117 false 15,.V 124 117 false 9,.w 125 117 false (.len (.t 124)),.w 126 117 false (.bin .sub (.t 125) (.i 2)),.w 127 117 false (.idx 1 (.t 123) (.t 126)),.U 128 117 false 1 false 127,.w 129 117 false (.conv .u64 (.t 128)),.w 130 117 false (.bin .or (.t 122) (.t 129)),.w 131 117 false (.bin .gtr (.t 120) (.t 130)),.w 132 114 true (.pick (.t 117) .tr (.t 131)),.P 133 114 132] [8,9,10,11,12,13,14,15,17,18,133] (.cond (.t 133) .skip (.exit 2))) [8,9,10,11,12,13,14,15,17,18] (.block 3 (.o [.M 134 17,.u 135 (.bin .sub (.t 134) (.c (.one (.lit (.int .u64 1))))),.M 17 135] [8,9,10,11,12,13,14,15,17,18] (.p [.M 136 18,.M 137 12,.B 138 .add 136 137,.M 18 138])))))) [8,9,10,11,12,13,14,15,17] (.f (.o [.M 139 15,.M 140 9,.M 141 17,.E 142 f5 139 140 141] [8,9,10,11,12,13,14,15,17,142] (.cond (.t 142) (.o [.M 143 17,.u 144 (.bin .sub (.t 143) (.c (.one (.lit (.int .u64 1))))),.M 17 144] [8,9,10,11,12,13,14,15,17] (.p [.M 145 15,.M 146 9,.D 147 f6 145 146])) .skip)) [8,9,10,11,12,13,14,17] (.p [.M 148 11,.M 149 14,.M 150 17,.u 151 (.conv .u32 (.t 150)),.J 152 1 148 149,.S 1 152 151]))))))) [8,9,10,11,12,13,14] (.p [.M 81 14,.I 82 .sub 81 1,.M 14 82])))))) [8,10,11] (.seq (.p [.M 153 11,.H 154 f1 153,.M 155 10,.M 156 8,.D 157 f7 155 156,.M 4 154,.M 5 157]) .ret))))))))))
set_option maxHeartbeats 4000000 in
theorem Jaf(hΓ:Xa P Γ){f fcmp ftrim fshort flz fup frem fback fdown:Nat}(h1:Γ fcmp=.dat false Wm)(h2:Γ ftrim=.dat false qx)(h3:Γ fshort=.dat false vC)(h4:Γ flz=.dat true lz_G)
  (h5:Γ fup=.fresh 1 up_G) (h6:Γ frem=.own Xw) (h7:Γ fback=.own ZN) (h8:Γ fdown=.dat false zM)
  (hc:check P f=some (158,(Ql fcmp ftrim fshort flz fup frem fback fdown).strip,[.tmp 4,.tmp 5])):ua P f (.dat false Jn):=by
 refine ka hc xT hΓ (λargs K hcl hfi hG=>?_);match args,hG with
 | [a,b],hG=>
  obtain⟨x,rfl,hx,y,rfl,hy,hzx,hzy,hy0,hxl,hyl,hK⟩:=hG;refine⟨by simp,?_⟩
  have hn:0<y.length:=by cases y with | nil=>exact(hy0 rfl).elim | cons=>simp
  have ht0:y.getD (y.length-1) 0≠0:=by
   intro e;refine hzy ?_;rw [List.getLast?_eq_getElem?];rw [List.getD_eq_getElem?_getD,List.getElem?_eq_getElem (by omega)]at e
   rw [List.getElem?_eq_getElem (by omega)]
   simpa using e
  have htB:=Jc hy (y.length-1);obtain⟨s,hs32,hs,hs1,hs2⟩:=QbG (Nat.pos_of_ne_zero ht0) htB;have hlast:((y.length:Int)-1).toNat=y.length-1:=by omega
  have hle:(y.length<=y.length+1)=True:=eq_true (by omega)
  obtain⟨hV1,hV2⟩:=shifted hy hn hs1 hs2;by_cases hlt:val x<val y
  .simp only [go_sem,Ql,h1,h2,h3,h4,h5,h8,Q6 hlt];refine⟨hx,hy,hzx,hzy,λ_=>⟨hx,by omega,?_⟩,λh=>absurd (show(-1:Int)<0 by omega) h⟩
   rw [Nat.div_eq_of_lt hlt,Nat.mod_eq_of_lt hlt,qc]at hK;exact hK
  have hlen:y.length<=x.length:=by
   rcases Nat.lt_or_ge x.length y.length with h | h
   .exact absurd (XT hx hzy h) hlt
   .exact h
  obtain⟨M,hM⟩:∃M,M=x.length+1-y.length:=⟨_,rfl⟩;have hM2:((x.length+1:Nat):Int)-(y.length:Int)=(M:Int):=by omega
  simp only [go_sem,Ql,h1,h2,h3,h4,h5,h8,hlast,hs,jb,zbn,hle,ybq hlt,hM2];refine⟨hx,hy,hzx,hzy,λ_=>⟨λhone=>?_,λhone=>?_⟩⟩
  .have hone:y.length=1:=by omega
   match y,hone with
   | [t],_=>
    simp only [List.length_singleton,Nat.sub_self,List.getD_cons_zero]at ht0 htB ⊢;refine⟨by omega,by omega,hx,by omega,by omega,by omega,kd.2 ⟨Nat.lt_trans (Nat.mod_lt _ (by omega)) htB,Wd⟩,?_⟩
    simpa [val] using hK
  have hone:2<=y.length:=by omega
  generalize hV:val y*2 ^ s=V at hV1 hV2;generalize hA:val x*2 ^ s=A;generalize hnn:y.length=n at *
  generalize hLL:x.length+1=L at *
  have hV0:0<V:=by have:=pow_pos n;omega
  have htop:(dig n V).getD (n-1) 0=V / 4294967296 ^ (n-1) % 4294967296:=qac _ _ _ (by omega)
  have hnext:(dig n V).getD ((n:Int)-2).toNat 0=V / 4294967296 ^ (n-2) % 4294967296:=by
   rw [show((n:Int)-2).toNat=n-2 by omega];exact qac _ _ _ (by omega)
  have hvv:val (dig n V)=V:=by rw [Wn,Nat.mod_eq_of_lt hV1]
  repeat first | refine Wk ?_ | intro _
  obtain⟨top,htd⟩:∃t,t=V / 4294967296 ^ (n-1) % 4294967296:=⟨_,rfl⟩;obtain⟨next,hnd⟩:∃t,t=V / 4294967296 ^ (n-2) % 4294967296:=⟨_,rfl⟩
  have htB:top<4294967296:=by rw [htd];exact Nat.mod_lt _ (by omega)
  have hnB:next<4294967296:=by rw [hnd];exact Nat.mod_lt _ (by omega)
  rw [htop,hnext,<-htd,<-hnd,Nat.mod_eq_of_lt (show top<18446744073709551616 by omega),Nat.mod_eq_of_lt (show next<18446744073709551616 by omega)]
  have hstart:=ybo hx hs32 (y:=y) (by rw [hnn,hV];exact hV2) (by omega)
  rw [hV,hA,hLL,hnn,<-hM]at hstart;refine Ya (λp:Nat×Nat×List Nat=>⟨mkV [(8,.one (.lit (.int .i64 s))),(9,wsA (dig n V)),(10,.one (.own 55 1 1 0 L)),(11,.one (.own 61 1 1 0 M)),(12,.one (.lit (.int .u64 top))),(13,.one (.lit (.int .u64 next))),(14,.one (.lit (.int .i64 ((p.1:Int)-1))))],
    mkH [(55,⟨1,some ⟨(dig L p.2.1).map wc,1,true⟩⟩),(61,⟨1,some ⟨(List.replicate p.1 0++p.2.2).map wc,1,true⟩⟩)]⟩)
   (λp=>p.1<=M/\p.2.1<V*4294967296 ^ p.1/\A=p.2.1+V*4294967296 ^ p.1*val p.2.2/\WL p.2.2/\p.2.2.length=M-p.1) (λp=>p.1) (M,A,[]) ?_ ?_ ?_
  .exact Qa (by simp [okS,okV,okC,okL,okH,okB,okE,ja,Ja,qa,Va,wsA,ws]) ⟨Xb rfl,Xb (by simp),trivial⟩
  .exact⟨Nat.le_refl _,hstart,by simp [val],Wd,by simp⟩
  .rintro⟨j1,X,qd⟩ ⟨hj,hX,hAX,hqd,hqdl⟩;simp only at hj hX hAX hqd hqdl;have hql:(List.replicate j1 0++qd).length=M:=by simp;omega
   rcases Nat.eq_zero_or_pos j1 with hj0 | hj0
   .subst hj0;simp only [Nat.pow_zero,Nat.mul_one]at hX hAX;have h0f:((0:Int)<=((0:Nat):Int)-1)=False:=eq_false (by omega)
    simp only [go_sem,h1,h2,h3,h4,h5,h8,jb,hql,h0f];refine⟨hqd,by omega,Vo _ _,by omega,by omega,?_⟩
    have hXL:X<4294967296 ^ L:=Nat.lt_trans hX (Nat.lt_of_lt_of_le hV1 (Nat.pow_le_pow_right (by omega) (by omega)))
    rw [Wn,Nat.mod_eq_of_lt hXL];have hs0:0<2 ^ s:=Nat.pow_pos (by omega)
    have hA2:=(Nat.div_mod_unique hV0 (a:=A) (c:=X) (d:=val qd)).2 ⟨hAX.symm,hX⟩;have e1:val x / val y=val qd:=by rw [<-hA2.1,<-hA,<-hV,Nat.mul_div_mul_right _ _ hs0]
    have e2:val x % val y=X / 2 ^ s:=by
     rw [<-hA2.2,<-hA,<-hV,Nat.mul_mod_mul_right,Nat.mul_div_cancel _ hs0]
    rw [e1,e2]at hK;exact hK
   .obtain⟨j,rfl⟩:∃j,j1=j+1:=⟨j1-1,by omega⟩
    have hj1:(((j+1:Nat):Int)-1)=(j:Int):=by omega
    simp only [hj1];generalize hPP:X / 4294967296 ^ j=P';have hPV:P' < V*4294967296:=by
     rw [<-hPP,Nat.div_lt_iff_lt_mul (pow_pos _),Nat.mul_assoc,Nat.mul_comm 4294967296,<-Nat.pow_succ];exact hX
    have hPL:P' < 4294967296 ^ (n+1):=by
     have:=(Nat.mul_lt_mul_right (show 0<4294967296 by omega)).2 hV1
     rw [Nat.pow_succ];exact Nat.lt_trans hPV this
    have st:=JbG hone hV1 hV2 hPV;rw [<-htd,<-hnd]at st;have hread:∀k,k<=n->(dig L X).getD (j+k) 0=P' / 4294967296 ^ k % 4294967296:=by
     intro k hk;rw [qac _ _ _ (by omega),Nat.pow_add,<-Nat.div_div_eq_div_mul,hPP]
    have hr0:=hread n (Nat.le_refl _);have hr1:=hread (n-1) (by omega)
    have hr2:=hread (n-2) (by omega)
    obtain⟨a,ha⟩:∃a,a=P' / 4294967296 ^ n % 4294967296:=⟨_,rfl⟩;obtain⟨b,hb⟩:∃b,b=P' / 4294967296 ^ (n-1) % 4294967296:=⟨_,rfl⟩;obtain⟨u2,hu⟩:∃u2,u2=P' / 4294967296 ^ (n-2) % 4294967296:=⟨_,rfl⟩;rw [<-ha]at hr0 st;rw [<-hb]at hr1 st;rw [<-hu]at hr2 st;have haB:a<4294967296:=by rw [ha];exact Nat.mod_lt _ (by omega)
    have hbB:b<4294967296:=by rw [hb];exact Nat.mod_lt _ (by omega)
    have huB:u2<4294967296:=by rw [hu];exact Nat.mod_lt _ (by omega)
    have htop0:0<top:=by have:=st.half;omega
    have hsub:j+n+1-j=n+1:=by omega
    have hsub1:((n:Int)-1).toNat=n-1:=by omega
    have hsub2:((n:Int)-2).toNat=n-2:=by omega
    have ea1:a % 18446744073709551616=a:=by omega
    have ea2:a*4294967296 % 18446744073709551616=a*4294967296:=by omega
    have eb1:b % 18446744073709551616=b:=by omega
    have eu1:u2 % 18446744073709551616=u2:=by omega
    have eor:=or32 a b hbB;simp only [go_sem,h1,h2,h3,h4,h5,h8,jb,hql,hsub,hsub1,hsub2,hr0,hr1,hr2,ea1,ea2,eb1,eor];repeat first | refine Wk ?_ | intro _
    obtain⟨q1,q2⟩:=st.first
    generalize hhead:a*4294967296+b=head at *
    have hqB:=st.quot;rw [Nat.mod_eq_of_lt (show head / top<18446744073709551616 by omega)]
    refine Ya (λp:Nat×Nat=>⟨mkV [(8,.one (.lit (.int .i64 s))),(9,wsA (dig n V)),(10,.one (.own 55 1 1 0 L)),(11,.one (.own 61 1 1 0 M)),(12,.one (.lit (.int .u64 top))),(13,.one (.lit (.int .u64 next))),(14,.one (.lit (.int .i64 j))),(15,.one (.own 55 1 1 j (n+1))),(17,.one (.lit (.int .u64 p.1))),(18,.one (.lit (.int .u64 p.2)))],
      mkH [(55,⟨1,some ⟨(dig L X).map wc,1,true⟩⟩),(61,⟨1,some ⟨(List.replicate (j+1) 0++qd).map wc,1,true⟩⟩)]⟩)
     (λp=>p.1*top+p.2=head/\P' / V<=p.1/\p.1<=4294967297/\p.2<8589934592/\(4294967296<p.1->p.2<4294967296)) (λp=>p.1) (head / top,head % top) ?_ ?_ ?_
    .exact Qa (by simp [okS,okV,okC,okL,okH,okB,okE,ja,Ja,qa,Va,wsA,ws]) ⟨Xb rfl,Xb rfl,trivial⟩
    .have m1:=Nat.mod_lt head htop0;exact⟨Nat.div_add_mod' head top,q2,q1,by simp only;omega,λ_=>by simp only;omega⟩
    .rintro⟨g,r⟩ ⟨hg,hqg,hgB,hrB,hgr⟩;simp only at hg hqg hgB hrB hgr;rcases Nat.lt_or_ge r 4294967296 with hr | hr
     .have hr' : ((r:Int)<4294967296)=True:=eq_true (by omega)
      rcases Nat.lt_or_ge g 4294967296 with hgl | hgl
      .have hg' : ((4294967296:Int)<=(g:Int))=False:=eq_false (by omega)
       have hm:g*next<18446744073709551616:=Qa5 hgl hnB
       have em:g*next % 18446744073709551616=g*next:=by rw [Nat.mod_eq_of_lt hm]
       have er:=zbC hr;have eo:=or32 r u2 huB;by_cases hcmp:r*4294967296+u2<g*next
       .simp only [go_sem,h1,h2,h3,h4,h5,h6,h7,h8,jb,hql,hsub,hsub1,hsub2,hr0,hr1,hr2,eu1,hr',hg',em,er,eo,hcmp];repeat first | refine Wk ?_ | intro _
        have hdown:4294967296<=g∨r*4294967296+u2<g*next:=.inr hcmp
        have hdn:=st.down hg hdown;have hg0:1<=g:=Nat.lt_of_le_of_lt (Nat.zero_le _) hdn;have hqg1:P' / V<=g-1:=Nat.le_sub_one_of_lt hdn;have hg1:sub64 g 1=g-1:=xF hg0 (by omega)
        refine⟨(g-1,r+top),Qa (by simp [okS,okV,okC,okL,okH,okB,okE,ja,Ja,qa,Va,wsA,ws,hg1];omega) ⟨Xb rfl,Xb rfl,trivial⟩,⟨?_,hqg1,by simp only;omega,by simp only;omega,λ_=>by simp only at *;omega⟩,by simp only;omega⟩
        simp only;obtain⟨g',rfl⟩:∃g',g=g' + 1:=⟨g-1,by omega⟩
        rw [Nat.add_sub_cancel,<-hg,Nat.add_mul];omega
       .simp only [go_sem,h1,h2,h3,h4,h5,h6,h7,h8,jb,hql,hsub,hsub1,hsub2,hr0,hr1,hr2,eu1,hr',hg',em,er,eo,hcmp];repeat first | refine Wk ?_ | intro _
        have hstop:4294967296<=r∨(g<4294967296/\g*next<=r*4294967296+u2):=.inr ⟨hgl,by omega⟩
        have hgB2:g<=4294967296:=by omega
        have hle:=st.stop hg hgB2 hstop;obtain⟨l1,l2⟩:=st.left hqg hle;have hgV:g*V<4294967296 ^ (n+1):=by
         have a1:=Nat.mul_le_mul_right V hgB2;have a2:=(Nat.mul_lt_mul_left (show 0<4294967296 by omega)).2 hV1
         rw [Nat.pow_succ,Nat.mul_comm (4294967296 ^ n)];exact Nat.lt_of_le_of_lt a1 a2
        have hsplit:=UP (L:=L) (j:=j) (n:=n) (X:=X) (by omega) (by rw [hPP];exact hPL)
        rw [hPP]at hsplit;have hvp:val (dig (n+1) P')=P':=by rw [Wn,Nat.mod_eq_of_lt hPL]
        have hrl:P' % V<4294967296 ^ (n+1):=Nat.lt_of_le_of_lt (Nat.mod_le _ _) hPL;have hjoin:=UaJ (L:=L) (j:=j) (n:=n) (X:=X) (by omega) hrl
        have hdiv:=qax (j:=j) (q:=P' / V) hV0 hAX (by rw [hPP])
        rw [hPP]at hdiv;simp only [Xw,uK];refine⟨Vo _ _,dig j X,dig (n+1) P',List.replicate (L-(j+(n+1))) 0,g,(jb _ _).symm,(jb _ _).symm,rfl,by simp only [qa,↓reduceIte,Nat.reduceEqDiff];rw [hsplit],Vo _ _,hgB2,by rw [jb,jb];omega,by rw [hvv,jb];exact hgV,by rw [jb];omega,?_⟩
        rw [hvp,hvv,jb];by_cases hb:P' < g*V
        .have hgq:=l1 hb;simp only [go_sem,h1,h2,h3,h4,h5,h7,h8,hb,hql];simp only [ZN,uK];refine⟨Vo _ _,dig j X,dig (n+1) (P' + 4294967296 ^ (n+1)-g*V),List.replicate (L-(j+(n+1))) 0,(jb _ _).symm,(jb _ _).symm,by simp only [qa,↓reduceIte,Nat.reduceEqDiff],Vo _ _,by rw [jb,jb];omega,by rw [jb];omega,?_⟩
         rw [jb,hvv,Ybu hgq hb hgV,hjoin];have hg1:sub64 g 1=P' / V:=by rw [hgq];exact wZ hqB
         simp only [go_sem,h1,h2,h3,h4,h5,h7,h8,hql,hg1];rw [Nat.mod_eq_of_lt hqB];have hset:=vw (n:=j+1) qd (P' / V) (by omega)
         rw [Nat.add_sub_cancel]at hset;rw [hset];repeat first | refine Wk ?_ | intro _
         exact⟨(j,X % 4294967296 ^ j+4294967296 ^ j*(P' % V),P' / V::qd),Qa (by simp [okS,okV,okC,okL,okH,okB,okE,ja,Ja,qa,Va,wsA,ws]) ⟨Xb rfl,Xb rfl,trivial⟩,⟨by simp only;omega,hdiv.2,hdiv.1,kd.2 ⟨hqB,hqd⟩,by simp only [List.length_cons];omega⟩,by simp only;omega⟩
        .have hgq:=l2 hb;rw [qbA hgq,hjoin];simp only [go_sem,h1,h2,h3,h4,h5,h7,h8,hb,hql];rw [hgq,Nat.mod_eq_of_lt hqB];have hset:=vw (n:=j+1) qd (P' / V) (by omega)
         rw [Nat.add_sub_cancel]at hset;rw [hset];repeat first | refine Wk ?_ | intro _
         exact⟨(j,X % 4294967296 ^ j+4294967296 ^ j*(P' % V),P' / V::qd),Qa (by simp [okS,okV,okC,okL,okH,okB,okE,ja,Ja,qa,Va,wsA,ws]) ⟨Xb rfl,Xb rfl,trivial⟩,⟨by simp only;omega,hdiv.2,hdiv.1,kd.2 ⟨hqB,hqd⟩,by simp only [List.length_cons];omega⟩,by simp only;omega⟩
      .have hg' : ((4294967296:Int)<=(g:Int))=True:=eq_true (by omega)
       simp only [go_sem,h1,h2,h3,h4,h5,h6,h7,h8,jb,hql,hsub,hsub1,hsub2,hr0,hr1,hr2,eu1,hr',hg'];repeat first | refine Wk ?_ | intro _
       have hdown:4294967296<=g∨r*4294967296+u2<g*next:=.inl hgl
       have hdn:=st.down hg hdown;have hg0:1<=g:=Nat.lt_of_le_of_lt (Nat.zero_le _) hdn;have hqg1:P' / V<=g-1:=Nat.le_sub_one_of_lt hdn;have hg1:sub64 g 1=g-1:=xF hg0 (by omega)
       refine⟨(g-1,r+top),Qa (by simp [okS,okV,okC,okL,okH,okB,okE,ja,Ja,qa,Va,wsA,ws,hg1];omega) ⟨Xb rfl,Xb rfl,trivial⟩,⟨?_,hqg1,by simp only;omega,by simp only;omega,λ_=>by simp only at *;omega⟩,by simp only;omega⟩
       simp only;obtain⟨g',rfl⟩:∃g',g=g' + 1:=⟨g-1,by omega⟩
       rw [Nat.add_sub_cancel,<-hg,Nat.add_mul];omega
     .have hr' : ((r:Int)<4294967296)=False:=eq_false (by omega)
      simp only [go_sem,h1,h2,h3,h4,h5,h6,h7,h8,jb,hql,hsub,hsub1,hsub2,hr0,hr1,hr2,eu1,hr'];repeat first | refine Wk ?_ | intro _
      have hstop:4294967296<=r∨(g<4294967296/\g*next<=r*4294967296+u2):=.inl hr
      have hgB2:g<=4294967296:=by omega
      have hle:=st.stop hg hgB2 hstop;obtain⟨l1,l2⟩:=st.left hqg hle;have hgV:g*V<4294967296 ^ (n+1):=by
       have a1:=Nat.mul_le_mul_right V hgB2;have a2:=(Nat.mul_lt_mul_left (show 0<4294967296 by omega)).2 hV1
       rw [Nat.pow_succ,Nat.mul_comm (4294967296 ^ n)];exact Nat.lt_of_le_of_lt a1 a2
      have hsplit:=UP (L:=L) (j:=j) (n:=n) (X:=X) (by omega) (by rw [hPP];exact hPL)
      rw [hPP]at hsplit;have hvp:val (dig (n+1) P')=P':=by rw [Wn,Nat.mod_eq_of_lt hPL]
      have hrl:P' % V<4294967296 ^ (n+1):=Nat.lt_of_le_of_lt (Nat.mod_le _ _) hPL;have hjoin:=UaJ (L:=L) (j:=j) (n:=n) (X:=X) (by omega) hrl
      have hdiv:=qax (j:=j) (q:=P' / V) hV0 hAX (by rw [hPP])
      rw [hPP]at hdiv;simp only [Xw,uK];refine⟨Vo _ _,dig j X,dig (n+1) P',List.replicate (L-(j+(n+1))) 0,g,(jb _ _).symm,(jb _ _).symm,rfl,by simp only [qa,↓reduceIte,Nat.reduceEqDiff];rw [hsplit],Vo _ _,hgB2,by rw [jb,jb];omega,by rw [hvv,jb];exact hgV,by rw [jb];omega,?_⟩
      rw [hvp,hvv,jb];by_cases hb:P' < g*V
      .have hgq:=l1 hb;simp only [go_sem,h1,h2,h3,h4,h5,h7,h8,hb,hql];simp only [ZN,uK];refine⟨Vo _ _,dig j X,dig (n+1) (P' + 4294967296 ^ (n+1)-g*V),List.replicate (L-(j+(n+1))) 0,(jb _ _).symm,(jb _ _).symm,by simp only [qa,↓reduceIte,Nat.reduceEqDiff],Vo _ _,by rw [jb,jb];omega,by rw [jb];omega,?_⟩
       rw [jb,hvv,Ybu hgq hb hgV,hjoin];have hg1:sub64 g 1=P' / V:=by rw [hgq];exact wZ hqB
       simp only [go_sem,h1,h2,h3,h4,h5,h7,h8,hql,hg1];rw [Nat.mod_eq_of_lt hqB];have hset:=vw (n:=j+1) qd (P' / V) (by omega)
       rw [Nat.add_sub_cancel]at hset;rw [hset];repeat first | refine Wk ?_ | intro _
       exact⟨(j,X % 4294967296 ^ j+4294967296 ^ j*(P' % V),P' / V::qd),Qa (by simp [okS,okV,okC,okL,okH,okB,okE,ja,Ja,qa,Va,wsA,ws]) ⟨Xb rfl,Xb rfl,trivial⟩,⟨by simp only;omega,hdiv.2,hdiv.1,kd.2 ⟨hqB,hqd⟩,by simp only [List.length_cons];omega⟩,by simp only;omega⟩
      .have hgq:=l2 hb;rw [qbA hgq,hjoin];simp only [go_sem,h1,h2,h3,h4,h5,h7,h8,hb,hql];rw [hgq,Nat.mod_eq_of_lt hqB];have hset:=vw (n:=j+1) qd (P' / V) (by omega)
       rw [Nat.add_sub_cancel]at hset;rw [hset];repeat first | refine Wk ?_ | intro _
       exact⟨(j,X % 4294967296 ^ j+4294967296 ^ j*(P' % V),P' / V::qd),Qa (by simp [okS,okV,okC,okL,okH,okB,okE,ja,Ja,qa,Va,wsA,ws]) ⟨Xb rfl,Xb rfl,trivial⟩,⟨by simp only;omega,hdiv.2,hdiv.1,kd.2 ⟨hqB,hqd⟩,by simp only [List.length_cons];omega⟩,by simp only;omega⟩
end Go.Abs
end
section
namespace Go.Abs
open Go.Num
variable {P:Program} {Γ:Nat->Spec}
def zn:AC:=(.o [.K 1 2 0,.m 2 .fa] [1] (.f (.o [.A 3 1 1,.F 4 1 3,.Z 5 4,.I 6 .eql 5 0] [1,6] (.cond (.t 6) (.seq (.p [.A 7 0 1,.F 8 1 7,.u 9 (.un .not (.t 8)),.M 2 9]) .ret) .skip)) [1] (.seq (.p [.A 10 1 1,.F 11 1 10,.A 12 1 1,.F 13 1 12,.Z 14 13,.I 15 .sub 14 1,.J 16 1 11 15,.F 17 1 16,.u 18 (.bin .neq (.t 17) (.c (.one (.lit (.int .u32 0))))),.M 2 18]) .ret)))
def Vr(f0:Nat):AC:=(.o [.K 1 2 0,.m 2 (.c (.one .emp))] [1] (.f (.o [.L 3 2 1,.H 4 f0 3,.u 5 (.un .not (.t 4))] [1,5] (.cond (.t 5) (.seq (.p [.m 2 (.c (.one .emp))]) .ret) .skip)) [1] (.seq (.p [.A 6 1 1,.F 7 1 6,.M 2 7]) .ret)))
def zr(f0:Nat):AC:=(.o [.K 1 2 0,.m 2 .fa] [1] (.seq (.p [.L 3 2 1,.H 4 f0 3,.M 5 4,.T 6 5 true 0 1,.U 7 5 true 1 false 6,.P 8 5 7,.M 2 8]) .ret))
def kt(f0:Nat):AC:=(.o [.G 4 [.z,.emp]] [0,1,4] (.o [.M 5 1,.H 6 f0 5,.M 1 6] [0,1,4] (.seq (.p [.M 7 0,.M 8 7,.V 9 8 true 1,.w 10 8 true (.len (.t 9)),.w 11 8 true (.bin .gtr (.t 10) (.i 0)),.P 12 8 11,.M 13 1,.u 14 (.build [.x 1 (.t 12),.x 1 (.t 13)]),.S 2 4 14]) .ret)))
def Xu(f0:Nat):AC:=(.o [.G 2 [.z,.emp]] [0,2] (.o [.M 4 0,.u 5 (.conv .u64 (.t 4)),.M 3 5] [0,2,3] (.f (.o [.M 6 0,.I 7 .lss 6 0] [0,2,3,7] (.cond (.t 7) (.p [.M 8 3,.u 9 (.un .neg (.t 8)),.M 3 9]) .skip)) [0,2,3] (.seq (.p [.M 10 0,.I 11 .lss 10 0,.M 12 3,.u 13 (.conv .u32 (.t 12)),.M 14 3,.u 15 (.bin .shr (.t 14) (.c (.one (.lit (.int .u64 32))))),.u 16 (.conv .u32 (.t 15)),.u 17 (.row 1 [[.x 1 (.t 13)],[.x 1 (.t 16)]]),.D 18 f0 11 17,.S 2 2 18]) .ret))))
def Zv(f0:Nat):AC:=(.o [.K 1 2 0,.N 2 0] [1] (.f (.block 0 (.o [.L 4 2 1,.H 5 f0 4,.Z 6 5,.I 7 .eql 6 0,.M 3 7] [1,3] (.cond (.t 3) (.seq (.p [.N 2 0]) .ret) (.o [.A 9 0 1,.F 10 1 9,.M 8 10] [8] (.cond (.t 8) (.seq (.p [.N 2 (-1)]) .ret) .skip))))) [] (.seq (.p [.N 2 1]) .ret)))
def Wz(f0 f1 f2 f3:Nat):AC:=(.o [.K 2 2 0,.K 3 2 1,.N 4 0] [2,3] (.f (.f (.y [.L 8 2 2,.H 9 f0 8,.L 10 2 3,.H 11 f0 10,.M 5 9,.M 6 11]) [2,3,5,6] (.o [.M 12 5,.M 13 6,.B 14 .neq 12 13] [2,3,5,6,14] (.cond (.t 14) (.f (.o [.M 15 5,.M 16 6,.B 17 .lss 15 16] [17] (.cond (.t 17) (.seq (.p [.N 4 (-1)]) .ret) .skip)) [] (.seq (.p [.N 4 1]) .ret)) .skip))) [2,3] (.f (.y [.L 18 2 2,.H 19 f1 18,.L 20 2 3,.H 21 f1 20,.D 22 f2 19 21,.M 7 22]) [2,7] (.f (.o [.L 23 2 2,.H 24 f3 23] [7,24] (.cond (.t 24) (.seq (.p [.M 25 7,.u 26 (.un .neg (.t 25)),.M 4 26]) .ret) .skip)) [7] (.seq (.p [.M 27 7,.M 4 27]) .ret)))))
def jr(f0 f1 f2:Nat):AC:=(.o [.K 1 2 0,.G 2 [.z,.emp]] [1,2] (.seq (.y [.L 3 2 1,.H 4 f0 3,.u 5 (.un .not (.t 4)),.L 6 2 1,.H 7 f1 6,.D 8 f2 5 7,.S 2 2 8]) .ret))
def Vz(f0 f1 f2 f3 f4 f5:Nat):AC:=(.o [.K 2 2 0,.K 3 2 1,.G 4 [.z,.emp]] [2,3,4] (.f (.y [.L 7 2 2,.H 8 f0 7,.L 9 2 3,.H 10 f0 9,.M 5 8,.M 6 10]) [2,3,4,5,6] (.f (.block 0 (.f (.y [.L 12 2 2,.H 13 f1 12,.L 14 2 3,.H 15 f1 14,.u 16 (.binb .eql (.t 13) (.t 15)),.M 11 16]) [2,3,4,5,6,11] (.cond (.t 11) (.seq (.p [.L 17 2 2,.H 18 f1 17,.M 19 5,.M 20 6,.D 21 f2 19 20,.D 22 f3 18 21,.S 2 4 22]) .ret) (.o [.M 24 5,.M 25 6,.D 26 f4 24 25,.I 27 .geq 26 0,.M 23 27] [2,3,4,5,6,23] (.cond (.t 23) (.seq (.p [.L 28 2 2,.H 29 f1 28,.M 30 5,.M 31 6,.D 32 f5 30 31,.D 33 f3 29 32,.S 2 4 33]) .ret) .skip))))) [3,4,5,6] (.seq (.p [.L 34 2 3,.H 35 f1 34,.M 36 6,.M 37 5,.D 38 f5 36 37,.D 39 f3 35 38,.S 2 4 39]) .ret))))
def Qr(f0 f1 f2 f3:Nat):AC:=(.o [.K 2 2 0,.K 3 2 1,.G 4 [.z,.emp]] [2,3,4] (.seq (.y [.L 5 2 2,.H 6 f0 5,.L 7 2 3,.H 8 f0 7,.u 9 (.binb .neq (.t 6) (.t 8)),.L 10 2 2,.H 11 f1 10,.L 12 2 3,.H 13 f1 12,.D 14 f2 11 13,.D 15 f3 9 14,.S 2 4 15]) .ret))
def qz(f0 f1 f2:Nat):AC:=(.o [.K 2 2 0,.K 3 2 1,.G 4 [.z,.emp]] [2,3,4] (.f (.y [.L 9 2 2,.H 10 f0 9,.L 11 2 3,.H 12 f0 11,.M 5 10,.M 6 12]) [4,5,6] (.f (.block 0 (.loop (.f (.o [.M 13 6,.Z 14 13,.I 15 .gtr 14 0] [4,5,6,15] (.cond (.t 15) .skip (.exit 0))) [4,5,6] (.block 1 (.o [.M 17 5,.M 18 6,.D 19 f1 17 18,.M 16 19,.X 20 0 16,.X 21 1 16,.M 7 20,.M 8 21] [4,6,8] (.p [.M 22 6,.M 23 8,.M 5 22,.M 6 23])))))) [4,5] (.seq (.p [.M 24 5,.u 25 (.call f2 [.fa,(.t 24)]),.S 2 4 25]) .ret))))
def yz(f0 f1 f2 f3 f4 f5 tE:Nat):AC:=(.o [.K 2 2 0,.K 3 2 1,.G 4 [.z,.emp],.G 5 [.z,.emp],.m 6 (.c (.one (.lit .nilIface)))] [2,3,4,5] (.o [.L 10 2 3,.H 11 f0 10,.M 7 11] [2,3,4,5,7] (.f (.o [.M 12 7,.Z 13 12,.I 14 .eql 13 0] [2,3,4,5,7,14] (.cond (.t 14) (.seq (.p [.u 15 (.build [.z [.z,.emp]]),.u 16 (.build [.z [.z,.emp]]),.u 17 (.iface tE (.i 8)),.S 2 4 15,.S 2 5 16,.M 6 17]) .ret) .skip)) [2,3,4,5,7] (.o [.L 19 2 2,.H 20 f0 19,.M 21 7,.D 22 f1 20 21,.M 18 22,.X 23 0 18,.X 24 1 18,.M 8 23,.M 9 24] [2,3,4,5,7,8,9] (.f (.o [.L 25 2 2,.H 26 f2 25,.M 27 26,.V 28 27 true 9,.w 29 27 true (.len (.t 28)),.w 30 27 true (.bin .gtr (.t 29) (.i 0)),.P 31 27 30] [2,3,4,5,7,8,9,31] (.cond (.t 31) (.p [.M 32 8,.u 33 (.row 1 [[.x 1 (.c (.one (.lit (.int .u32 1))))]]),.D 34 f3 32 33,.M 35 7,.M 36 9,.D 37 f4 35 36,.M 8 34,.M 9 37]) .skip)) [2,3,4,5,8,9] (.seq (.y [.L 38 2 2,.H 39 f2 38,.L 40 2 3,.H 41 f2 40,.u 42 (.binb .neq (.t 39) (.t 41)),.M 43 8,.D 44 f5 42 43,.M 45 9,.u 46 (.call f5 [.fa,(.t 45)]),.S 2 4 44,.S 2 5 46,.m 6 (.c (.one (.lit .nilIface)))]) .ret))))))
theorem uL(hΓ:Xa P Γ){f:Nat}(hc:check P f=some (19,zn.strip,[.tmp 2])):ua P f (.dat true Xp):=by
 refine ka hc Vas hΓ (λargs K hcl hfi hG=>?_);match args,hG with
 | [a],hG=>
  obtain⟨w,rfl,hw,hK⟩:=hG;refine⟨by simp,?_⟩
  simp only [go_sem,zn,YbC,qaO];unfold vldW at hK;intro hlen;refine⟨λh=>?_,λh _=>?_⟩
  .rw [if_pos (List.length_eq_zero_iff.1 h)]at hK;exact hK
  .have hn:w.2≠[]:=λe=>h (by rw [e];rfl)
   rw [if_neg hn]at hK;refine⟨⟨by omega,by omega⟩,by omega,by omega,?_⟩
   have e1:((w.2.length:Int)-1).toNat=w.2.length-1:=by omega
   rw [e1];have e2:(!decide (w.2.getD (w.2.length-1) 0=0))=decide (NZ w.2):=by
    rw [<-decide_not,decide_eq_decide];unfold NZ;rw [List.getLast?_eq_getElem?,List.getElem?_eq_getElem (by omega),List.getD_eq_getElem?_getD,List.getElem?_eq_getElem (by omega)]
    simp
   rw [e2];exact hK
theorem YW(hΓ:Xa P Γ){f fv:Nat}(hv:Γ fv=.dat true Xp)(hc:check P f=some (8,(Vr fv).strip,[.tmp 2])):ua P f (.dat false zo):=by
 refine ka hc Wbf hΓ (λargs K hcl hfi hG=>?_);match args,hG with
 | [a],hG=>
  obtain⟨w,rfl,hw,hK⟩:=hG;refine⟨by simp,?_⟩
  simp only [go_sem,Vr,hv,hw];rw [<-UbT hw]at hK;refine⟨λh=>?_,λh=>?_⟩
  .rw [if_pos h]at hK;exact hK
  .rw [if_neg (by rw [h];simp)]at hK;exact hK
theorem QU(hΓ:Xa P Γ){f fv:Nat}(hv:Γ fv=.dat true Xp)(hc:check P f=some (9,(zr fv).strip,[.tmp 2])):ua P f (.dat true Uj):=by
 refine ka hc YaO hΓ (λargs K hcl hfi hG=>?_);match args,hG with
 | [a],hG=>
  obtain⟨w,rfl,hw,hK⟩:=hG;refine⟨by simp,?_⟩
  simp only [go_sem,zr,hv,hw];rw [<-xaX hw]at hK;refine⟨λh=>?_,λh=>?_⟩
  .rw [h,Bool.true_and]at hK;exact hK
  .rw [h,Bool.false_and]at hK;exact hK
theorem Uar(hΓ:Xa P Γ){f ft:Nat}(ht:Γ ft=.dat false qx)(hc:check P f=some (15,(kt ft).strip,[.cell 4 2 true])):ua P f (.dat false Vi):=by
 refine ka hc V0 hΓ (λargs K hcl hfi hG=>?_);match args,hG with
 | [a,m],hG=>
  obtain⟨b,rfl,hG⟩:=Uz hG;obtain⟨l,rfl,hl,hlen,hK⟩:=hG;refine⟨by simp,?_⟩
  simp only [go_sem,kt,ht];rw [<-QZ]at hK;refine⟨hl,hlen,λh _=>?_,λh=>?_⟩
  .rw [h,Bool.true_and]at hK;exact hK
  .rw [h,Bool.false_and]at hK;exact hK
theorem vae(hΓ:Xa P Γ){f fw:Nat}(hw:Γ fw=.dat false Vi)(hc:check P f=some (19,(Xu fw).strip,[.cell 2 2 true])):ua P f (.dat false YU):=by
 refine ka hc Wbm hΓ (λargs K hcl hfi hG=>?_);match args,hG with
 | [a],hG=>
  obtain⟨k,n,rfl,rfl,hn1,hn2,hK⟩:=Yb hG;refine⟨by simp,?_⟩
  simp only [go_sem,Xu,hw];have e0:(18446744073709551616:Int)=((18446744073709551616:Nat):Int):=rfl;have key:∀(x:Nat) (b:Bool),x<18446744073709551616->sg b x=n->
    onWs (λl=>l.length<=68719476736/\K (AV.agg [zb (zcan (sg b (val l))),zm (zcan (sg b (val l)))]))
     (AV.one (C.slice [[C.lit (Value.int IntKind.u32 ((x:Int) % 4294967296))],[C.lit (Value.int IntKind.u32 ((x:Int) / 2 ^ 32 % 4294967296))]])):=by
   intro x b hx hs;have e1:((x:Int) % 4294967296)=((x % 4294967296:Nat):Int):=by omega
   have e2:((x:Int) / 2 ^ 32 % 4294967296)=((x / 4294967296:Nat):Int):=by omega
   rw [e1,e2,ubg];refine⟨?_,by simp,?_⟩
   .rw [kd,kd];exact⟨by omega,by omega,Wd⟩
   .have:val [x % 4294967296,x / 4294967296]=x:=by
     simp only [Yk,Jq];omega
    rw [this,hs];exact hK
  refine⟨λh=>⟨⟨by omega,by omega,by decide⟩,?_⟩,λh=>⟨⟨by omega,by omega,by decide⟩,?_⟩⟩
  .have e:(-(n % 18446744073709551616) % 18446744073709551616:Int)=((-n).toNat:Int):=by omega
   rw [e];refine key _ _ (by omega) ?_
   rw [decide_eq_true h];unfold sg;rw [if_pos rfl];omega
  .have e:(n % 18446744073709551616:Int)=(n.toNat:Int):=by omega
   rw [e];refine key _ _ (by omega) ?_
   rw [decide_eq_false h];unfold sg;rw [if_neg (by simp)];omega
theorem uar(hΓ:Xa P Γ){f fm:Nat}(hm:Γ fm=.dat false zo)(hc:check P f=some (11,(Zv fm).strip,[.tmp 2])):ua P f (.dat true zk):=by
 refine ka hc uX hΓ (λargs K hcl hfi hG=>?_);match args,hG with
 | [a],hG=>
  obtain⟨w,rfl,hw,hK⟩:=hG;refine⟨by simp,?_⟩
  simp only [go_sem,Zv,hm,hw,YbC,qaO];intro _;show((digs (zv w).natAbs).length=0->_)/\(¬(digs (zv w).natAbs).length=0->_);have h0:(digs (zv w).natAbs).length=0↔zv w=0:=Yz;rw [h0];refine⟨λh=>?_,λh=>⟨λhb=>?_,λhb=>?_⟩⟩
  .rw [h]at hK;exact hK
  .have:zv w<0:=by
    have:=xaX hw;rw [hb,Bool.and_true]at this;have hv:vldW w=true:=by
     cases hv:vldW w with
     | true=>rfl
     | false=>exact absurd (kat hv) h
    rw [hv]at this;simpa using this.symm
   rw [Int.sign_eq_neg_one_of_neg this]at hK;exact hK
  .have:¬zv w<0:=by
    have:=xaX hw;rw [hb,Bool.and_false]at this;simpa using this.symm
   rw [Int.sign_eq_one_of_pos (by omega)]at hK;exact hK
theorem ZaP(hΓ:Xa P Γ){f fs fm fc fn:Nat}(hs:Γ fs=.dat true zk)(hm:Γ fm=.dat false zo)(hc' : Γ fc=.dat false Wm)(hn:Γ fn=.dat true Uj)
  (hc:check P f=some (28,(Wz fs fm fc fn).strip,[.tmp 4])):ua P f (.dat true WJ):=by
 refine ka hc XaU hΓ (λargs K hcl hfi hG=>?_);match args,hG with
 | [a,b],hG=>
  obtain⟨v,rfl,hv,w,rfl,hw,hK⟩:=hG;refine⟨by simp,?_⟩
  simp only [go_sem,Wz,hs,hm,hc',hn,hv,hw];simp only [kb];have hs:∀n:Int,Int.sign n=if n<0 then -1 else if n=0 then 0 else 1:=by
   intro n;split
   .exact Int.sign_eq_neg_one_of_neg ‹_›
   .split
    .rename_i h;rw [h];rfl
    .exact Int.sign_eq_one_of_pos (by omega)
  rw [hs,hs];generalize zv v=x at hK ⊢;generalize zv w=y at hK ⊢;refine⟨λh=>⟨Qb _,Qb _,Wt _,Wt _,λhx=>⟨?_,?_⟩,λhx=>?_⟩,λh=>⟨λh'=>?_,λh'=>?_⟩⟩
  .unfold ordN;split <;> (try split) <;> omega
  .have e:-ordN x.natAbs y.natAbs=ordI x y:=by
    unfold ordN ordI;rw [if_pos hx]at h;have hy:y<0:=by
     split at h
     .assumption
     .split at h <;> omega
    split <;> (try split) <;> (try split) <;> (try split) <;> omega
   rw [e];exact hK
  .have e:ordN x.natAbs y.natAbs=ordI x y:=by
    unfold ordN ordI;rw [if_neg hx]at h;have hy:¬y<0:=by
     intro hy;rw [if_pos hy]at h;split at h <;> omega
    split <;> (try split) <;> (try split) <;> (try split) <;> omega
   rw [e];exact hK
  .have e:ordI x y = -1:=wbK (by
    split at h' <;> split at h' <;> (try split at h') <;> (try split at h') <;> omega)
   rw [e]at hK;exact hK
  .have e:ordI x y=1:=QbF (by
    split at h' <;> split at h' <;> (try split at h') <;> (try split at h') <;> (try split at h) <;> (try split at h) <;> (try split at h) <;> (try split at h) <;> omega)
   rw [e]at hK;exact hK
theorem QV(hΓ:Xa P Γ){f fn fm fw:Nat}(hn:Γ fn=.dat true Uj)(hm:Γ fm=.dat false zo)(hw' : Γ fw=.dat false Vi)(hc:check P f=some (9,(jr fn fm fw).strip,[.cell 2 2 true])):ua P f (.dat false VC):=by
 refine ka hc Ja3 hΓ (λargs K hcl hfi hG=>?_);match args,hG with
 | [a],hG=>
  obtain⟨w,rfl,hw,hz,hK⟩:=hG;refine⟨by simp,?_⟩
  simp only [go_sem,jr,hn,hm,hw',hw];rw [kb];refine⟨Qb _,hz,?_⟩;have e:sg (!decide (zv w<0)) (zv w).natAbs = -zv w:=by
   unfold sg;by_cases h:zv w<0 <;> simp [h] <;> omega
  rw [e];exact hK
theorem WW(hΓ:Xa P Γ){f fn fm ft fw:Nat}(hn:Γ fn=.dat true Uj)(hm:Γ fm=.dat false zo)(ht:Γ ft=.dat false Jz)(hw' : Γ fw=.dat false Vi)(hc:check P f=some (16,(Qr fn fm ft fw).strip,[.cell 4 2 true])):ua P f (.dat false kC):=by
 refine ka hc Ya4 hΓ (λargs K hcl hfi hG=>?_);match args,hG with
 | [a,b],hG=>
  obtain⟨v,rfl,hv,w,rfl,hw,hz,hz',hK⟩:=hG;refine⟨by simp,?_⟩
  simp only [go_sem,Qr,hn,hm,ht,hw',hw,hv];simp only [kb];have e:sg (!(decide (zv v<0) == decide (zv w<0))) ((zv v).natAbs*(zv w).natAbs)=zv v*zv w:=ubQ _ _;rw [e];refine⟨Qb _,Qb _,hz,hz',Qb _,?_,hK⟩;have:=qt (zv v) (zv w);unfold zs at *
  rw [<-Int.natAbs_mul];omega
theorem jaR(hΓ:Xa P Γ){f fn fm fp fw fc fl:Nat}(hn:Γ fn=.dat true Uj)(hm:Γ fm=.dat false zo)(hp:Γ fp=.dat false qy)(hw' : Γ fw=.dat false Vi)(hc' : Γ fc=.dat false Wm)(hl:Γ fl=.dat false uA)(hc:check P f=some (40,(Vz fm fn fp fw fc fl).strip,[.cell 4 2 true])):ua P f (.dat false vE):=by
 refine ka hc wak hΓ (λargs K hcl hfi hG=>?_);match args,hG with
 | [a,b],hG=>
  obtain⟨v,rfl,hv,w,rfl,hw,hz,hz',hK⟩:=hG;refine⟨by simp,?_⟩
  simp only [go_sem,Vz,hn,hm,hp,hw',hc',hl,hw,hv];simp only [kb];have hsz:=yQ (zv v) (zv w);refine⟨λh=>⟨Qb _,Qb _,hz,hz',Qb _,?_,?_⟩,λh=>⟨Qb _,Qb _,Wt _,Wt _,λho=>⟨Qb _,Qb _,by unfold zs at hz;omega,?_,Qb _,?_,?_⟩,λho=>⟨Qb _,Qb _,by unfold zs at hz';omega,?_,Qb _,?_,?_⟩⟩⟩
  .have e:=ZC (xk h);rw [show(zv v).natAbs+(zv w).natAbs=(zv v+zv w).natAbs by have:=xk h;omega]
   unfold zs at *;omega
  .rw [ZC (xk h)];exact hK
  .exact(Yy.1 ho)
  .have:=qb (Nat.sub_le (zv v).natAbs (zv w).natAbs);unfold zs at *;omega
  .have h1:=Yy.1 ho;rw [zaz (ju h) h1];exact hK
  .have:=mt Yy.2 ho;omega
  .have:=qb (Nat.sub_le (zv w).natAbs (zv v).natAbs);unfold zs at *;omega
  .have h1:=mt Yy.2 ho;rw [zaz (λe=>ju h e.symm) (by omega),Int.add_comm];exact hK
theorem qaR(hΓ:Xa P Γ){f fn fm fp fw fd fl tE:Nat}(hn:Γ fn=.dat true Uj)(hm:Γ fm=.dat false zo)(hp:Γ fp=.dat false qy)(hw' : Γ fw=.dat false Vi)(hd:Γ fd=.dat false Jn)(hl:Γ fl=.dat false uA)(hc:check P f=some (47,(yz fm fd fn fp fl fw tE).strip,[.cell 4 2 true,.cell 5 2 true,.tmp 6])):ua P f (.dat false xN):=by
 refine ka hc za6 hΓ (λargs K hcl hfi hG=>?_);match args,hG with
 | [a,b],hG=>
  obtain⟨v,rfl,hv,w,rfl,hw,hz,hz',h0,hK⟩:=hG;refine⟨by simp,?_⟩
  simp only [go_sem,yz,hn,hm,hp,hw',hd,hl,hw,hv];simp only [kb];have hne:¬(digs (zv w).natAbs).length=0:=λe=>h0 (Yz.1 e);intro _;refine⟨λe=>absurd e hne,λ_=>⟨Qb _,Qb _,Wt _,Wt _,λe=>hne (by rw [e];rfl),hz,hz',?_⟩⟩
  have hq:(digs ((zv v).natAbs / (zv w).natAbs)).length<=17179869184:=Nat.le_trans (qb (Nat.div_le_self _ _)) hz;have hr:(digs ((zv v).natAbs % (zv w).natAbs)).length<=17179869184:=Nat.le_trans (qb (Nat.mod_le _ _)) hz;have hz'' : (digs (zv w).natAbs).length<=17179869184:=hz';have hlt:=Nat.mod_lt (zv v).natAbs (show 0<(zv w).natAbs by omega)
  have hfin:(0<=zv v∨(zv v).natAbs % (zv w).natAbs=0)->K (AV.tup
    [AV.agg [zb (zcan (sg (!(decide (zv v<0) == decide (zv w<0))) ((zv v).natAbs / (zv w).natAbs))),zm (zcan (sg (!(decide (zv v<0) == decide (zv w<0))) ((zv v).natAbs / (zv w).natAbs)))],
     AV.agg [zb (zcan (sg false ((zv v).natAbs % (zv w).natAbs))),zm (zcan (sg false ((zv v).natAbs % (zv w).natAbs)))],AV.one (C.lit Value.nilIface)]):=by
   intro h;obtain⟨e1,e2⟩:=WaL h0 h;have e1' : sg (!(decide (zv v<0) == decide (zv w<0))) ((zv v).natAbs / (zv w).natAbs)=zv v / zv w:=e1;have e2' : sg false ((zv v).natAbs % (zv w).natAbs)=zv v % zv w:=e2;rw [e1',e2'];exact hK
  refine⟨λhneg _=>⟨λhp=>⟨Qb _,(UaB _ 1).mpr ⟨kd.2 ⟨by decide,Wd⟩,hq,by decide,Qb _,Qb _,by omega,by omega,Qb _,?_,Qb _,?_,?_⟩⟩,λhp=>⟨Qb _,by omega,Qb _,by omega,hfin (.inr ?_)⟩⟩,λhneg=>⟨Qb _,by omega,Qb _,by omega,hfin (.inl (by omega))⟩⟩
  .have hv1:val [1]=1:=rfl;rw [hv1];have h1:zs 1<=2:=jad (by decide)
   have:=yQ (((zv v).natAbs / (zv w).natAbs:Nat):Int) 1;have e:(((zv v).natAbs / (zv w).natAbs:Nat):Int)+1=(((zv v).natAbs / (zv w).natAbs+1:Nat):Int):=by omega
   rw [e]at this;have h3:zs (((zv v).natAbs / (zv w).natAbs:Nat):Int)=(digs ((zv v).natAbs / (zv w).natAbs)).length:=rfl;have h4:zs (((zv v).natAbs / (zv w).natAbs+1:Nat):Int)=(digs ((zv v).natAbs / (zv w).natAbs+1)).length:=rfl;rw [h3,h4]at this;omega
  .have:=qb (Nat.sub_le (zv w).natAbs ((zv v).natAbs % (zv w).natAbs));omega
  .have hv1:val [1]=1:=rfl;rw [hv1];have hne' : (zv v).natAbs % (zv w).natAbs≠0:=by
    intro e;rw [e,qc]at hp;simp at hp
   obtain⟨e1,e2⟩:=Vay h0 hneg hne';have e1' : sg (!(decide (zv v<0) == decide (zv w<0))) ((zv v).natAbs / (zv w).natAbs+1)=zv v / zv w:=e1;have e2' : sg false ((zv w).natAbs-(zv v).natAbs % (zv w).natAbs)=zv v % zv w:=e2;rw [e1',e2'];exact hK
  .have:digs ((zv v).natAbs % (zv w).natAbs)=[]:=List.eq_nil_of_length_eq_zero (by omega)
   exact Yh.1 this
theorem zaN(hΓ:Xa P Γ){f fm fd fw:Nat}(hm:Γ fm=.dat false zo)(hw' : Γ fw=.dat false Vi)(hd:Γ fd=.dat false Jn)(hc:check P f=some (26,(qz fm fd fw).strip,[.cell 4 2 true])):ua P f (.dat false yA):=by
 refine ka hc Xam hΓ (λargs K hcl hfi hG=>?_);match args,hG with
 | [a,b],hG=>
  obtain⟨v,rfl,hv,w,rfl,hw,hz,hz',hK⟩:=hG;refine⟨by simp,?_⟩
  simp only [go_sem,qz,hm,hw',hd,hw,hv];refine Ya (λp:Nat×Nat=>⟨mkV [(4,.one (.ptr 4 1 0 0)),(5,.one (ws (digs p.1))),(6,.one (ws (digs p.2)))],mkH [(4,⟨1,some ⟨[[.lit (.bool false),.emp]],2,true⟩⟩)]⟩)
   (λp=>(digs p.1).length<=17179869184/\(digs p.2).length<=17179869184/\Nat.gcd p.1 p.2=Int.gcd (zv v) (zv w)) (λp=>p.2) ((zv v).natAbs,(zv w).natAbs) ?_ ?_ ?_
  .exact Qa (by simp [okS,okV,okC,okL,okH,okB,okE,ja,Ja,qa,Va,wsA,ws]) ⟨⟨⟨rfl,rfl⟩,.inr ⟨⟨rfl,trivial,trivial⟩,trivial⟩⟩,trivial⟩
  .exact⟨hz,hz',rfl⟩
  .rintro⟨a,b⟩ ⟨ha,hb,hg⟩;simp only at ha hb hg;simp only [go_sem,hm,hw',hd,ws];simp only [kb];refine λ_=>⟨λh=>⟨Qb _,Qb _,Wt _,Wt _,λe=>by rw [e]at h;simp at h,ha,hb,?_⟩,λh=>⟨Qb _,by omega,?_⟩⟩
   .have hb0:0<b:=by
     rcases Nat.eq_zero_or_pos b with e | e
     .rw [e,qc]at h;simp at h
     .exact e
    refine⟨(b,a % b),Qa (by simp [okS,okV,okC,okL,okH,okB,okE,ja,Ja,qa,Va,wsA,ws]) ⟨⟨⟨rfl,rfl⟩,.inr ⟨⟨rfl,trivial,trivial⟩,trivial⟩⟩,trivial⟩,⟨hb,Nat.le_trans (qb (Nat.mod_le _ _)) ha,?_⟩,Nat.mod_lt _ hb0⟩
    rw [<-hg];show Nat.gcd b (a % b)=_;rw [Nat.gcd_comm b,<-Nat.gcd_rec,Nat.gcd_comm]
   .have:digs b=[]:=List.eq_nil_of_length_eq_zero (by omega)
    rw [Yh.1 this,Nat.gcd_zero_right]at hg;rw [hg];exact hK
end Go.Abs
end
section
namespace Go.Num
theorem getMM{α:Type}(U V:List α)(x d:α){n:Nat}(h:U.length=n):(U++x::V).getD n d=x:=by
 subst h;simp [List.getD_eq_getElem?_getD]
theorem setMM{α:Type}(U V:List α)(x y:α){n:Nat}(h:U.length=n):(U++x::V).set n y=U++y::V:=by
 subst h;rw [List.set_append_right _ _ (Nat.le_refl _),Nat.sub_self,List.set_cons_zero]
end Go.Num
namespace Go.Abs
open Go.Num
variable {P:Program} {Γ:Nat->Spec}
def zJ(fc:Nat)(d:Option Nat)(args:List AV)(h:Nat->HB)(K:AV->(Nat->HB)->Prop):Prop:=
 match args with
 | [.one (.own r ver 5 0 len),.one (.lit (.int .i64 a)),.one (.lit (.int .i64 b)),.one (.lit (.int .i64 n)),c]=>∃(U A M B V:List Mo),c=fnV fc/\a=U.length/\b=(U.length+A.length+M.length:Nat)/\n=A.length/\A.length=B.length/\
   U.length+A.length+M.length+B.length<=len/\len<=U.length+A.length+M.length+B.length+V.length/\len<=68719476736/\
   h r=⟨ver,some ⟨(U++A++M++B++V).map mC,5,true⟩⟩/\K (.tup []) (upd h r ⟨ver,some ⟨(U++B++M++A++V).map mC,5,true⟩⟩)
 | _=>False
@[congr] theorem Qb9 {fc:Nat} {d:Option Nat} {l l' : List AV} {h h' : Nat->HB} {K:AV->(Nat->HB)->Prop} (e1:l=l') (e2:h=h'):zJ fc d l h K=zJ fc d l' h' K:=by subst e1;subst e2;rfl
def yM(fc:Nat)(d:Option Nat)(args:List AV)(h:Nat->HB)(K:AV->(Nat->HB)->Prop):Prop:=
 match args with
 | [.one (.own r ver 5 0 len),.one (.lit (.int .i64 a)),.one (.lit (.int .i64 m)),.one (.lit (.int .i64 b)),c]=>∃(U A B V:List Mo),c=fnV fc/\a=U.length/\m=(U.length+A.length:Nat)/\b=(U.length+A.length+B.length:Nat)/\A≠[]/\B≠[]/\
   U.length+A.length+B.length<=len/\len<=U.length+A.length+B.length+V.length/\len<=68719476736/\
   h r=⟨ver,some ⟨(U++A++B++V).map mC,5,true⟩⟩/\K (.tup []) (upd h r ⟨ver,some ⟨(U++B++A++V).map mC,5,true⟩⟩)
 | _=>False
@[congr] theorem Vb9 {fc:Nat} {d:Option Nat} {l l' : List AV} {h h' : Nat->HB} {K:AV->(Nat->HB)->Prop} (e1:l=l') (e2:h=h'):yM fc d l h K=yM fc d l' h' K:=by subst e1;subst e2;rfl
def vl(fc N:Nat)(d:Option Nat)(args:List AV)(h:Nat->HB)(K:AV->(Nat->HB)->Prop):Prop:=
 match args with
 | [.one (.own r ver 5 0 len),.one (.lit (.int .i64 a)),.one (.lit (.int .i64 m)),.one (.lit (.int .i64 b)),c]=>∃(U A B V:List Mo),c=fnV fc/\a=U.length/\m=(U.length+A.length:Nat)/\b=(U.length+A.length+B.length:Nat)/\A≠[]/\B≠[]/\A.length+B.length<=N/\
   U.length+A.length+B.length<=len/\len<=U.length+A.length+B.length+V.length/\len<=1073741824/\okMs A/\okMs B/\je A/\je B/\
   h r=⟨ver,some ⟨(U++A++B++V).map mC,5,true⟩⟩/\∀C:List Mo,(A++B).Perm C->je C->K (.tup []) (upd h r ⟨ver,some ⟨(U++C++V).map mC,5,true⟩⟩)
 | _=>False
@[congr] theorem qcg {fc N:Nat} {d:Option Nat} {l l' : List AV} {h h' : Nat->HB} {K:AV->(Nat->HB)->Prop} (e1:l=l') (e2:h=h'):vl fc N d l h K=vl fc N d l' h' K:=by subst e1;subst e2;rfl
def Ve:AC:=(.o [.N 10 0] [0,1,2,3,10] (.block 0 (.loop (.f (.o [.M 11 10,.M 12 3,.B 13 .lss 11 12] [0,1,2,3,10,13] (.cond (.t 13) .skip (.exit 0))) [0,1,2,3,10] (.f (.block 1 (.y [.M 16 0,.M 17 1,.M 18 10,.B 19 .add 17 18,.M 20 0,.M 21 2,.M 22 10,.B 23 .add 21 22,.M 24 0,.M 25 2,.M 26 10,.B 27 .add 25 26,.J 28 5 24 27,.L 29 5 28,.M 30 0,.M 31 1,.M 32 10,.B 33 .add 31 32,.J 34 5 30 33,.L 35 5 34,.J 36 5 16 19,.S 5 36 29,.J 37 5 20 23,.S 5 37 35])) [0,1,2,3,10] (.p [.M 14 10,.I 15 .add 14 1,.M 10 15]))))))
def Vf(f0:Nat):AC:=(.o [.M 12 2,.M 13 1,.B 14 .sub 12 13,.M 10 14] [0,2,3,4,10] (.o [.M 15 3,.M 16 2,.B 17 .sub 15 16,.M 11 17] [0,2,4,10,11] (.f (.block 0 (.loop (.f (.o [.M 18 10,.M 19 11,.B 20 .neq 18 19] [0,2,4,10,11,20] (.cond (.t 20) .skip (.exit 0))) [0,2,4,10,11] (.block 1 (.o [.M 21 10,.M 22 11,.B 23 .gtr 21 22] [0,2,4,10,11,23] (.cond (.t 23) (.o [.M 24 0,.M 25 2,.M 26 10,.B 27 .sub 25 26,.M 28 2,.M 29 11,.M 30 4,.u 31 (.call f0 [(.t 24),(.t 27),(.t 28),(.t 29),(.t 30)])] [0,2,4,10,11] (.p [.M 32 10,.M 33 11,.B 34 .sub 32 33,.M 10 34])) (.o [.M 35 0,.M 36 2,.M 37 10,.B 38 .sub 36 37,.M 39 2,.M 40 11,.B 41 .add 39 40,.M 42 10,.B 43 .sub 41 42,.M 44 10,.M 45 4,.u 46 (.call f0 [(.t 35),(.t 38),(.t 43),(.t 44),(.t 45)])] [0,2,4,10,11] (.p [.M 47 11,.M 48 10,.B 49 .sub 47 48,.M 11 49])))))))) [0,2,4,10] (.p [.M 50 0,.M 51 2,.M 52 10,.B 53 .sub 51 52,.M 54 2,.M 55 10,.M 56 4,.u 57 (.call f0 [(.t 50),(.t 53),(.t 54),(.t 55),(.t 56)])]))))
def yb(f0 f1:Nat):AC:=(.f (.o [.M 25 2,.M 26 1,.B 27 .sub 25 26,.I 28 .eql 27 1] [0,1,2,3,4,28] (.cond (.t 28) (.o [.M 29 2,.M 10 29] [0,1,3,4,10] (.o [.M 30 3,.M 11 30] [0,1,4,10,11] (.f (.block 0 (.loop (.f (.o [.M 31 10,.M 32 11,.B 33 .lss 31 32] [0,1,4,10,11,33] (.cond (.t 33) .skip (.exit 0))) [0,1,4,10,11] (.block 1 (.o [.M 34 10,.M 35 11,.B 36 .add 34 35,.u 37 (.conv .u64 (.t 36)),.u 38 (.bin .shr (.t 37) (.c (.one (.lit (.int .u64 1))))),.u 39 (.conv .i64 (.t 38)),.M 12 39] [0,1,4,10,11,12] (.f (.y [.M 40 4,.M 41 0,.M 42 12,.J 43 5 41 42,.L 44 5 43,.M 45 0,.M 46 1,.J 47 5 45 46,.L 48 5 47,.u 49 (.callv (.t 40) [(.t 44),(.t 48)]),.I 50 .lss 49 0]) [0,1,4,10,11,12,50] (.cond (.t 50) (.p [.M 51 12,.I 52 .add 51 1,.M 10 52]) (.p [.M 53 12,.M 11 53])))))))) [0,1,10] (.seq (.o [.M 54 1,.M 13 54] [0,10,13] (.block 2 (.loop (.f (.o [.M 55 13,.M 56 10,.I 57 .sub 56 1,.B 58 .lss 55 57] [0,10,13,58] (.cond (.t 58) .skip (.exit 2))) [0,10,13] (.f (.block 3 (.y [.M 61 0,.M 62 13,.M 63 0,.M 64 13,.I 65 .add 64 1,.M 66 0,.M 67 13,.I 68 .add 67 1,.J 69 5 66 68,.L 70 5 69,.M 71 0,.M 72 13,.J 73 5 71 72,.L 74 5 73,.J 75 5 61 62,.S 5 75 70,.J 76 5 63 65,.S 5 76 74])) [0,10,13] (.p [.M 59 13,.I 60 .add 59 1,.M 13 60])))))) .ret)))) .skip)) [0,1,2,3,4] (.f (.o [.M 77 3,.M 78 2,.B 79 .sub 77 78,.I 80 .eql 79 1] [0,1,2,3,4,80] (.cond (.t 80) (.o [.M 81 1,.M 14 81] [0,2,4,14] (.o [.M 82 2,.M 15 82] [0,2,4,14,15] (.f (.block 4 (.loop (.f (.o [.M 83 14,.M 84 15,.B 85 .lss 83 84] [0,2,4,14,15,85] (.cond (.t 85) .skip (.exit 4))) [0,2,4,14,15] (.block 5 (.o [.M 86 14,.M 87 15,.B 88 .add 86 87,.u 89 (.conv .u64 (.t 88)),.u 90 (.bin .shr (.t 89) (.c (.one (.lit (.int .u64 1))))),.u 91 (.conv .i64 (.t 90)),.M 16 91] [0,2,4,14,15,16] (.f (.y [.M 92 4,.M 93 0,.M 94 2,.J 95 5 93 94,.L 96 5 95,.M 97 0,.M 98 16,.J 99 5 97 98,.L 100 5 99,.u 101 (.callv (.t 92) [(.t 96),(.t 100)]),.I 102 .lss 101 0,.u 103 (.un .not (.t 102))]) [0,2,4,14,15,16,103] (.cond (.t 103) (.p [.M 104 16,.I 105 .add 104 1,.M 14 105]) (.p [.M 106 16,.M 15 106])))))))) [0,2,14] (.seq (.o [.M 107 2,.M 17 107] [0,14,17] (.block 6 (.loop (.f (.o [.M 108 17,.M 109 14,.B 110 .gtr 108 109] [0,14,17,110] (.cond (.t 110) .skip (.exit 6))) [0,14,17] (.f (.block 7 (.y [.M 113 0,.M 114 17,.M 115 0,.M 116 17,.I 117 .sub 116 1,.M 118 0,.M 119 17,.I 120 .sub 119 1,.J 121 5 118 120,.L 122 5 121,.M 123 0,.M 124 17,.J 125 5 123 124,.L 126 5 125,.J 127 5 113 114,.S 5 127 122,.J 128 5 115 117,.S 5 128 126])) [0,14,17] (.p [.M 111 17,.I 112 .sub 111 1,.M 17 112])))))) .ret)))) .skip)) [0,1,2,3,4] (.o [.M 129 1,.M 130 3,.B 131 .add 129 130,.u 132 (.conv .u64 (.t 131)),.u 133 (.bin .shr (.t 132) (.c (.one (.lit (.int .u64 1))))),.u 134 (.conv .i64 (.t 133)),.M 18 134] [0,1,2,3,4,18] (.o [.M 135 18,.M 136 2,.B 137 .add 135 136,.M 19 137] [0,1,2,3,4,18,19] (.o [.N 20 0,.N 21 0] [0,1,2,3,4,18,19] (.f (.o [.M 138 2,.M 139 18,.B 140 .gtr 138 139] [0,1,2,3,4,18,19,140] (.cond (.t 140) (.o [.M 141 19,.M 142 3,.B 143 .sub 141 142,.M 20 143] [0,1,2,3,4,18,19,20] (.p [.M 144 18,.M 21 144])) (.o [.M 145 1,.M 20 145] [0,1,2,3,4,18,19,20] (.p [.M 146 2,.M 21 146])))) [0,1,2,3,4,18,19,20,21] (.o [.M 147 19,.I 148 .sub 147 1,.M 22 148] [0,1,2,3,4,18,19,20,21,22] (.f (.block 8 (.loop (.f (.o [.M 149 20,.M 150 21,.B 151 .lss 149 150] [0,1,2,3,4,18,19,20,21,22,151] (.cond (.t 151) .skip (.exit 8))) [0,1,2,3,4,18,19,20,21,22] (.block 9 (.o [.M 152 20,.M 153 21,.B 154 .add 152 153,.u 155 (.conv .u64 (.t 154)),.u 156 (.bin .shr (.t 155) (.c (.one (.lit (.int .u64 1))))),.u 157 (.conv .i64 (.t 156)),.M 23 157] [0,1,2,3,4,18,19,20,21,22,23] (.f (.y [.M 158 4,.M 159 0,.M 160 22,.M 161 23,.B 162 .sub 160 161,.J 163 5 159 162,.L 164 5 163,.M 165 0,.M 166 23,.J 167 5 165 166,.L 168 5 167,.u 169 (.callv (.t 158) [(.t 164),(.t 168)]),.I 170 .lss 169 0,.u 171 (.un .not (.t 170))]) [0,1,2,3,4,18,19,20,21,22,23,171] (.cond (.t 171) (.p [.M 172 23,.I 173 .add 172 1,.M 20 173]) (.p [.M 174 23,.M 21 174])))))))) [0,1,2,3,4,18,19,20] (.o [.M 175 19,.M 176 20,.B 177 .sub 175 176,.M 24 177] [0,1,2,3,4,18,20,24] (.f (.o [.M 178 20,.M 179 2,.B 180 .lss 178 179,.M 181 180,.V 182 181 true 2,.V 183 181 true 24,.w 184 181 true (.bin .lss (.t 182) (.t 183)),.P 185 181 184] [0,1,2,3,4,18,20,24,185] (.cond (.t 185) (.p [.M 186 0,.M 187 20,.M 188 2,.M 189 24,.M 190 4,.u 191 (.call f0 [(.t 186),(.t 187),(.t 188),(.t 189),(.t 190)])]) .skip)) [0,1,3,4,18,20,24] (.f (.o [.M 192 1,.M 193 20,.B 194 .lss 192 193,.M 195 194,.V 196 195 true 20,.V 197 195 true 18,.w 198 195 true (.bin .lss (.t 196) (.t 197)),.P 199 195 198] [0,1,3,4,18,20,24,199] (.cond (.t 199) (.p [.M 200 0,.M 201 1,.M 202 20,.M 203 18,.M 204 4,.u 205 (.call f1 [(.t 200),(.t 201),(.t 202),(.t 203),(.t 204)])]) .skip)) [0,3,4,18,24] (.o [.M 206 18,.M 207 24,.B 208 .lss 206 207,.M 209 208,.V 210 209 true 24,.V 211 209 true 3,.w 212 209 true (.bin .lss (.t 210) (.t 211)),.P 213 209 212] [0,3,4,18,24,213] (.cond (.t 213) (.p [.M 214 0,.M 215 18,.M 216 24,.M 217 3,.M 218 4,.u 219 (.call f1 [(.t 214),(.t 215),(.t 216),(.t 217),(.t 218)])]) .skip)))))))))))))
theorem jaP(hΓ:Xa P Γ){f fc:Nat}(hc:check P f=some (38,Ve.strip,[])):ua P f (.own (zJ fc)):=by
 refine xh hc hΓ (λd args h K hG=>?_);unfold zJ at hG;split at hG
 case h_2=>exact hG.elim
 rename_i r ver len x1 x2 x3 c;obtain⟨U,A,M,B,V,rfl,hx1,hx2,hx3,hAB,hlen,hlen2,hroom,hr,hK⟩:=hG;obtain⟨D,hD⟩:∃D,D=U++A++M++B++V:=⟨_,rfl⟩;rw [<-hD]at hr;have hDl:D.length=U.length+A.length+M.length+B.length+V.length:=by rw [hD];simp [Nat.add_assoc]
 refine⟨[r],[⟨D.map mC,5,true⟩],[.one (.own 1048576 ver 5 0 len),.one (.lit (.int .i64 x1)),.one (.lit (.int .i64 x2)),.one (.lit (.int .i64 x3)),fnV fc],by simp,rfl,?_,?_,?_,λhfi=>⟨by simp,?_⟩⟩
 .intro i r' b h1 h2;cases i with
  | zero=>simp only [List.getElem?_cons_zero,Option.some.injEq]at h1 h2;subst h1 h2;exact⟨by rw [hr],rfl,of_eq_true (Wh _)⟩
  | succ i=>simp at h1
 .simp [exA,exC,exB,Wc,pinA,fnV]
 .intro a ha;simp only [List.mem_cons,List.not_mem_nil,or_false]at ha;rcases ha with rfl | rfl | rfl | rfl | rfl
  .simp [pasA,pasC,pasB,Wc,pinA]
  .exact .lit _
  .exact .lit _
  .exact .lit _
  .exact .lit _
 simp only [go_sem,Ve,hr,fnV];refine Ya (λp:List Mo×List Mo×List Mo×List Mo=>⟨mkV [(0,.one (.own 1048576 ver 5 0 len)),(1,.one (.lit (.int .i64 x1))),(2,.one (.lit (.int .i64 x2))),(3,.one (.lit (.int .i64 x3))),(10,.one (.lit (.int .i64 p.1.length)))],mkH [(1048576,⟨ver,some ⟨(U++(p.2.2.1++p.2.1)++M++(p.1++p.2.2.2)++V).map mC,5,true⟩⟩)]⟩)
  (λp=>A=p.1++p.2.1/\B=p.2.2.1++p.2.2.2/\p.1.length=p.2.2.1.length) (λp=>p.2.1.length) ([],A,[],B) ?_ ?_ ?_
 .exact Qa (by simp [okS,okV,okC,okL,okH,okB,okE,ja,Ja,qa,Va,wsA,ws]) (Jm (by simp [hD]))
 .exact⟨rfl,rfl,rfl⟩
 .rintro⟨A1,A2,B1,B2⟩ ⟨hA,hB,h1⟩;simp only at hA hB h1;have lA:=congrArg List.length hA;have lB:=congrArg List.length hB;simp only [List.length_append]at lA lB;rcases A2 with _ | ⟨x,A2⟩
  .have hlt:¬((A1.length:Int)<x3):=by simp only [List.length_nil]at lA;omega
   simp only [go_sem,hr,hlt];rcases B2 with _ | ⟨y,B2⟩
   .simp only [List.append_nil]at hA hB ⊢;subst hA hB;exact hK
   .simp only [List.length_nil,List.length_cons]at *;omega
  .rcases B2 with _ | ⟨y,B2⟩
   .simp only [List.length_nil,List.length_cons]at *;omega
   .simp only [List.length_cons]at lA lB;have hlt:(A1.length:Int)<x3:=by omega
    obtain⟨E,hE⟩:∃E,E=U++(B1++x::A2)++M++(A1++y::B2)++V:=⟨_,rfl⟩;have hEl:E.length=D.length:=by rw [hE,hDl];simp only [List.length_append,List.length_cons];omega
    have e1:E=(U++B1)++x::(A2++M++(A1++y::B2)++V):=by rw [hE];simp
    have e2:E=(U++(B1++x::A2)++M++A1)++y::(B2++V):=by rw [hE];simp
    obtain⟨i1,hi1⟩:∃i1:Nat,i1=U.length+A1.length:=⟨_,rfl⟩;obtain⟨i2,hi2⟩:∃i2:Nat,i2=U.length+A.length+M.length+A1.length:=⟨_,rfl⟩;have n1:x1+(A1.length:Int)=(i1:Int):=by omega
    have n2:x2+(A1.length:Int)=(i2:Int):=by omega
    have g1:E.getD i1 mo0=x:=by rw [e1];exact getMM _ _ _ _ (by simp;omega)
    have g2:E.getD i2 mo0=y:=by rw [e2];exact getMM _ _ _ _ (by simp;omega)
    have b1:i1<len:=by omega
    have b2:i2<len:=by omega
    have c1:i1<E.length:=by omega
    have c2:i2<E.length:=by omega
    have s1:(E.set i1 y).set i2 x=U++((B1++[y])++A2)++M++((A1++[x])++B2)++V:=by
     have:E.set i1 y=(U++B1)++y::(A2++M++(A1++y::B2)++V):=by rw [e1];exact setMM _ _ _ _ (by simp;omega)
     rw [this];have:(U++B1)++y::(A2++M++(A1++y::B2)++V)=(U++(B1++y::A2)++M++A1)++y::(B2++V):=by simp
     rw [this,setMM _ _ _ _ (by simp;omega)]
     simp
    simp only [<-hE];simp only [go_sem,hr,hlt,n1,n2,g1,g2,b1,b2,c1,c2,s1,List.length_set];refine⟨by omega,by omega,by omega,by omega,by omega,(A1++[x],A2,B1++[y],B2),Qa (by simp [okS,okV,okC,okL,okH,okB,okE,ja,Ja,qa,Va,wsA,ws]) (Jm rfl),⟨by rw [hA];simp,by rw [hB];simp,by simp [h1]⟩,by simp⟩
theorem waS(hΓ:Xa P Γ){f fs fc:Nat}(hs:Γ fs=.own (zJ fc))(hc:check P f=some (58,(Vf fs).strip,[])):ua P f (.own (yM fc)):=by
 refine xh hc hΓ (λd args h K hG=>?_);unfold yM at hG;split at hG
 case h_2=>exact hG.elim
 rename_i r ver len x1 x2 x3 c;obtain⟨U,A,B,V,rfl,hx1,hx2,hx3,hA0,hB0,hlen,hlen2,hroom,hr,hK⟩:=hG;obtain⟨D,hD⟩:∃D,D=U++A++B++V:=⟨_,rfl⟩;rw [<-hD]at hr;have hDl:D.length=U.length+A.length+B.length+V.length:=by rw [hD];simp [Nat.add_assoc]
 have hAp:=List.length_pos_iff.2 hA0;have hBp:=List.length_pos_iff.2 hB0;refine⟨[r],[⟨D.map mC,5,true⟩],[.one (.own 1048576 ver 5 0 len),.one (.lit (.int .i64 x1)),.one (.lit (.int .i64 x2)),.one (.lit (.int .i64 x3)),fnV fc],by simp,rfl,?_,?_,?_,λhfi=>⟨by simp,?_⟩⟩
 .intro i r' b h1 h2;cases i with
  | zero=>simp only [List.getElem?_cons_zero,Option.some.injEq]at h1 h2;subst h1 h2;exact⟨by rw [hr],rfl,of_eq_true (Wh _)⟩
  | succ i=>simp at h1
 .simp [exA,exC,exB,Wc,pinA,fnV]
 .intro a ha;simp only [List.mem_cons,List.not_mem_nil,or_false]at ha;rcases ha with rfl | rfl | rfl | rfl | rfl
  .simp [pasA,pasC,pasB,Wc,pinA]
  .exact .lit _
  .exact .lit _
  .exact .lit _
  .exact .lit _
 have n1:x2-x1=(A.length:Int):=by omega
 have n2:x3-x2=(B.length:Int):=by omega
 simp only [go_sem,Vf,hr,fnV,hs,n1,n2];refine⟨by omega,by omega,?_⟩
 refine Ya (λp:List Mo×List Mo×List Mo×List Mo=>⟨mkV [(0,.one (.own 1048576 ver 5 0 len)),(2,.one (.lit (.int .i64 x2))),(4,.one (.lit (.func (.func fc) ⟨[]⟩ ⟨[]⟩))),(10,.one (.lit (.int .i64 p.2.1.length))),(11,.one (.lit (.int .i64 p.2.2.1.length)))],mkH [(1048576,⟨ver,some ⟨(p.1++p.2.1++p.2.2.1++p.2.2.2).map mC,5,true⟩⟩)]⟩)
  (λp=>p.1++p.2.2.1++p.2.1++p.2.2.2=U++B++A++V/\x2=(p.1.length+p.2.1.length:Nat)/\p.2.1≠[]/\p.2.2.1≠[]/\(p.2.1.length+p.2.2.1.length<=A.length+B.length)/\x2+p.2.2.1.length<=x3) (λp=>p.2.1.length+p.2.2.1.length) (U,A,B,V) ?_ ?_ ?_
 .exact Qa (by simp [okS,okV,okC,okL,okH,okB,okE,ja,Ja,qa,Va,wsA,ws]) (Jm (by simp [hD]))
 .exact⟨rfl,by simp only;omega,hA0,hB0,Nat.le_refl _,by simp only;omega⟩
 .rintro⟨U',A',B',V'⟩ ⟨hT,hx2',hA1,hB1,hsz,hx3'⟩;simp only at hT hx2' hA1 hB1 hsz hx3';have hTl:=congrArg List.length hT;simp only [List.length_append]at hTl;have hAp':=List.length_pos_iff.2 hA1;have hBp':=List.length_pos_iff.2 hB1;have n1:x2-(A'.length:Int)=(U'.length:Int):=by omega
  by_cases heq:A'.length=B'.length
  .have heq' : (A'.length:Int)=(B'.length:Int):=by omega
   simp only [go_sem,hr,hs,fnV,n1,<-heq',ne_eq,not_true_eq_false];refine⟨by omega,?_⟩
   simp only [zJ];refine⟨U',A',[],B',V',rfl,rfl,by simp;omega,rfl,heq,by simp;omega,by simp;omega,by omega,by simp [qa],?_⟩
   simp only [go_sem,hr];have:U'++B'++[]++A'++V' = U++B++A++V:=by rw [<-hT];simp
   rw [List.append_nil]at this;rw [this];exact hK
  .have heq' : ¬(A'.length:Int)=(B'.length:Int):=by omega
   by_cases hgt:B'.length<A'.length
   .have hgt' : (B'.length:Int)<(A'.length:Int):=by omega
    simp only [go_sem,hr,hs,fnV,n1,heq',hgt',ne_eq];obtain⟨A1,A2,rfl,hA1l⟩:∃A1 A2,A' = A1++A2/\A1.length=B'.length:=⟨A'.take B'.length,A'.drop B'.length,(List.take_append_drop _ _).symm,by rw [List.length_take];omega⟩
    have hA12:(A1++A2).length=A1.length+A2.length:=List.length_append;have n3:((A1++A2).length:Int)-(B'.length:Int)=(A2.length:Int):=by omega
    refine⟨by omega,?_⟩
    simp only [zJ];refine⟨U',A1,A2,B',V',rfl,rfl,by omega,by omega,hA1l,by omega,by omega,by omega,by simp [qa],?_⟩
    rw [n3];simp only [go_sem,hr];have z1:A2.length≠0:=by omega
    have z2:A1.length≠0:=by omega
    refine⟨by omega,(U'++B',A2,A1,V'),Qa (by simp [okS,okV,okC,okL,okH,okB,okE,ja,Ja,qa,Va,wsA,ws];omega) (Jm rfl),⟨by simp only;rw [<-hT];simp,by simp only [List.length_append];omega,?_,?_,by simp only;omega,by simp only;omega⟩,by simp only;omega⟩
    .exact λh=>z1 (List.length_eq_zero_iff.2 h)
    .exact λh=>z2 (List.length_eq_zero_iff.2 h)
   .have hgt' : ¬(B'.length:Int)<(A'.length:Int):=by omega
    simp only [go_sem,hr,hs,fnV,n1,heq',hgt',ne_eq];obtain⟨B1,B2,rfl,hB2l⟩:∃B1 B2,B' = B1++B2/\B2.length=A'.length:=⟨B'.take (B'.length-A'.length),B'.drop (B'.length-A'.length),(List.take_append_drop _ _).symm,by rw [List.length_drop];omega⟩
    have hB12:(B1++B2).length=B1.length+B2.length:=List.length_append;have n3:((B1++B2).length:Int)-(A'.length:Int)=(B1.length:Int):=by omega
    refine⟨by omega,by omega,by omega,?_⟩
    simp only [zJ];refine⟨U',A',B1,B2,V',rfl,rfl,by omega,by omega,by omega,by omega,by omega,by omega,by simp [qa],?_⟩
    rw [n3];simp only [go_sem,hr];have z1:B1.length≠0:=by omega
    have z2:B2.length≠0:=by omega
    refine⟨by omega,(U',B2,B1,A'++V'),Qa (by simp [okS,okV,okC,okL,okH,okB,okE,ja,Ja,qa,Va,wsA,ws];omega) (Jm (by simp)),⟨by simp only;rw [<-hT];simp,by simp only;omega,?_,?_,by simp only;omega,by simp only;omega⟩,by simp only;omega⟩
    .exact λh=>z2 (List.length_eq_zero_iff.2 h)
    .exact λh=>z1 (List.length_eq_zero_iff.2 h)
theorem wB{A B:List Mo}(hA:je A)(hB:je B)(h:∀x∈A,∀y∈B,kM x<=kM y):je (A++B):=
 List.pairwise_append.2 ⟨hA,hB,h⟩
theorem jC{A B:List Mo}(h:je (A++B)):je A:=(List.pairwise_append.1 h).1
theorem Xx{A B:List Mo}(h:je (A++B)):je B:=(List.pairwise_append.1 h).2.1
theorem uw{A B:List Mo}(h:je (A++B)):∀x∈A,∀y∈B,kM x<=kM y:=(List.pairwise_append.1 h).2.2
theorem vW{A:List Mo}(h:je A){i j:Nat}(hi:i<A.length)(hj:j<A.length)(hij:i<=j):kM (A[i])<=kM (A[j]):=by
 by_cases e:i=j
 .subst e;exact Nat.le_refl _
 .exact List.pairwise_iff_getElem.1 h i j hi hj (by omega)
theorem jO{A:List Mo}(hA:je A){s:Nat}(hs:0<s)(hsl:s<=A.length){q:Nat}(h:kM (A.getD (s-1) mo0)<=q):∀x∈A.take s,kM x<=q:=by
 intro x hx;obtain⟨i,hi,rfl⟩:=List.mem_iff_getElem.1 hx;rw [List.length_take]at hi;rw [List.getElem_take];refine Nat.le_trans (vW hA (by omega) (show s-1<A.length by omega) (by omega)) ?_
 rw [List.getD_eq_getElem?_getD,List.getElem?_eq_getElem (by omega)]at h
 exact h
theorem VO{A:List Mo}(hA:je A){s:Nat}(hsl:s<A.length){q:Nat}(h:q<=kM (A.getD s mo0)):∀x∈A.drop s,q<=kM x:=by
 intro x hx;obtain⟨i,hi,rfl⟩:=List.mem_iff_getElem.1 hx;rw [List.length_drop]at hi;rw [List.getElem_drop];refine Nat.le_trans ?_ (vW hA hsl (show s+i<A.length by omega) (by omega))
 rw [List.getD_eq_getElem?_getD,List.getElem?_eq_getElem (by omega)]at h
 exact h
theorem getLM(U A V:List Mo){k i:Nat}(h1:k=U.length+i)(h2:i<A.length):(U++A++V).getD k mo0=A.getD i mo0:=by
 subst h1;simp only [List.getD_eq_getElem?_getD];rw [List.getElem?_append_left (by simp;omega),List.getElem?_append_right (by omega)]
 congr 2;omega
end Go.Abs
end
section
namespace Go.Num
def PcsM(k:Nat)(Ls:List (List Mo)):Prop:=∀c∈Ls,c.length=k/\je c
theorem VJ{k:Nat}:∀{Ls:List (List Mo)},PcsM k Ls->Ls.flatten.length=k*Ls.length
 | [],_=>by simp
 | c::Ls,h=>by
  have:=VJ (Ls:=Ls) λd hd=>h d (by simp [hd])
  have hc:=(h c (by simp)).1
  rw [List.flatten_cons,List.length_append,this,hc,List.length_cons,Nat.mul_succ,Nat.add_comm]
theorem Xah{k:Nat}{Ls:List (List Mo)}{c:List Mo}(h:PcsM k Ls)(h1:c.length=k)(h2:je c):PcsM k (Ls++[c]):=by
 intro d hd;rcases List.mem_append.1 hd with hd | hd
 .exact h d hd
 .rw [List.mem_singleton]at hd;subst hd;exact⟨h1,h2⟩
end Go.Num
namespace Go.Abs
open Go.Num
variable {P:Program} {Γ:Nat->Spec}
set_option maxHeartbeats 4000000 in
theorem xao(hΓ:Xa P Γ){f fi fm fc m N:Nat}(hmN:m<=N)(hm30:m<=1073741824)(hi:Γ fi=.own (jN fc))(hg:Γ fm=.own (vl fc N))(hc:check P f=some (63,(vf fi fm).strip,[])):ua P f (.own (UG fc m)):=by
 refine xh hc hΓ (λd args h K hG=>?_);unfold UG at hG;split at hG
 case h_2=>exact hG.elim
 rename_i r ver len n c;obtain⟨rfl,l,post,rfl,rfl,hlen,hr,hok,hK⟩:=hG;refine⟨[r],[⟨(l++post).map mC,5,true⟩],[.one (.own 1048576 ver 5 0 l.length),.one (.lit (.int .i64 l.length)),fnV fc],by simp,rfl,?_,?_,?_,λhfi=>⟨by simp,?_⟩⟩
 .intro i r' b h1 h2;cases i with
  | zero=>simp only [List.getElem?_cons_zero,Option.some.injEq]at h1 h2;subst h1 h2;exact⟨by rw [hr],rfl,of_eq_true (Wh _)⟩
  | succ i=>simp at h1
 .simp [exA,exC,exB,Wc,pinA,fnV]
 .intro a ha;simp only [List.mem_cons,List.not_mem_nil,or_false]at ha;rcases ha with rfl | rfl | rfl
  .simp [pasA,pasC,pasB,Wc,pinA]
  .exact .lit _
  .exact .lit _
 simp only [go_sem,vf,hr,fnV,hi,hg];refine Ya (λp:List (List Mo)×List Mo=>⟨mkV [(0,.one (.own 1048576 ver 5 0 l.length)),(1,.one (.lit (.int .i64 l.length))),(2,.one (.lit (.func (.func fc) ⟨[]⟩ ⟨[]⟩))),(6,.one (.lit (.int .i64 20))),(7,.one (.lit (.int .i64 (20*p.1.length:Nat)))),(8,.one (.lit (.int .i64 (20*p.1.length+20:Nat))))],mkH [(1048576,⟨ver,some ⟨(p.1.flatten++p.2++post).map mC,5,true⟩⟩)]⟩)
  (λp=>PcsM 20 p.1/\l.Perm (p.1.flatten++p.2)) (λp=>p.2.length) ([],l) ?_ ?_ ?_
 .exact Qa (by simp [okS,okV,okC,okL,okH,okB,okE,ja,Ja,qa,Va,wsA,ws]) (Jm (by simp))
 .exact⟨λc hc=>by simp at hc,by simp⟩
 .rintro⟨Ls,R⟩ ⟨hL,hp⟩;simp only at hL hp;have lL:=VJ hL;have hpl:=hp.length_eq;rw [List.length_append,lL]at hpl;have hokp:=kR hp hok;obtain⟨hokL,hokR⟩:=Vk.1 hokp;by_cases hR:20<=R.length
  .have hle:((20*Ls.length+20:Nat):Int)<=(l.length:Int):=by omega
   obtain⟨S,R',rfl,hS⟩:∃S R',R=S++R'/\S.length=20:=⟨R.take 20,R.drop 20,(List.take_append_drop _ _).symm,by rw [List.length_take];omega⟩
   rw [List.length_append]at hpl;simp only [go_sem,hr,hi,hg,hle];simp only [jN];refine⟨Ls.flatten,S,R'++post,rfl,by rw [lL],by rw [lL,hS],by rw [lL,hS,List.length_append];omega,by omega,by omega,by simp [qa],(Vk.1 hokR).1,λS' hpS hS'=>?_⟩
   have lS':=hpS.length_eq;simp only [go_sem,hr,hi,hg];refine⟨by omega,(Ls++[S'],R'),Qa (by simp [okS,okV,okC,okL,okH,okB,okE,ja,Ja,qa,Va,wsA,ws];omega) (Jm (by simp)),⟨Xah hL (by omega) hS',?_⟩,by simp only;rw [List.length_append];omega⟩
   simp only;refine hp.trans ?_;simp only [List.flatten_append,List.flatten_cons,List.flatten_nil,List.append_nil,List.append_assoc];exact List.Perm.append_left _ (List.Perm.append_right _ hpS)
  .have hle:¬((20*Ls.length+20:Nat):Int)<=(l.length:Int):=by omega
   simp only [go_sem,hr,hi,hg,hle];simp only [jN];refine⟨Ls.flatten,R,post,rfl,by rw [lL],by rw [lL];omega,by rw [lL];omega,by omega,by omega,by simp [qa],hokR,λR' hpR hR'=>?_⟩
   have lR':=hpR.length_eq;simp only [go_sem,hr,hi,hg];refine Ya (λp:Nat×List (List Mo)×List Mo=>⟨mkV [(0,.one (.own 1048576 ver 5 0 l.length)),(1,.one (.lit (.int .i64 l.length))),(2,.one (.lit (.func (.func fc) ⟨[]⟩ ⟨[]⟩))),(6,.one (.lit (.int .i64 p.1)))],mkH [(1048576,⟨ver,some ⟨(p.2.1.flatten++p.2.2++post).map mC,5,true⟩⟩)]⟩)
    (λp=>PcsM p.1 p.2.1/\je p.2.2/\p.2.2.length<p.1/\p.1<=2147483648/\l.Perm (p.2.1.flatten++p.2.2)) (λp=>4294967296-p.1) (20,Ls,R') ?_ ?_ ?_
   .exact Qa (by simp [okS,okV,okC,okL,okH,okB,okE,ja,Ja,qa,Va,wsA,ws]) (Jm (by simp))
   .exact⟨hL,hR',by simp only;omega,by simp only;omega,hp.trans (List.Perm.append_left _ hpR)⟩
   .rintro⟨bs,Ks,Q⟩ ⟨hKs,hQ,hQl,hbs,hpK⟩;simp only at hKs hQ hQl hbs hpK;have lK:=VJ hKs;have hpl2:=hpK.length_eq;rw [List.length_append,lK]at hpl2;by_cases hdone:bs<l.length
    .have hd' : (bs:Int)<(l.length:Int):=by omega
     have n2:(2:Int)*(bs:Int)=((2*bs:Nat):Int):=by omega
     simp only [go_sem,hr,hi,hg,hd',n2];refine⟨by omega,?_⟩
     refine Ya (λp:Nat×List (List Mo)×List (List Mo)=>⟨mkV [(0,.one (.own 1048576 ver 5 0 l.length)),(1,.one (.lit (.int .i64 l.length))),(2,.one (.lit (.func (.func fc) ⟨[]⟩ ⟨[]⟩))),(6,.one (.lit (.int .i64 bs))),(7,.one (.lit (.int .i64 p.1))),(8,.one (.lit (.int .i64 (p.1+2*bs:Nat))))],mkH [(1048576,⟨ver,some ⟨(p.2.1.flatten++p.2.2.flatten++Q++post).map mC,5,true⟩⟩)]⟩)
      (λp=>(p.1=p.2.1.flatten.length/\PcsM (2*bs) p.2.1)/\PcsM bs p.2.2/\l.Perm (p.2.1.flatten++p.2.2.flatten++Q)) (λp=>p.2.2.length) (0,[],Ks) ?_ ?_ ?_
     .exact Qa (by simp [okS,okV,okC,okL,okH,okB,okE,ja,Ja,qa,Va,wsA,ws]) (Jm (by simp))
     .exact⟨⟨rfl,λc hc=>by simp at hc⟩,hKs,by simpa using hpK⟩
     .rintro⟨g,Ms,Js⟩ ⟨⟨hg0,hMs⟩,hJs,hpJ⟩;simp only at hg0 hMs hJs hpJ;have lM:=VJ hMs;have lJ:=VJ hJs;have hpl3:=hpJ.length_eq;rw [List.length_append,List.length_append,<-hg0]at hpl3;have hokJ:=kR hpJ hok;have n3:(g:Int)+(bs:Int)=((g+bs:Nat):Int):=by omega
      match Js,hJs,lJ,hpl3,hpJ,hokJ with
      | X::Y::Js,hJs,lJ,hpl3,hpJ,hokJ=>
       have hX:=hJs X (by simp)
       have hY:=hJs Y (by simp)
       have hJ' : PcsM bs Js:=λc hc=>hJs c (by simp [hc])
       simp only [List.flatten_cons,List.length_append,hX.1,hY.1]at hpl3;have hle:((g+2*bs:Nat):Int)<=(l.length:Int):=by omega
       simp only [List.flatten_cons,List.append_assoc,Vk]at hokJ;simp only [go_sem,hr,hi,hg,hle,n2,n3];refine⟨by omega,?_⟩
       simp only [vl];refine⟨Ms.flatten,X,Y,Js.flatten++Q++post,rfl,by rw [<-hg0],by rw [<-hg0,hX.1],by rw [<-hg0,hX.1,hY.1];omega,λh=>?_,λh=>?_,by omega,by omega,by simp only [List.length_append];omega,by omega,hokJ.2.1,hokJ.2.2.1,hX.2,hY.2,by simp [qa],λC hpC hsC=>?_⟩
       .rw [h]at hX;simp only [List.length_nil]at hX;omega
       .rw [h]at hY;simp only [List.length_nil]at hY;omega
       have lC:=hpC.length_eq;rw [List.length_append,hX.1,hY.1]at lC;simp only [go_sem,hr,hi,hg,n2,n3];have lMC:(Ms++[C]).flatten.length=g+2*bs:=by simp only [List.flatten_append,List.flatten_cons,List.flatten_nil,List.append_nil,List.length_append];omega
       refine⟨by omega,by omega,(g+2*bs,Ms++[C],Js),Qa (by simp [okS,okV,okC,okL,okH,okB,okE,ja,Ja,qa,Va,wsA,ws]) (Jm (by simp)),⟨⟨lMC.symm,Xah hMs (by omega) hsC⟩,hJ',?_⟩,by simp only;omega⟩
       refine hpJ.trans ?_;simp only [List.flatten_append,List.flatten_cons,List.flatten_nil,List.append_nil,List.append_assoc];refine List.Perm.append_left _ ?_;rw [<-List.append_assoc];exact List.Perm.append_right _ hpC
      | [X],hJs,lJ,hpl3,hpJ,hokJ=>
       have hX:=hJs X (by simp)
       simp only [List.flatten_cons,List.flatten_nil,List.append_nil,hX.1]at hpl3;have hle:¬((g+2*bs:Nat):Int)<=(l.length:Int):=by omega
       simp only [List.flatten_cons,List.flatten_nil,List.append_nil,List.append_assoc,Vk]at hokJ hpJ;by_cases hQ0:Q=[]
       .have hlt:¬((g+bs:Nat):Int)<(l.length:Int):=by rw [hQ0,List.length_nil]at hpl3;omega
        simp only [go_sem,hr,hi,hg,hle,n2,n3,hlt];have n4:(bs:Int)*2=((2*bs:Nat):Int):=by omega
        simp only [n4];refine⟨by omega,by omega,(2*bs,Ms,X),Qa (by simp [okS,okV,okC,okL,okH,okB,okE,ja,Ja,qa,Va,wsA,ws]) (Jm (by simp [hQ0])),⟨hMs,hX.2,by simp only [hX.1];omega,by simp only;omega,by simp only;rw [hQ0,List.append_nil]at hpJ;exact hpJ⟩,by simp only;omega⟩
       .have hQp:=List.length_pos_iff.2 hQ0;have hlt:((g+bs:Nat):Int)<(l.length:Int):=by omega
        simp only [go_sem,hr,hi,hg,hle,n2,n3,hlt];refine⟨by omega,?_⟩
        simp only [vl];refine⟨Ms.flatten,X,Q,post,rfl,by rw [<-hg0],by rw [<-hg0,hX.1],by rw [<-hg0,hX.1];omega,λh=>?_,hQ0,by omega,by omega,by omega,by omega,hokJ.2.1,hokJ.2.2,hX.2,hQ,by simp [qa],λC hpC hsC=>?_⟩
        .rw [h]at hX;simp only [List.length_nil]at hX;omega
        have lC:=hpC.length_eq;rw [List.length_append,hX.1]at lC;simp only [go_sem,hr,hi,hg,n2,n3];have n4:(bs:Int)*2=((2*bs:Nat):Int):=by omega
        simp only [n4];refine⟨by omega,(2*bs,Ms,C),Qa (by simp [okS,okV,okC,okL,okH,okB,okE,ja,Ja,qa,Va,wsA,ws]) (Jm (by simp)),⟨hMs,hsC,by simp only;omega,by simp only;omega,hpJ.trans (List.Perm.append_left _ hpC)⟩,by simp only;omega⟩
      | [],hJs,lJ,hpl3,hpJ,hokJ=>
       simp only [List.flatten_nil,List.length_nil]at hpl3;have hle:¬((g+2*bs:Nat):Int)<=(l.length:Int):=by omega
       have hlt:¬((g+bs:Nat):Int)<(l.length:Int):=by omega
       simp only [go_sem,hr,hi,hg,hle,n2,n3,hlt];have n4:(bs:Int)*2=((2*bs:Nat):Int):=by omega
       simp only [n4];refine⟨by omega,by omega,(2*bs,Ms,Q),Qa (by simp [okS,okV,okC,okL,okH,okB,okE,ja,Ja,qa,Va,wsA,ws]) (Jm (by simp)),⟨hMs,hQ,by simp only;omega,by simp only;omega,by simpa using hpJ⟩,by simp only;omega⟩
    .have hd' : ¬(bs:Int)<(l.length:Int):=by omega
     simp only [go_sem,hr,hi,hg,hd'];refine hK _ hpK ?_;match Ks,hKs,lK,hpl2 with
     | [],_,_,_=>exact hQ
     | [X],hKs,lK,hpl2=>
      have:Q=[]:=List.length_eq_zero_iff.1 (by simp only [List.length_singleton,Nat.mul_one]at hpl2;omega)
      rw [this];simp only [List.flatten_cons,List.flatten_nil,List.append_nil];exact(hKs X (by simp)).2
     | X::Y::Ks,hKs,lK,hpl2=>
      exfalso;simp only [List.length_cons]at hpl2;have h2:bs*2<=bs*(Ks.length+1+1):=Nat.mul_le_mul_left _ (by omega)
      omega
end Go.Abs
end
