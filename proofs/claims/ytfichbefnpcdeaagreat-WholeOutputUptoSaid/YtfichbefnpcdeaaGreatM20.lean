/-
  Parts of the proof, merged: WhoJ, WhoA, TowB, OutT, OutP, OutX, OutJ, OutY, OutK, OutL, OutSP, OutST, OutSM, OutSE, OutSU, OutSD, OutM, OutN, RefB, RefC, RefD, RefF.
-/
import Derived.Test.YtfichbefnpcdeaaGreatM19
import Derived.Test.YtfichbefnpcdeaaGreatChecked
import Derived.KernelRfl
set_option linter.unusedVariables false
set_option linter.unusedSimpArgs false
set_option linter.unnecessarySimpa false
set_option maxRecDepth 100000
section
namespace Go.Abs.Wp
open Go.Proofs
noncomputable section
def seL:Code->Code
 | .seq a _=>a
 | c=>c
def seR:Code->Code
 | .seq _ b=>b
 | c=>c
def bkC:Code->Code
 | .block _ c=>c
 | c=>c
def rfA:Code->Code
 | .rangeFunc _ _ a _=>a
 | c=>c
def rfB:Code->Code
 | .rangeFunc _ _ _ b=>b
 | c=>c
def bodyOf(f:Func):Code:=f.body.getD .skip
noncomputable def K291:Code:=bodyOf Tryz.f291
noncomputable def kc0:Code:=seL K291
noncomputable def kc1:Code:=seL (seL (seR K291))
noncomputable def kRF:Code:=bkC (seR (seL (seR K291)))
noncomputable def kc2:Code:=seR (seR K291)
noncomputable def kR4:Code:=seL (bkC (rfB kRF))
def opsOf:Code->Array Oper
 | .region _ ops _=>ops
 | _=>#[]
def pB:AC:=.block 1 (.seq (.ops true pL) pR)
end
theorem en350:Enters Tryz.prog 350:=Xa Tryz.func350 (by kernel_rfl) rfl
theorem en291:Enters Tryz.prog 291:=Xa Tryz.func291 (by kernel_rfl) rfl
theorem hb291:Tryz.f291.body=some (.seq kc0 (.seq (.seq kc1 (.block 0 (.rangeFunc (.tmp 10) #[11,12] (rfA kRF) (rfB kRF)))) kc2)):=by kernel_rfl
theorem k0:compile Tryz.prog 42 kc0=some p0:=by kernel_rfl
theorem k1:compile Tryz.prog 42 kc1=some p1:=by kernel_rfl
theorem k2:compile Tryz.prog 42 kc2=some p2:=by kernel_rfl
theorem kA:compile Tryz.prog 42 (rfA kRF)=some pA:=by kernel_rfl
theorem kB:compile Tryz.prog 42 (rfB kRF)=some pB:=by kernel_rfl
theorem kI:compile Tryz.prog 42 (bodyOf Tryz.f350)=some pI:=by kernel_rfl
theorem rnd:Rnd Tryz.prog 42 11 12 (rfA kRF) pA:=⟨kA,by kernel_rfl,by kernel_rfl,by decide,by decide,by decide⟩
theorem pcode:PairCode Tryz.prog 291 350 0 10 11 12 42 42 Tryz.f291 Tryz.f350 kc0 kc1 (rfA kRF) (rfB kRF) kc2 (bodyOf Tryz.f350) p0 p1 pA p2 rvP:=
 ⟨Tryz.func291,hb291,by kernel_rfl,k0,k1,k2,⟨by kernel_rfl,by kernel_rfl,by kernel_rfl⟩,⟨by kernel_rfl,by kernel_rfl,by kernel_rfl⟩,rnd,by kernel_rfl,Tryz.func350,by kernel_rfl,by kernel_rfl,⟨by decide,by decide⟩,by kernel_rfl,en350,by decide⟩
theorem an291:anc (opsOf kR4)=an4/\(opsOf kR4).size=pL.length:=⟨by kernel_rfl,by kernel_rfl⟩
theorem hR4:rfB kRF=.block 1 (.seq (.region 4 (opsOf kR4) true) (seR (bkC (rfB kRF)))):=by kernel_rfl
theorem pqB{P:Program}(hP:P=Tryz.prog)(hL:LvOk P L0):PqOk P 291 qB:=by
 subst hP;refine xa9 hL pcode (once:=false) (cap:=cB) (by decide) (by simp [cB]) (s2:=s2 qB) (i1:=jB) (λv x=>congrFun (congrFun begB v) x) (λv x=>?_) (λv x l=>congrFun (congrFun (congrFun finB v) x) l)
 exact qR hL (n:=fu) (e:=.nrm) kI (by kernel_rfl) (by kernel_rfl) (λi h=>by cases h) (λl=>congrFun (congrFun (congrFun runB v) x) l)
theorem walkA{F:Fence}(hF:Wd F)(hL:LvOk Tryz.prog L0)(v:Tr)(x:List Tr)(l:Nat):Walks F Tryz.prog 42 (rfB kRF) (uA v x l) .ret (wA v x l):=by
 refine VK hL hF (n:=fu) (n2:=9) (l:=pL) (rest:=pR) (an:=an4) (t1:=vA v x l) (ts:=List.replicate 40 (vA v x l)) kB (λid ops y h=>?_) (by kernel_rfl) (by kernel_rfl) (congrFun (congrFun (congrFun allA v) x) l) (λy hy=>(List.mem_replicate.1 hy).2) (congrFun (congrFun (congrFun bodA v) x) l)
 rw [hR4]at h;injection h with _ h
 injection h with h _
 injection h with _ h _
 rw [<-h];exact an291
theorem pqA{P:Program}(hP:P=Tryz.prog)(hL:LvOk P L0):PqOk P 291 qA:=by
 subst hP;refine xa9 hL pcode (once:=true) (cap:=cA) (by decide) (by simp [cA]) (s2:=s2 qA) (i1:=jA) (λv x=>congrFun (congrFun begA v) x) (λv x=>?_) (λv x l=>congrFun (congrFun (congrFun finA v) x) l)
 refine jX (b0:=0) (b1:=pC.b1) (b2:=pC.b2) (b3:=pC.b3) (r0:=pC.r0) (r1:=pC.r1) (cn1:=pC.cn1) (r2:=pC.r2) (r3:=pC.r3) (r45:=pC.r45) (cn6:=pC.cn6) (r5:=pC.r5) (r7:=pC.r7) (l1:=pC.l1) (l2:=pC.l2) (d:=pC.d) (g:=pC.g) (j:=pC.j) (p:=pC.p) (q:=pC.q) hL (n:=fu) rnd kI (by kernel_rfl) (by kernel_rfl) ⟨by kernel_rfl,by kernel_rfl⟩ (by decide) (by decide) λl=>?_
 exact yao (c:=pC) (congrFun (congrFun (congrFun preA v) x) l) (walkA (.inr ⟨l,rfl⟩) hL v x l) (congrFun (congrFun (congrFun posA v) x) l)
end Go.Abs.Wp
end
section
namespace Go.Abs.Wp
open Go.Proofs Go.Num
theorem fc{α:Type}{p:α->Prop}{a:α}{l:List α}(h:p a)(k:∀x∈l,p x):∀x∈a::l,p x:=List.forall_mem_cons.2 ⟨h,k⟩
theorem ck180:check Tryz.prog 180=some (8,clAC 1,[.tmp 2]):=by kernel_rfl
theorem ck186:check Tryz.prog 186=some (8,clAC 4,[.tmp 2]):=by kernel_rfl
abbrev Bdy:=List (Nat×Nat×AC×List RV)
theorem ckL{P:Program}{l:Bdy}(h:l.map (λe=>check P e.1)=l.map λe=>some e.2):∀e∈l,check P e.1=some e.2:=List.map_inj_left.1 h
theorem ckD{P:Program}{l:Bdy}{n:Nat}(h:((l.drop n).take 20).map (λe=>check P e.1)=((l.drop n).take 20).map λe=>some e.2)(k:∀e∈l.drop (n+20),check P e.1=some e.2):∀e∈l.drop n,check P e.1=some e.2:=λe he=>by
 rw [<-List.take_append_drop 20 (l.drop n),List.mem_append,List.drop_drop]at he;exact he.elim (ckL h e) (k e)
theorem cq0:((bodies.drop 0).take 20).map (λe=>check Tryz.prog e.1)=((bodies.drop 0).take 20).map λe=>some e.2:=by kernel_rfl
theorem cq1:((bodies.drop 20).take 20).map (λe=>check Tryz.prog e.1)=((bodies.drop 20).take 20).map λe=>some e.2:=by kernel_rfl
theorem cq2:((bodies.drop 40).take 20).map (λe=>check Tryz.prog e.1)=((bodies.drop 40).take 20).map λe=>some e.2:=by kernel_rfl
theorem cq3:((bodies.drop 60).take 20).map (λe=>check Tryz.prog e.1)=((bodies.drop 60).take 20).map λe=>some e.2:=by kernel_rfl
theorem cq4:((bodies.drop 80).take 20).map (λe=>check Tryz.prog e.1)=((bodies.drop 80).take 20).map λe=>some e.2:=by kernel_rfl
theorem cq5:((bodies.drop 100).take 20).map (λe=>check Tryz.prog e.1)=((bodies.drop 100).take 20).map λe=>some e.2:=by kernel_rfl
theorem cq6:((bodies.drop 120).take 20).map (λe=>check Tryz.prog e.1)=((bodies.drop 120).take 20).map λe=>some e.2:=by kernel_rfl
theorem cq7:((bodies.drop 140).take 20).map (λe=>check Tryz.prog e.1)=((bodies.drop 140).take 20).map λe=>some e.2:=by kernel_rfl
theorem cqE:bodies.drop 160=[]:=by kernel_rfl
theorem ckAll:∀e∈bodies,check Tryz.prog e.1=some e.2:=λe he=>ckD cq0 (ckD cq1 (ckD cq2 (ckD cq3 (ckD cq4 (ckD cq5 (ckD cq6 (ckD cq7 (λe he=>by rw [cqE]at he;cases he)))))))) e (show e∈bodies.drop 0 from he)
theorem okAll:(bodies.all λe=>okAC e.2.2.1)=true:=by kernel_rfl
theorem Zg:∀{l:List (Nat×Nat×AC×List RV)} {f:Nat} {x:Nat×AC×List RV},lookB f l=some x->(f,x)∈l
 | [],f,x,h=>nos h
 | (k,y)::r,f,x,h=>by
  simp only [lookB]at h;cases hb:Nat.beq f k with
  | true=>rw [hb]at h;cases h;rw [beq_eq hb];exact List.mem_cons_self ..
  | false=>rw [hb]at h;exact List.mem_cons_of_mem _ (Zg h)
theorem tabOk:TabOk Tryz.prog tb:=⟨λf x h=>ckAll (f,x) (Zg h),λf n ac rv h=>List.all_eq_true.1 okAll (f,n,ac,rv) (Zg h)⟩
theorem Qa8{x:Option AV}(h:isT x=true):x=some (.one (.lit (.bool true))):=by
 unfold isT at h;split at h
 .rw [h]
 .exact Bool.noConfusion h
theorem awk_sound(h67:Sound Tryz.prog 67 (.dat false wu))(h66:Sound Tryz.prog 66 (.dat false Jy))(h60:Sound Tryz.prog 60 (.dat false Wy))(h65:Sound Tryz.prog 65 (.dat false (qq 75)))(h44:Sound Tryz.prog 44 (.dat false yu))(h62:Sound Tryz.prog 62 (.dat true Wj))(h63:Sound Tryz.prog 63 (.dat true qy))(h108:Sound Tryz.prog 108 (.dat true yd))(h34:Sound Tryz.prog 34 (.dat false wR)) :
  Sound Tryz.prog 7 (.dat true λargs K=>args=[]/\K (.one (.lit (.bool true)))):=by
 have hf:∀p∈N0.fr,Enters Tryz.prog p.1/\DSound Tryz.prog p.1 (fG 75 p.2):=by
  refine fc ⟨h67.1,h67.2.2⟩ (fc ⟨h66.1,h66.2.2⟩ (fc ⟨h60.1,h60.2.2⟩ (fc ⟨h65.1,h65.2.2⟩ (fc ⟨h44.1,h44.2.2⟩ (fc ⟨h62.1,h62.2.2⟩ (fc ⟨h63.1,h63.2.2⟩ (fc ⟨h108.1,h108.2.2⟩ (fc ⟨h34.1,h34.2.2⟩ (λ_ h=>nomatch h)))))))))
 have hcl:∀f∈N0.clones,Enters Tryz.prog f/\FSound Tryz.prog f ((baseN N0).z f) λargs K=>∃r,cloneE args=some r/\K r:=
  fc ⟨Xa Tryz.func180 (by kernel_rfl) rfl,vak (z:=1) ck180⟩ (fc ⟨Xa Tryz.func186 (by kernel_rfl) rfl,vak (z:=4) ck186⟩ (λ_ h=>nomatch h))
 have b0:BaseOk Tryz.prog (baseN N0):=Jaz hf hcl en291 (yC (l:=[]) λ_ h=>nomatch h);have hL:LvOk Tryz.prog L0:=(Wu tabOk b0 12).1;have b1:BaseOk Tryz.prog (baseN NN):=Jaz hf hcl en291 (yC (l:=[qA,qB]) (fc (pqA rfl hL) (fc (pqB rfl hL) (λ_ h=>nomatch h))));exact Qaq tabOk b1 (Qa8 mainT)
end Go.Abs.Wp
namespace Go.Abs
open Go.Proofs
theorem awk_sound:type_of% @Wp.awk_sound:=@Wp.awk_sound
end Go.Abs
end
section
namespace Go.Abs.Wp
open Go.Proofs Go.Num
theorem hfAll:(bodies.all λe=>cond (memN (229::towL) e.1) (hfAC e.2.2.1) true)=true:=by kernel_rfl
theorem yq{α:Type}{b:Bool}{x:Option α}{y:α}(h:cond b x none=some y):x=some y:=by
 cases b with
 | true=>exact h
 | false=>cases h
theorem QaU(p:Nat->Bool):TabOk Tryz.prog (λf=>cond (p f) (lookB f bodies) none):=
 ⟨λf x h=>tabOk.ck f x (yq h),λf n ac rv h=>tabOk.ok f n ac rv (yq h)⟩
theorem Ubf{p:Nat->Bool}(hp:∀f,p f=true->memN (229::towL) f=true){f n:Nat}{ac:AC}{rv:List RV}(h:cond (p f) (lookB f bodies) none=some (n,ac,rv)):hfAC ac=true:=by
 have h2:=List.all_eq_true.1 hfAll (f,n,ac,rv) (Zg (yq h));cases hb:p f with
 | true=>rw [hp f hb]at h2;exact h2
 | false=>rw [hb]at h;cases h
theorem XaL{kd:List (Nat×EK)}{tab:Nat->Option (Nat×AC×List RV)}(h:(kd.all λp=>(tab p.1).isNone)=true):∀p∈kd,tab p.1=none:=λp hp=>Option.isNone_iff_eq_none.1 (List.all_eq_true.1 h p hp)
structure Fr (P:Program):Prop where
 h67:Sound P 67 (.dat false wu)
 h66:Sound P 66 (.dat false Jy)
 h60:Sound P 60 (.dat false Wy)
 h65:Sound P 65 (.dat false (qq 75))
 h44:Sound P 44 (.dat false yu)
 h62:Sound P 62 (.dat true Wj)
 h63:Sound P 63 (.dat true qy)
 h108:Sound P 108 (.dat true yd)
 h34:Sound P 34 (.dat false wR)
abbrev Kn(f:Nat)(k:EK):Prop:=Enters Tryz.prog f/\DSound Tryz.prog f (FG k)
theorem wi{P:Program}{f:Nat}{k:FK}{z:Bool}(h:Sound P f (.dat z (fG 75 k))):Enters P f/\DSound P f (FG (.fr k)):=
 ⟨h.1,h.2.2.mono λ_ _ ⟨_,h1,h2⟩=>zae 75 h1 h2⟩
theorem kn227:Kn 227 .empty:=by
 have h:Sound Tryz.prog 227 (.dat true (FG .empty)):=U2 xr (by kernel_rfl)
 exact⟨h.1,h.2.2⟩
theorem kn226:Kn 226 .copied:=by
 have h:Sound Tryz.prog 226 (.dat false (FG .copied)):=UR xr (by kernel_rfl)
 exact⟨h.1,h.2.2⟩
theorem kn0(h:Fr Tryz.prog):∀p∈kd0,Kn p.1 p.2:=
 fc (wi h.h67) (fc (wi h.h66) (fc (wi h.h60) (fc (wi h.h65) (fc (wi h.h44) (fc (wi h.h62) (fc (wi h.h63) (fc (wi h.h108) (fc (wi h.h34) (fc kn227 (fc kn226 (λ_ h=>nomatch h)))))))))))
theorem set0(h:Fr Tryz.prog):Set1 Tryz.prog tb0 kd0 N1:=
 ⟨QaU _,λ_ _ _ _=>Ubf (p:=λf=>Nat.beq f 229) λf hf=>by rw [beq_eq hf];rfl,kn0 h,XaL (by kernel_rfl),by kernel_rfl,en291,rfl⟩
theorem kn229(h:Fr Tryz.prog):Kn 229 .zero:=
 ⟨Xa Tryz.func229 (by kernel_rfl) rfl,VaJ (set0 h) (n:=40) λm hm=>by
  match m,hm with
  | 0,_=>exact z0
  | 1,_=>exact z1
  | 2,_=>exact z2⟩
theorem set1(h:Fr Tryz.prog):Set1 Tryz.prog tb1 kd1 N1:=
 ⟨QaU _,λ_ _ _ _=>Ubf (p:=memN towL) λf hf=>by unfold memN at hf ⊢;rw [List.any_cons,hf,Bool.or_true],fc (kn229 h) (kn0 h),XaL (by kernel_rfl),by kernel_rfl,en291,rfl⟩
theorem kn71(h:Fr Tryz.prog):Kn 71 .chk:=
 ⟨Xa Tryz.func71 (by kernel_rfl) rfl,vaW (set1 h) (n:=40) λT=>by
  cases T with
  | false=>exact c0
  | true=>exact c1⟩
theorem kn54(h:Fr Tryz.prog):Kn 54 .sign:=
 ⟨Xa Tryz.func54 (by kernel_rfl) rfl,jaK (set1 h) (n:=40) λT m hm=>by
  match T,m,hm with
  | false,0,_=>exact g00
  | false,1,_=>exact g01
  | true,0,_=>exact g10
  | true,1,_=>exact g11⟩
theorem kn255(h:Fr Tryz.prog):Kn 255 .ext:=⟨Xa Tryz.func255 (by kernel_rfl) rfl,ka2 (set1 h) (n:=40) x0⟩
theorem bv5k{l:List Nat}:∀k,k<5->((bv5++l)[k]?).getD 0=10000
 | 0,_=>rfl
 | 1,_=>rfl
 | 2,_=>rfl
 | 3,_=>rfl
 | 4,_=>rfl
 | n+5,h=>absurd h (by omega)
theorem vaA{g:Option Rat->PR->PR->Option AV}(T:Option Rat)(a b:PR)(r:AV)(acc:List Nat)(h:onlyL g T a b=some r)(h3:nz2 acc 3=decide (b.1=0))(h4:nz2 acc 4=decide (b.2=0)):pUn acc=true:=by
 obtain⟨rfl,-⟩:=yac h;unfold pUn;rw [h3,h4];rfl
theorem Qba{g:PR->PR->Option AV}(T:Option Rat)(a b:PR)(r:AV)(acc:List Nat)(h:(if b.1≠0/\b.2=0 then g a b else none)=some r)(h3:nz2 acc 3=decide (b.1=0))(h4:nz2 acc 4=decide (b.2=0)):pDi acc=true:=by
 split at h
 .rename_i e;unfold pDi;rw [h3,h4,decide_eq_false e.1,decide_eq_true e.2];rfl
 .exact nos h
theorem kn75(h:Fr Tryz.prog):Kn 75 .add:=
 ⟨Xa Tryz.func75 (by kernel_rfl) rfl,apiC (set1 h) (n:=40) (g:=λ_ p q=>retP (p.1+q.1,p.2+q.2)) (λargs r e=>by
  match args,e with
  | [t,a,b],e=>exact fe2 (g:=λ_ p q=>retP (p.1+q.1,p.2+q.2)) e) (by kernel_rfl) rfl rfl rfl bv5k eA (λ_ _ _ _ _ _ _ _=>rfl) ka8⟩
theorem kn73(h:Fr Tryz.prog):Kn 73 .sub:=
 ⟨Xa Tryz.func73 (by kernel_rfl) rfl,apiC (set1 h) (n:=40) (g:=λ_ p q=>retP (p.1-q.1,p.2-q.2)) (λargs r e=>by
  match args,e with
  | [t,a,b],e=>exact fe2 (g:=λ_ p q=>retP (p.1-q.1,p.2-q.2)) e) (by kernel_rfl) rfl rfl rfl bv5k eB (λ_ _ _ _ _ _ _ _=>rfl) Ybb⟩
theorem kn74(h:Fr Tryz.prog):Kn 74 .mul:=
 ⟨Xa Tryz.func74 (by kernel_rfl) rfl,apiC (set1 h) (n:=40) (g:=λT p q=>retP (mulP (T.getD 0) p q)) (λargs r e=>by
  match args,e with
  | [t,a,b],e=>exact fe2 (g:=λT p q=>retP (mulP (T.getD 0) p q)) e) (by kernel_rfl) rfl rfl rfl bv5k eM (λ_ _ _ _ _ _ _ _=>rfl) Ya9⟩
theorem kn315(h:Fr Tryz.prog):Kn 315 .div:=
 ⟨Xa Tryz.func315 (by kernel_rfl) rfl,apiC (set1 h) (n:=40) (g:=λ_ p q=>if q.1≠0/\q.2=0 then retP (p.1 / q.1,p.2 / q.1) else none) (λargs r e=>by
  match args,e with
  | [t,a,b],e=>exact fe2 (g:=λ_ p q=>if q.1≠0/\q.2=0 then retP (p.1 / q.1,p.2 / q.1) else none) e) (by kernel_rfl) rfl rfl rfl bv5k eD (Qba (g:=λp q=>retP (p.1 / q.1,p.2 / q.1))) zbe⟩
theorem kn197(h:Fr Tryz.prog):Kn 197 .neg:=
 ⟨Xa Tryz.func197 (by kernel_rfl) rfl,apiC (set1 h) (n:=40) (λargs r e=>by
  match args,e with
  | [t,a],e=>exact fe1' (g:=λ_ p _=>retP (-p.1,-p.2)) e) (by kernel_rfl) rfl rfl rfl bv5k eN vaA (WZ Vbf)⟩
theorem kn181(h:Fr Tryz.prog):Kn 181 .same:=
 ⟨Xa Tryz.func181 (by kernel_rfl) rfl,apiC (set1 h) (n:=40) (λargs r e=>by
  match args,e with
  | [a],e=>exact feS' e) (by kernel_rfl) rfl rfl rfl (bv5k (l:=[])) eS vaA (WZ xa4)⟩
theorem kn107(h:Fr Tryz.prog):Kn 107 .of:=
 ⟨Xa Tryz.func107 (by kernel_rfl) rfl,apiC (set1 h) (n:=40) (λargs r e=>by
  match args,e with
  | [a],e=>exact feO' e) (by kernel_rfl) rfl rfl rfl (bv5k (l:=[])) eO vaA (WZ jbn)⟩
end Go.Abs.Wp
end
section
namespace Go.Abs.Wp
noncomputable def bodies2:List (Nat×Nat×AC×List RV):=[(5,121,(.S 2 [.K 18 0,.K 4 1,.v false] (.s (.S 17 [.c 7 [],.U 17,.M 18,.h 19 (.L 18 2),.h 19 (.c 19 [20]),.h 19 (.U 21),.q 19 22,.M 23,.h 24 (.L 4 3),.h 24 (.c 20 [25]),.h 24 (.U 26),.q 24 27] (.I 28 (.R 4 [.e 29 (.c 7 []),.M 29]))) (.T 31 [.L 18 2,.c 21 [31],.L 4 3,.r 4 [33],.c 11 [32,34],.m 30 35,.X 0 30,.X 1 30,.m 5 36,.m 6 37] (.T 39 [.L 18 2,.c 23 [39],.L 4 3,.c 22 [40,41],.m 38 42,.X 0 38,.X 1 38,.X 2 38,.e 7 (.a [.E]),.S 1 7 43,.m 8 44,.m 9 45] (.s (.S 46 [.M 6,.R 46] (.I 47 (.R 48 [.M 6,.u (.row 1 [[.x 1 (ic 15)]]),.c 24 [48,49],.M 9,.u (.row 1 [[.x 1 (ic 15)]]),.c 24 [51,52],.u (.binb .eql (.t 50) (.t 53)),.m 4 54]))) (.s (.S 55 [.M 9,.R 55] (.I 56 (.R 57 [.M 9,.u (.row 1 [[.x 1 (ic 16)]]),.c 24 [57,58],.M 59,.g 60 (.M 5),.g 60 (.Z 61),.g 60 (.I .eql 62 0),.p 60 63,.M 64,.h 65 (.M 9),.h 65 (.u (.row 1 [[.x 1 (ic 15)]])),.h 65 (.c 24 [66,67]),.q 65 68,.m 4 69]))) (.s (.S 70 [.M 8,.Z 70,.M 5,.Z 72,.B .neq 71 73] (.I 74 (.R 4 [.v false]))) (.T 76 [.L 18 2,.c 23 [76],.L 4 3,.c 25 [77,78],.m 75 79,.X 0 75,.X 1 75,.X 2 75,.X 3 75,.e 10 (.a (zr 1)),.e 11 (.a (zr 1)),.e 12 (.a (zr 1)),.S 3 10 80,.S 3 11 81,.S 3 12 82,.m 13 83] (.s (.S 84 [.M 13,.R 84] (.I 85 (.R 4 [.v false]))) (.s (.S 14 [.N 0] (.k 0 (.loop (.s (.S 86 [.M 14,.M 5,.Z 87,.B .lss 86 88] (.cond (.t 89) .skip (.exit 0))) (.s (.k 1 (.T 93 [.M 5,.M 14,.J 3 93 94,.L 3 95,.A 9 2,.L 3 97,.b [.z (zr 1)],.u (.call 26 [(.t 96),(ic 3),(.t 98),(.t 99)]),.m 92 100,.X 0 92,.X 1 92,.e 15 (.a [.E,.E]),.S 2 15 101,.m 16 102] (.T 103 [.M 16,.R 103,.M 104,.h 105 (.M 5),.h 105 (.M 14),.h 105 (.J 3 106 107),.h 105 (.A 0 108),.h 105 (.L 1 109),.h 105 (.L 2 15),.h 105 (.A 0 2),.h 105 (.L 3 112),.h 105 (.L 3 10),.h 105 (.L 3 11),.h 105 (.L 3 12),.h 105 (.b [.X 3 114,.X 3 115,.X 3 116]),.h 105 (.c 27 [110,111,113,117]),.h 105 (.U 118),.q 105 119] (.I 120 (.R 4 [.v false]))))) (.O 90 [.M 14,.I .add 90 1,.m 14 91])))))) (.R 4 [.v true]))))))))))),[.tmp 4]),(12,15,(.S 2 [.N 0] (.s (.S 5 [.M 0,.E 5] (.I 6 (.R 2 [.N 0]))) (.S 8 [.M 0,.u (.tass 75 (.one (.lit (.int .i64 0))) (.t 8)),.m 7 9,.X 0 7,.X 1 7,.m 3 10,.m 4 11] (.s (.S 12 [.M 4,.U 12] (.I 13 (.R 2 [.u (.mv (.c (.one (.lit (.int .i64 (-1))))))]))) (.R 2 [.m 14 3,.M 14]))))),[.tmp 2]),(22,146,(.S 2 [.K 12 0,.K 4 1,.a [.E],.P,.O] (.S 18 [.L 12 2,.L 4 3,.c 61 [18,19],.m 17 20,.X 0 17,.X 1 17,.e 7 (.a (zr 5)),.S 15 7 21,.m 8 22] (.s (.S 23 [.M 8,.R 23] (.I 24 (.R 5 [.e 25 (.b [.z [.E]]),.m 26 8,.S 1 4 25,.P,.M 26]))) (.s (.S 27 [.A 12 7,.L 3 27,.c 62 [28],.I .eql 29 0,.M 30,.g 31 (.A 6 2),.g 31 (.L 3 32),.g 31 (.A 9 2),.g 31 (.L 3 34),.g 31 (.c 63 [33,35]),.g 31 (.I .eql 36 0),.p 31 37] (.I 38 (.R 5 [.e 39 (.b [.z [.E]]),.j 40 75 15,.S 1 4 39,.P,.M 40]))) (.S 41 [.L 12 2,.A 12 7,.L 3 42,.c 64 [41,43],.e 9 (.a (zr 1)),.S 3 9 44] (.s (.S 45 [.L 3 9,.c 62 [45],.I .lss 46 0] (.I 47 (.R 5 [.e 48 (.b [.z [.E]]),.j 49 75 16,.S 1 4 48,.P,.M 49]))) (.T 50 [.u (.call 34 [(ic 2)]),.A 12 7,.L 3 51,.c 60 [50,52],.e 10 (.a (zr 1)),.S 3 10 53] (.T 55 [.A 12 7,.L 3 55,.A 6 2,.L 3 57,.c 67 [56,58],.A 9 2,.L 3 60,.c 66 [59,61],.L 3 10,.c 65 [62,63],.m 54 64,.X 0 54,.X 1 54,.e 11 (.a (zr 1)),.S 3 11 65,.m 8 66] (.s (.S 67 [.M 8,.R 67] (.I 68 (.R 5 [.e 69 (.b [.z [.E]]),.m 70 8,.S 1 4 69,.P,.M 70]))) (.T 71 [.A 0 7,.A 0 71,.L 3 72,.L 3 11,.A 6 7,.A 0 75,.L 3 76,.c 60 [74,77],.c 67 [73,78],.A 0 7,.A 3 80,.L 3 81,.L 3 11,.A 6 7,.A 3 84,.L 3 85,.c 60 [83,86],.c 67 [82,87],.e 12 (.a (zr 1)),.e 13 (.a (zr 1)),.S 3 12 79,.S 3 13 88] (.s (.S 89 [.L 3 9,.c 62 [89],.I .eql 90 0] (.I 91 (.T 92 [.b [.z [.E]],.u (.ld (some 12) 3 true (.t 12)),.r 3 [93],.u (.ld (some 13) 3 true (.t 13)),.r 3 [95],.b [.X 1 94,.X 1 96],.b [.z [.I],.X 2 97],.r 3 [98],.n (.st (some 4) 1 (.t 4) (.t 92)),.m 5 99,.e 6 .O] .ret))) (.T 101 [.u (.call 34 [(ic 1)]),.L 3 10,.c 65 [101,102],.m 100 103,.X 0 100,.X 1 100,.e 14 (.a (zr 1)),.S 3 14 104,.m 8 105] (.s (.S 106 [.M 8,.R 106] (.I 107 (.R 5 [.e 108 (.b [.z [.E]]),.m 109 8,.S 1 4 108,.P,.M 109]))) (.T 110 [.L 3 14,.A 6 7,.A 3 111,.L 3 112,.c 60 [110,113],.c 44 [114],.L 3 14,.A 6 7,.A 0 117,.L 3 118,.c 60 [116,119],.e 15 (.a (zr 1)),.e 16 (.a (zr 1)),.S 3 15 115,.S 3 16 120] (.T 121 [.u (.ld (some 9) 3 true (.t 9)),.r 3 [121],.r 1 [122],.b [.X 1 123],.u (.ld (some 12) 3 true (.t 12)),.u (.ld (some 15) 3 true (.t 15)),.r 3 [125,126],.u (.ld (some 13) 3 true (.t 13)),.u (.ld (some 16) 3 true (.t 16)),.r 3 [128,129],.b [.X 1 127,.X 1 130],.b [.x 1 (ic 1),.X 2 131],.u (.ld (some 12) 3 true (.t 12)),.c 68 [133],.u (.ld (some 15) 3 true (.t 15)),.c 44 [135],.r 3 [134,136],.u (.ld (some 13) 3 true (.t 13)),.c 68 [138],.u (.ld (some 16) 3 true (.t 16)),.c 44 [140],.r 3 [139,141],.b [.X 1 137,.X 1 142],.b [.x 1 (.c (.one (.lit (.int .i64 (-1))))),.X 2 143],.r 3 [132,144],.n (.st (some 4) 1 (.t 4) (.t 124)),.m 5 145,.e 6 .O] .ret))))))))))))))),[.cell 4 1 true,.tmp 5,.tmp 6]),(23,14,(.S 1 [.K 18 0,.a (zr 4)] (.T 3 [.A 0 1,.L 3 3,.A 3 1,.L 3 5,.A 6 1,.L 3 7,.c 69 [8],.A 9 1,.L 3 10,.c 69 [11],.b [.X 3 4,.X 3 6,.X 3 9,.X 3 12],.S 12 2 13] .ret)),[.cell 2 12 true]),(24,18,(.S 4 [.v false] (.s (.S 5 [.N 0] (.k 0 (.loop (.s (.S 6 [.M 5,.M 1,.Z 7,.B .lss 6 8] (.cond (.t 9) .skip (.exit 0))) (.s (.k 1 (.S 12 [.M 0,.M 1,.M 5,.J 1 13 14,.F 1 15,.c 70 [12,16]] (.I 17 (.R 4 [.v true])))) (.O 10 [.M 5,.I .add 10 1,.m 5 11])))))) (.R 4 [.v false]))),[.tmp 4]),(25,42,(.S 2 [.K 12 0,.K 4 1,.a (zr 1),.a (zr 1),.a (zr 1),.O] (.S 12 [.L 12 2,.L 4 3,.c 61 [12,13],.m 11 14,.X 0 11,.X 1 11,.e 8 (.a (zr 5)),.S 15 8 15,.m 9 16] (.s (.S 17 [.M 9,.R 17] (.I 18 (.R 19 [.b [.z (zr 1)],.b [.z (zr 1)],.b [.z (zr 1)],.M 9,.S 3 4 19,.S 3 5 20,.S 3 6 21,.m 7 22]))) (.S 10 [.e 23 (.u (.call 34 [(ic 2)])),.a (zr 1),.S 3 10 23] (.T 24 [.L 3 10,.A 6 8,.A 0 25,.L 3 26,.c 60 [24,27],.L 3 10,.A 6 8,.A 3 30,.L 3 31,.c 60 [29,32],.A 12 8,.L 3 34,.A 9 2,.L 3 36,.c 67 [35,37],.A 6 2,.L 3 39,.c 66 [38,40],.S 3 4 28,.S 3 5 33,.S 3 6 41,.e 7 .O] .ret))))),[.cell 4 3 true,.cell 5 3 true,.cell 6 3 true,.tmp 7]),(26,41,(.S 6 [.e 4 (.K 3 0),.K 3 2,.K 3 3,.a [.E,.E],.O] (.s (.S 11 [.A 0 4,.L 1 11,.c 71 [12],.m 10 13] (.S 14 [.M 10,.R 14] (.I 15 (.R 16 [.b [.z [.E,.E]],.M 10,.S 2 8 16,.m 9 17])))) (.s (.S 18 [.M 1,.I .lss 18 0,.M 19,.h 20 (.M 1),.h 20 (.A 1 4),.h 20 (.F 1 22),.h 20 (.Z 23),.h 20 (.B .geq 21 24),.q 20 25] (.I 26 (.R 27 [.b [.z [.E,.E]],.i 75 9,.S 2 8 27,.m 9 28]))) (.T 29 [.A 0 4,.L 1 29,.A 1 4,.F 1 31,.M 1,.J 4 32 33,.L 4 34,.L 3 6,.L 3 7,.c 72 [30,35,36,37],.X 0 38,.X 1 38,.S 2 8 39,.m 9 40] .ret)))),[.cell 8 2 true,.tmp 9]),(27,95,(.S 4 [.K 1 0,.K 2 1,.K 3 2,.K 9 3,.v false] (.S 20 [.L 1 4,.A 0 5,.F 1 21,.L 3 6,.r 3 [23],.c 73 [20,22,24],.m 19 25,.X 0 19,.X 1 19,.m 9 26,.m 10 27] (.S 29 [.L 1 4,.M 9,.u (.ai 3 3 (.t 7) (ic 0)),.L 3 31,.r 3 [32],.c 74 [29,30,33],.m 28 34,.X 0 28,.X 1 28,.m 9 35,.m 11 36] (.S 38 [.L 1 4,.A 1 5,.F 1 39,.u (.ai 3 3 (.t 7) (ic 1)),.L 3 41,.r 3 [42],.c 74 [38,40,43],.m 37 44,.X 0 37,.X 1 37,.m 12 45,.m 13 46] (.S 48 [.L 1 4,.M 9,.M 12,.c 75 [48,49,50],.m 47 51,.X 0 47,.X 1 47,.m 14 52,.m 15 53] (.S 55 [.L 1 4,.M 14,.u (.ai 3 3 (.t 7) (ic 2)),.L 3 57,.r 3 [58],.c 75 [55,56,59],.m 54 60,.X 0 54,.X 1 54,.m 14 61,.m 16 62] (.S 64 [.L 1 4,.M 14,.c 54 [64,65],.m 63 66,.X 0 63,.X 1 63,.m 17 67,.m 18 68] (.R 69 [.M 10,.E 69,.M 70,.g 71 (.M 11),.g 71 (.E 72),.p 71 73,.M 74,.g 75 (.M 13),.g 75 (.E 76),.p 75 77,.M 78,.g 79 (.M 15),.g 79 (.E 80),.p 79 81,.M 82,.g 83 (.M 16),.g 83 (.E 84),.p 83 85,.M 86,.g 87 (.M 18),.g 87 (.E 88),.p 87 89,.M 90,.g 91 (.M 17),.g 91 (.I .eql 92 0),.p 91 93,.m 8 94])))))))),[.tmp 8]),(61,38,(.S 2 [.K 12 0,.K 4 1,.a (zr 5),.O] (.S 10 [.L 12 2,.L 4 3,.c 139 [10,11],.m 9 12,.X 0 9,.X 1 9,.e 6 (.a (zr 2)),.S 6 6 13,.m 7 14] (.s (.S 15 [.M 7,.R 15] (.I 16 (.R 17 [.b [.z (zr 5)],.M 7,.S 15 4 17,.m 5 18]))) (.T 19 [.A 0 2,.L 3 19,.A 0 6,.L 3 21,.c 66 [20,22],.A 3 6,.L 3 24,.c 44 [25],.b [.X 3 23,.X 3 26],.e 8 (.a (zr 2)),.S 6 8 27] (.T 28 [.L 6 6,.L 6 8,.A 0 8,.L 3 30,.c 140 [31],.A 3 8,.L 3 33,.c 140 [34],.c 67 [32,35],.b [.X 6 28,.X 6 29,.X 3 36],.S 15 4 37,.e 5 .O] .ret))))),[.cell 4 15 true,.tmp 5]),(64,23,(.S 2 [.K 12 0,.K 3 1,.a (zr 1)] (.T 6 [.A 6 2,.L 3 6,.A 9 2,.L 3 8,.c 67 [7,9],.L 3 3,.c 66 [10,11],.e 5 (.a (zr 1)),.S 3 5 12] (.T 13 [.u (.call 34 [(ic 4)]),.A 6 2,.L 3 14,.A 9 2,.L 3 16,.c 60 [15,17],.c 60 [13,18],.L 3 5,.c 140 [20],.c 66 [19,21],.S 3 4 22] .ret))),[.cell 4 3 true]),(68,6,(.S 1 [.K 3 0,.a (zr 1)] (.R 3 [.L 3 1,.b [.z (zr 1)],.c 67 [3,4],.S 3 2 5])),[.cell 2 3 true]),(69,6,(.S 1 [.K 3 0,.a (zr 1)] (.R 3 [.L 3 1,.L 3 1,.c 60 [3,4],.S 3 2 5])),[.cell 2 3 true]),(70,9,(.S 4 [.v false] (.R 5 [.M 0,.c 12 [5],.M 1,.B .eql 6 7,.m 4 8])),[.tmp 4]),(139,36,(.S 2 [.K 12 0,.K 4 1,.a (zr 2),.O] (.s (.S 10 [.L 12 2,.L 4 3,.c 219 [10,11],.m 6 12] (.S 13 [.M 6,.R 13] (.I 14 (.R 15 [.b [.z (zr 2)],.M 6,.S 6 4 15,.m 5 16])))) (.S 18 [.L 4 3,.c 154 [18],.m 17 19,.X 0 17,.X 1 17,.X 2 17,.e 7 (.a (zr 1)),.e 8 (.a (zr 1)),.S 3 7 20,.S 3 8 21,.m 9 22] (.s (.S 23 [.M 9,.R 23] (.I 24 (.R 25 [.b [.z (zr 2)],.M 9,.S 6 4 25,.m 5 26]))) (.T 27 [.A 3 2,.L 3 27,.L 3 7,.c 60 [28,29],.A 3 2,.L 3 31,.L 3 8,.c 60 [32,33],.b [.X 3 30,.X 3 34],.S 6 4 35,.e 5 .O] .ret))))),[.cell 4 6 true,.tmp 5]),(140,6,(.S 1 [.K 3 0,.a (zr 1)] (.R 3 [.L 3 1,.L 3 1,.c 60 [3,4],.S 3 2 5])),[.cell 2 3 true]),(154,29,(.S 1 [.K 4 0,.a (zr 1),.a (zr 1),.O] (.s (.S 5 [.L 4 1,.c 51 [5],.R 6] (.I 7 (.R 8 [.b [.z (zr 1)],.b [.z (zr 1)],.i 75 2,.S 3 2 8,.S 3 3 9,.m 4 10]))) (.s (.S 12 [.L 4 1,.c 193 [12],.m 11 13,.X 0 11,.X 1 11,.S 3 2 14,.m 4 15] (.S 16 [.M 4,.R 16] (.I 17 (.R 18 [.b [.z (zr 1)],.b [.z (zr 1)],.M 4,.S 3 2 18,.S 3 3 19,.m 4 20])))) (.S 22 [.L 4 1,.c 194 [22],.m 21 23,.X 0 21,.X 1 21,.S 3 3 24,.m 4 25] (.T 26 [.u (.ld (some 2) 3 true (.t 2)),.u (.ld (some 3) 3 true (.t 3)),.M 4,.n (.st (some 2) 3 (.t 2) (.t 26)),.n (.st (some 3) 3 (.t 3) (.t 27)),.m 4 28] .ret))))),[.cell 2 3 true,.cell 3 3 true,.tmp 4]),(219,15,(.S 2 [.K 12 0,.K 4 1,.O] (.s (.S 6 [.L 12 2,.c 276 [6],.m 5 7] (.S 8 [.M 5,.R 8] (.I 9 (.R 4 [.m 10 5,.M 10])))) (.s (.S 11 [.L 4 3,.c 51 [11],.R 12] (.I 13 (.R 4 [.j 14 75 2,.M 14]))) (.R 4 [.O])))),[.tmp 4]),(276,29,(.S 1 [.K 12 0,.O] (.s (.S 5 [.A 0 1,.L 3 5,.A 3 1,.L 3 7,.A 6 1,.L 3 9,.A 9 1,.L 3 11,.r 3 [6,8,10,12],.Z 13,.N 0] (.k 0 (.loop (.S 16 [.B .lss 15 14] (.s (.cond (.t 16) .skip (.exit 0)) (.s (.k 1 (.S 17 [.J 3 13 15,.L 3 17,.e 4 (.a (zr 1)),.S 3 4 18] (.S 19 [.L 3 4,.c 108 [19],.U 20,.M 21,.h 22 (.L 3 4),.h 22 (.c 62 [23]),.h 22 (.I .leq 24 0),.q 22 25] (.I 26 (.R 2 [.j 27 75 3,.M 27]))))) (.O 15 [.l 28 15 1,.M 28]))))))) (.R 2 [.O]))),[.tmp 2]),(299,41,(.S 4 [.K 3 1,.K 3 2,.a [.E,.E],.O] (.s (.k 0 (.S 9 [.M 0,.M 0,.A 2 4,.F 1 11,.A 2 5,.F 1 13,.w 301 [10,12,14],.w 298 [9,15],.I .neq 16 0,.m 8 17] (.cond (.t 8) (.R 18 [.M 0,.u (.callr 300 [(.t 18),(.c (.one .emp))]),.X 0 19,.X 1 19,.S 2 6 20,.m 7 21]) (.S 23 [.M 0,.A 2 4,.F 1 24,.w 298 [23,25],.I .gtr 26 0,.m 22 27] (.I 22 (.R 28 [.b [.z [.E,.E]],.i 75 15,.S 2 6 28,.m 7 29])))))) (.R 30 [.M 0,.M 0,.A 0 4,.L 2 32,.A 0 4,.L 2 34,.u (.callr 303 [(.t 31),(.t 33),(.c (.one .emp)),(.t 35)]),.r 2 [36],.w 300 [30,37],.X 0 38,.X 1 38,.S 2 6 39,.m 7 40]))),[.cell 6 2 true,.tmp 7])]
end Go.Abs.Wp
end
section
namespace Go.Abs.Wp
noncomputable abbrev oz0:C:=.slice [[sB,(.slice [[sC,bF,(.slice []),(.slice []),bF,(.slice []),(.slice [])],[sD,(hdl 0),(hdl 1),(hdl 2),bF,(.slice []),(.slice [])]])],[sE,(.slice [[sC,bF,(.slice []),(.slice []),bF,(.slice []),(.slice [])],[sF,(hdl 4),(hdl 5),(hdl 6),bF,(.slice []),(.slice [])]])],[sG,(.slice [[sF,bF,(.slice []),(.slice []),bF,(.slice []),(.slice [])],[sH,(hdl 8),(hdl 9),(hdl 10),bF,(.slice []),(.slice [])],[sI,(hdl 40),(hdl 41),(hdl 42),(hdl 44),(hdl 45),(hdl 46)]])],[sJ,(.slice [[sD,bF,(.slice []),(.slice []),bF,(.slice []),(.slice [])],[sH,(hdl 12),(hdl 13),(hdl 14),bF,(.slice []),(.slice [])]])]]
noncomputable abbrev oz1:C:=.slice [[sK,(i 0),(i 1),(i 0),(i 0),(i 0),(i 0)],[sL,(i 0),(i 2),(i 0),(i 1),(i 1),(i 0)],[sM,(i 0),(i 3),(i 1),(i 2),(i 1),(i 0)],[sN,(i 0),(i 3),(i 0),(i 0),(i 1),(i 0)]]
noncomputable abbrev oz2:HB:=⟨1,some ⟨[[(i 0),(.full [[(i 1)]]),(.full [[(i 0)]]),(i 0)]],4,true⟩⟩
noncomputable abbrev oz3:HB:=⟨1,some ⟨[[(i 1),(.full [[(i 2)],[(i 3)]]),(.full [[(i 1)],[(i 3)],[(i 2)]]),(i 0)]],4,true⟩⟩
noncomputable abbrev oz4:HB:=⟨1,some ⟨[[sK,(i 0),(i 1),(i 0),(i 0),(i 0),(i 0)]],7,true⟩⟩
noncomputable abbrev oz5:HB:=⟨1,some ⟨[[(i 0),.emp,.emp,(i 0)]],4,true⟩⟩
noncomputable abbrev oz6:HB:=⟨1,some ⟨[[(.clo 349 [(.lit (.agg ⟨[]⟩)),(.ptr 2055 1 0 0)])]],1,true⟩⟩
noncomputable abbrev oz7:HB:=⟨1,some ⟨[[sL,(i 0),(i 2),(i 0),(i 1),(i 1),(i 0)]],7,true⟩⟩
noncomputable abbrev oz8:HB:=⟨1,some ⟨[[sM,(i 0),(i 3),(i 1),(i 2),(i 1),(i 0)]],7,true⟩⟩
noncomputable abbrev oz9:HB:=⟨1,some ⟨[[(.ptr 2055 1 0 0)]],1,true⟩⟩
noncomputable abbrev oz10:HB:=⟨1,some ⟨[[sA,oz0,oz1,(.slice [[sO,(i 1)]])]],4,true⟩⟩
noncomputable abbrev oz11:HB:=⟨2,some ⟨[[(i 0),(.slice [[(i 1)]]),(.slice [[(i 0)]]),(i 0)],[(i 1),(.slice [[(i 2)],[(i 3)]]),(.slice [[(i 1)],[(i 3)],[(i 2)]]),(i 0)]],4,true⟩⟩
noncomputable abbrev oz12:HB:=⟨1,some ⟨[[sA,oz0,oz1,(.slice [[sO,(i 1)]]),(.own 2052 1 1 0 4),(.own 2053 1 1 0 4),(.own 2054 1 1 0 4),(.own 2064 2 4 0 2)]],8,true⟩⟩
noncomputable abbrev oz13:HB:=⟨1,some ⟨[[sA,oz0,oz1,(.slice [[sO,(i 1)]]),(.own 2052 1 1 0 4),(.own 2053 1 1 0 4),(.own 2054 1 1 0 4),(.own 2064 1 4 0 1)]],8,true⟩⟩
noncomputable abbrev oz14:HB:=⟨1,some ⟨[[sN,(i 0),(i 3),(i 0),(i 0),(i 1),(i 0)]],7,true⟩⟩
noncomputable abbrev oz15:HB:=⟨1,some ⟨[[bT],[bT],[bT],[bT]],1,true⟩⟩
noncomputable abbrev oz16:HB:=⟨1,some ⟨[[bF],[bT],[bF],[bF]],1,true⟩⟩
noncomputable abbrev oz17:HB:=⟨1,some ⟨[[(.clo 335 [(.ptr 2073 1 0 0)])]],1,true⟩⟩
noncomputable abbrev oz18:HB:=⟨1,some ⟨[[(i 0),(.slice [[(i 1)]]),(.slice [[(i 0)]]),(i 0)]],4,true⟩⟩
noncomputable def hC:List (Nat×HB):=[(2051,oz10),(2052,⟨1,some ⟨[[bT],[bT],[bF],[bF]],1,true⟩⟩),(2053,oz16),(2054,⟨1,some ⟨[[bT],[bF],[bF],[bF]],1,true⟩⟩),(2055,oz13),(2050,⟨1,some ⟨[[sO,(i 1)]],2,true⟩⟩),(2048,oz2),(2056,oz2),(2049,⟨1,some ⟨[[sO,(i 1)]],2,true⟩⟩),(2057,⟨1,some ⟨[[(i 0)]],1,true⟩⟩),(2058,⟨1,some ⟨[[(i 1)]],1,true⟩⟩),(2059,oz6),(2060,oz4),(2061,oz2),(2062,oz2),(2064,oz18),(2065,oz2),(2063,oz5),(2066,oz5),(2067,⟨1,some ⟨[[sO,(i 1)]],2,true⟩⟩),(4,oz5)]
noncomputable def hC' : List (Nat×HB):=[(2051,oz10),(2052,⟨1,some ⟨[[bT],[bT],[bF],[bF]],1,true⟩⟩),(2053,oz16),(2054,⟨1,some ⟨[[bT],[bF],[bF],[bF]],1,true⟩⟩),(2055,oz13),(2050,⟨1,some ⟨[[sO,(i 1)]],2,true⟩⟩),(2048,oz2),(2056,oz2),(2049,⟨1,some ⟨[[sO,(i 1)]],2,true⟩⟩),(2057,⟨1,some ⟨[[(i 0)]],1,true⟩⟩),(2058,⟨1,some ⟨[[(i 1)]],1,true⟩⟩),(2059,oz6),(2060,oz4),(2061,oz2),(2062,oz2),(2064,oz18),(2065,oz2),(2063,oz5),(2066,oz5),(2067,⟨1,some ⟨[[sO,(i 1)]],2,true⟩⟩),(2069,oz5),(2068,oz9),(2070,oz3),(2071,⟨1,some ⟨[[bT]],1,true⟩⟩),(2072,oz9),(2073,⟨1,some ⟨[[(i 3)]],1,true⟩⟩),(2074,⟨1,some ⟨[[(i 0)]],1,true⟩⟩),(2075,⟨1,some ⟨[[(i 2)]],1,true⟩⟩),(2076,oz6),(2077,oz4),(2078,oz7),(2079,⟨1,some ⟨[[(i 0)]],1,true⟩⟩),(2080,⟨1,some ⟨[[(i 3)]],1,true⟩⟩),(2081,oz6),(2082,oz4),(2083,oz7),(2084,oz8),(2085,oz14),(2086,⟨1,some ⟨[[(i 0)]],1,true⟩⟩),(2087,⟨1,some ⟨[[(i 2)]],1,true⟩⟩),(2088,oz17),(2089,oz4),(2090,oz7),(2091,oz8)]
def qrC:AV:=(.tup [(.agg [(i 1),(.full [[(i 2)],[(i 3)]]),(.full [[(i 1)],[(i 3)],[(i 2)]]),(i 0)]),(.one bT)])
noncomputable def qC:PQ:=⟨hC,2068,[(.one (.ptr 2055 1 0 0))],qrC,[[(1,2068)],[(4,2069),(2,2070),(3,2071),(1,2072)],[(5,2073)],[(5,2074),(6,2075),(7,2076),(4,2077)],[(4,2078)],[(5,2079),(6,2080),(7,2081),(4,2082)],[(4,2083)],[(4,2084)],[(4,2085)],[(5,2086),(6,2087),(7,2088),(4,2089)],[(4,2090)],[(4,2091)]],hC',2092⟩
noncomputable def hD:List (Nat×HB):=[(2051,oz10),(2052,oz15),(2053,oz16),(2054,oz15),(2055,oz12),(2050,⟨1,some ⟨[[sO,(i 1)]],2,true⟩⟩),(2048,oz2),(2056,oz2),(2049,⟨1,some ⟨[[sO,(i 1)]],2,true⟩⟩),(2057,⟨1,some ⟨[[(i 0)]],1,true⟩⟩),(2058,⟨1,some ⟨[[(i 1)]],1,true⟩⟩),(2059,oz6),(2060,oz4),(2061,oz2),(2062,oz2),(2064,oz11),(2065,oz3),(2063,oz3),(2066,oz5),(2067,⟨1,some ⟨[[sO,(i 1)]],2,true⟩⟩),(2069,oz5),(2068,oz9),(2070,oz3),(2071,⟨1,some ⟨[[bT]],1,true⟩⟩),(2072,oz9),(2073,⟨1,some ⟨[[(i 3)]],1,true⟩⟩),(2074,⟨1,some ⟨[[(i 0)]],1,true⟩⟩),(2075,⟨1,some ⟨[[(i 2)]],1,true⟩⟩),(2076,oz6),(2077,oz4),(2078,oz7),(2079,⟨1,some ⟨[[(i 0)]],1,true⟩⟩),(2080,⟨1,some ⟨[[(i 3)]],1,true⟩⟩),(2081,oz6),(2082,oz4),(2083,oz7),(2084,oz8),(2085,oz14),(2086,⟨1,some ⟨[[(i 0)]],1,true⟩⟩),(2087,⟨1,some ⟨[[(i 2)]],1,true⟩⟩),(2088,oz17),(2089,oz4),(2090,oz7),(2091,oz8),(2092,oz3),(2094,oz3),(2093,oz5),(2095,oz5),(2096,⟨1,some ⟨[[sO,(i 1)]],2,true⟩⟩),(4,oz5)]
noncomputable def hD' : List (Nat×HB):=[(2051,oz10),(2052,oz15),(2053,oz16),(2054,oz15),(2055,oz12),(2050,⟨1,some ⟨[[sO,(i 1)]],2,true⟩⟩),(2048,oz2),(2056,oz2),(2049,⟨1,some ⟨[[sO,(i 1)]],2,true⟩⟩),(2057,⟨1,some ⟨[[(i 0)]],1,true⟩⟩),(2058,⟨1,some ⟨[[(i 1)]],1,true⟩⟩),(2059,oz6),(2060,oz4),(2061,oz2),(2062,oz2),(2064,oz11),(2065,oz3),(2063,oz3),(2066,oz5),(2067,⟨1,some ⟨[[sO,(i 1)]],2,true⟩⟩),(2069,oz5),(2068,oz9),(2070,oz3),(2071,⟨1,some ⟨[[bT]],1,true⟩⟩),(2072,oz9),(2073,⟨1,some ⟨[[(i 3)]],1,true⟩⟩),(2074,⟨1,some ⟨[[(i 0)]],1,true⟩⟩),(2075,⟨1,some ⟨[[(i 2)]],1,true⟩⟩),(2076,oz6),(2077,oz4),(2078,oz7),(2079,⟨1,some ⟨[[(i 0)]],1,true⟩⟩),(2080,⟨1,some ⟨[[(i 3)]],1,true⟩⟩),(2081,oz6),(2082,oz4),(2083,oz7),(2084,oz8),(2085,oz14),(2086,⟨1,some ⟨[[(i 0)]],1,true⟩⟩),(2087,⟨1,some ⟨[[(i 2)]],1,true⟩⟩),(2088,oz17),(2089,oz4),(2090,oz7),(2091,oz8),(2092,oz3),(2094,oz3),(2093,oz5),(2095,oz5),(2096,⟨1,some ⟨[[sO,(i 1)]],2,true⟩⟩),(2098,oz5),(2097,oz9),(2099,oz5),(2100,⟨1,some ⟨[[bF]],1,true⟩⟩),(2101,oz9)]
def qrD:AV:=(.tup [(.agg [(i 0),.emp,.emp,(i 0)]),(.one bF)])
noncomputable def qD:PQ:=⟨hD,2097,[(.one (.ptr 2055 1 0 0))],qrD,[[(1,2097)],[(4,2098),(2,2099),(3,2100),(1,2101)]],hD',2102⟩
end Go.Abs.Wp
end
section
namespace Go.Abs.Wp
noncomputable section
def baseL:List Nat:=[67,66,60,65,44,62,63,108,34,71,107,197,75,73,74,315,54,255,181,7,12,19,20,51,193,194,154,180,186,291]
def tbO(f:Nat):Option (Nat×AC×List RV):=cond (memN baseL f) none (match lookB f bodies2 with | some x=>some x | none=>lookB f bodies)
def rkO:List (Nat×Nat):=[]
def NO:Nums:=⟨[],[180,186],228,186,291,rkO,[]⟩
def kdO:List (Nat×EK):=[(67,.fr .add),(66,.fr .sub),(60,.fr .mul),(65,.fr .div),(44,.fr .neg),(62,.fr .sign),(63,.fr .cmp),(108,.fr .valid),(34,.fr .of),(71,.chk),(107,.of),(197,.neg),(75,.add),(73,.sub),(74,.mul),(315,.div),(54,.sign),(255,.ext),(181,.same)]
def E0:Eng:=⟨[],[],[],[],0⟩
def LP:=lvE tbO (baseY E0 [] [] NO) 12
def s2o(q:PQ)(v:Tr)(x:List Tr):T:=sndO nT (begRun LP fu p0 p1 10 q.args (T.mk v x q.h q.n))
def iC(v:Tr)(x:List Tr)(l:Nat):T:=itS (s2o qC v x) cA l
def iD(v:Tr)(x:List Tr)(l:Nat):T:=itS (s2o qD v x) cB l
def jD(v:Tr)(x:List Tr)(l:Nat):T:=sndO nT (codeE LP fu pI (iD v x l))
def uC(v:Tr)(x:List Tr)(l:Nat):T:=sndO nT (preRun LP fu pC 11 12 pA (iC v x l))
def vC(v:Tr)(x:List Tr)(l:Nat):T:=gT 2 (getO nT (aosE LP false pL (uC v x l))) id
def wC(v:Tr)(x:List Tr)(l:Nat):T:=sndO nT (codeE LP fu pR (vC v x l))
def jC(v:Tr)(x:List Tr)(l:Nat):T:=getO nT (postRun LP fu pC (wC v x l))
end
theorem begC:(λv x=>begRun LP fu p0 p1 10 qC.args (T.mk v x qC.h qC.n))=(λv x=>some ((350,cA),s2o qC v x)):=by kernel_rfl
theorem begD:(λv x=>begRun LP fu p0 p1 10 qD.args (T.mk v x qD.h qD.n))=(λv x=>some ((350,cB),s2o qD v x)):=by kernel_rfl
theorem runD:(λv x l=>codeE LP fu pI (iD v x l))=(λv x l=>some (.nrm,jD v x l)):=by kernel_rfl
theorem finD:(λv x (l:Nat)=>endRun false LP fu p2 rvP (jD v x l))=(λv x l=>some (qD.r,T.mk (mvT qD.mv v) (mvX qD.mv x) qD.h' qD.n')):=by kernel_rfl
theorem preC:(λv x (l:Nat)=>preRun LP fu pC 11 12 pA (iC v x l))=(λv x l=>some (yl l,uC v x l)):=by kernel_rfl
theorem allC:(λv x (l:Nat)=>allS LP pL an4 9 [0,1,2,3,4,5,6,7] (uC v x l))=(λv x l=>some (List.replicate 40 (vC v x l))):=by kernel_rfl
theorem bodC:(λv x (l:Nat)=>codeE LP fu pR (vC v x l))=(λv x l=>some (.ret,wC v x l)):=by kernel_rfl
theorem posC:(λv x (l:Nat)=>postRun LP fu pC (wC v x l))=(λv x l=>some (jC v x l)):=by kernel_rfl
theorem finC:(λv x (l:Nat)=>endRun true LP fu p2 rvP (jC v x l))=(λv x l=>some (qC.r,T.mk (mvT qC.mv v) (mvX qC.mv x) qC.h' qC.n')):=by kernel_rfl
end Go.Abs.Wp
end
section
namespace Go.Abs.Wp
open Go.Proofs
theorem ckAll2:∀e∈bodies2,check Tryz.prog e.1=some e.2:=ckL (by kernel_rfl)
theorem okAll2:(bodies2.all λe=>okAC e.2.2.1)=true:=by kernel_rfl
theorem hfAllO:(bodies.all λe=>cond (memN baseL e.1) true (hfAC e.2.2.1))=true:=by kernel_rfl
theorem hfAllO2:(bodies2.all λe=>cond (memN baseL e.1) true (hfAC e.2.2.1))=true:=by kernel_rfl
theorem qN{f:Nat}{x:Nat×AC×List RV}(h:tbO f=some x):memN baseL f=false/\((f,x)∈bodies2∨(f,x)∈bodies):=by
 unfold tbO at h;cases hb:memN baseL f with
 | true=>rw [hb]at h;cases h
 | false=>
  rw [hb]at h;refine⟨rfl,?_⟩;simp only [cond_false]at h;split at h
  .rename_i y e;cases h;exact .inl (Zg e)
  .exact .inr (Zg h)
theorem tabO:TabOk Tryz.prog tbO:=
 ⟨λf x h=>(qN h).2.elim (λm=>ckAll2 (f,x) m) (λm=>ckAll (f,x) m),λf n ac rv h=>(qN h).2.elim (λm=>List.all_eq_true.1 okAll2 (f,n,ac,rv) m) (λm=>List.all_eq_true.1 okAll (f,n,ac,rv) m)⟩
theorem hfO'(f n:Nat)(ac:AC)(rv:List RV)(h:tbO f=some (n,ac,rv)):hfAC ac=true:=by
 obtain⟨hb,h | h⟩:=qN h
 .have:=List.all_eq_true.1 hfAllO2 (f,n,ac,rv) h;rw [show memN baseL (f,n,ac,rv).1=false from hb]at this;exact this
 .have:=List.all_eq_true.1 hfAllO (f,n,ac,rv) h;rw [show memN baseL (f,n,ac,rv).1=false from hb]at this;exact this
theorem clO:∀f∈NO.clones,Enters Tryz.prog f/\FSound Tryz.prog f ((baseN NO).z f) λargs K=>∃r,cloneX ((baseN NO).z f) args=some r/\K r:=
 fc ⟨Xa Tryz.func180 (by kernel_rfl) rfl,uW (z:=1) ck180⟩ (fc ⟨Xa Tryz.func186 (by kernel_rfl) rfl,uW (z:=4) ck186⟩ (λ_ h=>nomatch h))
section
variable (v0:Nat->PR)
noncomputable def LP' : Lv:=lvE tbO (baseF v0 [] [] NO) 12
theorem lpOk:LvOk Tryz.prog (LP' v0):=(Wu tabO (ZA (λp hp=>by cases hp) clO en291 (λq hq=>by cases hq)) 12).1
theorem lpS:LvS (thE v0) LP (LP' v0):=Qax (xC v0) hfO' (UZ (Ybl v0) (pq:=[]) List.Pairwise.nil (λp hp=>by cases hp) (by kernel_rfl) (λf hf=>.inl (by
 rcases List.mem_cons.1 hf with rfl | hf
 .kernel_rfl
 .rcases List.mem_cons.1 hf with rfl | hf
  .kernel_rfl
  .cases hf))) 12
theorem hfP:(hfAC p0 && hfAC p1 && hfAC pA && hfAC p2 && hfAC pI && hfAC pR && pL.all hfAO && pC.hf)=true:=by kernel_rfl
theorem hfPs:hfAC p0=true/\hfAC p1=true/\hfAC pA=true/\hfAC p2=true/\hfAC pI=true/\hfAC pR=true/\pL.all hfAO=true/\pC.hf=true:=by
 have h:=hfP;simp only [zBA]at h;exact⟨h.1.1.1.1.1.1.1,h.1.1.1.1.1.1.2,h.1.1.1.1.1.2,h.1.1.1.1.2,h.1.1.1.2,h.1.1.2,h.1.2,h.2⟩
omit v0 in
theorem Vbc{θ:Nat->C}(S:T)(k l:Nat):itS (sT θ S) (.ptr k 1 0 0) l=sT θ (itS S (.ptr k 1 0 0) l):=rfl
omit v0 in
theorem JaW{θ:Nat->C}{L L' : Lv}(hθ:ThOk θ)(hS:LvS θ L L')(hL:LvOk Tryz.prog L'){q:PQ}(hlen:q.args.length<=42){k:Nat}{v:Tr}{x:List Tr}{S T1:T}{J:Nat->T}
  (b:begRun L fu p0 p1 10 q.args (T.mk v x q.h q.n)=some ((350,.ptr k 1 0 0),S)) (r:∀l,codeE L fu pI (itS S (.ptr k 1 0 0) l)=some (.nrm,J l)) (f:∀l,endRun false L fu p2 rvP (J l)=some (q.r,T1))
  (E:Env) (vals:List Value) (a:Act) (w:World) (m:M) (I:Nat->Prop) (K:AV->Go.Abs.S->Prop) (h1:Sim E (sT θ (T.mk v x q.h q.n)).den a w m I) (h2:RAs m I w.heap (q.args.map (Go.Abs.sA θ)) vals) (h3:K (Go.Abs.sA θ q.r) (sT θ T1).den) :
  Calls Tryz.prog 291 ⟨vals⟩ w λe w'=>∃v' r s' m' I',e=.returned v'/\K r s'/\RA m' I' w'.heap r v'/\Sim E s' a w' m' I':=by
 obtain⟨g0,g1,hA,g2,hI,hR,hl,hC⟩:=hfPs;refine kbh hL pcode (once:=false) (by rw [List.length_map];exact hlen) (cap:=.ptr k 1 0 0) (by simp) (i1:=λl=>sT θ (J l)) (yab hθ hS g0 g1 b) ?_ (λl=>Y8 hθ hS g2 (f l)) E vals a w m I K h1 h2 h3
 exact qR hL (n:=fu) (e:=.nrm) kI (by kernel_rfl) (by kernel_rfl) (λi h=>by cases h) (λl=>by rw [Vbc];exact Qp hθ hS fu hI (r l))
omit v0 in
theorem Za4{θ:Nat->C}{L L' : Lv}(hθ:ThOk θ)(hS:LvS θ L L')(hL:LvOk Tryz.prog L'){q:PQ}(hlen:q.args.length<=42){k:Nat}{v:Tr}{x:List Tr}{S T1:T}{U V W J:Nat->T}
  (b:begRun L fu p0 p1 10 q.args (T.mk v x q.h q.n)=some ((350,.ptr k 1 0 0),S)) (r1:∀l,preRun L fu pC 11 12 pA (itS S (.ptr k 1 0 0) l)=some (yl l,U l)) (r2:∀l,allS L pL an4 9 [0,1,2,3,4,5,6,7] (U l)=some (List.replicate 40 (V l))) (r3:∀l,codeE L fu pR (V l)=some (.ret,W l)) (r4:∀l,postRun L fu pC (W l)=some (J l)) (f:∀l,endRun true L fu p2 rvP (J l)=some (q.r,T1))
  (E:Env) (vals:List Value) (a:Act) (w:World) (m:M) (I:Nat->Prop) (K:AV->Go.Abs.S->Prop) (h1:Sim E (sT θ (T.mk v x q.h q.n)).den a w m I) (h2:RAs m I w.heap (q.args.map (Go.Abs.sA θ)) vals) (h3:K (Go.Abs.sA θ q.r) (sT θ T1).den) :
  Calls Tryz.prog 291 ⟨vals⟩ w λe w'=>∃v' r s' m' I',e=.returned v'/\K r s'/\RA m' I' w'.heap r v'/\Sim E s' a w' m' I':=by
 obtain⟨g0,g1,hA,g2,hI,hR,hl,hC⟩:=hfPs;refine kbh hL pcode (once:=true) (by rw [List.length_map];exact hlen) (cap:=.ptr k 1 0 0) (by simp) (i1:=λl=>sT θ (J l)) (yab hθ hS g0 g1 b) ?_ (λl=>Y8 hθ hS g2 (f l)) E vals a w m I K h1 h2 h3
 refine jX (b0:=0) (b1:=pC.b1) (b2:=pC.b2) (b3:=pC.b3) (r0:=pC.r0) (r1:=pC.r1) (cn1:=pC.cn1) (r2:=pC.r2) (r3:=pC.r3) (r45:=pC.r45) (cn6:=pC.cn6) (r5:=pC.r5) (r7:=pC.r7) (l1:=pC.l1) (l2:=pC.l2) (d:=pC.d) (g:=pC.g) (j:=pC.j) (p:=pC.p) (q:=pC.q) hL (n:=fu) rnd kI (by kernel_rfl) (by kernel_rfl) ⟨by kernel_rfl,by kernel_rfl⟩ (by decide) (by decide) λl=>?_
 rw [Vbc];refine yao (c:=pC) (QaK hθ hS hC hA (r1 l)) (u3:=sT θ (W l)) ?_ (Vao hθ hS hC (r4 l));refine VK hL (.inr ⟨l,rfl⟩) (n:=fu) (n2:=9) (l:=pL) (rest:=pR) (an:=an4) (t1:=sT θ (V l)) (ts:=(List.replicate 40 (V l)).map (sT θ)) kB (λid ops y h=>?_) (by kernel_rfl) (by kernel_rfl) (VaD hθ hS hl 9 (r2 l)) (λy hy=>?_) (Qp hθ hS fu hR (r3 l))
 .rw [hR4]at h;injection h with _ h
  injection h with h _
  injection h with _ h _
  rw [<-h];exact an291
 .rw [List.map_replicate]at hy;exact(List.mem_replicate.1 hy).2
theorem qbm:PqOkS Tryz.prog 291 (thE v0) qD:=λv x=>
 JaW (xC v0) (lpS v0) (lpOk v0) (by decide) (congrFun (congrFun begD v) x) (congrFun (congrFun (congrFun runD v) x)) (congrFun (congrFun (congrFun finD v) x))
theorem ybl:PqOkS Tryz.prog 291 (thE v0) qC:=λv x=>
 Za4 (xC v0) (lpS v0) (lpOk v0) (by decide) (congrFun (congrFun begC v) x) (congrFun (congrFun (congrFun preC v) x)) (congrFun (congrFun (congrFun allC v) x)) (congrFun (congrFun (congrFun bodC v) x)) (congrFun (congrFun (congrFun posC v) x)) (congrFun (congrFun (congrFun finC v) x))
end
end Go.Abs.Wp
end
section
namespace Go.Abs.Wp
noncomputable section
def barA:AV:=.agg ([0,1,2,3,4,5].flatMap λk=>ratC (some k))
def turnA:AV:=.agg (ratC (some 6)++[hdl 28])
def g0(r:AV)(args:List AV):Option AV:=match args with | []=>some r | _=>none
def g1(a r:AV)(args:List AV):Option AV:=cond (eqAs args [a]) (some r) none
def codeL:List Nat:=List.range 64
def errV(k:Nat):AV:=.one (.lit (.iface 75 (.int .i64 k)))
def codeX(args:List AV):Option AV:=match args with
 | [.one (.lit (.iface t (.int .i64 (.ofNat k))))]=>cond (Nat.beq t 75 && memN codeL k) (some (intV k)) none
 | [.one (.lit .nilIface)]=>some (intV 0)
 | _=>none
def exL(r8 r9:List C)(bar tn:AV):List (Nat×(List AV->Option AV)):=[(7,g0 (boolV true)),(12,codeX),(19,g1 bar (boolV true)),(20,g1 tn (boolV true)),(51,g1 tn nilV),(193,g1 tn (.tup [.agg r8,nilV])),(194,g1 tn (.tup [.agg r9,nilV])),(154,g1 tn (.tup [.agg r8,.agg r9,nilV]))]
def lookX:List (Nat×(List AV->Option AV))->Nat->Option (List AV->Option AV)
 | [],_=>none
 | (k,g)::l,f=>cond (Nat.beq f k) (some g) (lookX l f)
def exY:Ex2:=lookX (exL (ratC (some 8)) (ratC (some 9)) barA turnA)
def dfO:List Df:=[.par,.par,.par,.par,.par,.par,.par,.par,.par,.par,.mul 2 4,.mul 2 5,.int 1,.neg 12,.mul 12 12,.neg 8,.neg 9,.mul 12 8,.div 17 14,.mul 12 9,.div 19 14,.neg 18,.neg 20,.neg 1,.mul 18 1,.mul 20 1,.neg 24,.neg 25,.neg 0,.mul 12 0,.neg 29,.mul 2 2,.mul 3 3,.neg 31,.neg 32,.sub 29 24,.mul 35 35,.mul 27 27,.add 37 36,.add 31 38,.sub 39 32,.mul 31 38,.int 4,.mul 42 41,.mul 40 40,.sub 43 44,.int 2,.mul 46 38,.div 40 47,.mul 35 48,.add 24 49,.mul 27 48,.add 25 51,.root,.div 53 47,.int (-1),.mul 55 27,.mul 54 56,.add 57 50,.mul 35 54,.add 59 52,.mul 55 54,.mul 61 56,.add 50 62,.mul 61 35,.add 64 52,.sub 58 24,.sub 60 25,.neg 2,.neg 66,.neg 67,.mul 66 2,.div 71 31,.mul 67 2,.div 73 31,.neg 72,.neg 74,.sub 58 29,.neg 3,.neg 77,.neg 60,.mul 77 3,.div 81 32,.mul 60 3,.div 83 32,.neg 82,.neg 84,.sub 63 24,.sub 65 25,.neg 87,.neg 88,.mul 87 2,.div 91 31,.mul 88 2,.div 93 31,.neg 92,.neg 94,.sub 63 29,.neg 97,.neg 65,.mul 97 3,.div 100 32,.mul 65 3,.div 102 32,.neg 101,.neg 103,.mul 1 8,.mul 1 9,.sub 0 106,.neg 107,.mul 108 108,.mul 109 109,.add 111 110,.add 32 31,.sub 113 112,.mul 32 31,.mul 115 42,.mul 114 114,.sub 116 117,.mul 46 112,.add 112 31,.sub 120 32,.div 121 119,.mul 122 108,.add 123 106,.mul 122 109,.add 107 125,.div 12 119,.mul 127 109,.neg 128,.mul 108 127,.neg 129,.neg 130,.mul 46 108,.mul 46 109,.add 32 112,.sub 135 31,.mul 82 3,.mul 84 3,.neg 137,.neg 138,.add 137 29,.sub 141 0,.mul 142 133,.mul 138 134,.add 143 144,.add 136 145,.mul 101 3,.mul 103 3,.neg 147,.neg 148,.add 29 147,.sub 151 0,.mul 152 133,.mul 134 148,.add 153 154,.add 136 155,.sub 50 24,.sub 52 25,.neg 157,.neg 158,.mul 157 2,.div 161 31,.mul 158 2,.div 163 31,.neg 162,.neg 164,.sub 50 29,.neg 167,.neg 52,.mul 167 3,.div 170 32,.mul 52 3,.div 172 32,.neg 171,.neg 173,.mul 171 3,.mul 173 3,.neg 176,.neg 177,.add 29 176,.sub 180 0,.mul 133 181,.mul 177 134,.add 182 183,.add 184 136,.sub 31 32,.mul 186 186,.neg 187,.mul 113 113,.sub 116 189]
def lvR:Bool->List Nat->List Bool
 | _,[]=>[]
 | b,c::r=>List.replicate c b++lvR (!b) r
def lvO:List Bool:=lvR true [53,2,2,11,1,9,1,27,31,20,34]
def bdO:List Nat:=[2,2,2,2,2,2,2,2,28,28,6,6,2,2,6,28,28,32,40,32,40,40,40,2,44,44,44,44,2,6,6,6,6,6,6,52,106,90,198,206,214,206,2,210,430,642,2,202,418,472,518,464,510,2,206,2,48,256,776,260,772,210,260,780,264,776,822,818,2,822,818,826,834,822,830,834,830,784,2,784,772,788,796,776,784,796,784,826,822,826,822,830,838,826,834,838,834,788,788,776,792,800,780,788,800,788,32,32,36,32,74,66,142,14,158,14,18,318,338,146,150,158,306,344,378,340,374,150,184,184,188,184,188,40,36,150,158,800,788,800,788,808,812,854,826,1682,1842,804,792,804,792,812,816,858,830,1690,1850,564,556,564,556,568,576,560,568,576,568,526,526,510,530,538,514,522,538,522,542,526,542,526,550,554,596,564,1162,1322,14,30,30,30,50]
def stR:List (Nat×Nat)->List Nat
 | []=>[]
 | (c,s)::r=>List.replicate c 4++s::stR r
def stP:List Nat:=stR [(0,1),(0,1),(12,1),(16,1),(0,1),(5,1),(6,1),(1,1),(64,1),(5,1),(0,1),(26,0),(9,0)]
def stT:List Nat:=stR [(0,1),(0,1),(12,1),(16,1),(0,1),(5,1),(6,0),(1,1),(64,1),(5,0),(0,1),(65,0)]
def stM:List Nat:=stR [(0,1),(0,1),(12,1),(16,1),(0,1),(5,1),(6,2),(66,1),(5,2)]
def stE:List Nat:=stR [(0,1),(0,1),(12,1),(16,1),(0,1),(5,0),(73,0),(73,0)]
def stU:List Nat:=stR [(0,1),(0,1),(12,1),(16,1),(0,1),(5,0),(73,0),(73,1),(3,2)]
def stD:List Nat:=stR [(0,1),(0,1),(12,1),(16,1),(0,1),(5,0),(73,0),(73,2),(3,2)]
def EO(st:List Nat):Eng:=⟨dfO,st,lvO,bdO,45⟩
def RO(st:List Nat):Option AV:=(lvE tbO (baseY2 (EO st) kdO exY [qC,qD] NO) 40).dat 5 [barA,turnA]
def isO:Option AV->Bool
 | some (.one (.lit (.bool b)))=>b
 | _=>false
end
theorem okO:okDs lvO bdO 1000 dfO 0=true:=by kernel_rfl
end Go.Abs.Wp
end
section
namespace Go.Abs.Wp
open Go.Proofs Go.Num
noncomputable section
def frL:List Nat:=[67,66,60,65,44,62,63,108,34,12,291]
def tbT(f:Nat):Option (Nat×AC×List RV):=cond (memN frL f) none (match lookB f bodies2 with | some x=>some x | none=>lookB f bodies)
def kdT:List (Nat×EK):=[(67,.fr .add),(66,.fr .sub),(60,.fr .mul),(65,.fr .div),(44,.fr .neg),(62,.fr .sign),(63,.fr .cmp),(108,.fr .valid),(34,.fr .of)]
def dfT:List Df:=[.par,.int 1,.neg 1,.mul 0 0,.add 1 3,.sub 1 3,.div 5 4,.add 0 0,.div 7 4,.int (-1)]
def lvT:List Bool:=List.replicate 10 true
def bdT:List Nat:=[2,2,2,6,10,10,22,6,18,2]
def ET:Eng:=⟨dfT,[4,1,4,4,1,4,4,4,4,4],lvT,bdT,0⟩
def RT(f:Nat)(a:AV):Option AV:=(lvE tbT (baseY ET kdT [] N1) 40).dat f [a]
def tnF:AV:=.agg (ratC (some 0)++[.lit (.bool false)])
def tnH:AV:=.agg (ratC none++[.lit (.bool true)])
end
theorem okT:okDs lvT bdT 1000 dfT 0=true:=by kernel_rfl
theorem t51F:eqO (RT 51 tnF) nilV=true:=by kernel_rfl
theorem t51H:eqO (RT 51 tnH) nilV=true:=by kernel_rfl
theorem t193F:eqO (RT 193 tnF) (.tup [.agg (ratC (some 6)),nilV])=true:=by kernel_rfl
theorem t194F:eqO (RT 194 tnF) (.tup [.agg (ratC (some 8)),nilV])=true:=by kernel_rfl
theorem t154F:eqO (RT 154 tnF) (.tup [.agg (ratC (some 6)),.agg (ratC (some 8)),nilV])=true:=by kernel_rfl
theorem t193H:eqO (RT 193 tnH) (.tup [.agg (ratC (some 9)),nilV])=true:=by kernel_rfl
theorem t194H:eqO (RT 194 tnH) (.tup [.agg (ratC none),nilV])=true:=by kernel_rfl
theorem t154H:eqO (RT 154 tnH) (.tup [.agg (ratC (some 9)),.agg (ratC none),nilV])=true:=by kernel_rfl
theorem XL{f:Nat}{x:Nat×AC×List RV}(h:tbT f=some x):memN frL f=false/\((f,x)∈bodies2∨(f,x)∈bodies):=by
 unfold tbT at h;cases hb:memN frL f with
 | true=>rw [hb]at h;cases h
 | false=>
  rw [hb]at h;refine⟨rfl,?_⟩;simp only [cond_false]at h;split at h
  .rename_i y e;cases h;exact .inl (Zg e)
  .exact .inr (Zg h)
theorem tabT:TabOk Tryz.prog tbT:=
 ⟨λf x h=>(XL h).2.elim (λm=>ckAll2 (f,x) m) (λm=>ckAll (f,x) m),λf n ac rv h=>(XL h).2.elim (λm=>List.all_eq_true.1 okAll2 (f,n,ac,rv) m) (λm=>List.all_eq_true.1 okAll (f,n,ac,rv) m)⟩
theorem hfAllT:(bodies.all λe=>cond (memN frL e.1) true (hfAC e.2.2.1))=true:=by kernel_rfl
theorem hfAllT2:(bodies2.all λe=>cond (memN frL e.1) true (hfAC e.2.2.1))=true:=by kernel_rfl
theorem hfT(f n:Nat)(ac:AC)(rv:List RV)(h:tbT f=some (n,ac,rv)):hfAC ac=true:=by
 obtain⟨hb,h | h⟩:=XL h
 .have:=List.all_eq_true.1 hfAllT2 (f,n,ac,rv) h;rw [show memN frL (f,n,ac,rv).1=false from hb]at this;exact this
 .have:=List.all_eq_true.1 hfAllT (f,n,ac,rv) h;rw [show memN frL (f,n,ac,rv).1=false from hb]at this;exact this
theorem knT(h:Fr Tryz.prog):∀p∈kdT,Kn p.1 p.2:=
 fc (wi h.h67) (fc (wi h.h66) (fc (wi h.h60) (fc (wi h.h65) (fc (wi h.h44) (fc (wi h.h62) (fc (wi h.h63) (fc (wi h.h108) (fc (wi h.h34) (λp hp=>by cases hp)))))))))
theorem setT(h:Fr Tryz.prog):Set1 Tryz.prog tbT kdT N1:=⟨tabT,hfT,knT h,XaL (by kernel_rfl),by kernel_rfl,en291,rfl⟩
theorem rsqT(x:Rat):0<=x*x:=by
 rcases Rat.le_total (a:=0) (b:=x) with h | h
 .exact Rat.mul_nonneg h h
 .have:=Rat.mul_nonneg (show 0<=-x by grind) (show 0<=-x by grind)
  grind
theorem parT{T:Rat}(hT:rz T<=2):ParOk (λ_=>(T,0)) dfT lvT bdT:=by
 intro k hk;have h0:k=0:=by
  match k,hk with
  | 0,_=>rfl
  | 1,h | 2,h | 3,h | 4,h | 5,h | 6,h | 7,h | 8,h | 9,h=>cases h
  | n+10,h=>cases h
 subst h0;exact⟨hT,by show rz 0<=_;rw [Zs];exact Nat.zero_le _,λ_=>rfl⟩
theorem etv{T:Rat}(hT:rz T<=2):∃v:Nat->PR,EngOk ET v/\v 0=(T,0)/\(v 6).1=(1-T*T) / (1+T*T)/\(v 8).1=(T+T) / (1+T*T)/\(v 9).1 = -1:=by
 obtain⟨v,hs,hp,hl,hE⟩:=qaP (x:=0) okT (by kernel_rfl) ⟨by decide,by decide⟩ (by decide) rfl (parT hT)
 have e0:v 0=(T,0):=hp 0 rfl;have e1:v 1=(1,0):=(show v 1=(((1:Int):Rat),0) from hs 1 (.int 1) rfl).trans (by simp)
 have e3:v 3=mulP (v 0).1 (v 0) (v 0):=hs 3 (.mul 0 0) rfl;have e4:v 4=_:=hs 4 (.add 1 3) rfl;have e5:v 5=_:=hs 5 (.sub 1 3) rfl;have e6:v 6=_:=hs 6 (.div 5 4) rfl;have e7:v 7=_:=hs 7 (.add 0 0) rfl;have e8:v 8=_:=hs 8 (.div 7 4) rfl;have e9:v 9=(-1,0):=(show v 9=(((-1:Int):Rat),0) from hs 9 (.int (-1)) rfl).trans (by simp)
 have f3:v 3=(T*T,0):=by rw [e3,e0];unfold mulP;simp only [Rat.zero_mul,Rat.mul_zero,Rat.add_zero]
 have f4:v 4=(1+T*T,0):=by rw [e4,e1,f3];exact Prod.ext rfl (by grind)
 have f5:v 5=(1-T*T,0):=by rw [e5,e1,f3];exact Prod.ext rfl (by grind)
 refine⟨v,hE [4,1,4,4,1,4,4,4,4,4] (by decide) ?_,e0,?_,?_,?_⟩
 .have z:∀p:PR,stOk 4 p:=λp=>⟨nofun,nofun,nofun,nofun⟩;have p1:stOk 1 (v 1):=⟨nofun,λ_=>by rw [e1];exact⟨by decide,rfl⟩,nofun,nofun⟩
  have p4:stOk 1 (v 4):=⟨nofun,λ_=>by rw [f4];exact⟨by have:=rsqT T;grind,rfl⟩,nofun,nofun⟩
  intro k s hk;match k,hk with
  | 0,hk=>cases hk;exact z _
  | 1,hk=>cases hk;exact p1
  | 2,hk=>cases hk;exact z _
  | 3,hk=>cases hk;exact z _
  | 4,hk=>cases hk;exact p4
  | 5,hk=>cases hk;exact z _
  | 6,hk=>cases hk;exact z _
  | 7,hk=>cases hk;exact z _
  | 8,hk=>cases hk;exact z _
  | 9,hk=>cases hk;exact z _
  | n+10,hk=>cases hk
 .rw [e6,f5,f4]
 .rw [e8,e7,e0,f4]
 .rw [e9]
abbrev tnQ(T:Rat)(b:Bool):AV:=.agg (Go.Abs.qC T++[.lit (.bool b)])
abbrev At(f:Nat)(a r:AV):Prop:=DSound Tryz.prog f λargs K=>args=[a]/\K r
theorem QaX(h:Fr Tryz.prog){T:Rat}{b:Bool}(hT:rz T<=2)(hb:b=true->T=0) :
  ∃c s:Rat,rz c<=28/\rz s<=28/\c*c+s*s=1/\At 51 (tnQ T b) nilV/\At 193 (tnQ T b) (.tup [.agg (Go.Abs.qC c),nilV])/\At 194 (tnQ T b) (.tup [.agg (Go.Abs.qC s),nilV])/\At 154 (tnQ T b) (.tup [.agg (Go.Abs.qC c),.agg (Go.Abs.qC s),nilV]):=by
 obtain⟨v,hE,e0,e6,e8,e9⟩:=etv hT;have r:=λ{f:Nat} {a r:AV} (h1:eqO (RT f a) r=true)=>uaC (setT h) hE (uab h1);cases b with
 | false=>
  have ea:[tnF].map (Go.Abs.sA (thE v))=[tnQ T false]:=by
   show [AV.agg (Go.Abs.sL (thE v) (ratC (some 0)++[.lit (.bool false)]))]=_;rw [Jp,Zk];show [AV.agg (Go.Abs.qC (v 0).1++[.lit (.bool false)])]=_;rw [e0]
  have q6:Go.Abs.sL (thE v) (ratC (some 6))=Go.Abs.qC ((1-T*T) / (1+T*T)):=by rw [Zk,<-e6];rfl
  have q8:Go.Abs.sL (thE v) (ratC (some 8))=Go.Abs.qC ((T+T) / (1+T*T)):=by rw [Zk,<-e8];rfl
  have p:1+T*T≠0:=by have:=rsqT T;grind
  refine⟨(1-T*T) / (1+T*T),(T+T) / (1+T*T),?_,?_,by grind,?_,?_,?_,?_⟩
  .rw [<-e6];exact Nat.le_trans (hE.bd 6 (by decide)).1 (by decide)
  .rw [<-e8];exact Nat.le_trans (hE.bd 8 (by decide)).1 (by decide)
  .have:=r t51F;rw [ea]at this;exact this
  .have:=r t193F;rw [ea]at this;rw [<-q6];exact this
  .have:=r t194F;rw [ea]at this;rw [<-q8];exact this
  .have:=r t154F;rw [ea]at this;rw [<-q6,<-q8];exact this
 | true=>
  have ea:[tnH].map (Go.Abs.sA (thE v))=[tnQ T true]:=by
   show [AV.agg (Go.Abs.sL (thE v) (ratC none++[.lit (.bool true)]))]=_;rw [Jp,Zk,hb rfl];rfl
  have q9:Go.Abs.sL (thE v) (ratC (some 9))=Go.Abs.qC (-1):=by rw [Zk,<-e9];rfl
  have q0:Go.Abs.sL (thE v) (ratC none)=Go.Abs.qC 0:=by rw [Zk];rfl
  refine⟨-1,0,?_,?_,by grind,?_,?_,?_,?_⟩
  .rw [<-e9];exact Nat.le_trans (hE.bd 9 (by decide)).1 (by decide)
  .rw [Zs];exact Nat.zero_le _
  .have:=r t51H;rw [ea]at this;exact this
  .have:=r t193H;rw [ea]at this;rw [<-q9];exact this
  .have:=r t194H;rw [ea]at this;rw [<-q0];exact this
  .have:=r t154H;rw [ea]at this;rw [<-q9,<-q0];exact this
noncomputable def tbC(f:Nat):Option (Nat×AC×List RV):=cond (Nat.beq f 12) (lookB f bodies2) none
noncomputable def RC(a:AV):Option AV:=(lvE tbC (baseF (λ_=>(0,0)) [] [] N1) 2).dat 12 [a]
theorem codeAll:(codeL.all λk=>eqO (RC (errV k)) (intV k))=true:=by kernel_rfl
theorem codeNil:eqO (RC (.one (.lit .nilIface))) (intV 0)=true:=by kernel_rfl
theorem tabC:TabOk Tryz.prog tbC:=
 ⟨λf x h=>ckAll2 (f,x) (Zg (yq h)),λf n ac rv h=>List.all_eq_true.1 okAll2 (f,n,ac,rv) (Zg (yq h))⟩
theorem Qt{args:List AV}{r:AV}(h:codeX args=some r):(lvE tbC (baseF (λ_=>(0,0)) [] [] N1) 2).dat 12 args=some r:=by
 unfold codeX at h;split at h
 .rename_i t k;cases hb:Nat.beq t 75 && memN codeL k with
  | false=>rw [hb]at h;cases h
  | true=>
   rw [hb]at h;cases h
   rw [zBA]at hb;obtain⟨h1,h2⟩:=hb;obtain rfl:=beq_eq h1;unfold memN at h2;rw [List.any_eq_true]at h2;obtain⟨j,hj,e⟩:=h2;obtain rfl:=beq_eq e;exact uab (List.all_eq_true.1 codeAll _ hj)
 .cases h;exact uab codeNil
 .cases h
theorem kn12:Enters Tryz.prog 12/\DSound Tryz.prog 12 λargs K=>∃r,codeX args=some r/\K r:=by
 refine⟨Xa Tryz.func12 (by kernel_rfl) rfl,?_⟩
 have hL:=(Wu tabC (ZA (v:=λ_=>(0,0)) (kd:=[]) (pq:=[]) (N:=N1) (λp hp=>by cases hp) (λf hf=>by cases hf) en291 (λq hq=>by cases hq)) 2).1
 exact(hL.dat 12).mono λargs K ⟨r,h1,h2⟩=>⟨r,Qt h1,h2⟩
end Go.Abs.Wp
end
section
set_option maxHeartbeats 2000000
namespace Go.Abs.Wp
open Go.Num
section
variable {X a a' b b' : Rat} {p q r:PR}
theorem xx(h:p=(q.1+r.1,q.2+r.2))(e:q=(a,0))(f:r=(b,0)):p=(a+b,0):=by subst e f;rw [h];exact Prod.ext rfl (by grind)
theorem Ut(h:p=(q.1-r.1,q.2-r.2))(e:q=(a,0))(f:r=(b,0)):p=(a-b,0):=by subst e f;rw [h];exact Prod.ext rfl (by grind)
theorem Uc(h:p=mulP X q r)(e:q=(a,0))(f:r=(b,0)):p=(a*b,0):=by subst e f;rw [h];unfold mulP;exact Prod.ext (by grind) (by grind)
theorem XZ(h:p=(q.1 / r.1,q.2 / r.1))(e:q=(a,0))(f:r=(b,0)):p=(a / b,0):=by subst e f;rw [h];exact Prod.ext rfl (by simp [Rat.div_def])
theorem kaM(h:p=(-q.1,-q.2))(e:q=(a,0)):p=(-a,0):=by subst e;rw [h];exact Prod.ext rfl (by grind)
theorem Js(h:p=(q.1+r.1,q.2+r.2))(e:q=(a,a'))(f:r=(b,b')):p=(a+b,a' + b'):=by subst e f;exact h
theorem kag(h:p=(q.1-r.1,q.2-r.2))(e:q=(a,a'))(f:r=(b,b')):p=(a-b,a' - b'):=by subst e f;exact h
theorem ZT(h:p=(q.1 / r.1,q.2 / r.1))(e:q=(a,a'))(f:r=(b,b')):p=(a / b,a' / b):=by subst e f;exact h
theorem WaE(h:p=mulP X q r)(e:q=(a,0))(f:r=(b,b')):p=(a*b,a*b'):=by subst e f;rw [h];unfold mulP;exact Prod.ext (by grind) (by grind)
theorem vm(h:p=mulP X q r)(e:q=(a,a'))(f:r=(b,0)):p=(a*b,a' * b):=by subst e f;rw [h];unfold mulP;exact Prod.ext (by grind) (by grind)
theorem fx(h:p=(a,a'))(e:a=b):p=(b,a'):=by rw [h,e]
theorem fy(h:p=(a,a'))(e:a=b)(f:a' = b'):p=(b,b'):=by rw [h,e,f]
theorem o_cc{C:Rat}(h:C≠0)(x:Rat):x*C / (C*C)*C=x:=by grind
end
theorem YaM{v:Nat->PR}{G A B C c s D M u w:Rat}(hs:∀(k:Nat) (d:Df),dfO[k]?=some d->d.sem (v 45).1 v (v k))(e0:v 0=(G,0))(e1:v 1=(A,0))(e2:v 2=(B,0))(e3:v 3=(C,0))(e8:v 8=(c,0))(e9:v 9=(s,0))(hu:u=G-c*A)(hw:w=s*A)(hD:D=u*u+w*w)(hM:M=B*B+D-C*C):v 14=(1,0)/\v 31=(B*B,0)/\v 32=(C*C,0)/\v 38=(D,0)/\v 45=(4*(B*B*D)-M*M,0)/\v 47=(2*D,0)/\v 112=(D,0)/\v 118=(4*(B*B*D)-M*M,0)/\v 119=(2*D,0)/\v 186=(B*B-C*C,0)/\v 190=(-((B*B-C*C)*(B*B-C*C)),0):=by
 have e12:v 12=(1,0):=(show v 12=(((1:Int):Rat),0) from (hs 12 _ rfl)).trans (by simp)
 have e14:v 14=(1,0):=fx (Uc (hs 14 _ rfl) e12 e12) (by grind)
 have e17:=Uc (hs 17 _ rfl) e12 e8;have e18:v 18=(c,0):=fx (XZ (hs 18 _ rfl) e17 e14) (by grind)
 have e19:=Uc (hs 19 _ rfl) e12 e9;have e20:v 20=(s,0):=fx (XZ (hs 20 _ rfl) e19 e14) (by grind)
 have e24:v 24=(c*A,0):=fx (Uc (hs 24 _ rfl) e18 e1) (by grind)
 have e25:v 25=(w,0):=fx (Uc (hs 25 _ rfl) e20 e1) (by grind)
 have e27:v 27=(-w,0):=fx (kaM (hs 27 _ rfl) e25) (by grind)
 have e29:v 29=(G,0):=fx (Uc (hs 29 _ rfl) e12 e0) (by grind)
 have e31:v 31=(B*B,0):=fx (Uc (hs 31 _ rfl) e2 e2) (by grind)
 have e32:v 32=(C*C,0):=fx (Uc (hs 32 _ rfl) e3 e3) (by grind)
 have e35:v 35=(u,0):=fx (Ut (hs 35 _ rfl) e29 e24) (by grind)
 have e36:=Uc (hs 36 _ rfl) e35 e35;have e37:=Uc (hs 37 _ rfl) e27 e27;have e38:v 38=(D,0):=fx (xx (hs 38 _ rfl) e37 e36) (by grind)
 have e39:=xx (hs 39 _ rfl) e31 e38;have e40:v 40=(M,0):=fx (Ut (hs 40 _ rfl) e39 e32) (by grind)
 have e41:=Uc (hs 41 _ rfl) e31 e38;have e42:v 42=(4,0):=(show v 42=(((4:Int):Rat),0) from (hs 42 _ rfl)).trans (by simp)
 have e43:=Uc (hs 43 _ rfl) e42 e41;have e44:=Uc (hs 44 _ rfl) e40 e40;have e45:v 45=(4*(B*B*D)-M*M,0):=fx (Ut (hs 45 _ rfl) e43 e44) (by grind)
 have e46:v 46=(2,0):=(show v 46=(((2:Int):Rat),0) from (hs 46 _ rfl)).trans (by simp)
 have e47:v 47=(2*D,0):=fx (Uc (hs 47 _ rfl) e46 e38) (by grind)
 have e106:v 106=(c*A,0):=fx (Uc (hs 106 _ rfl) e1 e8) (by grind)
 have e107:v 107=(w,0):=fx (Uc (hs 107 _ rfl) e1 e9) (by grind)
 have e108:v 108=(u,0):=fx (Ut (hs 108 _ rfl) e0 e106) (by grind)
 have e109:v 109=(-w,0):=fx (kaM (hs 109 _ rfl) e107) (by grind)
 have e110:=Uc (hs 110 _ rfl) e108 e108;have e111:=Uc (hs 111 _ rfl) e109 e109;have e112:v 112=(D,0):=fx (xx (hs 112 _ rfl) e111 e110) (by grind)
 have e113:=xx (hs 113 _ rfl) e32 e31;have e114:=Ut (hs 114 _ rfl) e113 e112;have e115:=Uc (hs 115 _ rfl) e32 e31;have e116:=Uc (hs 116 _ rfl) e115 e42;have e117:=Uc (hs 117 _ rfl) e114 e114;have e118:v 118=(4*(B*B*D)-M*M,0):=fx (Ut (hs 118 _ rfl) e116 e117) (by grind)
 have e119:v 119=(2*D,0):=fx (Uc (hs 119 _ rfl) e46 e112) (by grind)
 have e186:v 186=(B*B-C*C,0):=fx (Ut (hs 186 _ rfl) e31 e32) (by grind)
 have e189:=Uc (hs 189 _ rfl) e113 e113;have e190:v 190=(-((B*B-C*C)*(B*B-C*C)),0):=fx (Ut (hs 190 _ rfl) e116 e189) (by grind)
 exact⟨e14,e31,e32,e38,e45,e47,e112,e118,e119,e186,e190⟩
theorem jaG{v:Nat->PR}{G A B C c s D M u w:Rat}(hs:∀(k:Nat) (d:Df),dfO[k]?=some d->d.sem (v 45).1 v (v k))(e0:v 0=(G,0))(e1:v 1=(A,0))(e2:v 2=(B,0))(e3:v 3=(C,0))(e8:v 8=(c,0))(e9:v 9=(s,0))(hu:u=G-c*A)(hw:w=s*A)(hD:D=u*u+w*w)(hM:M=B*B+D-C*C)(hC:C≠0)(h0:D≠0):v 146=(0,0)/\v 156=(0,0)/\v 185=(0,0):=by
 obtain⟨h,hh⟩:∃h,h=M / (2*D):=⟨_,rfl⟩;obtain⟨g,hg⟩:∃g,g=1 / (2*D):=⟨_,rfl⟩;have hh2:2*D*h=M:=by grind
 have hg2:2*D*g=1:=by grind
 have cc:=o_cc hC;have e12:v 12=(1,0):=(show v 12=(((1:Int):Rat),0) from (hs 12 _ rfl)).trans (by simp)
 have e14:v 14=(1,0):=fx (Uc (hs 14 _ rfl) e12 e12) (by grind)
 have e17:=Uc (hs 17 _ rfl) e12 e8;have e18:v 18=(c,0):=fx (XZ (hs 18 _ rfl) e17 e14) (by grind)
 have e19:=Uc (hs 19 _ rfl) e12 e9;have e20:v 20=(s,0):=fx (XZ (hs 20 _ rfl) e19 e14) (by grind)
 have e24:v 24=(c*A,0):=fx (Uc (hs 24 _ rfl) e18 e1) (by grind)
 have e25:v 25=(w,0):=fx (Uc (hs 25 _ rfl) e20 e1) (by grind)
 have e27:v 27=(-w,0):=fx (kaM (hs 27 _ rfl) e25) (by grind)
 have e29:v 29=(G,0):=fx (Uc (hs 29 _ rfl) e12 e0) (by grind)
 have e31:v 31=(B*B,0):=fx (Uc (hs 31 _ rfl) e2 e2) (by grind)
 have e32:v 32=(C*C,0):=fx (Uc (hs 32 _ rfl) e3 e3) (by grind)
 have e35:v 35=(u,0):=fx (Ut (hs 35 _ rfl) e29 e24) (by grind)
 have e36:=Uc (hs 36 _ rfl) e35 e35;have e37:=Uc (hs 37 _ rfl) e27 e27;have e38:v 38=(D,0):=fx (xx (hs 38 _ rfl) e37 e36) (by grind)
 have e39:=xx (hs 39 _ rfl) e31 e38;have e40:v 40=(M,0):=fx (Ut (hs 40 _ rfl) e39 e32) (by grind)
 have e46:v 46=(2,0):=(show v 46=(((2:Int):Rat),0) from (hs 46 _ rfl)).trans (by simp)
 have e47:v 47=(2*D,0):=fx (Uc (hs 47 _ rfl) e46 e38) (by grind)
 have e48:v 48=(h,0):=fx (XZ (hs 48 _ rfl) e40 e47) (by grind)
 have e49:=Uc (hs 49 _ rfl) e35 e48;have e50:v 50=(c*A+u*h,0):=fx (xx (hs 50 _ rfl) e24 e49) (by grind)
 have e51:=Uc (hs 51 _ rfl) e27 e48;have e52:v 52=(w + -w*h,0):=fx (xx (hs 52 _ rfl) e25 e51) (by grind)
 have e53:v 53=(0,1):=(hs 53 _ rfl);have e54:v 54=(0,g):=fy (ZT (hs 54 _ rfl) e53 e47) (by grind) (by grind)
 have e55:v 55=(-1,0):=(show v 55=(((-1:Int):Rat),0) from (hs 55 _ rfl)).trans (by simp)
 have e56:v 56=(w,0):=fx (Uc (hs 56 _ rfl) e55 e27) (by grind)
 have e57:v 57=(0,g*w):=fy (vm (hs 57 _ rfl) e54 e56) (by grind) (by grind)
 have e58:v 58=(c*A+u*h,g*w):=fy (Js (hs 58 _ rfl) e57 e50) (by grind) (by grind)
 have e59:v 59=(0,u*g):=fy (WaE (hs 59 _ rfl) e35 e54) (by grind) (by grind)
 have e60:v 60=(w + -w*h,u*g):=fy (Js (hs 60 _ rfl) e59 e52) (by grind) (by grind)
 have e61:v 61=(0,-g):=fy (WaE (hs 61 _ rfl) e55 e54) (by grind) (by grind)
 have e62:v 62=(0,-(g*w)):=fy (vm (hs 62 _ rfl) e61 e56) (by grind) (by grind)
 have e63:v 63=(c*A+u*h,-(g*w)):=fy (Js (hs 63 _ rfl) e50 e62) (by grind) (by grind)
 have e64:v 64=(0,-(g*u)):=fy (vm (hs 64 _ rfl) e61 e35) (by grind) (by grind)
 have e65:v 65=(w + -w*h,-(g*u)):=fy (Js (hs 65 _ rfl) e64 e52) (by grind) (by grind)
 have e77:=kag (hs 77 _ rfl) e58 e29;have e81:=vm (hs 81 _ rfl) e77 e3;have e82:=ZT (hs 82 _ rfl) e81 e32;have e83:=vm (hs 83 _ rfl) e60 e3;have e84:=ZT (hs 84 _ rfl) e83 e32;have e97:=kag (hs 97 _ rfl) e63 e29;have e100:=vm (hs 100 _ rfl) e97 e3;have e101:=ZT (hs 101 _ rfl) e100 e32;have e102:=vm (hs 102 _ rfl) e65 e3;have e103:=ZT (hs 103 _ rfl) e102 e32;have e106:v 106=(c*A,0):=fx (Uc (hs 106 _ rfl) e1 e8) (by grind)
 have e107:v 107=(w,0):=fx (Uc (hs 107 _ rfl) e1 e9) (by grind)
 have e108:v 108=(u,0):=fx (Ut (hs 108 _ rfl) e0 e106) (by grind)
 have e109:v 109=(-w,0):=fx (kaM (hs 109 _ rfl) e107) (by grind)
 have e110:=Uc (hs 110 _ rfl) e108 e108;have e111:=Uc (hs 111 _ rfl) e109 e109;have e112:v 112=(D,0):=fx (xx (hs 112 _ rfl) e111 e110) (by grind)
 have e133:v 133=(2*u,0):=fx (Uc (hs 133 _ rfl) e46 e108) (by grind)
 have e134:v 134=(-2*w,0):=fx (Uc (hs 134 _ rfl) e46 e109) (by grind)
 have e135:=xx (hs 135 _ rfl) e32 e112;have e136:v 136=(C*C+D-B*B,0):=fx (Ut (hs 136 _ rfl) e135 e31) (by grind)
 have e137:v 137=(u*h-u,g*w):=fy (vm (hs 137 _ rfl) e82 e3) ((cc _).trans (by grind)) ((cc _).trans (by grind))
 have e138:v 138=(w + -w*h,u*g):=fy (vm (hs 138 _ rfl) e84 e3) ((cc _).trans (by grind)) ((cc _).trans (by grind))
 have e141:=Js (hs 141 _ rfl) e137 e29;have e142:v 142=(u*h-u,g*w):=fy (kag (hs 142 _ rfl) e141 e0) (by grind) (by grind)
 have e143:=vm (hs 143 _ rfl) e142 e133;have e144:=vm (hs 144 _ rfl) e138 e134;have e145:=Js (hs 145 _ rfl) e143 e144;have e147:v 147=(u*h-u,-(g*w)):=fy (vm (hs 147 _ rfl) e101 e3) ((cc _).trans (by grind)) ((cc _).trans (by grind))
 have e148:v 148=(w + -w*h,-(g*u)):=fy (vm (hs 148 _ rfl) e103 e3) ((cc _).trans (by grind)) ((cc _).trans (by grind))
 have e151:=Js (hs 151 _ rfl) e29 e147;have e152:v 152=(u*h-u,-(g*w)):=fy (kag (hs 152 _ rfl) e151 e0) (by grind) (by grind)
 have e153:=vm (hs 153 _ rfl) e152 e133;have e154:=WaE (hs 154 _ rfl) e134 e148;have e155:=Js (hs 155 _ rfl) e153 e154;have e167:=Ut (hs 167 _ rfl) e50 e29;have e170:=Uc (hs 170 _ rfl) e167 e3;have e171:=XZ (hs 171 _ rfl) e170 e32;have e172:=Uc (hs 172 _ rfl) e52 e3;have e173:=XZ (hs 173 _ rfl) e172 e32;have e176:v 176=(u*h-u,0):=fx (Uc (hs 176 _ rfl) e171 e3) ((cc _).trans (by grind))
 have e177:v 177=(w + -w*h,0):=fx (Uc (hs 177 _ rfl) e173 e3) ((cc _).trans (by grind))
 have e180:=xx (hs 180 _ rfl) e29 e176;have e181:v 181=(u*h-u,0):=fx (Ut (hs 181 _ rfl) e180 e0) (by grind)
 have e182:=Uc (hs 182 _ rfl) e133 e181;have e183:=Uc (hs 183 _ rfl) e177 e134;have e184:=xx (hs 184 _ rfl) e182 e183;have e146:v 146=(0,0):=fy (Js (hs 146 _ rfl) e136 e145) (by grind) (by grind)
 have e156:v 156=(0,0):=fy (Js (hs 156 _ rfl) e136 e155) (by grind) (by grind)
 have e185:v 185=(0,0):=fx (xx (hs 185 _ rfl) e184 e136) (by grind)
 exact⟨e146,e156,e185⟩
end Go.Abs.Wp
end
section
namespace Go.Abs.Wp
theorem scP:isO (RO stP)=true:=by kernel_rfl
end Go.Abs.Wp
end
section
namespace Go.Abs.Wp
theorem scT:isO (RO stT)=true:=by kernel_rfl
end Go.Abs.Wp
end
section
namespace Go.Abs.Wp
theorem scM:isO (RO stM)=true:=by kernel_rfl
end Go.Abs.Wp
end
section
namespace Go.Abs.Wp
theorem scE:isO (RO stE)=true:=by kernel_rfl
end Go.Abs.Wp
end
section
namespace Go.Abs.Wp
theorem scU:isO (RO stU)=true:=by kernel_rfl
end Go.Abs.Wp
end
section
namespace Go.Abs.Wp
theorem scD:isO (RO stD)=true:=by kernel_rfl
end Go.Abs.Wp
end
section
namespace Go.Abs.Wp
open Go.Proofs Go.Num
abbrev GX:=List AV->Option AV
open Classical in
noncomputable def g1p(a r:AV)(args:List AV):Option AV:=if args=[a] then some r else none
noncomputable def exP(r8 r9:List C)(bar tn:AV):List (Nat×GX):=[(7,g0 (boolV true)),(12,codeX),(19,g1p bar (boolV true)),(20,g1p tn (boolV true)),(51,g1p tn nilV),(193,g1p tn (.tup [.agg r8,nilV])),(194,g1p tn (.tup [.agg r9,nilV])),(154,g1p tn (.tup [.agg r8,.agg r9,nilV]))]
def RelX(R:GX->GX->Prop):List (Nat×GX)->List (Nat×GX)->Prop
 | [],[]=>True
 | (k,g)::l,(k',g')::l'=>k=k'/\R g g'/\RelX R l l'
 | _,_=>False
theorem jas{R:GX->GX->Prop}:∀{l l' : List (Nat×GX)},RelX R l l'->∀f,lookX l f=none->lookX l' f=none
 | [],[],_,f,h=>rfl
 | (k,g)::l,(k',g')::l',⟨e,hr,hl⟩,f,h=>by
  subst e;simp only [lookX]at h ⊢;cases hb:Nat.beq f k with
  | true=>rw [hb]at h;cases h
  | false=>rw [hb]at h;exact jas hl f h
theorem W1{R:GX->GX->Prop}:∀{l l' : List (Nat×GX)},RelX R l l'->∀f g,lookX l f=some g->∃g',lookX l' f=some g'/\R g g'
 | [],[],_,f,g,h=>nos h
 | (k,g1)::l,(k',g')::l',⟨e,hr,hl⟩,f,g,h=>by
  subst e;simp only [lookX]at h ⊢;cases hb:Nat.beq f k with
  | true=>rw [hb]at h;cases h;exact⟨g',rfl,hr⟩
  | false=>rw [hb]at h;exact W1 hl f g h
theorem Ur:∀{l:List (Nat×GX)} {f:Nat} {g:GX},lookX l f=some g->(f,g)∈l
 | [],f,g,h=>nos h
 | (k,g1)::l,f,g,h=>by
  simp only [lookX]at h;cases hb:Nat.beq f k with
  | true=>rw [hb]at h;cases h;rw [beq_eq hb];exact List.mem_cons_self ..
  | false=>rw [hb]at h;exact List.mem_cons_of_mem _ (Ur h)
abbrev RTh(θ:Nat->C)(g g' : GX):Prop:=∀args r,g args=some r->g' (args.map (Go.Abs.sA θ))=some (Go.Abs.sA θ r)
theorem qbe{θ:Nat->C}{r r' : AV}(h:Go.Abs.sA θ r=r'):RTh θ (g0 r) (g0 r'):=by
 intro args x hx;subst h;match args,hx with
 | [],hx=>cases hx;rfl
theorem JX{θ:Nat->C}{a a' r r' : AV}(ha:Go.Abs.sA θ a=a')(h:Go.Abs.sA θ r=r'):RTh θ (g1 a r) (g1p a' r'):=by
 intro args x hx;subst h ha;unfold g1 at hx;cases hb:eqAs args [a] with
 | true=>
  rw [hb]at hx;cases hx
  rw [vw hb];exact if_pos rfl
 | false=>rw [hb]at hx;cases hx
theorem xbl{θ:Nat->C}:RTh θ codeX codeX:=by
 intro args x hx;unfold codeX at hx;split at hx
 .rename_i t k;cases hb:Nat.beq t 75 && memN codeL k with
  | false=>rw [hb]at hx;cases hx
  | true=>
   rw [hb]at hx;cases hx
   show cond (Nat.beq t 75 && memN codeL k) (some (intV k)) none=_;rw [hb];rfl
 .cases hx;rfl
 .cases hx
theorem at_x{f:Nat}{a r:AV}(h:Enters Tryz.prog f/\At f a r):Enters Tryz.prog f/\DSound Tryz.prog f λargs K=>∃r',g1p a r args=some r'/\K r':=
 ⟨h.1,h.2.mono λargs K ⟨r',h1,h2⟩=>by
  unfold g1p at h1;split at h1
  .rename_i e;cases h1;exact⟨e,h2⟩
  .exact nos h1⟩
theorem knO(h:Fr Tryz.prog):∀p∈kdO,Kn p.1 p.2:=
 fc (wi h.h67) (fc (wi h.h66) (fc (wi h.h60) (fc (wi h.h65) (fc (wi h.h44) (fc (wi h.h62) (fc (wi h.h63) (fc (wi h.h108) (fc (wi h.h34) (fc (kn71 h) (fc (kn107 h) (fc (kn197 h) (fc (kn75 h) (fc (kn73 h) (fc (kn74 h) (fc (kn315 h) (fc (kn54 h) (fc (kn255 h) (fc (kn181 h) (λp hp=>by cases hp)))))))))))))))))))
abbrev barQ(G A B C U V:Rat):AV:=.agg (Go.Abs.qC G++(Go.Abs.qC A++(Go.Abs.qC B++(Go.Abs.qC C++(Go.Abs.qC U++Go.Abs.qC V)))))
structure Kno (P:Program) (bar tn:AV) (c s:Rat):Prop where
 k7:Enters P 7/\DSound P 7 λargs K=>args=[]/\K (boolV true)
 k19:Enters P 19/\DSound P 19 λargs K=>args=[bar]/\K (boolV true)
 k20:Enters P 20/\DSound P 20 λargs K=>args=[tn]/\K (boolV true)
 k51:DSound P 51 λargs K=>args=[tn]/\K nilV
 k193:DSound P 193 λargs K=>args=[tn]/\K (.tup [.agg (Go.Abs.qC c),nilV])
 k194:DSound P 194 λargs K=>args=[tn]/\K (.tup [.agg (Go.Abs.qC s),nilV])
 k154:DSound P 154 λargs K=>args=[tn]/\K (.tup [.agg (Go.Abs.qC c),.agg (Go.Abs.qC s),nilV])
theorem set2(h:Fr Tryz.prog){v:Nat->PR}{bar tn:AV}{c s:Rat}(hb:Go.Abs.sA (thE v) barA=bar)(ht:Go.Abs.sA (thE v) turnA=tn)(hc:(v 8).1=c)(hs:(v 9).1=s)(k:Kno Tryz.prog bar tn c s) :
  Set2 Tryz.prog v tbO kdO exY (lookX (exP (Go.Abs.qC c) (Go.Abs.qC s) bar tn)) [qC,qD] NO:=by
 have q8:Go.Abs.sL (thE v) (ratC (some 8))=Go.Abs.qC c:=by rw [Zk,<-hc];rfl
 have q9:Go.Abs.sL (thE v) (ratC (some 9))=Go.Abs.qC s:=by rw [Zk,<-hs];rfl
 have r1:Go.Abs.sA (thE v) (.tup [.agg (ratC (some 8)),nilV])=.tup [.agg (Go.Abs.qC c),nilV]:=by rw [<-q8];rfl
 have r2:Go.Abs.sA (thE v) (.tup [.agg (ratC (some 9)),nilV])=.tup [.agg (Go.Abs.qC s),nilV]:=by rw [<-q9];rfl
 have r3:Go.Abs.sA (thE v) (.tup [.agg (ratC (some 8)),.agg (ratC (some 9)),nilV])=.tup [.agg (Go.Abs.qC c),.agg (Go.Abs.qC s),nilV]:=by rw [<-q8,<-q9];rfl
 have rel:RelX (RTh (thE v)) (exL (ratC (some 8)) (ratC (some 9)) barA turnA) (exP (Go.Abs.qC c) (Go.Abs.qC s) bar tn):=
  ⟨rfl,qbe rfl,rfl,xbl,rfl,JX hb rfl,rfl,JX ht rfl,rfl,JX ht rfl,rfl,JX ht r1,rfl,JX ht r2,rfl,JX ht r3,trivial⟩
 have hta:∀p∈exP (Go.Abs.qC c) (Go.Abs.qC s) bar tn,tbO p.1=none:=
  fc (by kernel_rfl) (fc (by kernel_rfl) (fc (by kernel_rfl) (fc (by kernel_rfl) (fc (by kernel_rfl) (fc (by kernel_rfl) (fc (by kernel_rfl) (fc (by kernel_rfl) (λp hp=>by cases hp))))))))
 have hX:∀p∈exP (Go.Abs.qC c) (Go.Abs.qC s) bar tn,Enters Tryz.prog p.1/\DSound Tryz.prog p.1 λargs K=>∃r,p.2 args=some r/\K r:=
  fc ⟨k.k7.1,k.k7.2.mono λargs K ⟨r,h1,h2⟩=>by
   match args,h1 with
   | [],h1=>cases h1;exact⟨rfl,h2⟩⟩ (fc kn12 (fc (at_x k.k19) (fc (at_x k.k20) (fc (at_x ⟨Xa Tryz.func51 (by kernel_rfl) rfl,k.k51⟩) (fc (at_x ⟨Xa Tryz.func193 (by kernel_rfl) rfl,k.k193⟩) (fc (at_x ⟨Xa Tryz.func194 (by kernel_rfl) rfl,k.k194⟩) (fc (at_x ⟨Xa Tryz.func154 (by kernel_rfl) rfl,k.k154⟩) (λp hp=>by cases hp))))))))
 exact⟨tabO,hfO',knO h,XaL (by kernel_rfl),by kernel_rfl,fc (by kernel_rfl) (fc (by kernel_rfl) (λp hp=>by cases hp)),clO,en291,fc (ybl v) (fc (qbm v) (λp hp=>by cases hp)),
  List.pairwise_cons.2 ⟨fc (by decide) (λp hp=>by cases hp),List.pairwise_singleton ..⟩,
  ⟨jas rel,W1 rel,λf g e=>hta (f,g) (Ur e)⟩,λf g e=>hX (f,g) (Ur e)⟩
def chkSt:List Nat->Nat->List (Nat×Nat)->Bool
 | [],_,_=>true
 | s::l,k,L=>(Nat.beq s 4 || L.any λp=>Nat.beq p.1 k && Nat.beq p.2 s) && chkSt l (k+1) L
theorem Jbh{v:Nat->PR}:∀{st:List Nat} {k0:Nat} {L:List (Nat×Nat)},chkSt st k0 L=true->(∀p∈L,stOk p.2 (v p.1))->∀k s,st[k]?=some s->stOk s (v (k0+k))
 | [],k0,L,h,hL,k,s,e=>nos e
 | x::st,k0,L,h,hL,k,s,e=>by
  simp only [chkSt,zBA,Bool.or_eq_true]at h;cases k with
  | zero=>
   simp only [List.getElem?_cons_zero,zOI]at e;subst e;rcases h.1 with h1 | h1
   .rw [beq_eq h1];exact⟨nofun,nofun,nofun,nofun⟩
   .rw [List.any_eq_true]at h1;obtain⟨p,hp,h2⟩:=h1;rw [zBA]at h2;have:=hL p hp;rw [beq_eq h2.1,beq_eq h2.2]at this;exact this
  | succ k=>
   rw [List.getElem?_cons_succ]at e;have:=Jbh h.2 hL k s e
   rwa [show k0+1+k=k0+(k+1) by omega]at this
theorem Zz{p:PR}{a:Rat}(e:p=(a,0))(h:0<a):stOk 1 p:=by subst e;exact⟨nofun,λ_=>⟨h,rfl⟩,nofun,nofun⟩
theorem JaM{p:PR}{a:Rat}(e:p=(a,0))(h:a<0):stOk 2 p:=by subst e;exact⟨nofun,nofun,λ_=>⟨h,rfl⟩,nofun⟩
theorem kW{p:PR}{a:Rat}(e:p=(a,0))(h:a=0):stOk 0 p:=by subst e h;exact⟨λ_=>rfl,nofun,nofun,nofun⟩
theorem qaV{x:Option AV}(h:isO x=true):x=some (boolV true):=by
 unfold isO at h;split at h
 .rw [h];rfl
 .exact Bool.noConfusion h
theorem Zat{a:Rat}(h:a≠0):0<a*a:=by
 have h1:=rsqT a;have h2:a*a≠0:=λe=>(Rat.mul_eq_zero.1 e).elim h h;grind
def isPar:Df->Bool
 | .par=>true
 | _=>false
theorem noParB:((dfO.drop 10).all λd=>!isPar d)=true:=by kernel_rfl
theorem noPar(n:Nat):¬dfO[n+10]?=some .par:=by
 intro e;have e2:(dfO.drop 10)[n]?=some .par:=by rw [List.getElem?_drop,Nat.add_comm];exact e
 have:=List.all_eq_true.1 noParB _ (List.mem_of_getElem? e2);exact Bool.noConfusion this
theorem vaN(h:Fr Tryz.prog){G A B C U V T c s:Rat}{b:Bool}(zG:rz G<=2)(zA:rz A<=2)(zB:rz B<=2)(zC:rz C<=2)(zU:rz U<=2)(zV:rz V<=2)(zT:rz T<=2)(zc:rz c<=28)(zs:rz s<=28)(hG:0<G)(hA:0<A)(hB:B≠0)(hC:C≠0)(k:Kno Tryz.prog (barQ G A B C U V) (tnQ T b) c s) :
  DSound Tryz.prog 5 λargs K=>args=[barQ G A B C U V,tnQ T b]/\K (boolV true):=by
 have z0:rz 0<=2:=by rw [Zs];exact Nat.zero_le _
 have zH:rz (if b then -1 else 1:Rat)<=2:=by
  split
  .have:=Zak (n:=-1) (by decide) (by decide);simpa using this
  .exact Nat.le_trans rz_1 (by decide)
 obtain⟨ρ,hρ⟩:∃ρ:Nat->PR,ρ=λk=>(([G,A,B,C,U,V,T,(if b then -1 else 1),c,s][k]?).getD 0,0):=⟨_,rfl⟩
 have par:ParOk ρ dfO lvO bdO:=by
  intro k hk;subst hρ;match k,hk with
  | 0,_=>exact⟨zG,z0,λ_=>rfl⟩
  | 1,_=>exact⟨zA,z0,λ_=>rfl⟩
  | 2,_=>exact⟨zB,z0,λ_=>rfl⟩
  | 3,_=>exact⟨zC,z0,λ_=>rfl⟩
  | 4,_=>exact⟨zU,z0,λ_=>rfl⟩
  | 5,_=>exact⟨zV,z0,λ_=>rfl⟩
  | 6,_=>exact⟨zT,z0,λ_=>rfl⟩
  | 7,_=>exact⟨zH,z0,λ_=>rfl⟩
  | 8,_=>exact⟨zc,Nat.le_trans z0 (by decide),λ_=>rfl⟩
  | 9,_=>exact⟨zs,Nat.le_trans z0 (by decide),λ_=>rfl⟩
  | n+10,hk=>exact absurd hk (noPar n)
 obtain⟨v,hs,hp,hl,hE⟩:=qaP (x:=45) okO (by kernel_rfl) ⟨Nat.le_of_ble_eq_true (by kernel_rfl),Nat.le_of_ble_eq_true (by kernel_rfl)⟩ (Nat.le_of_ble_eq_true (by kernel_rfl)) (by kernel_rfl) par
 have f0:v 0=(G,0):=(hp 0 (by kernel_rfl)).trans (by rw [hρ];rfl)
 have f1:v 1=(A,0):=(hp 1 (by kernel_rfl)).trans (by rw [hρ];rfl)
 have f2:v 2=(B,0):=(hp 2 (by kernel_rfl)).trans (by rw [hρ];rfl)
 have f3:v 3=(C,0):=(hp 3 (by kernel_rfl)).trans (by rw [hρ];rfl)
 have f4:v 4=(U,0):=(hp 4 (by kernel_rfl)).trans (by rw [hρ];rfl)
 have f5:v 5=(V,0):=(hp 5 (by kernel_rfl)).trans (by rw [hρ];rfl)
 have f6:v 6=(T,0):=(hp 6 (by kernel_rfl)).trans (by rw [hρ];rfl)
 have f7:v 7=((if b then -1 else 1),0):=(hp 7 (by kernel_rfl)).trans (by rw [hρ];rfl)
 have f8:v 8=(c,0):=(hp 8 (by kernel_rfl)).trans (by rw [hρ];rfl)
 have f9:v 9=(s,0):=(hp 9 (by kernel_rfl)).trans (by rw [hρ];rfl)
 have rc:∀(k:Nat) (q:Rat),v k=(q,0)->Go.Abs.sL (thE v) (ratC (some k))=Go.Abs.qC q:=λk q e=>by rw [Zk];show Go.Abs.qC (v k).1=_;rw [e]
 have eb:Go.Abs.sA (thE v) barA=barQ G A B C U V:=by
  show AV.agg (Go.Abs.sL (thE v) (ratC (some 0)++(ratC (some 1)++(ratC (some 2)++(ratC (some 3)++(ratC (some 4)++ratC (some 5)))))))=_;rw [Jp,Jp,Jp,Jp,Jp,rc 0 G f0,rc 1 A f1,rc 2 B f2,rc 3 C f3,rc 4 U f4,rc 5 V f5]
 have et:Go.Abs.sA (thE v) turnA=tnQ T b:=by
  show AV.agg (Go.Abs.sL (thE v) (ratC (some 6)++[hdl 28]))=_;rw [Jp,rc 6 T f6];show AV.agg (Go.Abs.qC T++[cb (rcan (v 7).1)])=_;rw [f7];cases b <;> rfl
 have S2:=set2 h eb et (by rw [f8]) (by rw [f9]) k
 have fin:∀(st:List Nat) (L:List (Nat×Nat)),Nat.ble st.length dfO.length=true->chkSt st 0 L=true->(∀p∈L,stOk p.2 (v p.1))->isO (RO st)=true->DSound Tryz.prog 5 λargs K=>args=[barQ G A B C U V,tnQ T b]/\K (boolV true):=by
  intro st L h1 h2 h3 h4;have e:=hE st (Nat.le_of_ble_eq_true h1) (λk s hk=>by have:=Jbh h2 h3 k s hk;rwa [Nat.zero_add]at this)
  have r:=Ua2 S2 e (show(lvE tbO (baseY2 (EO st) kdO exY [qC,qD] NO) 40).dat 5 [barA,turnA]=some (boolV true) from qaV h4);have ea:[barA,turnA].map (Go.Abs.sA (thE v))=[barQ G A B C U V,tnQ T b]:=by
   show [Go.Abs.sA (thE v) barA,Go.Abs.sA (thE v) turnA]=_;rw [eb,et]
  rw [ea]at r;exact r
 obtain⟨u,hu⟩:∃u,u=G-c*A:=⟨_,rfl⟩;obtain⟨w,hw⟩:∃w,w=s*A:=⟨_,rfl⟩;obtain⟨D,hD⟩:∃D,D=u*u+w*w:=⟨_,rfl⟩;obtain⟨M,hM⟩:∃M,M=B*B+D-C*C:=⟨_,rfl⟩;obtain⟨v14,v31,v32,v38,v45,v47,v112,v118,v119,v186,v190⟩:=YaM hs f0 f1 f2 f3 f8 f9 hu hw hD hM;have hl2:=jaG hs f0 f1 f2 f3 f8 f9 hu hw hD hM hC;have pB:=Zat hB;have pC:=Zat hC;have p0:=Zz f0 hG;have p1:=Zz f1 hA;have p14:=Zz v14 (by decide)
 have p31:=Zz v31 pB;have p32:=Zz v32 pC;have hu0:=rsqT u;have hw0:=rsqT w;by_cases h0:D=0
 .have z38:=kW v38 h0;have z112:=kW v112 h0;by_cases hE0:B*B-C*C=0
  .exact fin stE [(0,1),(1,1),(14,1),(31,1),(32,1),(38,0),(112,0),(186,0)] (by kernel_rfl) (by kernel_rfl)
    (fc p0 (fc p1 (fc p14 (fc p31 (fc p32 (fc z38 (fc z112 (fc (kW v186 hE0) (λp hp=>by cases hp))))))))) scE
  .have q:=Zat hE0;have z190:=JaM v190 (by grind)
   by_cases hU:0<B*B-C*C
   .exact fin stU [(0,1),(1,1),(14,1),(31,1),(32,1),(38,0),(112,0),(186,1),(190,2)] (by kernel_rfl) (by kernel_rfl)
     (fc p0 (fc p1 (fc p14 (fc p31 (fc p32 (fc z38 (fc z112 (fc (Zz v186 hU) (fc z190 (λp hp=>by cases hp)))))))))) scU
   .exact fin stD [(0,1),(1,1),(14,1),(31,1),(32,1),(38,0),(112,0),(186,2),(190,2)] (by kernel_rfl) (by kernel_rfl)
     (fc p0 (fc p1 (fc p14 (fc p31 (fc p32 (fc z38 (fc z112 (fc (JaM v186 (by grind)) (fc z190 (λp hp=>by cases hp)))))))))) scD
 .have hp0:0<D:=by grind
  have p38:=Zz v38 hp0;have p112:=Zz v112 hp0;have p47:=Zz v47 (by grind)
  have p119:=Zz v119 (by grind)
  obtain⟨l1,l2,l3⟩:=hl2 h0;by_cases hX:4*(B*B*D)-M*M=0
  .exact fin stT [(0,1),(1,1),(14,1),(31,1),(32,1),(38,1),(45,0),(47,1),(112,1),(118,0),(119,1),(185,0)] (by kernel_rfl) (by kernel_rfl)
    (fc p0 (fc p1 (fc p14 (fc p31 (fc p32 (fc p38 (fc (kW v45 hX) (fc p47 (fc p112 (fc (kW v118 hX) (fc p119 (fc (kW l3 rfl) (λp hp=>by cases hp))))))))))))) scT
  .by_cases hP:0<4*(B*B*D)-M*M
   .exact fin stP [(0,1),(1,1),(14,1),(31,1),(32,1),(38,1),(45,1),(47,1),(112,1),(118,1),(119,1),(146,0),(156,0)] (by kernel_rfl) (by kernel_rfl)
     (fc p0 (fc p1 (fc p14 (fc p31 (fc p32 (fc p38 (fc (Zz v45 hP) (fc p47 (fc p112 (fc (Zz v118 hP) (fc p119 (fc (kW l1 rfl) (fc (kW l2 rfl) (λp hp=>by cases hp)))))))))))))) scP
   .have hN:4*(B*B*D)-M*M<0:=by grind
    exact fin stM [(0,1),(1,1),(14,1),(31,1),(32,1),(38,1),(45,2),(112,1),(118,2)] (by kernel_rfl) (by kernel_rfl)
     (fc p0 (fc p1 (fc p14 (fc p31 (fc p32 (fc p38 (fc (JaM v45 hN) (fc p112 (fc (JaM v118 hN) (λp hp=>by cases hp)))))))))) scM
end Go.Abs.Wp
end
section
namespace Go.Abs
open Go.Num
def CellOk(c:C):Prop:=((∃b,c=.lit (.bool b))∨∃es,c=.slice es)/\(∀n,3<=n->cleanE (n+1) c=true)/\eqC c c=true
theorem uaR(b:Bool):CellOk (.lit (.bool b)):=⟨.inl ⟨b,rfl⟩,λn hn=>rfl,by simp only [eqC,eqV,beq_self_eq_true]⟩
theorem yaA(l:List Nat):CellOk (ws l):=⟨.inr ⟨_,rfl⟩,λn hn=>by
 obtain⟨n,rfl⟩:∃m,n=m+3:=⟨n-3,by omega⟩
 exact Jq _ _,by simp only [ws,eqC,VT]⟩
def thR(l:List C)(k:Nat):C:=l.getD k (.slice [])
theorem Jbc{l:List C}(h:∀c∈l,CellOk c):ThOk (thR l):=by
 have key:∀k,CellOk (thR l k):=by
  intro k;unfold thR;rw [List.getD_eq_getElem?_getD];cases e:l[k]? with
  | none=>exact⟨.inr ⟨[],rfl⟩,λn hn=>rfl,rfl⟩
  | some c=>exact h c (List.mem_of_getElem? e)
 exact⟨λk=>(key k).1,λk n hn=>(key k).2.1 n hn,λk=>(key k).2.2⟩
def fbT(x:Fb)(t:Tn):List C:=fbC x++tC t
theorem vB(x:R):∀c∈[cb x,cn x,cd x],CellOk c:=Wp.fc (uaR _) (Wp.fc (yaA _) (Wp.fc (yaA _) (λc hc=>by cases hc)))
theorem kbf(x:Fb)(t:Tn):∀c∈fbT x t,CellOk c:=by
 intro c hc;have e:fbT x t=[cb x.g,cn x.g,cd x.g]++([cb x.a,cn x.a,cd x.a]++([cb x.b,cn x.b,cd x.b]++([cb x.c,cn x.c,cd x.c]++([cb x.u,cn x.u,cd x.u]++([cb x.v,cn x.v,cd x.v]++([cb t.1,cn t.1,cd t.1]++[.lit (.bool t.2)])))))):=rfl;rw [e]at hc;simp only [List.mem_append]at hc;rcases hc with h | h | h | h | h | h | h | h
 .exact vB _ c h
 .exact vB _ c h
 .exact vB _ c h
 .exact vB _ c h
 .exact vB _ c h
 .exact vB _ c h
 .exact vB _ c h
 .rw [List.mem_singleton]at h;rw [h];exact uaR _
end Go.Abs
namespace Go.Abs.Wp
open Go.Proofs Go.Num
noncomputable section
def barN:AV:=.agg [hdl 0,hdl 1,hdl 2,hdl 3,hdl 4,hdl 5,hdl 6,hdl 7,hdl 8,hdl 9,hdl 10,hdl 11,hdl 12,hdl 13,hdl 14,hdl 15,hdl 16,hdl 17]
def tnN:AV:=.agg [hdl 18,hdl 19,hdl 20,hdl 21]
def exN(b19 b20:Bool):List (Nat×GX):=[(7,g0 (boolV true)),(19,g1 barN (boolV b19)),(20,g1 tnN (boolV b20))]
def exM(b19 b20:Bool)(bar tn:AV):List (Nat×GX):=[(7,g0 (boolV true)),(19,g1p bar (boolV b19)),(20,g1p tn (boolV b20))]
def baseX(ex:List (Nat×GX)):Base where
 dat f args:=match lookX ex f with
  | some g=>g args
  | none=>none
 inl _ _ _:=none
 fresh _ _:=none
 z _:=0
 rk _:=100
def RN(b19 b20:Bool):Option AV:=(lvE tbO (baseX (exN b19 b20)) 3).dat 5 [barN,tnN]
end
theorem rnF:isO (RN false true)=true:=by kernel_rfl
theorem rnG:isO (RN false false)=true:=by kernel_rfl
theorem rnT:isO (RN true false)=true:=by kernel_rfl
theorem YZ{x:Fb}{t:Tn}{b19 b20:Bool}(hr:isO (RN b19 b20)=true)(k7:Enters Tryz.prog 7/\DSound Tryz.prog 7 λargs K=>args=[]/\K (boolV true))(k19:Enters Tryz.prog 19/\At 19 (fbA x) (boolV b19))(k20:Enters Tryz.prog 20/\At 20 (tA t) (boolV b20)) :
  DSound Tryz.prog 5 λargs K=>args=[fbA x,tA t]/\K (boolV true):=by
 have hθ:=Jbc (kbf x t);have eb:Go.Abs.sA (thR (fbT x t)) barN=fbA x:=rfl;have et:Go.Abs.sA (thR (fbT x t)) tnN=tA t:=rfl;have rel:RelX (RTh (thR (fbT x t))) (exN b19 b20) (exM b19 b20 (fbA x) (tA t)):=⟨rfl,qbe rfl,rfl,JX eb rfl,rfl,JX et rfl,trivial⟩;have hta:∀p∈exM b19 b20 (fbA x) (tA t),tbO p.1=none:=fc (by kernel_rfl) (fc (by kernel_rfl) (fc (by kernel_rfl) (λp hp=>by cases hp)))
 have hX:∀p∈exM b19 b20 (fbA x) (tA t),Enters Tryz.prog p.1/\DSound Tryz.prog p.1 λargs K=>∃r,p.2 args=some r/\K r:=
  fc ⟨k7.1,k7.2.mono λargs K ⟨r,h1,h2⟩=>by
   match args,h1 with
   | [],h1=>cases h1;exact⟨rfl,h2⟩⟩ (fc (at_x k19) (fc (at_x k20) (λp hp=>by cases hp)))
 have bs:BaseS (thR (fbT x t)) tbO (baseX (exN b19 b20)) (baseX (exM b19 b20 (fbA x) (tA t))):=by
  refine⟨λf args r h=>?_,λf args t r t1 h=>nos h,λf args es h=>nos h,λf hf args=>?_,λf hf args t=>rfl,λf hf args=>rfl,λf=>rfl,λf=>rfl⟩
  .simp only [baseX]at h ⊢;cases e:lookX (exN b19 b20) f with
   | none=>rw [e]at h;exact nos h
   | some g=>
    rw [e]at h;obtain⟨g',e',hg⟩:=W1 rel f g e;rw [e'];exact hg args r h
  .simp only [baseX];cases e:lookX (exM b19 b20 (fbA x) (tA t)) f with
   | none=>rfl
   | some g=>exact(hf (hta (f,g) (Ur e))).elim
 have bo:BaseOk Tryz.prog (baseX (exM b19 b20 (fbA x) (tA t))):=by
  refine⟨λf args r h=>?_,λf args t r h=>nos h,λf args r h=>nos h,λf=>?_,λf=>?_,λf=>?_⟩
  .simp only [baseX]at h;cases e:lookX (exM b19 b20 (fbA x) (tA t)) f with
   | none=>rw [e]at h;exact nos h
   | some g=>exact(hX (f,g) (Ur e)).1
  .simp only [baseX];cases e:lookX (exM b19 b20 (fbA x) (tA t)) f with
   | none=>
    intro args vals w I K h1 h2 h3 ⟨r,h,hk⟩;exact nos h
   | some g=>exact(hX (f,g) (Ur e)).2
  .intro E args vals s a w m I d K hs hargs ⟨t,r,t',e,h,hk⟩;exact nos h
  .intro args vals w I K h1 h2 h3 ⟨r,h,hk⟩;exact nos h
 have hL:=(Wu tabO bo 3).1;have hS:=Qax hθ hfO' bs 3;have h2:=hS.dat 5 [barN,tnN] (boolV true) (qaV hr);refine(hL.dat 5).mono λargs K ⟨h3,h4⟩=>?_;rw [h3];exact⟨_,h2,h4⟩
theorem JaK{x:R}(hw:WLR x)(h:upB x=true):vldR x=true/\rz (rv x)<=2/\0<rv x:=by
 unfold upB lngB at h;simp only [zBA,Bool.not_eq_true',decide_eq_false_iff_not,decide_eq_true_eq]at h;refine⟨h.1,Nat.le_trans (VS hw) (by unfold rl;exact Nat.max_le.2 ⟨by omega,by omega⟩),?_⟩
 have h3:=h.2.2;unfold ordQ at h3;split at h3
 .omega
 .split at h3
  .omega
  .grind
theorem zaY{x:R}(hw:WLR x)(h:lngB x=false):rz (rv x)<=2:=by
 unfold lngB at h;simp only [decide_eq_false_iff_not]at h;exact Nat.le_trans (VS hw) (by unfold rl;exact Nat.max_le.2 ⟨by omega,by omega⟩)
theorem out_sound(h:Fr Tryz.prog)(h7:Sound Tryz.prog 7 (.dat true λargs K=>args=[]/\K (boolV true)))(h19:Sound Tryz.prog 19 (.dat true XK))(h20:Sound Tryz.prog 20 (.dat true Xw))(e5:Enters Tryz.prog 5) :
  Sound Tryz.prog 5 (.dat true yn):=by
 refine⟨e5,vU,?_⟩;intro args vals w I K h1 h2 h3 hG;match args,hG with
 | [a,b],hG=>
  obtain⟨x,rfl,wx,t,rfl,wt,zx,zt,hK⟩:=hG;have k19:At 19 (fbA x) (boolV (gF x)):=h19.2.2.mono λargs K ⟨e,hk⟩=>by
   subst e;exact⟨x,rfl,wx,by omega,hk⟩
  have k20:At 20 (tA t) (boolV (Go.Num.gT t)):=h20.2.2.mono λargs K ⟨e,hk⟩=>by
   subst e;exact⟨t,rfl,wt,by omega,hk⟩
  have k7:Enters Tryz.prog 7/\DSound Tryz.prog 7 λargs K=>args=[]/\K (boolV true):=⟨h7.1,h7.2.2⟩;have main:DSound Tryz.prog 5 λargs K=>args=[fbA x,tA t]/\K (boolV true):=by
   cases c1:gF x with
   | false=>
    rw [c1]at k19;cases c2:Go.Num.gT t with
    | false=>rw [c2]at k20;exact YZ rnG k7 ⟨h19.1,k19⟩ ⟨h20.1,k20⟩
    | true=>rw [c2]at k20;exact YZ rnF k7 ⟨h19.1,k19⟩ ⟨h20.1,k20⟩
   | true=>
    rw [c1]at k19;cases c2:Go.Num.gT t with
    | false=>
     rw [c2]at k20;exact YZ rnT k7 ⟨h19.1,k19⟩ ⟨h20.1,k20⟩
    | true=>
     rw [c2]at k20;obtain⟨w1,w2,w3,w4,w5,w6⟩:=wx;simp only [gF,zBA,Bool.not_eq_true']at c1;obtain⟨u1,u2,u3,u4,u5,u6,u7,u8⟩:=c1;simp only [Go.Num.gT,zBA,Bool.not_eq_true',decide_eq_true_eq]at c2;obtain⟨d1,d2⟩:=c2;obtain⟨vg,zg,pg⟩:=JaK w1 u1;obtain⟨va,za,pa⟩:=JaK w2 u2;obtain⟨vb,zb,pb⟩:=JaK w3 u3;obtain⟨vc,zc,pc⟩:=JaK w4 u4;have zu:=zaY w5 u7;have zv:=zaY w6 u8;have zt2:=zaY wt d2;rw [kaO]at d1;have d3:vldR t.1=true/\¬(t.2=true/\rv t.1≠0):=by
      split at d1
      .assumption
      .cases d1
     have hh:t.2=true->rv t.1=0:=λe=>Classical.byContradiction λn=>d3.2 ⟨e,n⟩;have ex:fbA x=barQ (rv x.g) (rv x.a) (rv x.b) (rv x.c) (rv x.u) (rv x.v):=by
      show AV.agg ([cb x.g,cn x.g,cd x.g]++([cb x.a,cn x.a,cd x.a]++([cb x.b,cn x.b,cd x.b]++([cb x.c,cn x.c,cd x.c]++([cb x.u,cn x.u,cd x.u]++[cb x.v,cn x.v,cd x.v])))))=_;rw [qH w1 vg,qH w2 va,qH w3 vb,qH w4 vc,qH w5 u5,qH w6 u6]
     have et:tA t=tnQ (rv t.1) t.2:=by
      show AV.agg ([cb t.1,cn t.1,cd t.1]++[.lit (.bool t.2)])=_;rw [qH wt d3.1]
     rw [ex]at k19 ⊢;rw [et]at k20 ⊢;obtain⟨c,s,zc',zs',hcs,k51,k193,k194,k154⟩:=QaX h zt2 hh;exact vaN h zg za zb zc zu zv zt2 zc' zs' pg pa (λe=>by rw [e]at pb;exact absurd pb (by decide)) (λe=>by rw [e]at pc;exact absurd pc (by decide)) ⟨k7,⟨h19.1,k19⟩,⟨h20.1,k20⟩,k51,k193,k194,k154⟩
  exact main [fbA x,tA t] vals w I K h1 h2 h3 ⟨rfl,hK⟩
end Go.Abs.Wp
namespace Go.Abs
open Go.Proofs
theorem out_sound:type_of% @Wp.out_sound:=@Wp.out_sound
end Go.Abs
end
section
namespace Go.Abs
open Go.Num
variable {P:Program} {Γ:Nat->Spec}
def Yc:AC:=(.o [.m 2 (.c (.one .emp))] [0] (.o [.m 4 (.c (.one .emp)),.M 5 0,.u 6 (.app0 1 (.t 4) (.t 5)),.M 3 6] [3] (.f (.block 0 (.loop (.f (.o [.M 7 3,.Z 8 7,.I 9 .gtr 8 0,.M 10 9,.V 11 10 true 3,.V 12 10 true 3,.w 13 10 true (.len (.t 12)),.w 14 10 true (.bin .sub (.t 13) (.i 1)),.w 15 10 true (.idx 1 (.t 11) (.t 14)),.U 16 10 true 1 false 15,.w 17 10 true (.bin .eql (.t 16) (.c (.one (.lit (.int .u32 0))))),.P 18 10 17] [3,18] (.cond (.t 18) .skip (.exit 0))) [3] (.block 1 (.p [.M 19 3,.M 20 3,.Z 21 20,.I 22 .sub 21 1,.u 23 (.sl 1 (.t 19) none (some (.t 22))),.M 3 23]))))) [3] (.seq (.p [.M 24 3,.M 2 24]) .ret))))
def ue(f0 f1:Nat):AC:=(.o [.m 4 (.c (.one .emp))] [0,1] (.o [.m 5 (.c (.one .emp))] [0,1,5] (.o [.m 6 (.c (.one (.lit (.int .u64 0))))] [0,1,5,6] (.f (.o [.M 9 0,.Z 10 9,.M 11 1,.Z 12 11,.u 13 (.max [(.t 10),(.t 12)]),.I 14 .add 13 1,.N 15 0] [0,1,5,6,14,15] (.block 0 (.loop (.o [.B 16 .lss 15 14] [0,1,5,6,14,15,16] (.f (.cond (.t 16) .skip (.exit 0)) [0,1,5,6,14,15] (.f (.block 1 (.o [.M 17 15,.M 7 17] [0,1,5,6,7,14,15] (.o [.M 18 0,.M 19 7,.D 20 f0 18 19,.M 21 1,.M 22 7,.D 23 f0 21 22,.B 24 .add 20 23,.M 25 6,.B 26 .add 24 25,.M 8 26] [0,1,5,8,14,15] (.p [.M 27 5,.M 28 8,.u 29 (.conv .u32 (.t 28)),.u 30 (.row 1 [[.x 1 (.t 29)]]),.u 31 (.app 1 (.t 27) (.t 30)),.M 32 8,.u 33 (.bin .shr (.t 32) (.c (.one (.lit (.int .u64 32))))),.M 5 31,.M 6 33])))) [0,1,5,6,14,15] (.p [.I 34 .add 15 1,.M 15 34]))))))) [5] (.seq (.p [.M 35 5,.u 36 (.callf f1 [(.t 35)]),.M 4 36]) .ret)))))
def je(f0 f1:Nat):AC:=(.o [.m 4 (.c (.one .emp))] [0,1] (.o [.m 5 (.c (.one .emp))] [0,1,5] (.o [.m 6 (.c (.one (.lit (.int .u64 0))))] [0,1,5,6] (.f (.o [.M 9 0,.Z 10 9,.N 11 0] [0,1,5,6,10,11] (.block 0 (.loop (.o [.B 12 .lss 11 10] [0,1,5,6,10,11,12] (.f (.cond (.t 12) .skip (.exit 0)) [0,1,5,6,10,11] (.f (.block 1 (.o [.M 13 11,.M 7 13] [0,1,5,6,7,10,11] (.o [.M 14 0,.M 15 7,.D 16 f0 14 15,.u 17 (.bin .add (.c (.one (.lit (.int .u64 4294967296)))) (.t 16)),.M 18 1,.M 19 7,.D 20 f0 18 19,.B 21 .sub 17 20,.M 22 6,.B 23 .sub 21 22,.M 8 23] [0,1,5,8,10,11] (.p [.M 24 5,.M 25 8,.u 26 (.conv .u32 (.t 25)),.u 27 (.row 1 [[.x 1 (.t 26)]]),.u 28 (.app 1 (.t 24) (.t 27)),.M 29 8,.u 30 (.bin .shr (.t 29) (.c (.one (.lit (.int .u64 32))))),.u 31 (.bin .sub (.c (.one (.lit (.int .u64 1)))) (.t 30)),.M 5 28,.M 6 31])))) [0,1,5,6,10,11] (.p [.I 32 .add 11 1,.M 11 32]))))))) [5] (.seq (.p [.M 33 5,.u 34 (.callf f1 [(.t 33)]),.M 4 34]) .ret)))))
def xd(f0:Nat):AC:=(.o [.N 4 0] [0,1] (.f (.o [.M 6 0,.Z 7 6,.M 8 1,.Z 9 8,.u 10 (.max [(.t 7),(.t 9)]),.I 11 .sub 10 1,.M 5 11] [0,1,5] (.block 0 (.loop (.f (.o [.M 12 5,.I 13 .geq 12 0] [0,1,5,13] (.cond (.t 13) .skip (.exit 0))) [0,1,5] (.f (.block 1 (.o [.M 16 0,.M 17 5,.D 18 f0 16 17,.M 19 1,.M 20 5,.D 21 f0 19 20,.B 22 .neq 18 21] [0,1,5,22] (.cond (.t 22) (.f (.o [.M 23 0,.M 24 5,.D 25 f0 23 24,.M 26 1,.M 27 5,.D 28 f0 26 27,.B 29 .lss 25 28] [29] (.cond (.t 29) (.seq (.p [.N 4 (-1)]) .ret) .skip)) [] (.seq (.p [.N 4 1]) .ret)) .skip))) [0,1,5] (.p [.M 14 5,.I 15 .sub 14 1,.M 5 15])))))) [] (.seq (.p [.N 4 0]) .ret)))
theorem Zal(hΓ:Holds P Γ){f:Nat}(hc:check P f=some (25,Yc.strip,[.tmp 2])):Sound P f (.fresh 1 Yv):=by
 refine QG hc xay hΓ (λargs K hcl hfi hG=>?_);match args,hG with
 | [a],hG=>
  obtain⟨l,ha,hl,hlen,hK⟩:=hG;refine⟨by simp,?_⟩
  rcases ha with rfl | rfl | ⟨rfl,h0⟩
  .simp only [go_sem,Yc,ws];refine⟨hlen,?_⟩;refine Ua (λn:Nat=>⟨mkV [(3,.one (.own 6 1 1 0 n))],mkH [(6,⟨1,some ⟨l.map wc,1,true⟩⟩)]⟩) (λn=>n<=l.length/\val (l.take n)=val l) id l.length ?_ ?_ ?_
   .first | exact ja (by simp [bitvec_to_nat]) (Jf rfl) | (subst h0;exact ja (by simp [bitvec_to_nat]) (Jf (l:=[]) rfl))
   .simp
   .rintro n ⟨hn,ht⟩;simp only [go_sem];refine λhm=>⟨λh=>?_,λh=>?_⟩
    .rw [show((n:Int)-1).toNat=n-1 by omega]
     refine λ_=>⟨by omega,by omega,by omega,λh0=>λ_=>⟨by omega,by omega,by omega,n-1,ja (by simp [bitvec_to_nat]) (Jf rfl),⟨by omega,?_⟩,?_⟩,λh0=>?_⟩
     .have:=kb l (n-1);rw [show n-1+1=n by omega,h0,Nat.mul_zero,Nat.add_zero]at this
      rw [<-this];exact ht
     .simp only [id];omega
     .have:=jd (ko hl n) (yD h hn h0);rw [ht]at this;rw [this]at hK;exact⟨hn,hK⟩
    .have h1:n=0:=by omega
     subst h1;have:val l=0:=by rw [<-ht];simp [val]
     rw [this,Zb]at hK;exact⟨by omega,hK⟩
  .simp only [go_sem,Yc,ws];refine⟨hlen,?_⟩;refine Ua (λn:Nat=>⟨mkV [(3,.one (.own 6 1 1 0 n))],mkH [(6,⟨1,some ⟨l.map wc,1,true⟩⟩)]⟩) (λn=>n<=l.length/\val (l.take n)=val l) id l.length ?_ ?_ ?_
   .first | exact ja (by simp [bitvec_to_nat]) (Jf rfl) | (subst h0;exact ja (by simp [bitvec_to_nat]) (Jf (l:=[]) rfl))
   .simp
   .rintro n ⟨hn,ht⟩;simp only [go_sem];refine λhm=>⟨λh=>?_,λh=>?_⟩
    .rw [show((n:Int)-1).toNat=n-1 by omega]
     refine λ_=>⟨by omega,by omega,by omega,λh0=>λ_=>⟨by omega,by omega,by omega,n-1,ja (by simp [bitvec_to_nat]) (Jf rfl),⟨by omega,?_⟩,?_⟩,λh0=>?_⟩
     .have:=kb l (n-1);rw [show n-1+1=n by omega,h0,Nat.mul_zero,Nat.add_zero]at this
      rw [<-this];exact ht
     .simp only [id];omega
     .have:=jd (ko hl n) (yD h hn h0);rw [ht]at this;rw [this]at hK;exact⟨hn,hK⟩
    .have h1:n=0:=by omega
     subst h1;have:val l=0:=by rw [<-ht];simp [val]
     rw [this,Zb]at hK;exact⟨by omega,hK⟩
  .simp only [go_sem,Yc,ws];refine⟨by simp,?_⟩
   refine Ua (λn:Nat=>⟨mkV [(3,.one (.own 6 1 1 0 n))],mkH [(6,⟨1,some ⟨l.map wc,1,true⟩⟩)]⟩) (λn=>n<=l.length/\val (l.take n)=val l) id l.length ?_ ?_ ?_
   .first | exact ja (by simp [bitvec_to_nat]) (Jf rfl) | (subst h0;exact ja (by simp [bitvec_to_nat]) (Jf (l:=[]) rfl))
   .simp
   .rintro n ⟨hn,ht⟩;simp only [go_sem];refine λhm=>⟨λh=>?_,λh=>?_⟩
    .rw [show((n:Int)-1).toNat=n-1 by omega]
     refine λ_=>⟨by omega,by omega,by omega,λh0=>λ_=>⟨by omega,by omega,by omega,n-1,ja (by simp [bitvec_to_nat]) (Jf rfl),⟨by omega,?_⟩,?_⟩,λh0=>?_⟩
     .have:=kb l (n-1);rw [show n-1+1=n by omega,h0,Nat.mul_zero,Nat.add_zero]at this
      rw [<-this];exact ht
     .simp only [id];omega
     .have:=jd (ko hl n) (yD h hn h0);rw [ht]at this;rw [this]at hK;exact⟨hn,hK⟩
    .have h1:n=0:=by omega
     subst h1;have:val l=0:=by rw [<-ht];simp [val]
     rw [this,Zb]at hK;exact⟨by omega,hK⟩
theorem wU(hΓ:Holds P Γ){f fw ft:Nat}(hw:Γ fw=.dat true Qj)(ht:Γ ft=.fresh 1 Yv)(hc:check P f=some (37,(ue fw ft).strip,[.tmp 4])):Sound P f (.dat false vp):=by
 refine Va hc XU hΓ (λargs K hcl hfi hG=>?_);match args,hG with
 | [a,b],hG=>
  obtain⟨x,rfl,hx,y,rfl,hy,hxl,hyl,hK⟩:=hG;refine⟨by simp,?_⟩
  simp only [go_sem,ue,hw,ht];intro h1 h2;refine⟨by omega,?_⟩
  generalize hN:max x.length y.length+1=N;refine Ua (λp:List Nat×Nat=>match p.1 with
    | []=>⟨mkV [(0,wsA x),(1,wsA y),(5,.one .emp),(6,.one (.lit (.int .u64 p.2))),(14,.one (.lit (.int .i64 N))),(15,.one (.lit (.int .i64 0)))],mkH []⟩
    | a::r=>⟨mkV [(0,wsA x),(1,wsA y),(5,.one (.own 31 1 1 0 (r.length+1))),(6,.one (.lit (.int .u64 p.2))),(14,.one (.lit (.int .i64 N))),(15,.one (.lit (.int .i64 (r.length+1:Nat))))],mkH [(31,⟨1,some ⟨(a::r).map wc,1,true⟩⟩)]⟩)
   (λp=>p.1.length<=N/\WL p.1/\p.2<=1/\val p.1+4294967296 ^ p.1.length*p.2=val (x.take p.1.length)+val (y.take p.1.length)) (λp=>N-p.1.length) ([],0) ?_ ?_ ?_
  .exact ja (by simp [bitvec_to_nat]) trivial
  .simp [Wc,val]
  .rintro⟨o,c⟩ ⟨hoN,ho,hc1,hval⟩;simp only at hoN ho hc1 hval;cases o with
   | nil=>
    simp only [go_sem,hw,ht];refine⟨λhlt=>?_,λhge=>by omega⟩
    have g1:=Ub hx 0;have g2:=Ub hy 0;rw [Nat.mod_eq_of_lt (show x.getD 0 0+y.getD 0 0<18446744073709551616 by omega),Nat.mod_eq_of_lt (show x.getD 0 0+y.getD 0 0+c<18446744073709551616 by omega)]
    generalize hs:x.getD 0 0+y.getD 0 0+c=s;refine⟨hx,by omega,hy,by omega,by simp,by decide,by decide,([s % 4294967296],s / 4294967296),ja (by simp [bitvec_to_nat]) (Jf (l:=[s % 4294967296]) rfl),⟨by simp;omega,qc.2 ⟨Nat.mod_lt _ (by omega),Wc⟩,by simp only;omega,?_⟩,by simp;omega⟩
    have t1:=kb x 0;have t2:=kb y 0;simp only [List.length_cons,List.length_nil,Nat.zero_add,List.take_zero,Uj,Vg,Nat.pow_zero,Nat.pow_one,Nat.mul_zero]at t1 t2 hval ⊢;omega
   | cons a r=>
    simp only [go_sem,hw,ht];refine⟨λhlt=>?_,λhge=>?_⟩
    .have g1:=Ub hx (r.length+1);have g2:=Ub hy (r.length+1);rw [Nat.mod_eq_of_lt (show x.getD (r.length+1) 0+y.getD (r.length+1) 0<18446744073709551616 by omega),Nat.mod_eq_of_lt (show x.getD (r.length+1) 0+y.getD (r.length+1) 0+c<18446744073709551616 by omega)]
     generalize hs:x.getD (r.length+1) 0+y.getD (r.length+1) 0+c=s;refine⟨hx,hy,by simp,by omega,by decide,by omega,(a::(r++[s % 4294967296]),s / 4294967296),ja (by simp [bitvec_to_nat]) (yX (l':=a::(r++[s % 4294967296])) (by simp [wc])),⟨by simp;omega,?_,by simp only;omega,?_⟩,by simp;omega⟩
     .exact Yd (a:=a::r) |>.2 ⟨ho,qc.2 ⟨Nat.mod_lt _ (by omega),Wc⟩⟩
     .have t1:=kb x (r.length+1);have t2:=kb y (r.length+1);have e:a::(r++[s % 4294967296])=(a::r)++[s % 4294967296]:=rfl;simp only [e,List.length_append,List.length_cons,List.length_nil,Nat.zero_add,ub,t1,t2];simp only [List.length_cons]at hval;rw [show val [s % 4294967296]=s % 4294967296 from by simp [val],Nat.pow_succ 4294967296 (r.length+1)]
      exact JaN hval (by rw [Nat.mod_add_div,hs])
    .have e:r.length+1=N:=by simp only [List.length_cons]at hoN;omega
     have hv:val (a::r)=val x+val y:=by
      rw [List.length_cons,e,Jg (by omega),Jg (by omega)]at hval
      exact Zab hx hy (by omega) (by omega) (by omega) hval
     refine(uQ _ (a::r)).mpr ⟨ho,by simp only [List.length_cons];omega,?_⟩
     rw [hv];exact hK
theorem zP(hΓ:Holds P Γ){f fw ft:Nat}(hw:Γ fw=.dat true Qj)(ht:Γ ft=.fresh 1 Yv)(hc:check P f=some (35,(je fw ft).strip,[.tmp 4])):Sound P f (.dat false Yp):=by
 refine Va hc VW hΓ (λargs K hcl hfi hG=>?_);match args,hG with
 | [a,b],hG=>
  obtain⟨x,rfl,hx,y,rfl,hy,hxl,hle,hK⟩:=hG;refine⟨by simp,?_⟩
  simp only [go_sem,je,hw,ht];intro h1;generalize hN:x.length=N at *
  refine Ua (λp:List Nat×Nat=>match p.1 with
    | []=>⟨mkV [(0,wsA x),(1,wsA y),(5,.one .emp),(6,.one (.lit (.int .u64 p.2))),(10,.one (.lit (.int .i64 N))),(11,.one (.lit (.int .i64 0)))],mkH []⟩
    | a::r=>⟨mkV [(0,wsA x),(1,wsA y),(5,.one (.own 28 1 1 0 (r.length+1))),(6,.one (.lit (.int .u64 p.2))),(10,.one (.lit (.int .i64 N))),(11,.one (.lit (.int .i64 (r.length+1:Nat))))],mkH [(28,⟨1,some ⟨(a::r).map wc,1,true⟩⟩)]⟩)
   (λp=>p.1.length<=N/\WL p.1/\p.2<=1/\val p.1+val (y.take p.1.length)=val (x.take p.1.length)+4294967296 ^ p.1.length*p.2) (λp=>N-p.1.length) ([],0) ?_ ?_ ?_
  .exact ja (by simp [bitvec_to_nat]) trivial
  .simp [Wc,val]
  .rintro⟨o,c⟩ ⟨hoN,ho,hc1,hval⟩;simp only at hoN ho hc1 hval;cases o with
   | nil=>
    have g1:=Ub hx 0;have g2:=Ub hy 0;obtain⟨s,e1,e2,e3,e4⟩:=WM g1 g2 hc1;simp only [go_sem,hw,ht,e1,e2];refine⟨λhlt=>?_,λhge=>?_⟩
    .refine⟨hx,by omega,hy,by omega,by simp,⟨by omega,by decide⟩,by decide,([s % 4294967296],1-s / 4294967296),ja (by simp [bitvec_to_nat,e2]) (yX (l':=[s % 4294967296]) (by simp [wc])),⟨by simp;omega,qc.2 ⟨Nat.mod_lt _ (by omega),Wc⟩,e4,?_⟩,by simp;omega⟩
     have t1:=kb x 0;have t2:=kb y 0;simp only [List.length_cons,List.length_nil,Nat.zero_add,List.take_zero,Uj,Vg,Nat.pow_zero,Nat.pow_one,Nat.mul_zero]at t1 t2 hval ⊢;omega
    .have hx0:x=[]:=List.eq_nil_of_length_eq_zero (by omega)
     have:val x-val y=val []:=by rw [hx0];simp [val]
     rw [<-this];exact hK
   | cons a r=>
    have g1:=Ub hx (r.length+1);have g2:=Ub hy (r.length+1);obtain⟨s,e1,e2,e3,e4⟩:=WM g1 g2 hc1;simp only [go_sem,hw,ht,e1,e2];refine⟨λhlt=>?_,λhge=>?_⟩
    .refine⟨hx,hy,by simp,by omega,⟨by omega,by decide⟩,by omega,(a::(r++[s % 4294967296]),1-s / 4294967296),ja (by simp [bitvec_to_nat,e2]) (yX (l':=a::(r++[s % 4294967296])) (by simp [wc])),⟨by simp;omega,?_,e4,?_⟩,by simp;omega⟩
     .exact Yd (a:=a::r) |>.2 ⟨ho,qc.2 ⟨Nat.mod_lt _ (by omega),Wc⟩⟩
     .have e:a::(r++[s % 4294967296])=(a::r)++[s % 4294967296]:=rfl;simp only [List.length_cons]at hval;simp only [e,List.length_append,List.length_cons,List.length_nil,Nat.zero_add,kb x (r.length+1),kb y (r.length+1),ub,Vg (s % 4294967296),Uj,Nat.mul_zero,Nat.add_zero,Nat.pow_succ 4294967296 (r.length+1)];exact Vz hval e3
    .have e:(a::r).length=N:=by simp only [List.length_cons]at hoN ⊢;omega
     have hv:=QA ho hx (by omega) hle hval
     refine(uQ _ (a::r)).mpr ⟨ho,by omega,?_⟩
     rw [hv];exact hK
theorem yY(hΓ:Holds P Γ){f fw:Nat}(hw:Γ fw=.dat true Qj)(hc:check P f=some (30,(xd fw).strip,[.tmp 4])):Sound P f (.dat true Zt):=by
 refine Va hc Jan hΓ (λargs K hcl hfi hG=>?_);match args,hG with
 | [a,b],hG=>
  obtain⟨x,rfl,hx,y,rfl,hy,hK⟩:=hG;refine⟨by simp,?_⟩
  simp only [go_sem,xd,hw];intro h1 h2;refine⟨⟨by omega,by omega⟩,?_⟩
  refine Ua (λn:Nat=>⟨mkV [(0,wsA x),(1,wsA y),(5,.one (.lit (.int .i64 ((n:Int)-1))))],mkH []⟩) (λn=>n<=max x.length y.length/\val (x.drop n)=val (y.drop n)) id (max x.length y.length) ?_ ?_ ?_
  .exact ja (by simp [bitvec_to_nat]) trivial
  .refine⟨Nat.le_refl _,?_⟩;rw [List.drop_of_length_le (by omega),List.drop_of_length_le (by omega)]
  .rintro n ⟨hn,hd⟩;simp only [go_sem,hw];refine⟨λh=>?_,λh=>?_⟩
   .have e:((n:Int)-1).toNat=n-1:=by omega
    have e1:=YA x (n-1);have e2:=YA y (n-1);have e3:n-1+1=n:=by omega
    rw [e3]at e1 e2;rw [e];refine⟨hx,h,hy,h,λhe=>⟨by omega,n-1,ja (by simp [bitvec_to_nat];omega) trivial,⟨by omega,by rw [e1,e2,hd,he]⟩,by simp only [id];omega⟩,λhe=>⟨hx,h,hy,h,λhlt=>?_,λhge=>?_⟩⟩
    .rw [wL (xaO hx (by rw [e3];exact hd) hlt)]at hK;exact hK
    .rw [W0 (xaO (m:=n-1) hy (by rw [e3];exact hd.symm) (by omega))]at hK;exact hK
   .have:n=0:=by omega
    subst this;have:val x=val y:=hd;rw [this,JaF]at hK;exact hK
end Go.Abs
end
section
namespace Go.Abs
open Go.Num
variable {P:Program} {Γ:Nat->Spec}
def Xf:AC:=(.o [.m 2 (.c (.one .emp))] [0] (.f (.block 0 (.loop (.f (.o [.M 3 0,.Z 4 3,.I 5 .gtr 4 0,.M 6 5,.V 7 6 true 0,.V 8 6 true 0,.w 9 6 true (.len (.t 8)),.w 10 6 true (.bin .sub (.t 9) (.i 1)),.w 11 6 true (.idx 1 (.t 7) (.t 10)),.U 12 6 true 1 false 11,.w 13 6 true (.bin .eql (.t 12) (.c (.one (.lit (.int .u32 0))))),.P 14 6 13] [0,14] (.cond (.t 14) .skip (.exit 0))) [0] (.block 1 (.p [.M 15 0,.M 16 0,.Z 17 16,.I 18 .sub 17 1,.u 19 (.sl 1 (.t 15) none (some (.t 18))),.M 0 19]))))) [0] (.seq (.p [.M 20 0,.M 2 20]) .ret)))
def Ze(f0 f1:Nat):AC:=(.o [.m 2 (.c (.one .emp))] [0] (.f (.o [.M 4 0,.Z 5 4,.N 6 0] [0,5,6] (.block 0 (.loop (.o [.B 7 .lss 6 5] [0,5,6,7] (.f (.cond (.t 7) .skip (.exit 0)) [0,5,6] (.f (.block 1 (.o [.M 8 6,.M 3 8] [0,3,5,6] (.p [.M 9 0,.M 10 3,.M 11 0,.M 12 3,.D 13 f0 11 12,.u 14 (.bin .shr (.t 13) (.c (.one (.lit (.int .u64 1))))),.M 15 0,.M 16 3,.I 17 .add 16 1,.D 18 f0 15 17,.u 19 (.bin .shl (.t 18) (.c (.one (.lit (.int .u64 31))))),.B 20 .or 14 19,.u 21 (.conv .u32 (.t 20)),.J 22 1 9 10,.S 1 22 21]))) [0,5,6] (.p [.I 23 .add 6 1,.M 6 23]))))))) [0] (.seq (.p [.M 24 0,.H 25 f1 24,.M 2 25]) .ret)))
def Jd(f0:Nat):AC:=(.o [.m 4 (.c (.one (.lit (.int .u64 0))))] [0,1,4] (.o [.M 7 0,.Z 8 7,.N 9 0] [0,1,4,8,9] (.block 0 (.loop (.o [.B 10 .lss 9 8] [0,1,4,8,9,10] (.f (.cond (.t 10) .skip (.exit 0)) [0,1,4,8,9] (.f (.block 1 (.o [.M 11 9,.M 5 11] [0,1,4,5,8,9] (.o [.M 12 0,.M 13 5,.D 14 f0 12 13,.u 15 (.bin .add (.c (.one (.lit (.int .u64 4294967296)))) (.t 14)),.M 16 1,.M 17 5,.D 18 f0 16 17,.B 19 .sub 15 18,.M 20 4,.B 21 .sub 19 20,.M 6 21] [0,1,5,6,8,9] (.p [.M 22 0,.M 23 5,.M 24 6,.u 25 (.conv .u32 (.t 24)),.M 26 6,.u 27 (.bin .shr (.t 26) (.c (.one (.lit (.int .u64 32))))),.u 28 (.bin .sub (.c (.one (.lit (.int .u64 1)))) (.t 27)),.J 29 1 22 23,.S 1 29 25,.M 4 28])))) [0,1,4,8,9] (.p [.I 30 .add 9 1,.M 9 30]))))))))
theorem qay(hΓ:Holds P Γ){f:Nat}(hc:check P f=some (21,Xf.strip,[.tmp 2])):Sound P f (.own YP):=by
 refine vq hc hΓ (λd args h K hG=>?_);unfold YP at hG;split at hG
 case h_2=>exact hG.elim
 rename_i r ver len;obtain⟨l,post,rfl,hr,hl,hll,hK⟩:=hG;refine⟨[r],[⟨(l++post).map wc,1,true⟩],[.one (.own 1048576 ver 1 0 l.length)],by simp,rfl,?_,?_,?_,λhfi=>⟨by simp,?_⟩⟩
 .intro i r' b h1 h2;cases i with
  | zero=>simp only [List.getElem?_cons_zero,zOI]at h1 h2;subst h1 h2;exact⟨by rw [hr],rfl,of_eq_true (yc _)⟩
  | succ i=>simp at h1
 .simp [exA,exC,exB,nameOf,pinA,wsA,ws]
 .intro a ha;simp only [List.mem_cons,List.not_mem_nil,or_false]at ha;subst ha;simp [pasA,pasC,pasB,nameOf,pinA]
 simp only [go_sem,Xf,hr];refine Ua (λn:Nat=>⟨mkV [(0,.one (.own 1048576 ver 1 0 n))],mkH [(1048576,⟨ver,some ⟨(l++post).map wc,1,true⟩⟩)]⟩)
  (λn=>n<=l.length/\val (l.take n)=val l) id l.length ?_ ?_ ?_
 .exact ja (by simp [bitvec_to_nat]) (Jf (by simp))
 .simp
 .rintro n ⟨hn,ht⟩;simp only [go_sem,hr];rw [show((n:Int)-1).toNat=n-1 by omega]
  refine λ_=>⟨λh=>λ_=>⟨by omega,by omega,by simp;omega,?_,?_⟩,λh=>?_⟩
  .rw [Xao (by omega)]
   refine λh0 _=>⟨by omega,by omega,by omega,n-1,ja (by simp [bitvec_to_nat]) (Jf rfl),⟨by omega,?_⟩,by simp only [id];omega⟩
   have:=kb l (n-1);rw [show n-1+1=n by omega,h0,Nat.mul_zero,Nat.add_zero]at this
   rw [<-this];exact ht
  .rw [Xao (by omega)]
   intro h0;have:=jd (ko hl n) (yD h hn h0);rw [ht]at this;have h2:=hK (l.drop n++post);rw [this,List.length_take,Nat.min_eq_left hn,<-List.append_assoc,List.take_append_drop]at h2;exact h2
  .have h1:n=0:=by omega
   subst h1;have:val l=0:=by rw [<-ht];simp [val]
   have h2:=hK (l++post);rw [this,Zb]at h2;exact h2
theorem xY(hΓ:Holds P Γ){f fw fc:Nat}(hw:Γ fw=.dat true Qj)(hc' : Γ fc=.own YP)(hc:check P f=some (26,(Ze fw fc).strip,[.tmp 2])):Sound P f (.own xj):=by
 refine vq hc hΓ (λd args h K hG=>?_);unfold xj at hG;split at hG
 case h_2=>exact hG.elim
 rename_i r ver len;obtain⟨l,post,rfl,hr,hl,hll,hK⟩:=hG;refine⟨[r],[⟨(l++post).map wc,1,true⟩],[.one (.own 1048576 ver 1 0 l.length)],by simp,rfl,?_,?_,?_,λhfi=>⟨by simp,?_⟩⟩
 .intro i r' b h1 h2;cases i with
  | zero=>simp only [List.getElem?_cons_zero,zOI]at h1 h2;subst h1 h2;exact⟨by rw [hr],rfl,of_eq_true (yc _)⟩
  | succ i=>simp at h1
 .simp [exA,exC,exB,nameOf,pinA,wsA,ws]
 .intro a ha;simp only [List.mem_cons,List.not_mem_nil,or_false]at ha;subst ha;simp [pasA,pasC,pasB,nameOf,pinA]
 simp only [go_sem,Ze,hr];intro h1;refine Ua (λo:List Nat=>⟨mkV [(0,.one (.own 1048576 ver 1 0 l.length)),(5,.one (.lit (.int .i64 l.length))),(6,.one (.lit (.int .i64 o.length)))],mkH [(1048576,⟨ver,some ⟨(o++(l.drop o.length++post)).map wc,1,true⟩⟩)]⟩)
  (λo=>o.length<=l.length/\WL o/\val o=val l / 2 % 4294967296 ^ o.length) (λo=>l.length-o.length) [] ?_ ?_ ?_
 .exact ja (by simp [bitvec_to_nat]) (Jf (by simp))
 .simp [Wc,val];omega
 .rintro o ⟨hoN,ho,hval⟩;have hw2:=xaX ho hl;simp only [go_sem,hr,hw,hc',waz hoN,X2 hoN,Nat.le_add_right,Xaf,JZ];refine⟨λhlt=>⟨hw2,by decide,by omega,hw2,by decide,⟨rfl,by have:=Ub hl o.length;omega,by omega⟩,hlt,by omega,by omega,?_⟩,λhge=>?_⟩
  .have hd:=jaN (Ub hl o.length) (Ub hl (o.length+1));rw [qV hl (by omega),Nat.pow_one]at hd
   rw [hd,vaw _ hlt];generalize hv:val l / 2 / 4294967296 ^ o.length % 4294967296=v;have hvB:v<4294967296:=by rw [<-hv];exact Nat.mod_lt _ (by omega)
   refine⟨o++[v],ja (by simp [bitvec_to_nat]) (Jf rfl),⟨by simp;omega,Yd.2 ⟨ho,qc.2 ⟨hvB,Wc⟩⟩,?_⟩,by simp;omega⟩
   rw [ub,List.length_append,List.length_singleton,Qy,hv,<-hval];simp [val]
  .have e:o.length=l.length:=by omega
   have hlt:val l / 2<4294967296 ^ l.length:=Nat.lt_of_le_of_lt (Nat.div_le_self _ _) (Xh hl);rw [e,Nat.mod_eq_of_lt hlt]at hval;rw [List.drop_of_length_le (by omega),List.nil_append,<-e]
   refine⟨o,post,rfl,by simp [Qb],ho,by omega,λpost'=>?_⟩
   simp only [go_sem];rw [hval];exact hK post'
theorem zan(hΓ:Holds P Γ){f fw:Nat}(hw:Γ fw=.dat true Qj)(hc:check P f=some (31,(Jd fw).strip,[])):Sound P f (.own yp):=by
 refine vq hc hΓ (λd args h K hG=>?_);unfold yp at hG;split at hG
 case h_3=>exact hG.elim
 case h_2=>
  rename_i r ver len b _;obtain⟨y,rfl,hy,l,post,rfl,hr,hl,hll,hle,hK⟩:=hG;refine⟨[r],[⟨(l++post).map wc,1,true⟩],[.one (.own 1048576 ver 1 0 l.length),wsA y],by simp,rfl,?_,?_,?_,λhfi=>⟨by simp,?_⟩⟩
  .intro i r' b h1 h2;cases i with
   | zero=>simp only [List.getElem?_cons_zero,zOI]at h1 h2;subst h1 h2;exact⟨by rw [hr],rfl,of_eq_true (yc _)⟩
   | succ i=>simp at h1
  .simp [exA,exC,exB,nameOf,pinA,wsA,ws]
  .intro a ha;simp only [List.mem_cons,List.not_mem_nil,or_false]at ha;rcases ha with rfl | rfl
   .simp [pasA,pasC,pasB,nameOf,pinA]
   .exact .slice _ (of_eq_true (yc _))
  simp only [go_sem,Jd,hr];intro h1;refine Ua (λp:List Nat×Nat=>⟨mkV [(0,.one (.own 1048576 ver 1 0 l.length)),(1,wsA y),(4,.one (.lit (.int .u64 p.2))),(8,.one (.lit (.int .i64 l.length))),(9,.one (.lit (.int .i64 p.1.length)))],
    mkH [(1048576,⟨ver,some ⟨(p.1++(l.drop p.1.length++post)).map wc,1,true⟩⟩)]⟩)
   (λp=>p.1.length<=l.length/\WL p.1/\p.2<=1/\val p.1+val (y.take p.1.length)=val (l.take p.1.length)+4294967296 ^ p.1.length*p.2) (λp=>l.length-p.1.length) ([],0) ?_ ?_ ?_
  .exact ja (by simp [bitvec_to_nat]) (Jf (by simp))
  .simp [Wc,val]
  .rintro⟨o,c⟩ ⟨hoN,ho,hc1,hval⟩;simp only at hoN ho hc1 hval;have hw2:=xaX ho hl;simp only [go_sem,hr,hw,waz hoN,X2 hoN,Nat.le_add_right,Xaf,JZ];refine⟨λhlt=>?_,λhge=>?_⟩
   .obtain⟨s,e1,e2,e3,e4⟩:=WM (Ub hl o.length) (Ub hy o.length) hc1;simp only [e1,e2,kas,vaw _ hlt];refine⟨hw2,hy,⟨by omega,by decide,by decide⟩,hlt,by omega,by omega,(o++[s % 4294967296],1-s / 4294967296),ja (by simp [bitvec_to_nat,e2]) (by first | exact yX rfl | exact⟨Uau rfl,jb rfl,trivial⟩),⟨by simp;omega,Yd.2 ⟨ho,qc.2 ⟨Nat.mod_lt _ (by omega),Wc⟩⟩,e4,?_⟩,by simp;omega⟩
    simp only [List.length_append,List.length_cons,List.length_nil,Nat.zero_add,kb,ub,Vg,Uj,Nat.mul_zero,Nat.add_zero,Nat.pow_succ];exact Vz hval e3
   .have e:o.length=l.length:=by omega
    have hv:=QA ho hl e hle hval;have hd:=Ys ho;rw [hv,e]at hd;rw [hd]at hK;rw [List.drop_of_length_le (by omega),List.nil_append]
    exact hK
 case h_1=>
  rename_i r ver len r2 ver2 len2;obtain⟨l,post,y,posty,hne,rfl,hr,hl,hll,rfl,hr2,hy,hle,hK⟩:=hG;refine⟨[r,r2],[⟨(l++post).map wc,1,true⟩,⟨(y++posty).map wc,1,true⟩],[.one (.own 1048576 ver 1 0 l.length),.one (.own 1048577 ver2 1 0 y.length)],by simp [hne],rfl,?_,?_,?_,λhfi=>⟨by simp,?_⟩⟩
  .intro i r' b h1 h2;cases i with
   | zero=>simp only [List.getElem?_cons_zero,zOI]at h1 h2;subst h1 h2;exact⟨by rw [hr],rfl,of_eq_true (yc _)⟩
   | succ i=>
    cases i with
    | zero=>simp only [List.getElem?_cons_zero,List.getElem?_cons_succ,zOI]at h1 h2;subst h1 h2;exact⟨by rw [hr2],rfl,of_eq_true (yc _)⟩
    | succ i=>simp at h1
  .simp [exA,exC,exB,nameOf,pinA,wsA,ws]
  .intro a ha;simp only [List.mem_cons,List.not_mem_nil,or_false]at ha;rcases ha with rfl | rfl
   .simp [pasA,pasC,pasB,nameOf,pinA]
   .simp [pasA,pasC,pasB,nameOf,pinA]
  simp only [go_sem,Jd,hr,hr2];intro h1;refine Ua (λp:List Nat×Nat=>⟨mkV [(0,.one (.own 1048576 ver 1 0 l.length)),(1,.one (.own 1048577 ver2 1 0 y.length)),(4,.one (.lit (.int .u64 p.2))),(8,.one (.lit (.int .i64 l.length))),(9,.one (.lit (.int .i64 p.1.length)))],
    mkH [(1048576,⟨ver,some ⟨(p.1++(l.drop p.1.length++post)).map wc,1,true⟩⟩),(1048577,⟨ver2,some ⟨(y++posty).map wc,1,true⟩⟩)]⟩)
   (λp=>p.1.length<=l.length/\WL p.1/\p.2<=1/\val p.1+val (y.take p.1.length)=val (l.take p.1.length)+4294967296 ^ p.1.length*p.2) (λp=>l.length-p.1.length) ([],0) ?_ ?_ ?_
  .exact ja (by simp [bitvec_to_nat]) ⟨jb (by simp),jb rfl,trivial⟩
  .simp [Wc,val]
  .rintro⟨o,c⟩ ⟨hoN,ho,hc1,hval⟩;simp only at hoN ho hc1 hval;have hw2:=xaX ho hl;simp only [go_sem,hr,hr2,hw,waz hoN,X2 hoN,Nat.le_add_right,Xaf,JZ,List.length_append,List.take_left];refine⟨λhlt=>?_,λhge=>?_⟩
   .obtain⟨s,e1,e2,e3,e4⟩:=WM (Ub hl o.length) (Ub hy o.length) hc1;simp only [e1,e2,kas,vaw _ hlt];refine⟨hw2,hy,⟨by omega,by decide,by decide⟩,hlt,by omega,by omega,(o++[s % 4294967296],1-s / 4294967296),ja (by simp [bitvec_to_nat,e2]) (by first | exact yX rfl | exact⟨Uau rfl,jb rfl,trivial⟩),⟨by simp;omega,Yd.2 ⟨ho,qc.2 ⟨Nat.mod_lt _ (by omega),Wc⟩⟩,e4,?_⟩,by simp;omega⟩
    simp only [List.length_append,List.length_cons,List.length_nil,Nat.zero_add,kb,ub,Vg,Uj,Nat.mul_zero,Nat.add_zero,Nat.pow_succ];exact Vz hval e3
   .have e:o.length=l.length:=by omega
    have hv:=QA ho hl e hle hval;have hd:=Ys ho;rw [hv,e]at hd;rw [hd]at hK;rw [List.drop_of_length_le (by omega),List.nil_append]
    exact hK
end Go.Abs
end
section
namespace Go.Abs
open Go.Num
variable {P:Program} {Γ:Nat->Spec}
def uf(f0 f1 f2 f3 f4 f5:Nat):AC:=(.o [.m 4 (.c (.one .emp))] [0,1] (.o [.M 6 0,.u 7 (.callf f0 [(.t 6)]),.M 8 1,.u 9 (.callf f0 [(.t 8)]),.M 0 7,.M 1 9] [0,1] (.f (.o [.M 10 0,.Z 11 10,.I 12 .eql 11 0] [0,1,12] (.cond (.t 12) (.seq (.p [.M 13 1,.M 4 13]) .ret) .skip)) [0,1] (.f (.o [.M 14 1,.Z 15 14,.I 16 .eql 15 0] [0,1,16] (.cond (.t 16) (.seq (.p [.M 17 0,.M 4 17]) .ret) .skip)) [0,1] (.o [.N 5 0] [0,1,5] (.f (.block 0 (.loop (.f (.o [.M 18 0,.u 19 (.idx 1 (.t 18) (.i 0)),.F 20 1 19,.u 21 (.bin .and (.t 20) (.c (.one (.lit (.int .u32 1))))),.u 22 (.bin .eql (.t 21) (.c (.one (.lit (.int .u32 0))))),.M 23 22,.V 24 23 true 1,.w 25 23 true (.idx 1 (.t 24) (.i 0)),.U 26 23 true 1 false 25,.w 27 23 true (.bin .and (.t 26) (.c (.one (.lit (.int .u32 1))))),.w 28 23 true (.bin .eql (.t 27) (.c (.one (.lit (.int .u32 0))))),.P 29 23 28] [0,1,5,29] (.cond (.t 29) .skip (.exit 0))) [0,1,5] (.block 1 (.o [.M 30 0,.H 31 f1 30,.M 32 1,.H 33 f1 32,.M 0 31,.M 1 33] [0,1,5] (.p [.M 34 5,.I 35 .add 34 1,.M 5 35])))))) [0,1,5] (.f (.block 2 (.loop (.f (.o [.M 36 0,.Z 37 36,.I 38 .gtr 37 0] [0,1,5,38] (.cond (.t 38) .skip (.exit 2))) [0,1,5] (.block 3 (.f (.block 4 (.loop (.f (.o [.M 39 0,.u 40 (.idx 1 (.t 39) (.i 0)),.F 41 1 40,.u 42 (.bin .and (.t 41) (.c (.one (.lit (.int .u32 1))))),.u 43 (.bin .eql (.t 42) (.c (.one (.lit (.int .u32 0)))))] [0,1,5,43] (.cond (.t 43) .skip (.exit 4))) [0,1,5] (.block 5 (.p [.M 44 0,.H 45 f1 44,.M 0 45]))))) [0,1,5] (.f (.block 6 (.loop (.f (.o [.M 46 1,.u 47 (.idx 1 (.t 46) (.i 0)),.F 48 1 47,.u 49 (.bin .and (.t 48) (.c (.one (.lit (.int .u32 1))))),.u 50 (.bin .eql (.t 49) (.c (.one (.lit (.int .u32 0)))))] [0,1,5,50] (.cond (.t 50) .skip (.exit 6))) [0,1,5] (.block 7 (.p [.M 51 1,.H 52 f1 51,.M 1 52]))))) [0,1,5] (.f (.o [.M 53 0,.M 54 1,.D 55 f2 53 54,.I 56 .lss 55 0] [0,1,5,56] (.cond (.t 56) (.p [.M 57 1,.M 58 0,.M 0 57,.M 1 58]) .skip)) [0,1,5] (.o [.M 59 0,.M 60 1,.D 61 f3 59 60] [0,1,5] (.p [.M 62 0,.H 63 f4 62,.M 0 63]))))))))) [1,5] (.f (.o [.M 64 5,.N 65 0] [1,64,65] (.fz [1] (.block 8 (.loop (.o [.B 66 .lss 65 64] [1,64,65,66] (.f (.cond (.t 66) .skip (.exit 8)) [1,64,65] (.f (.block 9 (.p [.M 67 1,.M 68 1,.D 69 f5 67 68,.M 1 69])) [1,64,65] (.p [.I 70 .add 65 1,.M 65 70])))))))) [1] (.seq (.p [.M 71 1,.M 4 71]) .ret)))))))))
theorem V5(hΓ:Holds P Γ){f ft fh fc fk fu fp:Nat}(ht:Γ ft=.fresh 1 Yv)(hh:Γ fh=.own xj)(hcm:Γ fc=.dat true Zt)(hk:Γ fk=.own yp)(hu:Γ fu=.own YP)(hp:Γ fp=.dat false vp)
    (hc:check P f=some (72,(uf ft fh fc fk fu fp).strip,[.tmp 4])):Sound P f (.dat false zy):=by
  refine Va hc Wak hΓ (λargs K hcl hfi hG=>?_);match args,hG with
  | [a,b],hG=>
    obtain⟨x,rfl,hx,y,rfl,hy,hxl,hyl,hK⟩:=hG;refine⟨by simp,?_⟩
    simp only [go_sem,uf,ht,hh,hcm,hk,hu,hp];have hxv:=yi (Xh hx);have hyv:=yi (Xh hy);refine⟨hx,by omega,hy,by omega,λ_=>⟨λh0=>?_,λh0 _=>⟨λh1=>?_,λh1=>?_⟩⟩⟩
    . rw [zo.1 h0,Nat.gcd_zero_left]at hK;exact hK
    . rw [zo.1 h1,Nat.gcd_zero_right]at hK;exact hK
    rw [zo]at h0 h1;refine Ua (λp:(Nat×List Nat)×(Nat×List Nat)×Nat=>⟨mkV [(0,.one (.own 7 1 1 0 (digs p.1.1).length)),(1,.one (.own 9 1 1 0 (digs p.2.1.1).length)),(5,.one (.lit (.int .i64 p.2.2)))],mkH [(7,⟨1,some ⟨(digs p.1.1++p.1.2).map wc,1,true⟩⟩),(9,⟨1,some ⟨(digs p.2.1.1++p.2.1.2).map wc,1,true⟩⟩)]⟩)
      (λp=>p.1.1≠0/\p.2.1.1≠0/\p.1.1<=val x/\p.2.1.1<=val y/\p.1.1*2 ^ p.2.2<=val x/\Nat.gcd p.1.1 p.2.1.1*2 ^ p.2.2=Nat.gcd (val x) (val y)) (λp=>p.1.1) ((val x,[]),(val y,[]),0) ?_ ?_ ?_
    . exact ja (by simp [bitvec_to_nat]) ⟨jb (by simp),jb (by simp),trivial⟩
    . exact⟨h0,h1,Nat.le_refl _,Nat.le_refl _,by simp,by simp⟩
    . rintro⟨⟨a,pa⟩,⟨b,pb⟩,k⟩ ⟨ha,hb,hax,hby,hak,hg⟩
      simp only at ha hb hax hby hak hg;have hkb:k<32*x.length:=uaW (n:=val x) (Nat.le_trans (Nat.le_mul_of_pos_left _ (by omega)) hak) (Xh hx)
      have hal:=Nat.le_trans (wa hax) hxv;have hbl:=Nat.le_trans (wa hby) hyv;have hap:=ug ha;have hbp:=ug hb;simp only [go_sem,hh,hcm,hk,hu,hp,Ji,Un ha,Un hb,hap,hbp,List.length_append];refine share4 (by omega) (by omega) (Nat.mod_lt _ (by omega)) (by omega) (by omega) (Nat.mod_lt _ (by omega)) (λhae hbe=>?_) (λhodd=>?_)
      . simp only [xj]
        refine⟨digs a,pa,rfl,by simp [Qb],Wa _,by omega,λpa'=>?_⟩
        refine⟨digs b,pb,rfl,by simp [upd,Qb],Wa _,by omega,λpb'=>?_⟩
        simp only [go_sem,Ya];refine⟨by omega,((a / 2,pa'),(b / 2,pb'),k+1),ja (by simp [bitvec_to_nat]) ⟨jb rfl,jb rfl,trivial⟩,⟨by simp only;omega,by simp only;omega,by simp only;omega,by simp only;omega,?_,Za9 (by omega) (by omega) hg⟩,by simp only;omega⟩
        simp only;refine Nat.le_trans ?_ hak;rw [Nat.pow_succ,Nat.mul_comm (2 ^ k) 2,<-Nat.mul_assoc];exact Nat.mul_le_mul_right _ (by omega)
      . refine Ua (λp : Bool × (Nat × List Nat) × (Nat × List Nat) => match p.1 with
            | false=>⟨mkV [(0,.one (.own 7 1 1 0 (digs p.2.1.1).length)),(1,.one (.own 9 1 1 0 (digs p.2.2.1).length)),(5,.one (.lit (.int .i64 k)))],mkH [(7,⟨1,some ⟨(digs p.2.1.1++p.2.1.2).map wc,1,true⟩⟩),(9,⟨1,some ⟨(digs p.2.2.1++p.2.2.2).map wc,1,true⟩⟩)]⟩
            | true=>⟨mkV [(0,.one (.own 9 1 1 0 (digs p.2.1.1).length)),(1,.one (.own 7 1 1 0 (digs p.2.2.1).length)),(5,.one (.lit (.int .i64 k)))],mkH [(9,⟨1,some ⟨(digs p.2.1.1++p.2.1.2).map wc,1,true⟩⟩),(7,⟨1,some ⟨(digs p.2.2.1++p.2.2.2).map wc,1,true⟩⟩)]⟩)
          (λp=>p.2.2.1≠0/\(p.2.1.1 % 2≠0∨p.2.2.1 % 2≠0)/\(digs p.2.1.1).length<=17179869184/\(digs p.2.2.1).length<=17179869184/\Nat.gcd p.2.1.1 p.2.2.1*2 ^ k=Nat.gcd (val x) (val y)) (λp=>p.2.1.1+p.2.2.1) (false,(a,pa),(b,pb)) ?_ ?_ ?_
        . exact ja (by simp [bitvec_to_nat]) ⟨jb rfl,jb rfl,trivial⟩
        . exact⟨hb,by simp only;omega,by simp only;omega,by simp only;omega,hg⟩
        clear hax hby hak hal hbl hap hbp hg ha hb hodd;rintro⟨sw,⟨a,pa⟩,⟨b,pb⟩⟩ ⟨hb,hodd,hal,hbl,hg⟩;simp only at hb hodd hal hbl hg;cases sw with
        | false=>
          simp only [go_sem,hh,hcm,hk,hu,hp,Ji,Ya,List.length_append,Nat.le_add_right,List.take_left];refine λ_=>⟨λhap=>?_,λhap=>?_⟩
          . have ha:a≠0:=λe=>by rw [e,Zb]at hap;simp at hap
            refine Ua (λp:Nat×List Nat=>⟨mkV [(0,.one (.own 7 1 1 0 (digs p.1).length)),(1,.one (.own 9 1 1 0 (digs b).length)),(5,.one (.lit (.int .i64 k)))],mkH [(7,⟨1,some ⟨(digs p.1++p.2).map wc,1,true⟩⟩),(9,⟨1,some ⟨(digs b++pb).map wc,1,true⟩⟩)]⟩)
              (λp=>p.1≠0/\p.1<=a/\(p.1 % 2≠0∨b % 2≠0)/\Nat.gcd p.1 b*2 ^ k=Nat.gcd (val x) (val y)) (λp=>p.1) (a,pa) ?_ ?_ ?_
            . exact ja (by simp [bitvec_to_nat]) ⟨jb rfl,jb rfl,trivial⟩
            . exact⟨ha,Nat.le_refl _,hodd,hg⟩
            . rintro⟨a',pa⟩ ⟨ha',haa,hodd,hg⟩
              simp only at ha' haa hodd hg;have hap:=ug ha';simp only [go_sem,hh,hcm,hk,hu,hp,Ji,Ya,List.length_append,Nat.le_add_right,List.take_left,Un ha',hap];refine⟨by omega,by omega,Nat.mod_lt _ (by omega),λhe=>?_,λhao=>?_⟩
              . simp only [xj]
                refine⟨digs a',pa,rfl,by simp [Qb],Wa _,by have:=wa haa;omega,λpa'=>?_⟩
                simp only [go_sem,hh,hcm,hk,hu,hp,Ji,Ya,List.length_append,Nat.le_add_right,List.take_left];refine⟨(a' / 2,pa'),ja (by simp [bitvec_to_nat]) ⟨jb rfl,jb rfl,trivial⟩,⟨by simp only;omega,by simp only;omega,.inr (by omega),?_⟩,by simp only;omega⟩
                rw [<-hg];simp only;rw [qaC (by omega) (by omega)]
              . refine Ua (λp:Nat×List Nat=>⟨mkV [(0,.one (.own 7 1 1 0 (digs a').length)),(1,.one (.own 9 1 1 0 (digs p.1).length)),(5,.one (.lit (.int .i64 k)))],mkH [(7,⟨1,some ⟨(digs a'++pa).map wc,1,true⟩⟩),(9,⟨1,some ⟨(digs p.1++p.2).map wc,1,true⟩⟩)]⟩)
                  (λp=>p.1≠0/\p.1<=b/\Nat.gcd a' p.1*2 ^ k=Nat.gcd (val x) (val y)) (λp=>p.1) (b,pb) ?_ ?_ ?_
                . exact ja (by simp [bitvec_to_nat]) ⟨jb rfl,jb rfl,trivial⟩
                . exact⟨hb,Nat.le_refl _,hg⟩
                . rintro⟨b',pb⟩ ⟨hb',hbb,hg⟩
                  simp only at hb' hbb hg;have hbp:=ug hb';simp only [go_sem,hh,hcm,hk,hu,hp,Ji,Ya,List.length_append,Nat.le_add_right,List.take_left,Un hb',hbp];refine⟨by omega,by omega,Nat.mod_lt _ (by omega),λhe=>?_,λhbo=>?_⟩
                  . simp only [xj]
                    refine⟨digs b',pb,rfl,by simp [Qb],Wa _,by have:=wa hbb;omega,λpb'=>?_⟩
                    simp only [go_sem,hh,hcm,hk,hu,hp,Ji,Ya,List.length_append,Nat.le_add_right,List.take_left];refine⟨(b' / 2,pb'),ja (by simp [bitvec_to_nat]) ⟨jb rfl,jb rfl,trivial⟩,⟨by simp only;omega,by simp only;omega,?_⟩,by simp only;omega⟩
                    rw [<-hg];simp only;rw [zaO (by omega) (by omega)]
                  . have hlb:=wa hbb
                    have hla:=wa haa;refine⟨Wa _,Wa _,λhlt=>?_,λhge=>?_⟩
                    . have hlt:=VA.1 hlt
                      simp only [yp];have e:val (dig (digs b').length (val (digs b')-val (digs a')))=b' - a':=by
                        rw [Qh,Ya,Ya,Nat.mod_eq_of_lt];exact Nat.lt_of_le_of_lt (Nat.sub_le _ _) (Yg b')
                      refine⟨digs b',pb,digs a',pa,by decide,rfl,by simp [Qb],Wa _,by omega,rfl,by simp [Qb],Wa _,by rw [Ya,Ya];omega,?_⟩
                      refine⟨dig (digs b').length (val (digs b')-val (digs a')),pb,(ka _ _).symm,by simp [upd,Qb],Uh _ _,by omega,λpost'=>?_⟩
                      simp only [go_sem,e];have hle:=Nat.le_trans (wa (Nat.sub_le b' a')) (wa hbb);refine⟨(true,(b' - a',post'),(a',pa)),ja (by simp [bitvec_to_nat]) ⟨jb rfl,jb rfl,trivial⟩,⟨ha',.inr (by simp only;omega),by simp only;omega,by simp only;omega,?_⟩,by simp only;omega⟩
                      simp only;rw [QM (by omega),Nat.gcd_comm];exact hg
                    . have hge:=mt VA.2 hge
                      simp only [yp];have e:val (dig (digs a').length (val (digs a')-val (digs b')))=a' - b':=by
                        rw [Qh,Ya,Ya,Nat.mod_eq_of_lt];exact Nat.lt_of_le_of_lt (Nat.sub_le _ _) (Yg a')
                      refine⟨digs a',pa,digs b',pb,by decide,rfl,by simp [Qb],Wa _,by omega,rfl,by simp [Qb],Wa _,by rw [Ya,Ya];omega,?_⟩
                      refine⟨dig (digs a').length (val (digs a')-val (digs b')),pa,(ka _ _).symm,by simp [upd,Qb],Uh _ _,by omega,λpost'=>?_⟩
                      simp only [go_sem,e];have hle:=Nat.le_trans (wa (Nat.sub_le a' b')) (wa haa);refine⟨(false,(a' - b',post'),(b',pb)),ja (by simp [bitvec_to_nat]) ⟨jb rfl,jb rfl,trivial⟩,⟨hb',.inr (by simp only;omega),by simp only;omega,by simp only;omega,?_⟩,by simp only;omega⟩
                      simp only;rw [QM (by omega)];exact hg
          . have ha:a=0:=zo.1 (by omega)
            rw [ha,Nat.gcd_zero_left]at hg;refine Ua (λj:Nat=>⟨mkV [(1,.one (ws (digs (b*2 ^ j)))),(64,.one (.lit (.int .i64 k))),(65,.one (.lit (.int .i64 j)))],mkH []⟩) (λj=>j<=k) (λj=>k-j) 0 ?_ ?_ ?_
            . exact ja (by simp [bitvec_to_nat]) trivial
            . exact Nat.zero_le _
            . rintro j hj
              simp only [go_sem,hh,hcm,hk,hu,hp,Ji,Ya,List.length_append,Nat.le_add_right,List.take_left];refine⟨λhlt=>?_,λhge=>?_⟩
              . have hj1:b*2 ^ (j+1)<=val x:=by
                  refine Nat.le_trans (Nat.mul_le_mul_left b (Nat.pow_le_pow_right (by omega) hlt)) ?_
                  rw [hg];exact Nat.le_of_dvd (by omega) (Nat.gcd_dvd_left _ _)
                have e:b*2 ^ j+b*2 ^ j=b*2 ^ (j+1):=by rw [Nat.pow_succ,<-Nat.mul_assoc];omega
                have hl1:=Nat.le_trans (wa (show b*2 ^ j<=val x by omega)) hxv
                rw [e];refine⟨Wa _,Wa _,by omega,by omega,by omega,j+1,ja (by simp [bitvec_to_nat]) trivial,by omega,by omega⟩
              . have e:j=k:=by omega
                rw [e,hg];exact hK
        | true=>
          simp only [go_sem,hh,hcm,hk,hu,hp,Ji,Ya,List.length_append,Nat.le_add_right,List.take_left];refine λ_=>⟨λhap=>?_,λhap=>?_⟩
          . have ha:a≠0:=λe=>by rw [e,Zb]at hap;simp at hap
            refine Ua (λp:Nat×List Nat=>⟨mkV [(0,.one (.own 9 1 1 0 (digs p.1).length)),(1,.one (.own 7 1 1 0 (digs b).length)),(5,.one (.lit (.int .i64 k)))],mkH [(9,⟨1,some ⟨(digs p.1++p.2).map wc,1,true⟩⟩),(7,⟨1,some ⟨(digs b++pb).map wc,1,true⟩⟩)]⟩)
              (λp=>p.1≠0/\p.1<=a/\(p.1 % 2≠0∨b % 2≠0)/\Nat.gcd p.1 b*2 ^ k=Nat.gcd (val x) (val y)) (λp=>p.1) (a,pa) ?_ ?_ ?_
            . exact ja (by simp [bitvec_to_nat]) ⟨jb rfl,jb rfl,trivial⟩
            . exact⟨ha,Nat.le_refl _,hodd,hg⟩
            . rintro⟨a',pa⟩ ⟨ha',haa,hodd,hg⟩
              simp only at ha' haa hodd hg;have hap:=ug ha';simp only [go_sem,hh,hcm,hk,hu,hp,Ji,Ya,List.length_append,Nat.le_add_right,List.take_left,Un ha',hap];refine⟨by omega,by omega,Nat.mod_lt _ (by omega),λhe=>?_,λhao=>?_⟩
              . simp only [xj]
                refine⟨digs a',pa,rfl,by simp [Qb],Wa _,by have:=wa haa;omega,λpa'=>?_⟩
                simp only [go_sem,hh,hcm,hk,hu,hp,Ji,Ya,List.length_append,Nat.le_add_right,List.take_left];refine⟨(a' / 2,pa'),ja (by simp [bitvec_to_nat]) ⟨jb rfl,jb rfl,trivial⟩,⟨by simp only;omega,by simp only;omega,.inr (by omega),?_⟩,by simp only;omega⟩
                rw [<-hg];simp only;rw [qaC (by omega) (by omega)]
              . refine Ua (λp:Nat×List Nat=>⟨mkV [(0,.one (.own 9 1 1 0 (digs a').length)),(1,.one (.own 7 1 1 0 (digs p.1).length)),(5,.one (.lit (.int .i64 k)))],mkH [(9,⟨1,some ⟨(digs a'++pa).map wc,1,true⟩⟩),(7,⟨1,some ⟨(digs p.1++p.2).map wc,1,true⟩⟩)]⟩)
                  (λp=>p.1≠0/\p.1<=b/\Nat.gcd a' p.1*2 ^ k=Nat.gcd (val x) (val y)) (λp=>p.1) (b,pb) ?_ ?_ ?_
                . exact ja (by simp [bitvec_to_nat]) ⟨jb rfl,jb rfl,trivial⟩
                . exact⟨hb,Nat.le_refl _,hg⟩
                . rintro⟨b',pb⟩ ⟨hb',hbb,hg⟩
                  simp only at hb' hbb hg;have hbp:=ug hb';simp only [go_sem,hh,hcm,hk,hu,hp,Ji,Ya,List.length_append,Nat.le_add_right,List.take_left,Un hb',hbp];refine⟨by omega,by omega,Nat.mod_lt _ (by omega),λhe=>?_,λhbo=>?_⟩
                  . simp only [xj]
                    refine⟨digs b',pb,rfl,by simp [Qb],Wa _,by have:=wa hbb;omega,λpb'=>?_⟩
                    simp only [go_sem,hh,hcm,hk,hu,hp,Ji,Ya,List.length_append,Nat.le_add_right,List.take_left];refine⟨(b' / 2,pb'),ja (by simp [bitvec_to_nat]) ⟨jb rfl,jb rfl,trivial⟩,⟨by simp only;omega,by simp only;omega,?_⟩,by simp only;omega⟩
                    rw [<-hg];simp only;rw [zaO (by omega) (by omega)]
                  . have hlb:=wa hbb
                    have hla:=wa haa;refine⟨Wa _,Wa _,λhlt=>?_,λhge=>?_⟩
                    . have hlt:=VA.1 hlt
                      simp only [yp];have e:val (dig (digs b').length (val (digs b')-val (digs a')))=b' - a':=by
                        rw [Qh,Ya,Ya,Nat.mod_eq_of_lt];exact Nat.lt_of_le_of_lt (Nat.sub_le _ _) (Yg b')
                      refine⟨digs b',pb,digs a',pa,by decide,rfl,by simp [Qb],Wa _,by omega,rfl,by simp [Qb],Wa _,by rw [Ya,Ya];omega,?_⟩
                      refine⟨dig (digs b').length (val (digs b')-val (digs a')),pb,(ka _ _).symm,by simp [upd,Qb],Uh _ _,by omega,λpost'=>?_⟩
                      simp only [go_sem,e];have hle:=Nat.le_trans (wa (Nat.sub_le b' a')) (wa hbb);refine⟨(false,(b' - a',post'),(a',pa)),ja (by simp [bitvec_to_nat]) ⟨jb rfl,jb rfl,trivial⟩,⟨ha',.inr (by simp only;omega),by simp only;omega,by simp only;omega,?_⟩,by simp only;omega⟩
                      simp only;rw [QM (by omega),Nat.gcd_comm];exact hg
                    . have hge:=mt VA.2 hge
                      simp only [yp];have e:val (dig (digs a').length (val (digs a')-val (digs b')))=a' - b':=by
                        rw [Qh,Ya,Ya,Nat.mod_eq_of_lt];exact Nat.lt_of_le_of_lt (Nat.sub_le _ _) (Yg a')
                      refine⟨digs a',pa,digs b',pb,by decide,rfl,by simp [Qb],Wa _,by omega,rfl,by simp [Qb],Wa _,by rw [Ya,Ya];omega,?_⟩
                      refine⟨dig (digs a').length (val (digs a')-val (digs b')),pa,(ka _ _).symm,by simp [upd,Qb],Uh _ _,by omega,λpost'=>?_⟩
                      simp only [go_sem,e];have hle:=Nat.le_trans (wa (Nat.sub_le a' b')) (wa haa);refine⟨(true,(a' - b',post'),(b',pb)),ja (by simp [bitvec_to_nat]) ⟨jb rfl,jb rfl,trivial⟩,⟨hb',.inr (by simp only;omega),by simp only;omega,by simp only;omega,?_⟩,by simp only;omega⟩
                      simp only;rw [QM (by omega)];exact hg
          . have ha:a=0:=zo.1 (by omega)
            rw [ha,Nat.gcd_zero_left]at hg;refine Ua (λj:Nat=>⟨mkV [(1,.one (ws (digs (b*2 ^ j)))),(64,.one (.lit (.int .i64 k))),(65,.one (.lit (.int .i64 j)))],mkH []⟩) (λj=>j<=k) (λj=>k-j) 0 ?_ ?_ ?_
            . exact ja (by simp [bitvec_to_nat]) trivial
            . exact Nat.zero_le _
            . rintro j hj
              simp only [go_sem,hh,hcm,hk,hu,hp,Ji,Ya,List.length_append,Nat.le_add_right,List.take_left];refine⟨λhlt=>?_,λhge=>?_⟩
              . have hj1:b*2 ^ (j+1)<=val x:=by
                  refine Nat.le_trans (Nat.mul_le_mul_left b (Nat.pow_le_pow_right (by omega) hlt)) ?_
                  rw [hg];exact Nat.le_of_dvd (by omega) (Nat.gcd_dvd_left _ _)
                have e:b*2 ^ j+b*2 ^ j=b*2 ^ (j+1):=by rw [Nat.pow_succ,<-Nat.mul_assoc];omega
                have hl1:=Nat.le_trans (wa (show b*2 ^ j<=val x by omega)) hxv
                rw [e];refine⟨Wa _,Wa _,by omega,by omega,by omega,j+1,ja (by simp [bitvec_to_nat]) trivial,by omega,by omega⟩
              . have e:j=k:=by omega
                rw [e,hg];exact hK
end Go.Abs
end
section
namespace Go.Abs
open Go.Num
variable {P:Program} {Γ:Nat->Spec}
def Ye(f0:Nat):AC:=(.o [.G 4 [.z,.emp]] [0,1,4] (.o [.M 5 1,.u 6 (.callf f0 [(.t 5)]),.M 1 6] [0,1,4] (.f (.o [.M 7 1,.Z 8 7,.I 9 .eql 8 0] [0,1,4,9] (.cond (.t 9) (.seq (.p [.u 10 (.build [.z [.z,.emp]]),.S 2 4 10]) .ret) .skip)) [0,1,4] (.seq (.p [.M 11 0,.M 12 1,.u 13 (.build [.x 1 (.t 11),.x 1 (.t 12)]),.S 2 4 13]) .ret))))
def xe(f0 f1:Nat):AC:=(.o [.K 1 2 0,.N 2 0] [1] (.f (.o [.L 3 2 1,.H 4 f0 3,.Z 5 4,.I 6 .eql 5 0] [1,6] (.cond (.t 6) (.seq (.p [.N 2 0]) .ret) .skip)) [1] (.f (.o [.L 7 2 1,.H 8 f1 7] [8] (.cond (.t 8) (.seq (.p [.N 2 (-1)]) .ret) .skip)) [] (.seq (.p [.N 2 1]) .ret))))
def Uf(f0 f1:Nat):AC:=(.o [.K 2 2 0,.K 3 2 1,.N 4 0] [2,3] (.seq (.p [.L 5 2 2,.L 6 2 3,.D 7 f0 5 6,.H 8 f1 7,.M 4 8]) .ret))
def xf(f0 f1 f2 f3 f4 f5:Nat):AC:=(.o [.K 2 2 0,.K 3 2 1,.G 4 [.z,.emp]] [2,3,4] (.f (.y [.L 7 2 2,.H 8 f0 7,.L 9 2 3,.H 10 f0 9,.M 5 8,.M 6 10]) [2,3,4,5,6] (.f (.f (.y [.L 11 2 2,.H 12 f1 11,.L 13 2 3,.H 14 f1 13,.u 15 (.binb .eql (.t 12) (.t 14))]) [2,3,4,5,6,15] (.cond (.t 15) (.seq (.p [.L 16 2 2,.H 17 f1 16,.M 18 5,.M 19 6,.D 20 f2 18 19,.D 21 f3 17 20,.S 2 4 21]) .ret) .skip)) [2,3,4,5,6] (.f (.o [.M 22 5,.M 23 6,.D 24 f4 22 23,.I 25 .geq 24 0] [2,3,4,5,6,25] (.cond (.t 25) (.seq (.p [.L 26 2 2,.H 27 f1 26,.M 28 5,.M 29 6,.D 30 f5 28 29,.D 31 f3 27 30,.S 2 4 31]) .ret) .skip)) [3,4,5,6] (.seq (.p [.L 32 2 3,.H 33 f1 32,.M 34 6,.M 35 5,.D 36 f5 34 35,.D 37 f3 33 36,.S 2 4 37]) .ret)))))
def kf(f0 f1:Nat):AC:=(.o [.K 2 2 0,.K 3 2 1,.G 4 [.z,.emp]] [2,3,4] (.seq (.y [.L 5 2 2,.L 6 2 3,.H 7 f0 6,.D 8 f1 5 7,.S 2 4 8]) .ret))
def qg(f0 f1 f2:Nat):AC:=(.o [.K 2 2 0,.K 3 2 1,.G 4 [.z,.emp]] [2,3,4] (.seq (.y [.L 5 2 2,.H 6 f0 5,.L 7 2 3,.H 8 f0 7,.D 9 f1 6 8,.u 10 (.call f2 [.fa,(.t 9)]),.S 2 4 10]) .ret))
theorem jT(hΓ:Holds P Γ){f ft:Nat}(ht:Γ ft=.fresh 1 Yv)(hc:check P f=some (14,(Ye ft).strip,[.cell 4 2 true])):Sound P f (.dat false Yf):=by
 refine Va hc YK hΓ (λargs K hcl hfi hG=>?_);match args,hG with
 | [a,m],hG=>
  obtain⟨b,rfl,hG⟩:=Uq hG;obtain⟨l,rfl,hl,hlen,hK⟩:=hG;refine⟨by simp,?_⟩
  simp only [go_sem,Ye,ht];refine⟨hl,hlen,λ_=>⟨λh=>?_,λh=>?_⟩⟩
  .have h0:val l=0:=zo.1 h;have e:zcan (sg b (val l))=zcan 0:=by rw [h0];unfold sg;split <;> rfl
   rw [e]at hK;have e2:(zcan 0)=(false,[]):=by simp [zcan,Zb]
   rw [e2]at hK;exact hK
  .rw [<-zK]at hK;have e:decide (0<(digs (val l)).length)=true:=by simp only [decide_eq_true_eq];omega
   rw [e,Bool.and_true]at hK;exact hK
theorem VM(hΓ:Holds P Γ){f fm fn:Nat}(hm:Γ fm=.dat false kj)(hn:Γ fn=.dat true yh)(hc:check P f=some (9,(xe fm fn).strip,[.tmp 2])):Sound P f (.dat true Wi):=by
 refine Va hc JI hΓ (λargs K hcl hfi hG=>?_);match args,hG with
 | [a],hG=>
  obtain⟨w,rfl,hw,hK⟩:=hG;refine⟨by simp,?_⟩
  simp only [go_sem,xe,hm,hn,hw];intro _;refine⟨λh=>?_,λh=>⟨λhb=>?_,λhb=>?_⟩⟩
  .have h0:zv w=0:=Wr.1 h;rw [h0]at hK;exact hK
  .rw [Int.sign_eq_neg_one_of_neg hb]at hK;exact hK
  .have h0:zv w≠0:=λe=>h (Wr.2 e);rw [Int.sign_eq_one_of_pos (by omega)]at hK;exact hK
theorem ZR(hΓ:Holds P Γ){f fn fa:Nat}(hn:Γ fn=.dat false Vs)(ha:Γ fa=.dat false Qs)(hc:check P f=some (9,(kf fn fa).strip,[.cell 4 2 true])):Sound P f (.dat false WJ):=by
 refine Va hc kaB hΓ (λargs K hcl hfi hG=>?_);match args,hG with
 | [a,b],hG=>
  obtain⟨v,rfl,hv,w,rfl,hw,hz,hz',hK⟩:=hG;refine⟨by simp,?_⟩
  simp only [go_sem,kf,hn,ha,hw,hv];refine⟨by omega,hz,by rw [vab];exact hz',?_⟩
  rw [<-Int.sub_eq_add_neg];exact hK
theorem vW(hΓ:Holds P Γ){f fs fg:Nat}(hs:Γ fs=.dat false WJ)(hg:Γ fg=.dat true Wi)(hc:check P f=some (9,(Uf fs fg).strip,[.tmp 4])):Sound P f (.dat true Vr):=by
 refine Va hc wY hΓ (λargs K hcl hfi hG=>?_);match args,hG with
 | [a,b],hG=>
  obtain⟨v,rfl,hv,w,rfl,hw,hz,hz',hz2,hK⟩:=hG;refine⟨by simp,?_⟩
  simp only [go_sem,Uf,hs,hg,hw,hv];refine⟨hz,hz',?_⟩;have e:Int.sign (zv v-zv w)=ordI (zv v) (zv w):=by
   unfold ordI;split
   .exact Int.sign_eq_neg_one_of_neg (by omega)
   .split
    .exact Int.sign_eq_one_of_pos (by omega)
    .rw [show zv v-zv w=0 by omega];rfl
  rw [e];exact hK
theorem QV(hΓ:Holds P Γ){f fm fg fw:Nat}(hm:Γ fm=.dat false kj)(hg:Γ fg=.dat false zy)(hw' : Γ fw=.dat false Yf)(hc:check P f=some (11,(qg fm fg fw).strip,[.cell 4 2 true])):Sound P f (.dat false xq):=by
 refine Va hc wT hΓ (λargs K hcl hfi hG=>?_);match args,hG with
 | [a,b],hG=>
  obtain⟨v,rfl,hv,w,rfl,hw,hz,hz',hK⟩:=hG;refine⟨by simp,?_⟩
  simp only [go_sem,qg,hm,hg,hw',hw,hv,Ya];have hle:(digs ((zv v).natAbs.gcd (zv w).natAbs)).length<=17179869184:=by
   rcases Nat.eq_zero_or_pos (zv v).natAbs with h | h
   .rw [h,Nat.gcd_zero_left];exact hz'
   .exact Nat.le_trans (wa (Nat.le_of_dvd h (Nat.gcd_dvd_left _ _))) hz
  exact⟨Wa _,Wa _,hz,hz',Wa _,by omega,hK⟩
theorem QR(hΓ:Holds P Γ){f fn fm fp fw fc fl:Nat}(hn:Γ fn=.dat true yh)(hm:Γ fm=.dat false kj)(hp:Γ fp=.dat false vp)(hw' : Γ fw=.dat false Yf)(hc' : Γ fc=.dat true Zt)(hl:Γ fl=.dat false Yp)(hc:check P f=some (38,(xf fm fn fp fw fc fl).strip,[.cell 4 2 true])):Sound P f (.dat false Qs):=by
 refine Va hc vR hΓ (λargs K hcl hfi hG=>?_);match args,hG with
 | [a,b],hG=>
  obtain⟨v,rfl,hv,w,rfl,hw,hz,hz',hK⟩:=hG;refine⟨by simp,?_⟩
  simp only [go_sem,xf,hn,hm,hp,hw',hc',hl,hw,hv];simp only [Ya];have hsz:=qK (zv v) (zv w);refine⟨λh=>⟨Wa _,Wa _,hz,hz',Wa _,?_,?_⟩,λh=>⟨Wa _,Wa _,λho=>⟨Wa _,Wa _,by unfold zs at hz;omega,?_,Wa _,?_,?_⟩,λho=>⟨Wa _,Wa _,by unfold zs at hz';omega,?_,Wa _,?_,?_⟩⟩⟩
  .have e:=Vo (vf h);rw [show(zv v).natAbs+(zv w).natAbs=(zv v+zv w).natAbs by have:=vf h;omega]
   unfold zs at *;omega
  .rw [Vo (vf h)];exact hK
  .exact(wq.1 ho)
  .have:=wa (Nat.sub_le (zv v).natAbs (zv w).natAbs);unfold zs at *;omega
  .have h1:=wq.1 ho;rw [Vae (wk h) h1];exact hK
  .have:=mt wq.2 ho;omega
  .have:=wa (Nat.sub_le (zv w).natAbs (zv v).natAbs);unfold zs at *;omega
  .have h1:=mt wq.2 ho;rw [Vae (λe=>wk h e.symm) (by omega),Int.add_comm];exact hK
end Go.Abs
end
