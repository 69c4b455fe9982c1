/-
  Parts of the proof, merged: CoupL, GridP, GridQ, GridR, GridA, GridB, GridC, GridT, GridD, GridE, GridF, GridG, GridH, GridI, CoupI, GridJ, IntC, IntD, IntE.
-/
import Derived.Test.YtjggkdaangghfaaGreatM10
set_option linter.unusedVariables false
set_option linter.unusedSimpArgs false
set_option maxRecDepth 100000
section
namespace Go.Num
open Go.Abs
def riC (c:Cp) (p:Arc):Nat:=if wV (cpv c) (av p)≠0 then 21 else if wM (cpv c) (av p)=0 then 15 else 0
def reQ (c:CpR):V2:=subQ (1,0) (cW c)
theorem qa9 (c:CpR) (p:V2):timesQ (subQ p c.1) (barQ (cW c))=wAl c p:=by
 unfold timesQ wAl timQ barQ cW subQ;exact Prod.ext (by simp only) (by simp only;grind)
theorem Ja6 (c:CpR) (p:V2):timesQ (subQ p c.2.1) (barQ (reQ c))=wBe c p:=by
 unfold timesQ wBe timQ barQ reQ cW subQ cRe;exact Prod.ext (by simp only;grind) (by simp only;grind)
theorem e_at (c:CpR) (p:V2):sqQ (subQ p c.1)+sqQ (cW c)*c.2.2.2.1-c.2.2.1=wE c p:=by unfold wE cFi cW;grind
theorem f_at (c:CpR) (p:V2):c.2.2.2.2.1-(sqQ (subQ p c.2.1)+sqQ (reQ c)*c.2.2.2.1)=wF c p:=by
 unfold wF cSe reQ cW sqQ subQ cRe;simp only;grind
theorem cl_w {c:Cp} {b:Nat} (h:cl c<=b):al c.2.2.2.2.2<=b:=by
 unfold cl at h
 simp only [Nat.max_le]at h
 exact Nat.max_le.2 ⟨h.2.2.2.2.2.1,h.2.2.2.2.2.2⟩
theorem kbv {c:Cp} (h:cchk c=0):vldR c.2.2.1=true/\vldR c.2.2.2.1=true/\vldR c.2.2.2.2.1=true/\vldR c.2.2.2.2.2.1=true/\vldR c.2.2.2.2.2.2=true:=by
 obtain ⟨_,_,h5,_,_⟩:=qbv h
 simpa [cps5] using h5
end Go.Num
namespace Go.Abs
open Go.Num
variable {P:Program} {Γ:Nat->Spec}
def XN (l:List AV) (K:AV->Prop):Prop:=
 match l with
 | [c]=>onCp (λc=>K (aA (c.2.2.2.2.2.1,c.2.2.2.2.2.2))) c
 | _=>False
theorem Jbg (c:AV) (K:AV->Prop):XN [c] K=(onCp (λc=>K (aA (c.2.2.2.2.2.1,c.2.2.2.2.2.2))) c):=propext Iff.rfl
@[congr] theorem jbV {K:AV->Prop} {l l' : List AV} (h:l=l'):XN l K=XN l' K:=by subst h;rfl
attribute [go_sem] Jbg
attribute [go_sem ↓] Jbg
theorem qbb:Good XN:=ka λas=>by
 unfold XN
 split
 .exact (Up λ_=>(.ret _))
 .exact .of λK hk=>hk.elim
def qD (l:List AV) (K:AV->Prop):Prop:=
 match l with
 | [c]=>onCp (λc=>cl c<=100000000/\K (pQ (reQ (cpv c)))) c
 | _=>False
theorem waW (c:AV) (K:AV->Prop):qD [c] K=(onCp (λc=>cl c<=100000000/\K (pQ (reQ (cpv c)))) c):=propext Iff.rfl
@[congr] theorem JbM {K:AV->Prop} {l l' : List AV} (h:l=l'):qD l K=qD l' K:=by subst h;rfl
attribute [go_sem] waW
attribute [go_sem ↓] waW
theorem vaZ:Good qD:=ka λas=>by
 unfold qD
 split
 .exact (Up λ_=>(.and λ_=>(.ret _)))
 .exact .of λK hk=>hk.elim
def Ua0 (l:List AV) (K:AV->Prop):Prop:=
 match l with
 | [c,p]=>onCp (λc=>onA (λp=>cl c<=1000/\al p<=1000/\cchk c=0/\K (.tup [pQ (wN (cpv c) (av p)),rQ (wM (cpv c) (av p))])) p) c
 | _=>False
theorem zaV (c p:AV) (K:AV->Prop):Ua0 [c,p] K=(onCp (λc=>onA (λp=>cl c<=1000/\al p<=1000/\cchk c=0/\K (.tup [pQ (wN (cpv c) (av p)),rQ (wM (cpv c) (av p))])) p) c):=propext Iff.rfl
@[congr] theorem XbL {K:AV->Prop} {l l' : List AV} (h:l=l'):Ua0 l K=Ua0 l' K:=by subst h;rfl
attribute [go_sem] zaV
attribute [go_sem ↓] zaV
def XaG (l:List AV) (K:AV->Prop):Prop:=
 match l with
 | [c,p]=>onCp (λc=>onA (λp=>cl c<=1000/\al p<=1000/\cchk c=0/\K (rQ (wV (cpv c) (av p)))) p) c
 | _=>False
theorem Xa1 (c p:AV) (K:AV->Prop):XaG [c,p] K=(onCp (λc=>onA (λp=>cl c<=1000/\al p<=1000/\cchk c=0/\K (rQ (wV (cpv c) (av p)))) p) c):=propext Iff.rfl
@[congr] theorem XbO {K:AV->Prop} {l l' : List AV} (h:l=l'):XaG l K=XaG l' K:=by subst h;rfl
attribute [go_sem] Xa1
attribute [go_sem ↓] Xa1
def jaZ (l:List AV) (K:AV->Prop):Prop:=
 match l with
 | [c,p]=>onCp (λc=>onA (λp=>cl c<=1000/\al p<=1000/\cchk c=0/\K (.tup [pQ (if riC c p=0 then endA (cpv c) (av p) (zL (cpv c) (av p)) else (0,0)),pQ (if riC c p=0 then endB (cpv c) (av p) (zL (cpv c) (av p)) else (0,0)),.one (.lit (.int .i64 (riC c p:Nat)))])) p) c
 | _=>False
theorem yaI (c p:AV) (K:AV->Prop):jaZ [c,p] K=(onCp (λc=>onA (λp=>cl c<=1000/\al p<=1000/\cchk c=0/\K (.tup [pQ (if riC c p=0 then endA (cpv c) (av p) (zL (cpv c) (av p)) else (0,0)),pQ (if riC c p=0 then endB (cpv c) (av p) (zL (cpv c) (av p)) else (0,0)),.one (.lit (.int .i64 (riC c p:Nat)))])) p) c):=propext Iff.rfl
@[congr] theorem xbR {K:AV->Prop} {l l' : List AV} (h:l=l'):jaZ l K=jaZ l' K:=by subst h;rfl
attribute [go_sem] yaI
attribute [go_sem ↓] yaI
def kaV (l:List AV) (K:AV->Prop):Prop:=
 match l with
 | [c,a,b]=>onCp (λc=>onA (λa=>onA (λb=>cl c<=10000/\al a<=10000/\al b<=10000/\K (pQ (ptQ (cpv c) (av a) (av b)))) b) a) c
 | _=>False
theorem VaH (c a b:AV) (K:AV->Prop):kaV [c,a,b] K=(onCp (λc=>onA (λa=>onA (λb=>cl c<=10000/\al a<=10000/\al b<=10000/\K (pQ (ptQ (cpv c) (av a) (av b)))) b) a) c):=propext Iff.rfl
@[congr] theorem XbS {K:AV->Prop} {l l' : List AV} (h:l=l'):kaV l K=kaV l' K:=by subst h;rfl
attribute [go_sem] VaH
attribute [go_sem ↓] VaH
def WaR (l:List AV) (K:AV->Prop):Prop:=
 match l with
 | [c,a,b]=>onCp (λc=>onA (λa=>onA (λb=>cl c<=10000/\al a<=10000/\al b<=10000/\K (.one (.lit (.bool (decide (hldQ (cpv c) (av a) (av b))))))) b) a) c
 | _=>False
theorem XaN (c a b:AV) (K:AV->Prop):WaR [c,a,b] K=(onCp (λc=>onA (λa=>onA (λb=>cl c<=10000/\al a<=10000/\al b<=10000/\K (.one (.lit (.bool (decide (hldQ (cpv c) (av a) (av b))))))) b) a) c):=propext Iff.rfl
@[congr] theorem ubS {K:AV->Prop} {l l' : List AV} (h:l=l'):WaR l K=WaR l' K:=by subst h;rfl
attribute [go_sem] XaN
attribute [go_sem ↓] XaN
def Zn:AC:=(.seq (.ops false [.u 1 (.box 27 (.t 0)),.u 2 (.alloc [(.lit (.bool false)),.emp,.emp,(.lit (.bool false)),.emp,.emp])])
 (.fg [1,2] (.seq (.ops false [.u 3 (.fa 21 (.t 1)),.u 4 (.ld none 3 true (.t 3)),.u 5 (.fa 24 (.t 1)),.u 6 (.ld none 3 true (.t 5)),.u 7 (.build [.x 3 (.t 4),.x 3 (.t 6)]),.n (.st none 6 (.t 2) (.t 7))])
 .ret)))
def Wi (f0 f1 f2:Nat):AC:=(.seq (.ops false [.u 1 (.box 27 (.t 0)),.u 2 (.alloc [(.lit (.bool false)),.emp,.emp,(.lit (.bool false)),.emp,.emp])])
 (.fg [1,2] (.seq (.ops true [.u 3 (.call f0 [(.i 1)]),.u 4 (.build [.x 3 (.t 3),.z [(.lit (.bool false)),.emp,.emp]]),.u 5 (.ld none 27 true (.t 1)),.u 6 (.call f1 [(.t 5)]),.u 7 (.call f2 [(.t 4),(.t 6)]),.n (.st none 6 (.t 2) (.t 7))])
 .ret)))
theorem uaX (hΓ:Holds P Γ) {f:Nat} (hc:check P f=some (8,Zn.strip,[.cell 2 6 true])):Sound P f (.dat false XN):=by
 refine Va hc qbb hΓ (λargs K hcl hfi hG=>?_)
 match args,hG with
 | [a],hG=>
  obtain ⟨c,rfl,hw,hK⟩:=hG
  refine ⟨by simp,?_⟩
  simp only [go_sem,Zn,cpA,cpC]
  exact hK
theorem waB (hΓ:Holds P Γ) {f fo fw fs:Nat} (ho:Γ fo=.dat false ju) (hw' : Γ fw=.dat false XN) (hs:Γ fs=.dat false qn) (hc:check P f=some (8,(Wi fo fw fs).strip,[.cell 2 6 true])):Sound P f (.dat false qD):=by
 refine Va hc vaZ hΓ (λargs K hcl hfi hG=>?_)
 match args,hG with
 | [a],hG=>
  obtain ⟨c,rfl,hw,hl,hK⟩:=hG
  refine ⟨by simp,?_⟩
  have i1:((1:Int):Rat)=1:=rfl
  have w4:=hw.2.2.2.2.2.1
  have w5:=hw.2.2.2.2.2.2
  have b1:=rz_1
  have l6:al c.2.2.2.2.2<=100000000:=Nat.le_trans (cl_w hl) (by decide)
  have wW:WLA c.2.2.2.2.2:=⟨w4,w5⟩
  have wO:WLA (rcan 1,rcan 0):=jG (1,0)
  have lO:al (rcan 1,rcan 0)<=100000000:=Nat.max_le.2 ⟨Nat.le_trans b1 (by decide),Nat.le_trans (Nat.le_of_eq rz_0) (by decide)⟩
  have aO:av (rcan 1,rcan 0)=(1,0):=UF (1,0)
  have aW:av c.2.2.2.2.2=cW (cpv c):=rfl
  simp only [go_sem,Wi,ho,hw',hs,cpA,cpC,i1,kp,jd,aO,aW]
  repeat (first | (refine And.intro (by with_reducible assumption) ?_) | (refine And.intro (Nat.le_trans (by with_reducible assumption) (by decide)) ?_) | (refine And.intro (by decide) ?_))
  exact hK
end Go.Abs
end
section
namespace Go.Num
def sumN (f:Nat->Rat):Nat->Rat
 | 0=>0
 | n+1=>sumN f n+f n
theorem ug {f g:Nat->Rat}:∀{n:Nat},(∀k,k<n->f k=g k)->sumN f n=sumN g n
 | 0,_=>rfl
 | n+1,h=>by simp only [sumN];rw [ug (λk hk=>h k (by omega)),h n (by omega)]
theorem UA (f g:Nat->Rat):∀n:Nat,sumN (λk=>f k+g k) n=sumN f n+sumN g n
 | 0=>by simp only [sumN];grind
 | n+1=>by simp only [sumN];rw [UA f g n];grind
theorem xV (c:Rat) (f:Nat->Rat):∀n:Nat,sumN (λk=>c*f k) n=c*sumN f n
 | 0=>by simp only [sumN];grind
 | n+1=>by simp only [sumN];rw [xV c f n];grind
theorem xz:∀n:Nat,sumN (λ_=>0) n=0
 | 0=>rfl
 | n+1=>by simp only [sumN];rw [xz n];grind
theorem JX (c:Rat) (m:Nat):∀n:Nat,sumN (λk=>if k=m then c else 0) n=if m<n then c else 0
 | 0=>by simp [sumN]
 | n+1=>by
  simp only [sumN]
  rw [JX c m n]
  by_cases h1:m<n
  .rw [if_pos h1,if_neg (by omega),if_pos (by omega)];grind
  .by_cases h2:n=m
   .rw [if_neg h1,if_pos h2,if_pos (by omega)];grind
   .rw [if_neg h1,if_neg h2,if_neg (by omega)];grind
theorem kU {f:Nat->Rat} {m:Nat}:∀{n:Nat},m<=n->(∀k,m<=k->k<n->f k=0)->sumN f m=sumN f n
 | 0,h,_=>by rw [Nat.le_zero.1 h]
 | n+1,h,h0=>by
  by_cases h1:m=n+1
  .rw [h1]
  .simp only [sumN]
   rw [h0 n (by omega) (by omega),<-kU (f:=f) (m:=m) (n:=n) (by omega) (λk a b=>h0 k a (by omega))];grind
abbrev Gr:=List Rat
def gat (g:Gr) (i j:Nat):Rat:=g.getD (i*7+j) 0
def mon (x y:Rat) (i j:Nat):Rat:=pw x i*pw y j
def evG (g:Gr) (x y:Rat):Rat:=sumN (λi=>sumN (λj=>gat g i j*mon x y i j) 7) 7
def gz:Gr->Nat
 | []=>0
 | q::r=>rz q+gz r
theorem Ubi:∀{g:Gr} {q:Rat},q∈g->rz q<=gz g
 | [],_,h=>by simp at h
 | p::r,q,h=>by
  simp only [gz]
  rcases List.mem_cons.1 h with rfl | h
  .omega
  .have:=Ubi h;omega
theorem jaO (g:Gr) (m:Nat):rz (g.getD m 0)<=gz g:=by
 rw [List.getD_eq_getElem?_getD]
 cases h:g[m]? with
 | none=>rw [Option.getD_none,rz_0];omega
 | some q=>exact Ubi (List.mem_of_getElem? h)
theorem qT (g:Gr) (i j:Nat):rz (gat g i j)<=gz g:=jaO g _
theorem VaP:∀(g:Gr) (m:Nat) (v:Rat),gz (g.set m v)+rz (g.getD m 0)<=gz g+rz v
 | [],m,v=>by simp only [List.set_nil,List.getD_nil,gz];rw [rz_0];omega
 | q::r,0,v=>by simp only [List.set_cons_zero,List.getD_cons_zero,gz];omega
 | q::r,m+1,v=>by
  have:=VaP r m v
  simp only [List.set_cons_succ,List.getD_cons_succ,gz];omega
theorem qC {g:Gr} (hg:g.length=49) {i j i' j' : Nat} (hi:i<7) (hj:j<7) (hi' : i' < 7) (hj' : j' < 7) (v:Rat):gat (g.set (i*7+j) v) i' j' = if i' = i/\j' = j then v else gat g i' j':=by
 unfold gat
 rw [List.getD_eq_getElem?_getD,List.getElem?_set]
 by_cases h:i' = i/\j' = j
 .obtain ⟨rfl,rfl⟩:=h
  rw [if_pos rfl,if_pos (by omega),if_pos ⟨rfl,rfl⟩];rfl
 .rw [if_neg h,if_neg (by omega),List.getD_eq_getElem?_getD]
theorem uI {g:Gr} (hg:g.length=49) {i j:Nat} (hi:i<7) (hj:j<7) (v x y:Rat):evG (g.set (i*7+j) v) x y=evG g x y+(v-gat g i j)*mon x y i j:=by
 have h1:evG (g.set (i*7+j) v) x y=sumN (λi'=>sumN (λj'=>gat g i' j' * mon x y i' j') 7+(if i' = i then (v-gat g i j)*mon x y i j else 0)) 7:=by
  unfold evG
  refine ug λi' hi'=>?_
  have e:sumN (λj'=>gat (g.set (i*7+j) v) i' j' * mon x y i' j') 7=sumN (λj'=>gat g i' j' * mon x y i' j' + (if j' = j then (if i' = i then (v-gat g i j)*mon x y i j else 0) else 0)) 7:=by
   refine ug λj' hj'=>?_
   rw [qC hg hi hj hi' hj']
   by_cases h2:i' = i
   .by_cases h3:j' = j
    .rw [if_pos ⟨h2,h3⟩,if_pos h3,if_pos h2,h2,h3];grind
    .rw [if_neg (λh=>h3 h.2),if_neg h3];grind
   .rw [if_neg (λh=>h2 h.1),if_neg h2]
    split <;> grind
  rw [e,UA,JX,if_pos hj]
 rw [h1,UA,JX,if_pos hi]
 rfl
def zG:Gr:=List.replicate 49 0
theorem ual (i j:Nat):gat zG i j=0:=by
 unfold gat zG
 rw [List.getD_eq_getElem?_getD,List.getElem?_replicate]
 split <;> rfl
theorem xa6 (x y:Rat):evG zG x y=0:=by
 unfold evG
 have:∀i,sumN (λj=>gat zG i j*mon x y i j) 7=0:=λi=>by
  rw [<-xz 7]
  exact ug λj _=>by rw [ual];grind
 rw [<-xz 7]
 exact ug λi _=>this i
theorem Uq:zG.length=49:=List.length_replicate
theorem gz_z:gz zG=0:=by
 unfold zG
 generalize 49=n
 induction n with
 | zero=>rfl
 | succ n ih=>rw [List.replicate_succ];simp only [gz];rw [ih,rz_0]
def conG (x:Rat):Gr:=zG.set 0 x
def linG (a b c:Rat):Gr:=((zG.set 0 a).set 7 b).set 1 c
theorem yA (x:Rat):(conG x).length=49:=by unfold conG;rw [List.length_set,Uq]
theorem zI (a b c:Rat):(linG a b c).length=49:=by unfold linG;rw [List.length_set,List.length_set,List.length_set,Uq]
theorem Ubh (x y:Rat):mon x y 0 0=1:=by simp only [mon,pw];grind
theorem zbC (x y:Rat):mon x y 1 0=x:=by simp only [mon,pw];grind
theorem ZbH (x y:Rat):mon x y 0 1=y:=by simp only [mon,pw];grind
theorem Wbo (c x y:Rat):evG (conG c) x y=c:=by
 have h:=uI Uq (i:=0) (j:=0) (by decide) (by decide) c x y
 rw [ual,xa6,Ubh]at h
 unfold conG
 rw [show 0*7+0=0 from rfl]at h
 rw [h];grind
theorem zbm (a b c x y:Rat):evG (linG a b c) x y=a+b*x+c*y:=by
 have l0:(zG.set 0 a).length=49:=by rw [List.length_set,Uq]
 have l1:((zG.set 0 a).set 7 b).length=49:=by rw [List.length_set,l0]
 have h0:=uI Uq (i:=0) (j:=0) (by decide) (by decide) a x y
 have h1:=uI l0 (i:=1) (j:=0) (by decide) (by decide) b x y
 have h2:=uI l1 (i:=0) (j:=1) (by decide) (by decide) c x y
 have g1:=qC Uq (i:=0) (j:=0) (i':=1) (j':=0) (by decide) (by decide) (by decide) (by decide) a
 have g2:=qC l0 (i:=1) (j:=0) (i':=0) (j':=1) (by decide) (by decide) (by decide) (by decide) b
 have g3:=qC Uq (i:=0) (j:=0) (i':=0) (j':=1) (by decide) (by decide) (by decide) (by decide) a
 rw [if_neg (by decide),ual]at g1
 rw [if_neg (by decide)]at g2
 rw [if_neg (by decide),ual]at g3
 simp only [Nat.zero_mul,Nat.one_mul,Nat.zero_add,Nat.add_zero]at h0 h1 h2 g1 g2 g3
 unfold linG
 rw [h2,g2,g3,h1,g1,h0,ual,xa6,Ubh,zbC,ZbH]
 grind
def plusG (a:Gr) (k:Rat) (b:Gr):Gr:=List.zipWith (λp q=>p+k*q) a b
theorem wd {a b:Gr} (ha:a.length=49) (hb:b.length=49) (k:Rat):(plusG a k b).length=49:=by unfold plusG;rw [List.length_zipWith,ha,hb];rfl
theorem J6 {a b:Gr} (ha:a.length=49) (hb:b.length=49) (k:Rat) {i j:Nat} (hi:i<7) (hj:j<7):gat (plusG a k b) i j=gat a i j+k*gat b i j:=by
 unfold gat plusG
 have h1:i*7+j<a.length:=by omega
 have h2:i*7+j<b.length:=by omega
 simp only [List.getD_eq_getElem?_getD,List.getElem?_zipWith,List.getElem?_eq_getElem h1,List.getElem?_eq_getElem h2,Option.getD_some]
theorem Wu {a b:Gr} (ha:a.length=49) (hb:b.length=49) (k x y:Rat):evG (plusG a k b) x y=evG a x y+k*evG b x y:=by
 unfold evG
 rw [<-xV,<-UA]
 refine ug λi hi=>?_
 rw [<-xV,<-UA]
 refine ug λj hj=>?_
 rw [J6 ha hb k hi hj];grind
theorem jv:∀(a b:Gr) (k:Rat),gz (plusG a k b)<=gz a+gz b+b.length*(rz k+4)
 | [],b,k=>by simp [plusG,gz]
 | p::a,[],k=>by simp [plusG,gz]
 | p::a,q::b,k=>by
  have h:=jv a b k
  have h1:=Vb k q
  have h2:=Vz p (k*q)
  show rz (p+k*q)+gz (plusG a k b)<=rz p+gz a+(rz q+gz b)+(b.length+1)*(rz k+4)
  rw [Nat.add_mul];omega
end Go.Num
end
section
namespace Go.Num
def addG (o:Gr) (i j:Nat) (v:Rat):Gr:=o.set (i*7+j) (gat o i j+v)
def plG (a b:Gr) (i j k:Nat) (o:Gr):Nat->Gr
 | 0=>o
 | n+1=>addG (plG a b i j k o n) (i+k) (j+n) (gat a i j*gat b k n)
def pkG (a b:Gr) (i j:Nat) (o:Gr):Nat->Gr
 | 0=>o
 | n+1=>plG a b i j n (pkG a b i j o n) (7-j)
def pjG (a b:Gr) (i:Nat) (o:Gr):Nat->Gr
 | 0=>o
 | n+1=>if gat a i n=0 then pjG a b i o n else pkG a b i n (pjG a b i o n) (7-i)
def piG (a b:Gr):Nat->Gr
 | 0=>zG
 | n+1=>pjG a b n (piG a b n) 7
def prodG (a b:Gr):Gr:=piG a b 7
theorem Xa8 {o:Gr} (h:o.length=49) (i j:Nat) (v:Rat):(addG o i j v).length=49:=by unfold addG;rw [List.length_set,h]
theorem JL {a b:Gr} {i j k:Nat} {o:Gr} (h:o.length=49):∀n,(plG a b i j k o n).length=49
 | 0=>h
 | n+1=>Xa8 (JL h n) _ _ _
theorem JN {a b:Gr} {i j:Nat} {o:Gr} (h:o.length=49):∀n,(pkG a b i j o n).length=49
 | 0=>h
 | n+1=>JL (JN h n) _
theorem YG {a b:Gr} {i:Nat} {o:Gr} (h:o.length=49):∀n,(pjG a b i o n).length=49
 | 0=>h
 | n+1=>by
  simp only [pjG]
  split
  .exact YG h n
  .exact JN (YG h n) _
theorem QN {a b:Gr}:∀n,(piG a b n).length=49
 | 0=>Uq
 | n+1=>YG (QN n) _
theorem Zb (a b:Gr):(prodG a b).length=49:=QN 7
theorem UbF (o:Gr) (i j:Nat) (v:Rat):gz (addG o i j v)<=gz o+rz v+2:=by
 have h:=VaP o (i*7+j) (gat o i j+v)
 have h2:=Vz (gat o i j) v
 have e:rz (o.getD (i*7+j) 0)=rz (gat o i j):=rfl
 unfold addG
 omega
def rzN (f:Nat->Rat):Nat->Nat
 | 0=>0
 | n+1=>rzN f n+rz (f n)
theorem xY (f:Nat->Rat) {m:Nat}:∀{n:Nat},m<=n->rzN f m<=rzN f n
 | 0,h=>by rw [Nat.le_zero.1 h];exact Nat.le_refl _
 | n+1,h=>by
  by_cases h1:m=n+1
  .rw [h1];exact Nat.le_refl _
  .have:=xY f (m:=m) (n:=n) (by omega)
   simp only [rzN];omega
theorem Jbq (a b:Gr) (i j k:Nat) (o:Gr):∀n,gz (plG a b i j k o n)<=gz o+n*(rz (gat a i j)+4)+rzN (λl=>gat b k l) n
 | 0=>by simp only [plG,rzN];omega
 | n+1=>by
  have h:=Jbq a b i j k o n
  have h1:=UbF (plG a b i j k o n) (i+k) (j+n) (gat a i j*gat b k n)
  have h2:=Vb (gat a i j) (gat b k n)
  simp only [plG,rzN]
  rw [Nat.add_mul];omega
def rrN (b:Gr) (m:Nat):Nat->Nat
 | 0=>0
 | n+1=>rrN b m n+rzN (λl=>gat b n l) m
theorem wbj (a b:Gr) (i j:Nat) (o:Gr):∀n,gz (pkG a b i j o n)<=gz o+n*(7*(rz (gat a i j)+4))+rrN b 7 n
 | 0=>by simp only [pkG,rrN];omega
 | n+1=>by
  have h:=wbj a b i j o n
  have h1:=Jbq a b i j n (pkG a b i j o n) (7-j)
  have h2:(7-j)*(rz (gat a i j)+4)<=7*(rz (gat a i j)+4):=Nat.mul_le_mul_right _ (by omega)
  have h3:=xY (λl=>gat b n l) (m:=7-j) (n:=7) (by omega)
  simp only [pkG,rrN]
  rw [Nat.add_mul];omega
theorem WE (b:Gr) (m:Nat) {k:Nat}:∀{n:Nat},k<=n->rrN b m k<=rrN b m n
 | 0,h=>by rw [Nat.le_zero.1 h];exact Nat.le_refl _
 | n+1,h=>by
  by_cases h1:k=n+1
  .rw [h1];exact Nat.le_refl _
  .have:=WE b m (k:=k) (n:=n) (by omega)
   simp only [rrN];omega
theorem ubj (a b:Gr) (i:Nat) (o:Gr):∀n,gz (pjG a b i o n)<=gz o+49*rzN (λj=>gat a i j) n+n*(196+rrN b 7 7)
 | 0=>by simp only [pjG,rzN];omega
 | n+1=>by
  have h:=ubj a b i o n
  have h1:=wbj a b i n (pjG a b i o n) (7-i)
  have h2:(7-i)*(7*(rz (gat a i n)+4))<=7*(7*(rz (gat a i n)+4)):=Nat.mul_le_mul_right _ (by omega)
  have h3:=WE b 7 (k:=7-i) (n:=7) (by omega)
  simp only [pjG,rzN]
  rw [Nat.add_mul]
  split <;> omega
theorem Jbm (a b:Gr):∀n,gz (piG a b n)<=49*rrN a 7 n+n*(7*(196+rrN b 7 7))
 | 0=>by simp only [piG,rrN];rw [gz_z];omega
 | n+1=>by
  have h:=Jbm a b n
  have h1:=ubj a b n (piG a b n) 7
  show gz (pjG a b n (piG a b n) 7)<=49*(rrN a 7 n+rzN (λl=>gat a n l) 7)+(n+1)*(7*(196+rrN b 7 7))
  rw [Nat.add_mul];omega
theorem zaM (f:Nat->Rat) (m:Nat):∀n,rzN f (m+n)=rzN f m+rzN (λl=>f (m+l)) n
 | 0=>by simp only [rzN,Nat.add_zero]
 | n+1=>by
  have ih:=zaM f m n
  show rzN f (m+n)+rz (f (m+n))=rzN f m+(rzN (λl=>f (m+l)) n+rz (f (m+n)))
  omega
theorem uab (f:Nat->Rat):∀n,rzN f (n+1)=rz (f 0)+rzN (λm=>f (m+1)) n
 | 0=>by show 0+rz (f 0)=rz (f 0)+0;omega
 | n+1=>by
  have ih:=uab f n
  show rzN f (n+1)+rz (f (n+1))=rz (f 0)+(rzN (λm=>f (m+1)) n+rz (f (n+1)))
  omega
theorem Ube:∀g:Gr,rzN (λm=>g.getD m 0) g.length=gz g
 | []=>rfl
 | q::r=>by
  have ih:=Ube r
  rw [List.length_cons,uab]
  simp only [List.getD_cons_zero,List.getD_cons_succ,gz]
  omega
theorem VbF (g:Gr):∀n,rrN g 7 n=rzN (λm=>g.getD m 0) (n*7)
 | 0=>rfl
 | n+1=>by
  have ih:=VbF g n
  have e:(n+1)*7=n*7+7:=by omega
  rw [e,zaM,<-ih]
  rfl
theorem kO {g:Gr} (hg:g.length=49):rrN g 7 7=gz g:=by
 rw [VbF,<-Ube,hg]
theorem Zo {a b:Gr} (ha:a.length=49) (hb:b.length=49):gz (prodG a b)<=49*gz a+49*gz b+9604:=by
 have h:=Jbm a b 7
 rw [kO ha,kO hb]at h
 unfold prodG
 omega
theorem Zbn (x y:Rat) (i j k l:Nat):mon x y (i+k) (j+l)=mon x y i j*mon x y k l:=by unfold mon;rw [xaS,xaS];grind
theorem Ubk {o:Gr} (h:o.length=49) {i j:Nat} (hi:i<7) (hj:j<7) (v x y:Rat):evG (addG o i j v) x y=evG o x y+v*mon x y i j:=by
 unfold addG;rw [uI h hi hj];grind
theorem Zbv {a b:Gr} {i j k:Nat} {o:Gr} (h:o.length=49) (hik:i+k<7) (x y:Rat):∀n,j+n<=7->evG (plG a b i j k o n) x y=evG o x y+gat a i j*mon x y i j*sumN (λl=>gat b k l*mon x y k l) n
 | 0,_=>by simp only [plG,sumN];grind
 | n+1,hn=>by
  simp only [plG,sumN]
  rw [Ubk (JL h n) hik (by omega),Zbv h hik x y n (by omega),Zbn];grind
theorem VbC {a b:Gr} {i j:Nat} {o:Gr} (h:o.length=49) (hj:j<7) (x y:Rat):∀n,i+n<=7->evG (pkG a b i j o n) x y=evG o x y+gat a i j*mon x y i j*sumN (λk=>sumN (λl=>gat b k l*mon x y k l) (7-j)) n
 | 0,_=>by simp only [pkG,sumN];grind
 | n+1,hn=>by
  simp only [pkG,sumN]
  rw [Zbv (JN h n) (by omega) x y (7-j) (by omega),VbC h hj x y n (by omega)];grind
def DG (d:Nat) (g:Gr):Prop:=∀i j,i<7->j<7->d<i+j->gat g i j=0
theorem xbk {d e:Nat} {g:Gr} (h:DG d g) (hd:d<=e):DG e g:=λi j hi hj h1=>h i j hi hj (by omega)
theorem WbM {b:Gr} {e i j:Nat} (hb:DG e b) (h:i+j+e<=6) (x y:Rat):sumN (λk=>sumN (λl=>gat b k l*mon x y k l) (7-j)) (7-i)=evG b x y:=by
 have h1:∀k,k<7->sumN (λl=>gat b k l*mon x y k l) (7-j)=sumN (λl=>gat b k l*mon x y k l) 7:=λk hk=>
  kU (by omega) λl hl hl7=>by rw [hb k l hk hl7 (by omega)];grind
 have h2:sumN (λk=>sumN (λl=>gat b k l*mon x y k l) (7-j)) (7-i)=sumN (λk=>sumN (λl=>gat b k l*mon x y k l) 7) (7-i):=ug λk hk=>h1 k (by omega)
 rw [h2]
 unfold evG
 refine kU (by omega) λk hk hk7=>?_
 have h3:sumN (λl=>gat b k l*mon x y k l) 7=sumN (λ_=>0) 7:=ug λl hl=>by rw [hb k l hk7 hl (by omega)];grind
 rw [h3,xz]
theorem zby {a b:Gr} {d e i:Nat} (ha:DG d a) (hb:DG e b) (hde:d+e<=6) (hi:i<7) {o:Gr} (h:o.length=49) (x y:Rat):∀n,n<=7->evG (pjG a b i o n) x y=evG o x y+sumN (λj=>gat a i j*mon x y i j) n*evG b x y
 | 0,_=>by simp only [pjG,sumN];grind
 | n+1,hn=>by
  have ih:=zby ha hb hde hi h x y n (by omega)
  simp only [pjG,sumN]
  by_cases h0:gat a i n=0
  .rw [if_pos h0,ih,h0];grind
  .have hin:i+n<=d:=Nat.le_of_not_lt λhlt=>h0 (ha i n hi (by omega) hlt)
   rw [if_neg h0,VbC (YG h n) (by omega) x y (7-i) (by omega),ih,WbM hb (by omega)];grind
theorem XbF {a b:Gr} {d e:Nat} (ha:DG d a) (hb:DG e b) (hde:d+e<=6) (x y:Rat):∀n,n<=7->evG (piG a b n) x y=sumN (λi=>sumN (λj=>gat a i j*mon x y i j) 7) n*evG b x y
 | 0,_=>by
  show evG zG x y=0*evG b x y
  rw [xa6];grind
 | n+1,hn=>by
  show evG (pjG a b n (piG a b n) 7) x y=(sumN (λi=>sumN (λj=>gat a i j*mon x y i j) 7) n+sumN (λj=>gat a n j*mon x y n j) 7)*evG b x y
  rw [zby ha hb hde (by omega) (QN n) x y 7 (Nat.le_refl _),XbF ha hb hde x y n (by omega),Rat.add_mul]
theorem Xm {a b:Gr} {d e:Nat} (ha:DG d a) (hb:DG e b) (hde:d+e<=6) (x y:Rat):evG (prodG a b) x y=evG a x y*evG b x y:=XbF ha hb hde x y 7 (Nat.le_refl _)
theorem DG_z (d:Nat):DG d zG:=λi j _ _ _=>ual i j
theorem zbG (c:Rat):DG 0 (conG c):=λi j hi hj h=>by
 have:=qC Uq (i:=0) (j:=0) (i':=i) (j':=j) (by decide) (by decide) hi hj c
 rw [if_neg (by omega),ual]at this
 exact this
theorem Uao {d:Nat} {g:Gr} (hg:g.length=49) (h:DG d g) {i j:Nat} (hi:i<7) (hj:j<7) (hd:i+j<=d) (v:Rat):DG d (g.set (i*7+j) v):=λi' j' hi' hj' h'=>by
 rw [qC hg hi hj hi' hj',if_neg (by omega)];exact h i' j' hi' hj' h'
theorem Vbd (a b c:Rat):DG 1 (linG a b c):=by
 have l0:(zG.set 0 a).length=49:=by rw [List.length_set,Uq]
 have l1:((zG.set 0 a).set 7 b).length=49:=by rw [List.length_set,l0]
 have h0:=Uao Uq (DG_z 1) (i:=0) (j:=0) (by decide) (by decide) (by decide) a
 have h1:=Uao l0 h0 (i:=1) (j:=0) (by decide) (by decide) (by decide) b
 exact Uao l1 h1 (i:=0) (j:=1) (by decide) (by decide) (by decide) c
theorem yG {d:Nat} {a b:Gr} (ha:a.length=49) (hb:b.length=49) (h:DG d a) (h' : DG d b) (k:Rat):DG d (plusG a k b):=λi j hi hj hd=>by
 rw [J6 ha hb k hi hj,h i j hi hj hd,h' i j hi hj hd];grind
theorem kbo {d:Nat} {o:Gr} (hg:o.length=49) (h:DG d o) {i j:Nat} (hi:i<7) (hj:j<7) {v:Rat} (hd:i+j<=d∨v=0):DG d (addG o i j v):=by
 rcases hd with hd | rfl
 .exact Uao hg h hi hj hd _
 .intro i' j' hi' hj' h'
  unfold addG
  rw [qC hg hi hj hi' hj']
  split
  .rename_i e;rw [<-e.1,<-e.2,h i' j' hi' hj' h'];grind
  .exact h i' j' hi' hj' h'
theorem VbE {a b:Gr} {d e i j k:Nat} (hb:DG e b) (hij:i+j<=d) {o:Gr} (h:o.length=49) (ho:DG (d+e) o) (hik:i+k<7):∀n,j+n<=7->DG (d+e) (plG a b i j k o n)
 | 0,_=>ho
 | n+1,hn=>by
  simp only [plG]
  refine kbo (JL h n) (VbE hb hij h ho hik n (by omega)) hik (by omega) ?_
  by_cases hk:k+n<=e
  .exact .inl (by omega)
  .refine .inr ?_
   rw [hb k n (by omega) (by omega) (by omega)];grind
theorem kbE {a b:Gr} {d e i j:Nat} (hb:DG e b) (hij:i+j<=d) {o:Gr} (h:o.length=49) (ho:DG (d+e) o) (hj:j<7):∀n,i+n<=7->DG (d+e) (pkG a b i j o n)
 | 0,_=>ho
 | n+1,hn=>VbE hb hij (JN h n) (kbE hb hij h ho hj n (by omega)) (by omega) (7-j) (by omega)
theorem Wbw {a b:Gr} {d e i:Nat} (ha:DG d a) (hb:DG e b) (hi:i<7) {o:Gr} (h:o.length=49) (ho:DG (d+e) o):∀n,n<=7->DG (d+e) (pjG a b i o n)
 | 0,_=>ho
 | n+1,hn=>by
  have ih:=Wbw ha hb hi h ho n (by omega)
  simp only [pjG]
  split
  .exact ih
  .rename_i h0
   have hin:i+n<=d:=Nat.le_of_not_lt λhlt=>h0 (ha i n hi (by omega) hlt)
   exact kbE hb hin (YG h n) ih (by omega) (7-i) (by omega)
theorem JbG {a b:Gr} {d e:Nat} (ha:DG d a) (hb:DG e b):∀n,n<=7->DG (d+e) (piG a b n)
 | 0,_=>DG_z _
 | n+1,hn=>Wbw ha hb (by omega) (QN n) (JbG ha hb n (by omega)) 7 (Nat.le_refl _)
theorem uz {a b:Gr} {d e:Nat} (ha:DG d a) (hb:DG e b):DG (d+e) (prodG a b):=JbG ha hb 7 (Nat.le_refl _)
end Go.Num
end
section
namespace Go.Num
def lsT (g:Gr) (s i:Nat):MQ:=((i:Int),(s:Int)-(i:Int),gat g i (s-i))
def lsI (g:Gr) (s:Nat) (o:BQ):Nat->BQ
 | 0=>o
 | n+1=>if s<n∨6<s-n∨gat g n (s-n)=0 then lsI g s o n else lsI g s o n++[lsT g s n]
def lsS (g:Gr):Nat->BQ
 | 0=>[]
 | n+1=>lsI g n (lsS g n) 7
def lsG (g:Gr):BQ:=lsS g 13
structure Lw (b:Nat) (o:BQ):Prop where
 can:Canon o
 low:∀t∈o,kq t<b
theorem Zbd {g:Gr} {s i:Nat} (h:i<=s):kq (lsT g s i)=tri s+i:=by
 unfold kq lsT
 have e:((i:Int)+((s:Int)-(i:Int))).toNat=s:=by omega
 simp only [e]
 omega
theorem Lw.snoc {b:Nat} {o:BQ} (h:Lw b o) {t:MQ} (ht:inQ t) (hz:t.2.2≠0) (hb:b<=kq t):Lw (kq t+1) (o++[t]):=by
 refine ⟨⟨?_,?_,?_⟩,?_⟩
 .unfold StrM
  refine List.pairwise_append.2 ⟨h.can.str,List.pairwise_singleton _ _,λx hx y hy=>?_⟩
  rw [List.mem_singleton.1 hy]
  have:=h.low x hx;omega
 .intro x hx
  rcases List.mem_append.1 hx with hx | hx
  .exact h.can.ins x hx
  .rw [List.mem_singleton.1 hx];exact ht
 .intro x hx
  rcases List.mem_append.1 hx with hx | hx
  .exact h.can.nz x hx
  .rw [List.mem_singleton.1 hx];exact hz
 .intro x hx
  rcases List.mem_append.1 hx with hx | hx
  .have:=h.low x hx;omega
  .rw [List.mem_singleton.1 hx];omega
theorem Lw.mono {b c:Nat} {o:BQ} (h:Lw b o) (hb:b<=c):Lw c o:=⟨h.can,λt ht=>by have:=h.low t ht;omega⟩
theorem lw_I {g:Gr} {s:Nat} (hs:s<=12) {o:BQ} (h:Lw (tri s) o):∀n,Lw (tri s+n) (lsI g s o n)
 | 0=>h
 | n+1=>by
  have ih:=lw_I hs h (g:=g) n
  simp only [lsI]
  split
  .exact ih.mono (by omega)
  .rename_i hc
   simp only [not_or]at hc
   have hk:=Zbd (g:=g) (s:=s) (i:=n) (by omega)
   have:=ih.snoc (t:=lsT g s n) ⟨by show (0:Int)<=(n:Int);omega,by show (0:Int)<=(s:Int)-(n:Int);omega,by show (n:Int)+((s:Int)-(n:Int))<=24;omega⟩ hc.2.2 (by omega)
   rw [hk]at this
   exact this
theorem Ybs {g:Gr} {s:Nat} {o:BQ} (h:∀t∈o,kq t<tri s):∀n,∀t∈lsI g s o n,kq t<tri (s+1)
 | 0,t,ht=>by have:=h t ht;show kq t<tri s+(s+1);omega
 | n+1,t,ht=>by
  simp only [lsI]at ht
  split at ht
  .exact Ybs h n t ht
  .rename_i hc
   simp only [not_or]at hc
   rcases List.mem_append.1 ht with ht | ht
   .exact Ybs h n t ht
   .rw [List.mem_singleton.1 ht,Zbd (by omega)]
    show tri s+n<tri s+(s+1)
    omega
theorem lw_S (g:Gr):∀n,n<=13->Lw (tri n) (lsS g n)
 | 0,_=>⟨⟨List.Pairwise.nil,λ_ h=>by simp [lsS]at h,λ_ h=>by simp [lsS]at h⟩,λ_ h=>by simp [lsS]at h⟩
 | n+1,hn=>by
  have ih:=lw_S g n (by omega)
  exact ⟨(lw_I (by omega) ih 7).can,Ybs ih.low 7⟩
theorem qaV (g:Gr):Canon (lsG g):=(lw_S g 13 (Nat.le_refl _)).can
def tmG (g:Gr) (x y:Rat) (s i:Nat):Rat:=if s<i∨6<s-i then 0 else gat g i (s-i)*mon x y i (s-i)
theorem WbD (g:Gr) {s i:Nat} (h:i<=s) (x y:Rat):ev [lsT g s i] x y=gat g i (s-i)*mon x y i (s-i):=by
 have e:((s:Int)-(i:Int)).toNat=s-i:=by omega
 simp only [ev,mev,lsT,mon,e,Int.toNat_natCast]
 grind
theorem ev_I (g:Gr) (s:Nat) (o:BQ) (x y:Rat):∀n,ev (lsI g s o n) x y=ev o x y+sumN (tmG g x y s) n
 | 0=>by simp only [lsI,sumN];grind
 | n+1=>by
  have ih:=ev_I g s o x y n
  simp only [lsI,sumN]
  unfold tmG at ih ⊢
  by_cases h1:s<n∨6<s-n
  .rw [if_pos (by omega),if_pos h1,ih];grind
  .rw [if_neg h1]
   by_cases h2:gat g n (s-n)=0
   .rw [if_pos (.inr (.inr h2)),ih,h2];grind
   .rw [if_neg (λh=>by rcases h with h | h | h <;> first | exact h2 h | omega),Qw,ih,WbD g (by omega)];grind
theorem ev_S (g:Gr) (x y:Rat):∀n,ev (lsS g n) x y=sumN (λs=>sumN (tmG g x y s) 7) n
 | 0=>rfl
 | n+1=>by
  show ev (lsI g n (lsS g n) 7) x y=sumN (λs=>sumN (tmG g x y s) 7) n+sumN (tmG g x y n) 7
  rw [ev_I,ev_S g x y n]
theorem kZ (F:Nat->Nat->Rat) (m:Nat):∀n,sumN (λs=>sumN (λi=>F s i) m) n=sumN (λi=>sumN (λs=>F s i) n) m
 | 0=>by simp only [sumN];rw [xz]
 | n+1=>by
  show sumN (λs=>sumN (λi=>F s i) m) n+sumN (λi=>F n i) m=sumN (λi=>sumN (λs=>F s i) n+F n i) m
  rw [kZ F m n,UA]
theorem diag (g:Gr) (x y:Rat) {i:Nat} (hi:i<7):sumN (λs=>tmG g x y s i) 13=sumN (λj=>gat g i j*mon x y i j) 7:=by
 match i,hi with
 | 0,_=>simp [sumN,tmG];grind
 | 1,_=>simp [sumN,tmG];grind
 | 2,_=>simp [sumN,tmG];grind
 | 3,_=>simp [sumN,tmG];grind
 | 4,_=>simp [sumN,tmG];grind
 | 5,_=>simp [sumN,tmG];grind
 | 6,_=>simp [sumN,tmG];grind
theorem vbx (g:Gr) (x y:Rat):ev (lsG g) x y=evG g x y:=by
 unfold lsG evG
 rw [ev_S,kZ (λs i=>tmG g x y s i)]
 exact ug λi hi=>diag g x y hi
theorem jbg {g:Gr} {p:BQ} (hp:Canon p) (h:∀x y,ev p x y=evG g x y):lsG g=p:=
 Vba (qaV g) hp λx y=>by rw [vbx,h]
end Go.Num
end
section
namespace Go.Abs
open Go.Num
variable {P:Program} {Γ:Nat->Spec}
def zrs:Nat->List C
 | 0=>[]
 | n+1=>.lit (.bool false)::.emp::.emp::zrs n
def fl (G:List (List C)):List C:=G.flatten
def all3 (G:List (List C)):Prop:=∀t∈G,t.length=3
def gC (g:Gr):List C:=fl (g.map λq=>rC (rcan q))
def gA (g:Gr):AV:=.agg (gC g)
theorem ubc:∀{G:List (List C)},all3 G->(fl G).length=3*G.length
 | [],_=>rfl
 | t::G,h=>by
  have ih:=ubc (G:=G) λx hx=>h x (List.mem_cons_of_mem _ hx)
  unfold fl at ih ⊢
  rw [List.flatten_cons,List.length_append,ih,h t (List.mem_cons_self ..),List.length_cons];omega
theorem kaf:∀{G:List (List C)} (k:Nat),all3 G->(fl G).drop (3*k)=fl (G.drop k)
 | G,0,_=>by simp
 | [],k+1,_=>by simp [fl]
 | t::G,k+1,h=>by
  have ih:=kaf (G:=G) k λx hx=>h x (List.mem_cons_of_mem _ hx)
  have ht:=h t (List.mem_cons_self ..)
  unfold fl at ih ⊢
  rw [List.flatten_cons,List.drop_succ_cons,<-ih,show 3*(k+1)=t.length+3*k by omega,<-List.drop_drop,List.drop_left]
theorem WaH:∀{G:List (List C)} (k:Nat),all3 G->(fl G).take (3*k)=fl (G.take k)
 | G,0,_=>by simp [fl]
 | [],k+1,_=>by simp [fl]
 | t::G,k+1,h=>by
  have ih:=WaH (G:=G) k λx hx=>h x (List.mem_cons_of_mem _ hx)
  have ht:=h t (List.mem_cons_self ..)
  unfold fl at ih ⊢
  rw [List.flatten_cons,List.take_succ_cons,List.flatten_cons,<-ih,show 3*(k+1)=t.length+3*k by omega,List.take_append,List.take_of_length_le (by omega),Nat.add_sub_cancel_left]
theorem kby {G:List (List C)} {k:Nat} (h:all3 G) (hk:k<G.length):((fl G).drop (3*k)).take 3=G[k]:=by
 rw [kaf k h]
 have e:G.drop k=G[k]::G.drop (k+1):=(List.getElem_cons_drop hk).symm
 rw [e]
 unfold fl
 rw [List.flatten_cons,List.take_left' (h _ (List.getElem_mem hk))]
theorem vby {G:List (List C)} {k:Nat} (h:all3 G) (hk:k<G.length) (xs:List C) (hx:xs.length=3):splice (fl G) (3*k) 3 xs=fl (G.set k xs):=by
 unfold splice
 rw [WaH k h,show 3*k+3=3*(k+1) by omega,kaf (k+1) h]
 unfold fl
 rw [List.set_eq_take_append_cons_drop,if_pos hk,List.flatten_append,List.flatten_cons]
theorem qa2 (g:Gr):all3 (g.map λq=>rC (rcan q)):=λt ht=>by
 obtain ⟨q,_,rfl⟩:=List.mem_map.1 ht;rfl
theorem jc (g:Gr):(gC g).length=3*g.length:=by unfold gC;rw [ubc (qa2 g),List.length_map]
theorem VJ {g:Gr} {k:Nat} (hk:k<g.length):((gC g).drop (3*k)).take 3=rC (rcan (g.getD k 0)):=by
 unfold gC
 rw [kby (qa2 g) (by rw [List.length_map];exact hk),List.getElem_map,List.getD_eq_getElem?_getD,List.getElem?_eq_getElem hk];rfl
theorem Xbd {g:Gr} {k:Nat} (hk:k<g.length) (q:Rat):splice (gC g) (3*k) 3 (rC (rcan q))=gC (g.set k q):=by
 unfold gC
 rw [vby (qa2 g) (by rw [List.length_map];exact hk) _ rfl,List.map_set]
theorem ybi:∀{a b:Gr},gC a=gC b->a=b
 | [],[],_=>rfl
 | [],q::b,h=>by have:=congrArg List.length h;rw [jc,jc]at this;simp at this
 | p::a,[],h=>by have:=congrArg List.length h;rw [jc,jc]at this;simp at this
 | p::a,q::b,h=>by
  have h2:rC (rcan p)++gC a=rC (rcan q)++gC b:=h
  have h3:=List.append_inj h2 rfl
  have h4:=qbf h3.1
  have h5:p=q:=by have:=congrArg rv h4;rw [Wb,Wb]at this;exact this
  rw [h5,ybi h3.2]
theorem Ybg (a b:Gr) (h:gA a=gA b):a=b:=ybi (by simpa [gA] using h)
def onG (k:Gr->Prop) (a:AV):Prop:=onE gA (λg=>g.length=49/\k g) a
@[congr] theorem ZbV {k:Gr->Prop} {a a' : AV} (h:a=a'):onG k a=onG k a':=by subst h;rfl
theorem wbD (k:Gr->Prop) (g:Gr):onG k (.agg (gC g))=(g.length=49/\k g):=Wp Ybg (λg=>g.length=49/\k g) g
theorem kaT {β:Type} {T:Gr->(β->Prop)->Prop} (h:∀x,GoodT (T x)) {a:AV}:GoodT λK=>onG (λx=>T x K) a:=
 uF (e:=gA) (T:=λg K=>g.length=49/\T g K) Ybg λg=>GoodT.and (c:=g.length=49) (T:=T g) λ_=>h g
theorem yX (g:Gr):CleanL (gC g):=λc hc=>by
 unfold gC fl at hc
 obtain ⟨t,ht,hc⟩:=List.mem_flatten.1 hc
 obtain ⟨q,_,rfl⟩:=List.mem_map.1 ht
 simp only [rC,List.mem_cons,List.not_mem_nil,or_false]at hc
 rcases hc with rfl | rfl | rfl
 .exact of_eq_true (Zi _)
 .exact of_eq_true (ji _)
 .exact of_eq_true (vi _)
theorem wac:∀n,CleanL (zrs n)
 | 0=>λc hc=>by simp [zrs]at hc
 | n+1=>λc hc=>by
  simp only [zrs,List.mem_cons]at hc
  rcases hc with rfl | rfl | rfl | hc
  .exact .lit _
  .exact .emp
  .exact .emp
  .exact wac n c hc
theorem QC:∀n,(zrs n).length=3*n
 | 0=>rfl
 | n+1=>by simp only [zrs,List.length_cons];rw [QC n];omega
theorem Jbh (h:Nat->HB) (g:Gr):(gC g).map (datC h)=gC g:=by
 unfold gC fl
 rw [List.map_flatten,List.map_map]
 rfl
theorem Zbc (g:Gr):(gC g).flatMap ownC=[]:=by
 rw [List.flatMap_eq_nil_iff]
 intro c hc
 unfold gC fl at hc
 obtain ⟨t,ht,hc⟩:=List.mem_flatten.1 hc
 obtain ⟨q,_,rfl⟩:=List.mem_map.1 ht
 simp only [rC,List.mem_cons,List.not_mem_nil,or_false]at hc
 rcases hc with rfl | rfl | rfl <;> rfl
theorem Ud {g:Gr} (h:g.length=49):(gC g).take 147=gC g:=List.take_of_length_le (by rw [jc,h];decide)
theorem jau (g:Gr):(gC g).drop 0=gC g:=rfl
theorem XaH:(zrs 49).length=147:=QC 49
theorem Xa (g:Gr):CleanR [gC g]:=λe he=>by rw [List.mem_singleton.1 he];exact yX g
theorem Xj (n:Nat):CleanR [zrs n]:=λe he=>by rw [List.mem_singleton.1 he];exact wac n
theorem vbF (g:Gr):gA g=.agg (gC g):=eq_of_heq (HEq.refl _)
attribute [go_sem] wbD Jbh Zbc vbF jau XaH
attribute [go_sem ↓] wbD Jbh Zbc vbF jau XaH
def plusP (a:Gr) (k:Rat) (b:Gr):Nat->Gr
 | 0=>a
 | n+1=>(plusP a k b n).set n (a.getD n 0+k*b.getD n 0)
theorem qA (a:Gr) (k:Rat) (b:Gr):∀n,(plusP a k b n).length=a.length
 | 0=>rfl
 | n+1=>by simp only [plusP];rw [List.length_set,qA a k b n]
theorem WJ (a:Gr) (k:Rat) (b:Gr) (m:Nat):∀n,n<=a.length->(plusP a k b n).getD m 0=if m<n then a.getD m 0+k*b.getD m 0 else a.getD m 0
 | 0,_=>by simp [plusP]
 | n+1,hn=>by
  have ih:=WJ a k b m n (by omega)
  simp only [plusP]
  have hl:n<(plusP a k b n).length:=by rw [qA];omega
  by_cases h:m=n
  .subst h
   rw [List.getD_eq_getElem?_getD,List.getElem?_set_self hl,if_pos (by omega)];rfl
  .rw [List.getD_eq_getElem?_getD,List.getElem?_set_ne (by omega),<-List.getD_eq_getElem?_getD,ih]
   by_cases h2:m<n
   .rw [if_pos h2,if_pos (by omega)]
   .rw [if_neg h2,if_neg (by omega)]
theorem yaN {a b:Gr} {n:Nat} (ha:a.length=n) (hb:b.length=n) (k:Rat):plusP a k b n=plusG a k b:=by
 have hl:(plusG a k b).length=n:=by unfold plusG;rw [List.length_zipWith,ha,hb,Nat.min_self]
 refine List.ext_getElem (by rw [qA,hl,ha]) λm h1 h2=>?_
 have h:=WJ a k b m n (by omega)
 have h1':=h1
 rw [qA,ha]at h1'
 rw [if_pos h1',List.getD_eq_getElem?_getD,List.getElem?_eq_getElem h1,Option.getD_some]at h
 rw [h]
 have e:(plusG a k b)[m]'h2=a[m]'(by omega)+k*b[m]'(by omega):=List.getElem_zipWith
 rw [e,List.getD_eq_getElem?_getD,List.getElem?_eq_getElem (by omega),List.getD_eq_getElem?_getD,List.getElem?_eq_getElem (by omega)]
 rfl
theorem YH:∀(n k:Nat),(zrs (n+k)).drop (3*k)=zrs n
 | n,0=>rfl
 | n,k+1=>by
  have:=YH n k
  rw [show 3*(k+1)=3*k+3 by omega]
  exact this
theorem ZaA:∀(n k:Nat),(zrs (n+k)).take (3*k)=zrs k
 | n,0=>by simp [zrs]
 | n,k+1=>by
  have ih:=ZaA n k
  rw [show 3*(k+1)=3*k+3 by omega]
  show .lit (.bool false)::.emp::.emp::(zrs (n+k)).take (3*k)=_
  rw [ih];rfl
theorem Xz (q:Rat) (g:Gr):gC (q::g)=cb (rcan q)::cn (rcan q)::cd (rcan q)::gC g:=rfl
theorem wbc:∀(a b:Gr),gC (a++b)=gC a++gC b
 | [],_=>rfl
 | p::a,b=>by rw [List.cons_append,Xz,wbc a b,Xz];rfl
theorem qJ (h:Nat->HB):∀n,(zrs n).map (datC h)=gC (List.replicate n 0)
 | 0=>rfl
 | n+1=>by
  rw [List.replicate_succ,Xz,<-qJ h n,Wc]
  rfl
def kt (l:List AV) (K:AV->Prop):Prop:=
 match l with
 | [a,k,b]=>onG (λa=>onR (λk=>onG (λb=>gz a+gz b<=2000000000/\rl k<=1000000/\K (gA (plusG a (rv k) b))) b) k) a
 | _=>False
theorem Vax (a k b:AV) (K:AV->Prop):kt [a,k,b] K=(onG (λa=>onR (λk=>onG (λb=>gz a+gz b<=2000000000/\rl k<=1000000/\K (gA (plusG a (rv k) b))) b) k) a):=propext Iff.rfl
@[congr] theorem UbH {K:AV->Prop} {l l' : List AV} (h:l=l'):kt l K=kt l' K:=by subst h;rfl
attribute [go_sem] Vax
attribute [go_sem ↓] Vax
theorem UaB:Good kt:=ka λas=>by
 unfold kt
 split
 .exact (kaT λ_=>(Qf λ_=>(kaT λ_=>(.and λ_=>(.and λ_=>(.ret _))))))
 .exact .of λK hk=>hk.elim
def QF (l:List AV) (K:AV->Prop):Prop:=
 match l with
 | [x]=>onR (λx=>vldR x=true/\K (gA (conG (rv x)))) x
 | _=>False
theorem Xa3 (x:AV) (K:AV->Prop):QF [x] K=(onR (λx=>vldR x=true/\K (gA (conG (rv x)))) x):=propext Iff.rfl
@[congr] theorem JbU {K:AV->Prop} {l l' : List AV} (h:l=l'):QF l K=QF l' K:=by subst h;rfl
attribute [go_sem] Xa3
attribute [go_sem ↓] Xa3
theorem waQ:Good QF:=ka λas=>by
 unfold QF
 split
 .exact (Qf λ_=>(.and λ_=>(.ret _)))
 .exact .of λK hk=>hk.elim
def wD (l:List AV) (K:AV->Prop):Prop:=
 match l with
 | [a,b,c]=>onR (λa=>onR (λb=>onR (λc=>vldR a=true/\vldR b=true/\vldR c=true/\K (gA (linG (rv a) (rv b) (rv c)))) c) b) a
 | _=>False
theorem YaU (a b c:AV) (K:AV->Prop):wD [a,b,c] K=(onR (λa=>onR (λb=>onR (λc=>vldR a=true/\vldR b=true/\vldR c=true/\K (gA (linG (rv a) (rv b) (rv c)))) c) b) a):=propext Iff.rfl
@[congr] theorem vbU {K:AV->Prop} {l l' : List AV} (h:l=l'):wD l K=wD l' K:=by subst h;rfl
attribute [go_sem] YaU
attribute [go_sem ↓] YaU
theorem vaY:Good wD:=ka λas=>by
 unfold wD
 split
 .exact (Qf λ_=>(Qf λ_=>(Qf λ_=>(.and λ_=>(.and λ_=>(.and λ_=>(.ret _)))))))
 .exact .of λK hk=>hk.elim
def vj (f0 f1:Nat):AC:=(.seq (.ops false [.u 3 (.box 147 (.t 0)),.u 4 (.box 3 (.t 1)),.u 5 (.box 147 (.t 2)),.u 6 (.alloc (zrs 49))])
 (.fg [3,4,5,6] (.seq (.seq (.ops false [.m 9 (.i 0)])
 (.fg [3,4,5,6,9] (.block 0 (.loop (.seq (.ops false [.u 10 (.bin .lss (.t 9) (.i 7))])
 (.fg [3,4,5,6,9,10] (.seq (.cond (.t 10) .skip (.exit 0))
 (.fg [3,4,5,6,9] (.seq (.block 1 (.seq (.ops false [.m 11 (.t 9),.m 7 (.t 11)])
 (.fg [3,4,5,6,7,9] (.seq (.ops false [.m 12 (.i 0)])
 (.fg [3,4,5,6,7,9,12] (.block 2 (.loop (.seq (.ops false [.u 13 (.bin .lss (.t 12) (.i 7))])
 (.fg [3,4,5,6,7,9,12,13] (.seq (.cond (.t 13) .skip (.exit 2))
 (.fg [3,4,5,6,7,9,12] (.seq (.block 3 (.seq (.ops false [.m 14 (.t 12),.m 8 (.t 14)])
 (.fg [3,4,5,6,7,8,9,12] (.ops true [.m 15 (.t 7),.m 16 (.t 8),.m 17 (.t 7),.m 18 (.t 8),.u 19 (.ai 21 7 (.t 3) (.t 17)),.u 20 (.ai 3 7 (.t 19) (.t 18)),.u 21 (.ld none 3 true (.t 20)),.u 22 (.ld none 3 true (.t 4)),.m 23 (.t 7),.m 24 (.t 8),.u 25 (.ai 21 7 (.t 5) (.t 23)),.u 26 (.ai 3 7 (.t 25) (.t 24)),.u 27 (.ld none 3 true (.t 26)),.u 28 (.call f0 [(.t 22),(.t 27)]),.u 29 (.call f1 [(.t 21),(.t 28)]),.u 30 (.ai 21 7 (.t 3) (.t 15)),.u 31 (.ai 3 7 (.t 30) (.t 16)),.n (.st none 3 (.t 31) (.t 29))]))))
 (.fg [3,4,5,6,7,9,12] (.ops false [.u 32 (.bin .add (.t 12) (.i 1)),.m 12 (.t 32)]))))))))))))))
 (.fg [3,4,5,6,9] (.ops false [.u 33 (.bin .add (.t 9) (.i 1)),.m 9 (.t 33)])))))))))))
 (.fg [3,6] (.seq (.ops false [.u 34 (.ld none 147 true (.t 3)),.n (.st none 147 (.t 6) (.t 34))])
 .ret)))))
def Ye:AC:=(.seq (.ops false [.u 1 (.box 3 (.t 0)),.u 2 (.alloc (zrs 49))])
 (.fg [1,2] (.seq (.ops false [.u 3 (.alloc (zrs 49))])
 (.fg [1,2,3] (.seq (.ops false [.u 4 (.ld none 3 true (.t 1)),.u 5 (.ai 21 7 (.t 3) (.i 0)),.u 6 (.ai 3 7 (.t 5) (.i 0)),.n (.st none 3 (.t 6) (.t 4))])
 (.fg [2,3] (.seq (.ops false [.u 7 (.ld none 147 true (.t 3)),.n (.st none 147 (.t 2) (.t 7))])
 .ret)))))))
def Qg:AC:=(.seq (.ops false [.u 3 (.box 3 (.t 0)),.u 4 (.box 3 (.t 1)),.u 5 (.box 3 (.t 2)),.u 6 (.alloc (zrs 49))])
 (.fg [3,4,5,6] (.seq (.ops false [.u 7 (.alloc (zrs 49))])
 (.fg [3,4,5,6,7] (.seq (.ops true [.u 8 (.ld (some 3) 3 true (.t 3)),.u 9 (.ld (some 4) 3 true (.t 4)),.u 10 (.ld (some 5) 3 true (.t 5)),.u 11 (.ai 21 7 (.t 7) (.i 0)),.u 12 (.ai 3 7 (.t 11) (.i 0)),.n (.st (some 7) 3 (.t 12) (.t 8)),.u 13 (.ai 21 7 (.t 7) (.i 1)),.u 14 (.ai 3 7 (.t 13) (.i 0)),.n (.st (some 7) 3 (.t 14) (.t 9)),.u 15 (.ai 21 7 (.t 7) (.i 0)),.u 16 (.ai 3 7 (.t 15) (.i 1)),.n (.st (some 7) 3 (.t 16) (.t 10))])
 (.fg [6,7] (.seq (.ops false [.u 17 (.ld none 147 true (.t 7)),.n (.st none 147 (.t 6) (.t 17))])
 .ret)))))))
theorem Vak (hΓ:Holds P Γ) {f fm fa:Nat} (hm:Γ fm=.dat false xg) (ha' : Γ fa=.dat false Ql) (hc:check P f=some (35,(vj fm fa).strip,[.cell 6 147 true])):Sound P f (.dat false kt):=by
 refine Va hc UaB hΓ (λargs K hcl hfi hG=>?_)
 match args,hG with
 | [u,v,w],hG=>
  obtain ⟨a,rfl,ha,k,rfl,wk,b,rfl,hb,hz,hk,hK⟩:=hG
  refine ⟨by simp,?_⟩
  have la:(gC a).length=147:=by rw [jc,ha]
  have lb:(gC b).length=147:=by rw [jc,hb]
  simp only [go_sem,vj,la,lb]
  have stp:∀i j,i<7->j<7->(plusP a (rv k) b (i*7+j)).set (i*7+j) (a.getD (i*7+j) 0+rv k*b.getD (i*7+j) 0)=plusP a (rv k) b (i*7+(j+1)):=λi j _ _=>rfl
  refine Wa (λi:Nat=>⟨mkV [(3,.one (.ptr 3 1 0 0)),(4,.one (.ptr 4 1 0 0)),(5,.one (.ptr 5 1 0 0)),(6,.one (.ptr 6 1 0 0)),(9,.one (.lit (.int .i64 i)))],mkH [(3,⟨1,some ⟨[gC (plusP a (rv k) b (i*7))],147,true⟩⟩),(4,⟨1,some ⟨[[cb k,cn k,cd k]],3,true⟩⟩),(5,⟨1,some ⟨[gC b],147,true⟩⟩),(6,⟨1,some ⟨[zrs 49],147,true⟩⟩)]⟩) (λi=>i<=7) (λi=>7-i) 0 ?_ ?_ ?_
  .exact Qa (by simp [okS,okV,okC,okL,okH,okB,okE,Za,Ja,za,ja,wsA,ws]) ⟨ub (Xa _),ub (λe he=>by rw [List.mem_singleton.1 he];exact xH k),ub (Xa _),ub (Xj _),trivial⟩
  .exact Nat.zero_le _
  .intro i hi
   by_cases hlt:i<7
   .have hlt' : ((i:Nat):Int)<7:=by omega
    simp only [go_sem,hlt']
    refine Wa (λj:Nat=>⟨mkV [(3,.one (.ptr 3 1 0 0)),(4,.one (.ptr 4 1 0 0)),(5,.one (.ptr 5 1 0 0)),(6,.one (.ptr 6 1 0 0)),(7,.one (.lit (.int .i64 i))),(9,.one (.lit (.int .i64 i))),(12,.one (.lit (.int .i64 j)))],mkH [(3,⟨1,some ⟨[gC (plusP a (rv k) b (i*7+j))],147,true⟩⟩),(4,⟨1,some ⟨[[cb k,cn k,cd k]],3,true⟩⟩),(5,⟨1,some ⟨[gC b],147,true⟩⟩),(6,⟨1,some ⟨[zrs 49],147,true⟩⟩)]⟩) (λj=>j<=7) (λj=>7-j) 0 ?_ ?_ ?_
    .exact Qa (by simp [okS,okV,okC,okL,okH,okB,okE,Za,Ja,za,ja,wsA,ws]) ⟨ub (Xa _),ub (λe he=>by rw [List.mem_singleton.1 he];exact xH k),ub (Xa _),ub (Xj _),trivial⟩
    .exact Nat.zero_le _
    .intro j hj
     by_cases hlt2:j<7
     .have hlt2' : ((j:Nat):Int)<7:=by omega
      have ho:i*21+j*3=3*(i*7+j):=by omega
      have lP:=qA a (rv k) b (i*7+j)
      obtain ⟨A,hA⟩:∃A,plusP a (rv k) b (i*7+j)=A:=⟨_,rfl⟩
      obtain ⟨p,hp⟩:∃p,a.getD (i*7+j) 0=p:=⟨_,rfl⟩
      obtain ⟨q,hq⟩:∃q,b.getD (i*7+j) 0=q:=⟨_,rfl⟩
      have hAp:A.getD (i*7+j) 0=p:=by rw [<-hA,WJ _ _ _ _ _ (by omega),if_neg (by omega),hp]
      rw [hA,ha]at lP
      have g1:List.take 3 (List.drop (i*21+j*3) (gC A))=[cb (rcan p),cn (rcan p),cd (rcan p)]:=by rw [ho,VJ (by omega),hAp];rfl
      have g2:List.take 3 (List.drop (i*21+j*3) (gC b))=[cb (rcan q),cn (rcan q),cd (rcan q)]:=by rw [ho,VJ (by omega),hq];rfl
      have l1:(3<=(List.drop (i*21+j*3) (gC A)).length)=True:=eq_true (by rw [List.length_drop,jc,lP];omega)
      have l2:(3<=(List.drop (i*21+j*3) (gC b)).length)=True:=eq_true (by rw [List.length_drop,jc,hb];omega)
      have l3:(i*21+j*3+3<=(gC A).length)=True:=eq_true (by rw [jc,lP];omega)
      have s1:List.take (i*21+j*3) (gC A)++([cb (rcan (p+rv k*q)),cn (rcan (p+rv k*q)),cd (rcan (p+rv k*q))]++List.drop (i*21+j*3+3) (gC A))=gC (plusP a (rv k) b (i*7+(j+1))):=by
       have e:=Xbd (g:=A) (k:=i*7+j) (by omega) (p+rv k*q)
       rw [VH,<-ho]at e
       have e2:=stp i j hlt hlt2
       rw [hA,hp,hq]at e2
       rw [<-e2,<-e];rfl
      have z1:rz p<=gz a:=by rw [<-hp];exact jaO a _
      have z2:rz q<=gz b:=by rw [<-hq];exact jaO b _
      have z3:=Qd wk
      have z4:=Vb (rv k) q
      have y1:rl k<=4294967296:=by omega
      have y2:rz q<=4294967296:=by omega
      have y3:rz p<=4294967296:=by omega
      have y4:rz (rv k*q)<=4294967296:=by omega
      have hii:(i<7)=True:=eq_true hlt
      have hjj:(j<7)=True:=eq_true hlt2
      simp only [go_sem,hlt',hlt2',hm,ha',hA,g1,g2,l1,l2,l3,s1,Wb,hii,hjj]
      repeat (first | (refine And.intro (by with_reducible assumption) ?_) | (refine And.intro (Nat.le_trans (by with_reducible assumption) (by decide)) ?_) | (refine And.intro (by decide) ?_))
      refine ⟨by omega,j+1,Qa (by simp [okS,okV,okC,okL,okH,okB,okE,Za,Ja,za,ja,wsA,ws]) ⟨?_,ub (λe he=>by rw [List.mem_singleton.1 he];exact xH k),ub (Xa _),ub (Xj _),trivial⟩,by omega,by omega⟩
      rw [<-s1]
      exact ub (λe he=>by rw [List.mem_singleton.1 he];exact s1▸yX _)
     .have hj7:j=7:=by omega
      subst hj7
      have e77:(((7:Nat):Int)<7)=False:=eq_false (by decide)
      simp only [go_sem,e77]
      have hi1:i*7+7=(i+1)*7:=by omega
      refine ⟨by omega,i+1,?_,by omega,by omega⟩
      rw [hi1]
      exact Qa (by simp [okS,okV,okC,okL,okH,okB,okE,Za,Ja,za,ja,wsA,ws]) ⟨ub (Xa _),ub (λe he=>by rw [List.mem_singleton.1 he];exact xH k),ub (Xa _),ub (Xj _),trivial⟩
   .have hi7:i=7:=by omega
    subst hi7
    have e77:(((7:Nat):Int)<7)=False:=eq_false (by decide)
    have hpl:plusP a (rv k) b 49=plusG a (rv k) b:=yaN ha hb _
    have hlen:(plusG a (rv k) b).length=49:=wd ha hb _
    have hgl:(gC (plusG a (rv k) b)).length=147:=by rw [jc,hlen]
    have htk:=Ud hlen
    simp only [go_sem,e77,hpl,hgl,htk]
    exact hK
theorem YaC (hΓ:Holds P Γ) {f:Nat} (hc:check P f=some (8,Ye.strip,[.cell 2 147 true])):Sound P f (.dat false QF):=by
 refine Va hc waQ hΓ (λargs K hcl hfi hG=>?_)
 match args,hG with
 | [u],hG=>
  obtain ⟨x,rfl,wx,hv,hK⟩:=hG
  refine ⟨by simp,?_⟩
  have d1:(zrs 49).drop 3=zrs 48:=YH 48 1
  have t1:(zrs 48).take 144=zrs 48:=List.take_of_length_le (by rw [QC];decide)
  have l1:(zrs 48).length=144:=QC 48
  have hx:=Zm wx hv
  have e:gC (conG (rv x))=cb x::cn x::cd x::gC (List.replicate 48 0):=by
   have e1:conG (rv x)=rv x::List.replicate 48 0:=rfl
   rw [e1,Xz,hx]
  unfold gA at hK
  rw [e]at hK
  simp only [go_sem,Ye,rA,d1,t1,l1,qJ]
  exact ⟨by decide,by decide,hK⟩
theorem xaF (hΓ:Holds P Γ) {f:Nat} (hc:check P f=some (18,Qg.strip,[.cell 6 147 true])):Sound P f (.dat false wD):=by
 refine Va hc vaY hΓ (λargs K hcl hfi hG=>?_)
 match args,hG with
 | [u,v,w],hG=>
  obtain ⟨a,rfl,wa,b,rfl,wb,c,rfl,wcc,va,vb,vc,hK⟩:=hG
  refine ⟨by simp,?_⟩
  have d1:(zrs 49).drop 3=zrs 48:=YH 48 1
  have t1:(zrs 48).take 18=zrs 6:=ZaA 42 6
  have d2:(zrs 48).drop 21=zrs 41:=YH 41 7
  have l1:(zrs 48).length=144:=QC 48
  have d3:(zrs 6++cb b::cn b::cd b::zrs 41).drop 3=zrs 5++cb b::cn b::cd b::zrs 41:=rfl
  have l2:(zrs 6++cb b::cn b::cd b::zrs 41).length=144:=by simp only [List.length_append,List.length_cons,QC]
  have l3:(zrs 5++cb b::cn b::cd b::zrs 41).length=141:=by simp only [List.length_append,List.length_cons,QC]
  have t2:(zrs 5++cb b::cn b::cd b::zrs 41).take 141=zrs 5++cb b::cn b::cd b::zrs 41:=List.take_of_length_le (Nat.le_of_eq l3)
  have ha:=Zm wa va
  have hb:=Zm wb vb
  have hcc:=Zm wcc vc
  have m1:∀h:Nat->HB,(zrs 5++cb b::cn b::cd b::zrs 41).map (datC h)=gC (List.replicate 5 0)++cb b::cn b::cd b::gC (List.replicate 41 0):=λh=>by
   rw [List.map_append,List.map_cons,List.map_cons,List.map_cons,qJ,qJ];rfl
  have e:gC (linG (rv a) (rv b) (rv c))=cb a::cn a::cd a::cb c::cn c::cd c::(gC (List.replicate 5 0)++cb b::cn b::cd b::gC (List.replicate 41 0)):=by
   have e1:linG (rv a) (rv b) (rv c)=rv a::rv c::(List.replicate 5 0++rv b::List.replicate 41 0):=rfl
   rw [e1,Xz,Xz,wbc,Xz,ha,hb,hcc]
  unfold gA at hK
  rw [e]at hK
  simp only [go_sem,Qg,rA,d1,t1,d2,l1,d3,l2,l3,t2,m1]
  exact ⟨by decide,by decide,by decide,by decide,by decide,by decide,hK⟩
end Go.Abs
end
section
namespace Go.Num
theorem kbh {g:Gr} (hg:g.length=49) {i:Nat} (hi:i<7) {j:Nat} (hj:j<=7):rzN (λl=>gat g i l) j<=gz g:=by
 have h1:=xY (λl=>gat g i l) hj
 have h2:rrN g 7 (i+1)<=rrN g 7 7:=WE g 7 (by omega)
 have h3:rrN g 7 (i+1)=rrN g 7 i+rzN (λl=>gat g i l) 7:=rfl
 rw [kO hg]at h2
 omega
theorem ubl {a b:Gr} (ha:a.length=49) (hb:b.length=49) {i j k l:Nat} (hi:i<7) (hj:j<7) (hk:k<=7) (hk' : k<7∨l=0) (hl:l<=7):gz (plG a b i j k (pkG a b i j (pjG a b i (piG a b i) j) k) l)<=200*(gz a+gz b)+20000:=by
 have h1:=Jbm a b i
 have h2:=ubj a b i (piG a b i) j
 have h3:=wbj a b i j (pjG a b i (piG a b i) j) k
 have h4:=Jbq a b i j k (pkG a b i j (pjG a b i (piG a b i) j) k) l
 have r1:rrN a 7 i<=gz a:=by rw [<-kO ha];exact WE a 7 (by omega)
 have r2:rrN b 7 k<=gz b:=by rw [<-kO hb];exact WE b 7 hk
 rw [kO hb]at h1 h2
 have r3:=kbh ha hi (by omega:j<=7)
 have r4:rzN (λm=>gat b k m) l<=gz b:=by
  rcases hk' with h | h
  .exact kbh hb h hl
  .subst h;show 0<=_;omega
 have q:=qT a i j
 have m1:i*(7*(196+gz b))<=7*(7*(196+gz b)):=Nat.mul_le_mul_right _ (by omega)
 have m2:j*(196+gz b)<=7*(196+gz b):=Nat.mul_le_mul_right _ (by omega)
 have m3:k*(7*(rz (gat a i j)+4))<=7*(7*(rz (gat a i j)+4)):=Nat.mul_le_mul_right _ hk
 have m4:l*(rz (gat a i j)+4)<=7*(rz (gat a i j)+4):=Nat.mul_le_mul_right _ hl
 omega
end Go.Num
namespace Go.Abs
open Go.Num
variable {P:Program} {Γ:Nat->Spec}
theorem jbx (h h' : Nat->HB):∀n,okL h h' (zrs n) (gC (List.replicate n 0))
 | 0=>trivial
 | n+1=>by
  rw [List.replicate_succ,Xz,Wc]
  exact ⟨rfl,rfl,rfl,jbx h h' n⟩
theorem Wbs {h h' : Nat->HB} {z:Nat} {b:Bool}:okB h h' (some ⟨[zrs 49],z,b⟩) (some ⟨[gC zG],z,b⟩):=
 ⟨⟨rfl,rfl⟩,.inr ⟨jbx h h' 49,trivial⟩⟩
def Qu (l:List AV) (K:AV->Prop):Prop:=
 match l with
 | [a,b]=>onG (λa=>onG (λb=>gz a+gz b<=20000000/\K (gA (prodG a b))) b) a
 | _=>False
theorem Var (a b:AV) (K:AV->Prop):Qu [a,b] K=(onG (λa=>onG (λb=>gz a+gz b<=20000000/\K (gA (prodG a b))) b) a):=propext Iff.rfl
@[congr] theorem xbH {K:AV->Prop} {l l' : List AV} (h:l=l'):Qu l K=Qu l' K:=by subst h;rfl
attribute [go_sem] Var
attribute [go_sem ↓] Var
theorem jaC:Good Qu:=ka λas=>by
 unfold Qu
 split
 .exact (kaT λ_=>(kaT λ_=>(.and λ_=>(.ret _))))
 .exact .of λK hk=>hk.elim
def Vf (f0 f1 f2:Nat):AC:=(.seq (.ops false [.u 2 (.box 147 (.t 0)),.u 3 (.box 147 (.t 1)),.u 4 (.alloc (zrs 49))])
 (.fg [2,3,4] (.seq (.ops false [.u 5 (.alloc (zrs 49))])
 (.fg [2,3,4,5] (.seq (.seq (.ops false [.m 10 (.i 0)])
 (.fg [2,3,4,5,10] (.block 0 (.loop (.seq (.ops false [.u 11 (.bin .lss (.t 10) (.i 7))])
 (.fg [2,3,4,5,10,11] (.seq (.cond (.t 11) .skip (.exit 0))
 (.fg [2,3,4,5,10] (.seq (.block 1 (.seq (.ops false [.m 12 (.t 10),.m 6 (.t 12)])
 (.fg [2,3,4,5,6,10] (.seq (.ops false [.m 13 (.i 0)])
 (.fg [2,3,4,5,6,10,13] (.block 2 (.loop (.seq (.ops false [.u 14 (.bin .lss (.t 13) (.i 7))])
 (.fg [2,3,4,5,6,10,13,14] (.seq (.cond (.t 14) .skip (.exit 2))
 (.fg [2,3,4,5,6,10,13] (.seq (.block 3 (.seq (.ops false [.m 15 (.t 13),.m 7 (.t 15)])
 (.fg [2,3,4,5,6,7,10,13] (.seq (.seq (.ops false [.m 16 (.t 6),.m 17 (.t 7),.u 18 (.ai 21 7 (.t 2) (.t 16)),.u 19 (.ai 3 7 (.t 18) (.t 17)),.u 20 (.ld none 3 true (.t 19)),.u 21 (.call f0 [(.t 20)])])
 (.fg [2,3,4,5,6,7,10,13,21] (.cond (.t 21) (.exit 3) .skip)))
 (.fg [2,3,4,5,6,7,10,13] (.seq (.ops false [.m 22 (.t 6),.u 23 (.bin .sub (.i 7) (.t 22)),.m 24 (.i 0)])
 (.fg [2,3,4,5,6,7,10,13,23,24] (.block 4 (.loop (.seq (.ops false [.u 25 (.bin .lss (.t 24) (.t 23))])
 (.fg [2,3,4,5,6,7,10,13,23,24,25] (.seq (.cond (.t 25) .skip (.exit 4))
 (.fg [2,3,4,5,6,7,10,13,23,24] (.seq (.block 5 (.seq (.ops false [.m 26 (.t 24),.m 8 (.t 26)])
 (.fg [2,3,4,5,6,7,8,10,13,23,24] (.seq (.ops false [.m 27 (.t 7),.u 28 (.bin .sub (.i 7) (.t 27)),.m 29 (.i 0)])
 (.fg [2,3,4,5,6,7,8,10,13,23,24,28,29] (.block 6 (.loop (.seq (.ops false [.u 30 (.bin .lss (.t 29) (.t 28))])
 (.fg [2,3,4,5,6,7,8,10,13,23,24,28,29,30] (.seq (.cond (.t 30) .skip (.exit 6))
 (.fg [2,3,4,5,6,7,8,10,13,23,24,28,29] (.seq (.block 7 (.seq (.ops false [.m 31 (.t 29),.m 9 (.t 31)])
 (.fg [2,3,4,5,6,7,8,9,10,13,23,24,28,29] (.ops true [.m 32 (.t 6),.m 33 (.t 8),.u 34 (.bin .add (.t 32) (.t 33)),.m 35 (.t 7),.m 36 (.t 9),.u 37 (.bin .add (.t 35) (.t 36)),.m 38 (.t 6),.m 39 (.t 8),.u 40 (.bin .add (.t 38) (.t 39)),.m 41 (.t 7),.m 42 (.t 9),.u 43 (.bin .add (.t 41) (.t 42)),.u 44 (.ai 21 7 (.t 5) (.t 40)),.u 45 (.ai 3 7 (.t 44) (.t 43)),.u 46 (.ld none 3 true (.t 45)),.m 47 (.t 6),.m 48 (.t 7),.u 49 (.ai 21 7 (.t 2) (.t 47)),.u 50 (.ai 3 7 (.t 49) (.t 48)),.u 51 (.ld none 3 true (.t 50)),.m 52 (.t 8),.m 53 (.t 9),.u 54 (.ai 21 7 (.t 3) (.t 52)),.u 55 (.ai 3 7 (.t 54) (.t 53)),.u 56 (.ld none 3 true (.t 55)),.u 57 (.call f1 [(.t 51),(.t 56)]),.u 58 (.call f2 [(.t 46),(.t 57)]),.u 59 (.ai 21 7 (.t 5) (.t 34)),.u 60 (.ai 3 7 (.t 59) (.t 37)),.n (.st none 3 (.t 60) (.t 58))]))))
 (.fg [2,3,4,5,6,7,8,10,13,23,24,28,29] (.ops false [.u 61 (.bin .add (.t 29) (.i 1)),.m 29 (.t 61)]))))))))))))))
 (.fg [2,3,4,5,6,7,10,13,23,24] (.ops false [.u 62 (.bin .add (.t 24) (.i 1)),.m 24 (.t 62)]))))))))))))))))
 (.fg [2,3,4,5,6,10,13] (.ops false [.u 63 (.bin .add (.t 13) (.i 1)),.m 13 (.t 63)]))))))))))))))
 (.fg [2,3,4,5,10] (.ops false [.u 64 (.bin .add (.t 10) (.i 1)),.m 10 (.t 64)])))))))))))
 (.fg [4,5] (.seq (.ops false [.u 65 (.ld none 147 true (.t 5)),.n (.st none 147 (.t 4) (.t 65))])
 .ret)))))))
set_option maxHeartbeats 1000000 in
theorem Qah (hΓ:Holds P Γ) {f fz fm fa:Nat} (hz' : Γ fz=.dat true uv) (hm:Γ fm=.dat false xg) (ha' : Γ fa=.dat false Ql) (hc:check P f=some (66,(Vf fz fm fa).strip,[.cell 4 147 true])):Sound P f (.dat false Qu):=by
 refine Va hc jaC hΓ (λargs K hcl hfi hG=>?_)
 match args,hG with
 | [u,w],hG=>
  obtain ⟨a,rfl,ha,b,rfl,hb,hz,hK⟩:=hG
  refine ⟨by simp,?_⟩
  have la:(gC a).length=147:=by rw [jc,ha]
  have lb:(gC b).length=147:=by rw [jc,hb]
  simp only [go_sem,Vf,la,lb]
  refine Wa (λi:Nat=>⟨mkV [(2,.one (.ptr 2 1 0 0)),(3,.one (.ptr 3 1 0 0)),(4,.one (.ptr 4 1 0 0)),(5,.one (.ptr 5 1 0 0)),(10,.one (.lit (.int .i64 i)))],mkH [(2,⟨1,some ⟨[gC a],147,true⟩⟩),(3,⟨1,some ⟨[gC b],147,true⟩⟩),(4,⟨1,some ⟨[zrs 49],147,true⟩⟩),(5,⟨1,some ⟨[gC (piG a b i)],147,true⟩⟩)]⟩) (λi=>i<=7) (λi=>7-i) 0 ?_ ?_ ?_
  .exact Qa (by simp [okS,okV,okC,okL,okH,okB,okE,Za,Ja,za,ja,wsA,ws]) ⟨ub (Xa _),ub (Xa _),ub (Xj _),Wbs,trivial⟩
  .exact Nat.zero_le _
  .intro i hi
   by_cases hlt:i<7
   .have hlt' : ((i:Nat):Int)<7:=by omega
    simp only [go_sem,hlt']
    refine Wa (λj:Nat=>⟨mkV [(2,.one (.ptr 2 1 0 0)),(3,.one (.ptr 3 1 0 0)),(4,.one (.ptr 4 1 0 0)),(5,.one (.ptr 5 1 0 0)),(6,.one (.lit (.int .i64 i))),(10,.one (.lit (.int .i64 i))),(13,.one (.lit (.int .i64 j)))],mkH [(2,⟨1,some ⟨[gC a],147,true⟩⟩),(3,⟨1,some ⟨[gC b],147,true⟩⟩),(4,⟨1,some ⟨[zrs 49],147,true⟩⟩),(5,⟨1,some ⟨[gC (pjG a b i (piG a b i) j)],147,true⟩⟩)]⟩) (λj=>j<=7) (λj=>7-j) 0 ?_ ?_ ?_
    .exact Qa (by simp [okS,okV,okC,okL,okH,okB,okE,Za,Ja,za,ja,wsA,ws]) ⟨ub (Xa _),ub (Xa _),ub (Xj _),ub (Xa _),trivial⟩
    .exact Nat.zero_le _
    .intro j hj
     by_cases hlt2:j<7
     .have hlt2' : ((j:Nat):Int)<7:=by omega
      have hii:(i<7)=True:=eq_true hlt
      have hjj:(j<7)=True:=eq_true hlt2
      have ho:i*21+j*3=3*(i*7+j):=by omega
      obtain ⟨q,hq⟩:∃q,gat a i j=q:=⟨_,rfl⟩
      have g2:List.take 3 (List.drop (i*21+j*3) (gC a))=[cb (rcan q),cn (rcan q),cd (rcan q)]:=by rw [ho,VJ (by omega)];unfold gat at hq;rw [hq];rfl
      have l2:(3<=(List.drop (i*21+j*3) (gC a)).length)=True:=eq_true (by rw [List.length_drop,jc,ha];omega)
      have zq' : rz q<=20000000:=by rw [<-hq];have:=qT a i j;omega
      by_cases h0:q=0
      .have e0:decide (q=0)=true:=decide_eq_true h0
       have ep:pjG a b i (piG a b i) (j+1)=pjG a b i (piG a b i) j:=by show (if gat a i j=0 then _ else _)=_;rw [hq,if_pos h0]
       simp only [go_sem,hlt',hlt2',hz',g2,l2,hii,hjj,Wb,e0]
       repeat (first | (refine And.intro (by with_reducible assumption) ?_) | (refine And.intro (Nat.le_trans (by with_reducible assumption) (by decide)) ?_) | (refine And.intro (by decide) ?_))
       refine ⟨by omega,j+1,Qa (by simp [okS,okV,okC,okL,okH,okB,okE,Za,Ja,za,ja,wsA,ws]) ⟨ub (Xa _),ub (Xa _),ub (Xj _),?_,trivial⟩,by omega,by omega⟩
       rw [ep]
       exact ub (Xa _)
      .have e0:decide (q=0)=false:=decide_eq_false h0
       simp only [go_sem,hlt',hlt2',hz',g2,l2,hii,hjj,Wb,e0]
       repeat (first | (refine And.intro (by with_reducible assumption) ?_) | (refine And.intro (Nat.le_trans (by with_reducible assumption) (by decide)) ?_) | (refine And.intro (by decide) ?_))
       refine ⟨⟨by omega,by omega⟩,?_⟩
       obtain ⟨o,ho1⟩:∃o,pjG a b i (piG a b i) j=o:=⟨_,rfl⟩
       have hol:o.length=49:=by rw [<-ho1];exact YG (QN i) j
       have ep:pjG a b i (piG a b i) (j+1)=pkG a b i j o (7-i):=by show (if gat a i j=0 then _ else _)=_;rw [hq,if_neg h0,ho1]
       refine Wa (λk:Nat=>⟨mkV [(2,.one (.ptr 2 1 0 0)),(3,.one (.ptr 3 1 0 0)),(4,.one (.ptr 4 1 0 0)),(5,.one (.ptr 5 1 0 0)),(6,.one (.lit (.int .i64 i))),(7,.one (.lit (.int .i64 j))),(10,.one (.lit (.int .i64 i))),(13,.one (.lit (.int .i64 j))),(23,.one (.lit (.int .i64 (7-(i:Int))))),(24,.one (.lit (.int .i64 k)))],mkH [(2,⟨1,some ⟨[gC a],147,true⟩⟩),(3,⟨1,some ⟨[gC b],147,true⟩⟩),(4,⟨1,some ⟨[zrs 49],147,true⟩⟩),(5,⟨1,some ⟨[gC (pkG a b i j o k)],147,true⟩⟩)]⟩) (λk=>k<=7-i) (λk=>7-i-k) 0 ?_ ?_ ?_
       .refine Qa (by simp [okS,okV,okC,okL,okH,okB,okE,Za,Ja,za,ja,wsA,ws]) ⟨ub (Xa _),ub (Xa _),ub (Xj _),?_,trivial⟩
        rw [ho1]
        exact ub (Xa _)
       .exact Nat.zero_le _
       .intro k hk
        by_cases hlt3:k<7-i
        .have hlt3' : ((k:Nat):Int)<7-(i:Int):=by omega
         simp only [go_sem,hlt3']
         refine ⟨⟨by omega,by omega⟩,?_⟩
         refine Wa (λl:Nat=>⟨mkV [(2,.one (.ptr 2 1 0 0)),(3,.one (.ptr 3 1 0 0)),(4,.one (.ptr 4 1 0 0)),(5,.one (.ptr 5 1 0 0)),(6,.one (.lit (.int .i64 i))),(7,.one (.lit (.int .i64 j))),(8,.one (.lit (.int .i64 k))),(10,.one (.lit (.int .i64 i))),(13,.one (.lit (.int .i64 j))),(23,.one (.lit (.int .i64 (7-(i:Int))))),(24,.one (.lit (.int .i64 k))),(28,.one (.lit (.int .i64 (7-(j:Int))))),(29,.one (.lit (.int .i64 l)))],mkH [(2,⟨1,some ⟨[gC a],147,true⟩⟩),(3,⟨1,some ⟨[gC b],147,true⟩⟩),(4,⟨1,some ⟨[zrs 49],147,true⟩⟩),(5,⟨1,some ⟨[gC (plG a b i j k (pkG a b i j o k) l)],147,true⟩⟩)]⟩) (λl=>l<=7-j) (λl=>7-j-l) 0 ?_ ?_ ?_
         .exact Qa (by simp [okS,okV,okC,okL,okH,okB,okE,Za,Ja,za,ja,wsA,ws]) ⟨ub (Xa _),ub (Xa _),ub (Xj _),ub (Xa _),trivial⟩
         .exact Nat.zero_le _
         .intro l hl
          by_cases hlt4:l<7-j
          .have hlt4' : ((l:Nat):Int)<7-(j:Int):=by omega
           have o1:((i:Int)+(k:Int)).toNat=i+k:=by omega
           have o2:((j:Int)+(l:Int)).toNat=j+l:=by omega
           have ho2:(i+k)*21+(j+l)*3=3*((i+k)*7+(j+l)):=by omega
           have ho3:k*21+l*3=3*(k*7+l):=by omega
           have hsz:=ubl ha hb (i:=i) (j:=j) (k:=k) (l:=l) hlt hlt2 (by omega) (.inl (by omega)) (by omega)
           rw [ho1]at hsz
           obtain ⟨A,hA⟩:∃A,plG a b i j k (pkG a b i j o k) l=A:=⟨_,rfl⟩
           have hAl:A.length=49:=by rw [<-hA];exact JL (JN hol k) l
           obtain ⟨p,hp⟩:∃p,gat A (i+k) (j+l)=p:=⟨_,rfl⟩
           obtain ⟨r,hr⟩:∃r,gat b k l=r:=⟨_,rfl⟩
           rw [hA]at hsz
           have g3:List.take 3 (List.drop ((i+k)*21+(j+l)*3) (gC A))=[cb (rcan p),cn (rcan p),cd (rcan p)]:=by rw [ho2,VJ (by omega)];unfold gat at hp;rw [hp];rfl
           have g4:List.take 3 (List.drop (k*21+l*3) (gC b))=[cb (rcan r),cn (rcan r),cd (rcan r)]:=by rw [ho3,VJ (by omega)];unfold gat at hr;rw [hr];rfl
           have l3:(3<=(List.drop ((i+k)*21+(j+l)*3) (gC A)).length)=True:=eq_true (by rw [List.length_drop,jc,hAl];omega)
           have l4:(3<=(List.drop (k*21+l*3) (gC b)).length)=True:=eq_true (by rw [List.length_drop,jc,hb];omega)
           have l5:((i+k)*21+(j+l)*3+3<=(gC A).length)=True:=eq_true (by rw [jc,hAl];omega)
           have s1:List.take ((i+k)*21+(j+l)*3) (gC A)++([cb (rcan (p+q*r)),cn (rcan (p+q*r)),cd (rcan (p+q*r))]++List.drop ((i+k)*21+(j+l)*3+3) (gC A))=gC (plG a b i j k (pkG a b i j o k) (l+1)):=by
            have e:=Xbd (g:=A) (k:=(i+k)*7+(j+l)) (by omega) (p+q*r)
            rw [VH,<-ho2]at e
            have e2:plG a b i j k (pkG a b i j o k) (l+1)=addG A (i+k) (j+l) (q*r):=by
             show addG (plG a b i j k (pkG a b i j o k) l) (i+k) (j+l) (gat a i j*gat b k l)=_
             rw [hA,hq,hr]
            rw [e2]
            unfold addG
            rw [hp,<-e];rfl
           have z1:rz p<=gz A:=by rw [<-hp];exact qT A _ _
           have z2:rz r<=gz b:=by rw [<-hr];exact qT b _ _
           have z4:=Vb q r
           have y1:rz q<=4294967296:=by omega
           have y2:rz r<=4294967296:=by omega
           have y3:rz p<=4294967296:=by omega
           have y4:rz (q*r)<=4294967296:=by omega
           have hkk:(k<7)=True:=eq_true (by omega)
           have hll:(l<7)=True:=eq_true (by omega)
           simp only [go_sem,hlt4',hm,ha',hA,g2,g3,g4,l2,l3,l4,l5,o1,o2,Wb,hii,hjj,hkk,hll]
           refine ⟨by omega,by omega,by omega,by omega,by omega,by omega,y1,y2,y3,y4,by omega,by omega,by omega,l+1,Qa (by simp [okS,okV,okC,okL,okH,okB,okE,Za,Ja,za,ja,wsA,ws]) ⟨ub (Xa _),ub (Xa _),ub (Xj _),?_,trivial⟩,by omega,by omega⟩
           rw [<-s1]
           exact ub (λe he=>by rw [List.mem_singleton.1 he];exact s1▸yX _)
          .have hl7:l=7-j:=by omega
           subst hl7
           have e77:(((7-j:Nat):Int)<7-(j:Int))=False:=eq_false (by omega)
           simp only [go_sem,e77]
           exact ⟨by omega,k+1,Qa (by simp [okS,okV,okC,okL,okH,okB,okE,Za,Ja,za,ja,wsA,ws]) ⟨ub (Xa _),ub (Xa _),ub (Xj _),ub (Xa _),trivial⟩,by omega,by omega⟩
        .have hk7:k=7-i:=by omega
         subst hk7
         have e77:(((7-i:Nat):Int)<7-(i:Int))=False:=eq_false (by omega)
         simp only [go_sem,e77]
         refine ⟨by omega,j+1,Qa (by simp [okS,okV,okC,okL,okH,okB,okE,Za,Ja,za,ja,wsA,ws]) ⟨ub (Xa _),ub (Xa _),ub (Xj _),?_,trivial⟩,by omega,by omega⟩
         rw [ep]
         exact ub (Xa _)
     .have hj7:j=7:=by omega
      subst hj7
      have e77:(((7:Nat):Int)<7)=False:=eq_false (by decide)
      simp only [go_sem,e77]
      exact ⟨by omega,i+1,Qa (by simp [okS,okV,okC,okL,okH,okB,okE,Za,Ja,za,ja,wsA,ws]) ⟨ub (Xa _),ub (Xa _),ub (Xj _),ub (Xa _),trivial⟩,by omega,by omega⟩
   .have hi7:i=7:=by omega
    subst hi7
    have e77:(((7:Nat):Int)<7)=False:=eq_false (by decide)
    have hpl:piG a b 7=prodG a b:=rfl
    have hlen:(prodG a b).length=49:=Zb a b
    have hgl:(gC (prodG a b)).length=147:=by rw [jc,hlen]
    have htk:=Ud hlen
    simp only [go_sem,e77,hpl,hgl,htk]
    exact hK
end Go.Abs
end
section
namespace Go.Num
open Go.Abs
theorem ZV (g:Gr) (s:Nat) (o:BQ):∀n,(lsI g s o n).length<=o.length+n
 | 0=>Nat.le_refl _
 | n+1=>by
  have:=ZV g s o n
  simp only [lsI]
  split
  .omega
  .rw [List.length_append];simp only [List.length_cons,List.length_nil];omega
theorem jU (g:Gr):∀n,(lsS g n).length<=7*n
 | 0=>Nat.le_refl _
 | n+1=>by
  have h1:=jU g n
  have h2:=ZV g n (lsS g n) 7
  show (lsI g n (lsS g n) 7).length<=_
  omega
theorem QaW (a b:BQ):mcs (a++b)=mcs a++mcs b:=List.map_append
end Go.Num
namespace Go.Abs
open Go.Num
variable {P:Program} {Γ:Nat->Spec}
def qv (l:List AV) (K:AV->Prop):Prop:=
 match l with
 | [a]=>onG (λa=>gz a<=4294967296/\K (.one (.slice ((mcs (lsG a)).map mC)))) a
 | _=>False
theorem jaz (a:AV) (K:AV->Prop):qv [a] K=(onG (λa=>gz a<=4294967296/\K (.one (.slice ((mcs (lsG a)).map mC)))) a):=propext Iff.rfl
@[congr] theorem xbJ {K:AV->Prop} {l l' : List AV} (h:l=l'):qv l K=qv l' K:=by subst h;rfl
attribute [go_sem] jaz
attribute [go_sem ↓] jaz
theorem QaE:Good qv:=ka λas=>by
 unfold qv
 split
 .exact (kaT λ_=>(.and λ_=>(.ret _)))
 .exact .of λK hk=>hk.elim
def ui (f0:Nat):AC:=(.seq (.ops false [.u 1 (.box 147 (.t 0)),.m 2 (.c (.one .emp))])
 (.fg [1] (.seq (.ops false [.m 3 (.c (.one .emp))])
 (.fg [1,3] (.seq (.seq (.ops false [.m 7 (.i 0)])
 (.fg [1,3,7] (.block 0 (.loop (.seq (.ops false [.u 8 (.bin .lss (.t 7) (.i 13))])
 (.fg [1,3,7,8] (.seq (.cond (.t 8) .skip (.exit 0))
 (.fg [1,3,7] (.seq (.block 1 (.seq (.ops false [.m 9 (.t 7),.m 4 (.t 9)])
 (.fg [1,3,4,7] (.seq (.ops false [.m 10 (.i 0)])
 (.fg [1,3,4,7,10] (.block 2 (.loop (.seq (.ops false [.u 11 (.bin .lss (.t 10) (.i 7))])
 (.fg [1,3,4,7,10,11] (.seq (.cond (.t 11) .skip (.exit 2))
 (.fg [1,3,4,7,10] (.seq (.block 3 (.seq (.ops false [.m 12 (.t 10),.m 5 (.t 12)])
 (.fg [1,3,4,5,7,10] (.seq (.ops false [.m 13 (.t 4),.m 14 (.t 5),.u 15 (.bin .sub (.t 13) (.t 14)),.m 6 (.t 15)])
 (.fg [1,3,4,5,6,7,10] (.seq (.seq (.ops false [.m 16 (.t 6),.u 17 (.bin .lss (.t 16) (.i 0)),.m 18 (.t 17),.w 19 18 false (.mv (.t 6)),.w 20 18 false (.bin .gtr (.t 19) (.i 6)),.u 21 (.pick (.t 18) .tr (.t 20)),.m 22 (.t 21),.w 23 22 false (.mv (.t 5)),.w 24 22 false (.mv (.t 6)),.w 25 22 false (.ai 21 7 (.t 1) (.t 23)),.w 26 22 false (.ai 3 7 (.t 25) (.t 24)),.w 27 22 false (.ld none 3 true (.t 26)),.w 28 22 false (.call f0 [(.t 27)]),.u 29 (.pick (.t 22) .tr (.t 28))])
 (.fg [1,3,4,5,6,7,10,29] (.cond (.t 29) (.exit 3) .skip)))
 (.fg [1,3,4,5,6,7,10] (.ops false [.m 30 (.t 3),.m 31 (.t 5),.m 32 (.t 6),.m 33 (.t 5),.m 34 (.t 6),.u 35 (.ai 21 7 (.t 1) (.t 33)),.u 36 (.ai 3 7 (.t 35) (.t 34)),.u 37 (.ld none 3 true (.t 36)),.u 38 (.build [.x 1 (.t 31),.x 1 (.t 32),.x 3 (.t 37)]),.u 39 (.row 5 [[.x 5 (.t 38)]]),.u 40 (.app 5 (.t 30) (.t 39)),.m 3 (.t 40)]))))))))
 (.fg [1,3,4,7,10] (.ops false [.u 41 (.bin .add (.t 10) (.i 1)),.m 10 (.t 41)]))))))))))))))
 (.fg [1,3,7] (.ops false [.u 42 (.bin .add (.t 7) (.i 1)),.m 7 (.t 42)])))))))))))
 (.fg [3] (.seq (.ops false [.m 43 (.t 3),.m 2 (.t 43)])
 .ret)))))))
set_option maxHeartbeats 1000000 in
theorem xaf (hΓ:Holds P Γ) {f fz:Nat} (hz' : Γ fz=.dat true uv) (hc:check P f=some (44,(ui fz).strip,[.tmp 2])):Sound P f (.dat false qv):=by
 refine Va hc QaE hΓ (λargs K hcl hfi hG=>?_)
 match args,hG with
 | [u],hG=>
  obtain ⟨a,rfl,ha,hz,hK⟩:=hG
  refine ⟨by simp,?_⟩
  have la:(gC a).length=147:=by rw [jc,ha]
  simp only [go_sem,ui,la]
  refine Wa (λs:Nat=>if lsS a s=[] then ⟨mkV [(1,.one (.ptr 1 1 0 0)),(3,.one .emp),(7,.one (.lit (.int .i64 s)))],mkH [(1,⟨1,some ⟨[gC a],147,true⟩⟩)]⟩
   else ⟨mkV [(1,.one (.ptr 1 1 0 0)),(3,.one (.own 40 1 5 0 (lsS a s).length)),(7,.one (.lit (.int .i64 s)))],mkH [(1,⟨1,some ⟨[gC a],147,true⟩⟩),(40,⟨1,some ⟨(mcs (lsS a s)).map mC,5,true⟩⟩)]⟩) (λs=>s<=13) (λs=>13-s) 0 ?_ ?_ ?_
  .rw [if_pos (show lsS a 0=[] from rfl)]
   exact Qa (by simp [okS,okV,okC,okL,okH,okB,okE,Za,Ja,za,ja,wsA,ws]) ⟨ub (Xa _),trivial⟩
  .exact Nat.zero_le _
  .intro s hs
   by_cases hlt:s<13
   .have hlt' : ((s:Nat):Int)<13:=by omega
    by_cases hS:lsS a s=[]
    .rw [if_pos hS]
     simp only [go_sem,hlt']
     refine Wa (λi:Nat=>if lsI a s (lsS a s) i=[] then ⟨mkV [(1,.one (.ptr 1 1 0 0)),(3,.one .emp),(4,.one (.lit (.int .i64 s))),(7,.one (.lit (.int .i64 s))),(10,.one (.lit (.int .i64 i)))],mkH [(1,⟨1,some ⟨[gC a],147,true⟩⟩)]⟩
      else ⟨mkV [(1,.one (.ptr 1 1 0 0)),(3,.one (.own 40 1 5 0 (lsI a s (lsS a s) i).length)),(4,.one (.lit (.int .i64 s))),(7,.one (.lit (.int .i64 s))),(10,.one (.lit (.int .i64 i)))],mkH [(1,⟨1,some ⟨[gC a],147,true⟩⟩),(40,⟨1,some ⟨(mcs (lsI a s (lsS a s) i)).map mC,5,true⟩⟩)]⟩) (λi=>i<=7) (λi=>7-i) 0 ?_ ?_ ?_
     .rw [if_pos (show lsI a s (lsS a s) 0=[] from hS)]
      exact Qa (by simp [okS,okV,okC,okL,okH,okB,okE,Za,Ja,za,ja,wsA,ws]) ⟨ub (Xa _),trivial⟩
     .exact Nat.zero_le _
     .skip
      intro i hi
      by_cases hlt2:i<7
      .have hlt2' : ((i:Nat):Int)<7:=by omega
       have hii:(i<7)=True:=eq_true hlt2
       have hol:=ZV a s (lsS a s) i
       have hsl:=jU a s
       by_cases hc1:s<i
       .have est:lsI a s (lsS a s) (i+1)=lsI a s (lsS a s) i:=if_pos (.inl hc1)
        have j0:((s:Int)-(i:Int)<0)=True:=eq_true (by omega)
        by_cases hO:lsI a s (lsS a s) i=[]
        .rw [if_pos hO]
         simp only [go_sem,hlt',hlt2',hii,j0]
         repeat (first | (refine And.intro (by omega) ?_) | (refine And.intro (by assumption) ?_) | (refine And.intro rfl ?_) | (refine And.intro ⟨rfl,by omega⟩ ?_) | (refine And.intro ⟨rfl,by omega,by omega⟩ ?_) | (intro _))
         refine ⟨i+1,?_,by omega,by omega⟩
         rw [if_pos (by rw [est];exact hO)]
         exact Qa (by simp [okS,okV,okC,okL,okH,okB,okE,Za,Ja,za,ja,wsA,ws]) ⟨ub (Xa _),trivial⟩
        .rw [if_neg hO]
         simp only [go_sem,hlt',hlt2',hii,j0]
         repeat (first | (refine And.intro (by omega) ?_) | (refine And.intro (by assumption) ?_) | (refine And.intro rfl ?_) | (refine And.intro ⟨rfl,by omega⟩ ?_) | (refine And.intro ⟨rfl,by omega,by omega⟩ ?_) | (intro _))
         refine ⟨i+1,?_,by omega,by omega⟩
         rw [if_neg (by rw [est];exact hO)]
         exact Qa (by simp [okS,okV,okC,okL,okH,okB,okE,Za,Ja,za,ja,wsA,ws,est]) ⟨ub (Xa _),qf (by rw [est]),trivial⟩
       .have j0:((s:Int)-(i:Int)<0)=False:=eq_false (by omega)
        by_cases hc2:6<s-i
        .have est:lsI a s (lsS a s) (i+1)=lsI a s (lsS a s) i:=if_pos (.inr (.inl hc2))
         have j6:(6<(s:Int)-(i:Int))=True:=eq_true (by omega)
         by_cases hO:lsI a s (lsS a s) i=[]
         .rw [if_pos hO]
          simp only [go_sem,hlt',hlt2',hii,j0,j6]
          repeat (first | (refine And.intro (by omega) ?_) | (refine And.intro (by assumption) ?_) | (refine And.intro rfl ?_) | (refine And.intro ⟨rfl,by omega⟩ ?_) | (refine And.intro ⟨rfl,by omega,by omega⟩ ?_) | (intro _))
          refine ⟨i+1,?_,by omega,by omega⟩
          rw [if_pos (by rw [est];exact hO)]
          exact Qa (by simp [okS,okV,okC,okL,okH,okB,okE,Za,Ja,za,ja,wsA,ws]) ⟨ub (Xa _),trivial⟩
         .rw [if_neg hO]
          simp only [go_sem,hlt',hlt2',hii,j0,j6]
          repeat (first | (refine And.intro (by omega) ?_) | (refine And.intro (by assumption) ?_) | (refine And.intro rfl ?_) | (refine And.intro ⟨rfl,by omega⟩ ?_) | (refine And.intro ⟨rfl,by omega,by omega⟩ ?_) | (intro _))
          refine ⟨i+1,?_,by omega,by omega⟩
          rw [if_neg (by rw [est];exact hO)]
          exact Qa (by simp [okS,okV,okC,okL,okH,okB,okE,Za,Ja,za,ja,wsA,ws,est]) ⟨ub (Xa _),qf (by rw [est]),trivial⟩
        .have j6:(6<(s:Int)-(i:Int))=False:=eq_false (by omega)
         have o2:((s:Int)-(i:Int)).toNat=s-i:=by omega
         have ho:i*21+(s-i)*3=3*(i*7+(s-i)):=by omega
         have hsi:(s-i<7)=True:=eq_true (by omega)
         have hsi2:((s:Int)-(i:Int)<7)=True:=eq_true (by omega)
         have hsi3:(0<=(s:Int)-(i:Int))=True:=eq_true (by omega)
         obtain ⟨p,hp⟩:∃p,gat a i (s-i)=p:=⟨_,rfl⟩
         have g1:List.take 3 (List.drop (i*21+(s-i)*3) (gC a))=[cb (rcan p),cn (rcan p),cd (rcan p)]:=by rw [ho,VJ (by omega)];unfold gat at hp;rw [hp];rfl
         have l1:(3<=(List.drop (i*21+(s-i)*3) (gC a)).length)=True:=eq_true (by rw [List.length_drop,jc,ha];omega)
         have zp:rz p<=4294967296:=by rw [<-hp];exact Nat.le_trans (qT a _ _) hz
         by_cases h0:p=0
         .have est:lsI a s (lsS a s) (i+1)=lsI a s (lsS a s) i:=if_pos (.inr (.inr (by rw [hp];exact h0)))
          have e0:decide (p=0)=true:=decide_eq_true h0
          by_cases hO:lsI a s (lsS a s) i=[]
          .rw [if_pos hO]
           simp only [go_sem,hlt',hlt2',hii,j0,j6,o2,hsi,hsi2,hsi3,g1,l1,hz',Wb,e0]
           repeat (first | (refine And.intro (by omega) ?_) | (refine And.intro (by assumption) ?_) | (refine And.intro rfl ?_) | (refine And.intro ⟨rfl,by omega⟩ ?_) | (refine And.intro ⟨rfl,by omega,by omega⟩ ?_) | (intro _))
           refine ⟨i+1,?_,by omega,by omega⟩
           rw [if_pos (by rw [est];exact hO)]
           exact Qa (by simp [okS,okV,okC,okL,okH,okB,okE,Za,Ja,za,ja,wsA,ws]) ⟨ub (Xa _),trivial⟩
          .rw [if_neg hO]
           simp only [go_sem,hlt',hlt2',hii,j0,j6,o2,hsi,hsi2,hsi3,g1,l1,hz',Wb,e0]
           repeat (first | (refine And.intro (by omega) ?_) | (refine And.intro (by assumption) ?_) | (refine And.intro rfl ?_) | (refine And.intro ⟨rfl,by omega⟩ ?_) | (refine And.intro ⟨rfl,by omega,by omega⟩ ?_) | (intro _))
           refine ⟨i+1,?_,by omega,by omega⟩
           rw [if_neg (by rw [est];exact hO)]
           exact Qa (by simp [okS,okV,okC,okL,okH,okB,okE,Za,Ja,za,ja,wsA,ws,est]) ⟨ub (Xa _),qf (by rw [est]),trivial⟩
         .have e0:decide (p=0)=false:=decide_eq_false h0
          have est:lsI a s (lsS a s) (i+1)=lsI a s (lsS a s) i++[lsT a s i]:=if_neg (by rw [hp];simp [hc1,hc2,h0])
          have hmt:mC (mcan (lsT a s i))=[.lit (.int .i64 (i:Int)),.lit (.int .i64 ((s:Int)-(i:Int))),cb (rcan p),cn (rcan p),cd (rcan p)]:=by unfold mcan lsT;rw [hp];rfl
          have hne:¬lsI a s (lsS a s) (i+1)=[]:=by rw [est];simp
          by_cases hO:lsI a s (lsS a s) i=[]
          .rw [if_pos hO]
           simp only [go_sem,hlt',hlt2',hii,j0,j6,o2,hsi,hsi2,hsi3,g1,l1,hz',Wb,e0]
           repeat (first | (refine And.intro (by omega) ?_) | (refine And.intro (by assumption) ?_) | (refine And.intro rfl ?_) | (refine And.intro ⟨rfl,by omega⟩ ?_) | (refine And.intro ⟨rfl,by omega,by omega⟩ ?_) | (intro _))
           refine ⟨λe he=>by rw [List.mem_singleton.1 he];rfl,by omega,i+1,?_,by omega,by omega⟩
           rw [if_neg hne]
           exact Qa (by simp [okS,okV,okC,okL,okH,okB,okE,Za,Ja,za,ja,wsA,ws,est,hO]) ⟨ub (Xa _),qf (by rw [est,hO];show _=[mC (mcan (lsT a s i))];rw [hmt]),trivial⟩
          .rw [if_neg hO]
           have hml:(mcs (lsI a s (lsS a s) i)).length=(lsI a s (lsS a s) i).length:=List.length_map _
           simp only [go_sem,hlt',hlt2',hii,j0,j6,o2,hsi,hsi2,hsi3,g1,l1,hz',Wb,e0,hml]
           repeat (first | (refine And.intro (by omega) ?_) | (refine And.intro (by assumption) ?_) | (refine And.intro rfl ?_) | (refine And.intro ⟨rfl,by omega⟩ ?_) | (refine And.intro ⟨rfl,by omega,by omega⟩ ?_) | (intro _))
           refine ⟨λe he=>by rw [List.mem_singleton.1 he];rfl,by omega,by omega,i+1,?_,by omega,by omega⟩
           rw [if_neg hne]
           exact Qa (by simp [okS,okV,okC,okL,okH,okB,okE,Za,Ja,za,ja,wsA,ws,est]) ⟨ub (Xa _),qf (by rw [est,QaW,List.map_append];show _=_++[mC (mcan (lsT a s i))];rw [hmt]),trivial⟩
      .have hi7:i=7:=by omega
       subst hi7
       have e77:(((7:Nat):Int)<7)=False:=eq_false (by decide)
       have hfin:lsI a s (lsS a s) 7=lsS a (s+1):=rfl
       by_cases hO:lsI a s (lsS a s) 7=[]
       .rw [if_pos hO]
        simp only [go_sem,e77]
        refine ⟨by omega,s+1,?_,by omega,by omega⟩
        rw [if_pos (show lsS a (s+1)=[] from hO)]
        exact Qa (by simp [okS,okV,okC,okL,okH,okB,okE,Za,Ja,za,ja,wsA,ws]) ⟨ub (Xa _),trivial⟩
       .rw [if_neg hO]
        simp only [go_sem,e77]
        refine ⟨by omega,s+1,?_,by omega,by omega⟩
        rw [if_neg (show ¬lsS a (s+1)=[] from hO)]
        exact Qa (by simp [okS,okV,okC,okL,okH,okB,okE,Za,Ja,za,ja,wsA,ws,hfin]) ⟨ub (Xa _),qf rfl,trivial⟩
    .rw [if_neg hS]
     simp only [go_sem,hlt']
     refine Wa (λi:Nat=>if lsI a s (lsS a s) i=[] then ⟨mkV [(1,.one (.ptr 1 1 0 0)),(3,.one .emp),(4,.one (.lit (.int .i64 s))),(7,.one (.lit (.int .i64 s))),(10,.one (.lit (.int .i64 i)))],mkH [(1,⟨1,some ⟨[gC a],147,true⟩⟩)]⟩
      else ⟨mkV [(1,.one (.ptr 1 1 0 0)),(3,.one (.own 40 1 5 0 (lsI a s (lsS a s) i).length)),(4,.one (.lit (.int .i64 s))),(7,.one (.lit (.int .i64 s))),(10,.one (.lit (.int .i64 i)))],mkH [(1,⟨1,some ⟨[gC a],147,true⟩⟩),(40,⟨1,some ⟨(mcs (lsI a s (lsS a s) i)).map mC,5,true⟩⟩)]⟩) (λi=>i<=7) (λi=>7-i) 0 ?_ ?_ ?_
     .rw [if_neg (show ¬lsI a s (lsS a s) 0=[] from hS)]
      exact Qa (by simp [okS,okV,okC,okL,okH,okB,okE,Za,Ja,za,ja,wsA,ws,lsI]) ⟨ub (Xa _),qf rfl,trivial⟩
     .exact Nat.zero_le _
     .skip
      intro i hi
      by_cases hlt2:i<7
      .have hlt2' : ((i:Nat):Int)<7:=by omega
       have hii:(i<7)=True:=eq_true hlt2
       have hol:=ZV a s (lsS a s) i
       have hsl:=jU a s
       by_cases hc1:s<i
       .have est:lsI a s (lsS a s) (i+1)=lsI a s (lsS a s) i:=if_pos (.inl hc1)
        have j0:((s:Int)-(i:Int)<0)=True:=eq_true (by omega)
        by_cases hO:lsI a s (lsS a s) i=[]
        .rw [if_pos hO]
         simp only [go_sem,hlt',hlt2',hii,j0]
         repeat (first | (refine And.intro (by omega) ?_) | (refine And.intro (by assumption) ?_) | (refine And.intro rfl ?_) | (refine And.intro ⟨rfl,by omega⟩ ?_) | (refine And.intro ⟨rfl,by omega,by omega⟩ ?_) | (intro _))
         refine ⟨i+1,?_,by omega,by omega⟩
         rw [if_pos (by rw [est];exact hO)]
         exact Qa (by simp [okS,okV,okC,okL,okH,okB,okE,Za,Ja,za,ja,wsA,ws]) ⟨ub (Xa _),trivial⟩
        .rw [if_neg hO]
         simp only [go_sem,hlt',hlt2',hii,j0]
         repeat (first | (refine And.intro (by omega) ?_) | (refine And.intro (by assumption) ?_) | (refine And.intro rfl ?_) | (refine And.intro ⟨rfl,by omega⟩ ?_) | (refine And.intro ⟨rfl,by omega,by omega⟩ ?_) | (intro _))
         refine ⟨i+1,?_,by omega,by omega⟩
         rw [if_neg (by rw [est];exact hO)]
         exact Qa (by simp [okS,okV,okC,okL,okH,okB,okE,Za,Ja,za,ja,wsA,ws,est]) ⟨ub (Xa _),qf (by rw [est]),trivial⟩
       .have j0:((s:Int)-(i:Int)<0)=False:=eq_false (by omega)
        by_cases hc2:6<s-i
        .have est:lsI a s (lsS a s) (i+1)=lsI a s (lsS a s) i:=if_pos (.inr (.inl hc2))
         have j6:(6<(s:Int)-(i:Int))=True:=eq_true (by omega)
         by_cases hO:lsI a s (lsS a s) i=[]
         .rw [if_pos hO]
          simp only [go_sem,hlt',hlt2',hii,j0,j6]
          repeat (first | (refine And.intro (by omega) ?_) | (refine And.intro (by assumption) ?_) | (refine And.intro rfl ?_) | (refine And.intro ⟨rfl,by omega⟩ ?_) | (refine And.intro ⟨rfl,by omega,by omega⟩ ?_) | (intro _))
          refine ⟨i+1,?_,by omega,by omega⟩
          rw [if_pos (by rw [est];exact hO)]
          exact Qa (by simp [okS,okV,okC,okL,okH,okB,okE,Za,Ja,za,ja,wsA,ws]) ⟨ub (Xa _),trivial⟩
         .rw [if_neg hO]
          simp only [go_sem,hlt',hlt2',hii,j0,j6]
          repeat (first | (refine And.intro (by omega) ?_) | (refine And.intro (by assumption) ?_) | (refine And.intro rfl ?_) | (refine And.intro ⟨rfl,by omega⟩ ?_) | (refine And.intro ⟨rfl,by omega,by omega⟩ ?_) | (intro _))
          refine ⟨i+1,?_,by omega,by omega⟩
          rw [if_neg (by rw [est];exact hO)]
          exact Qa (by simp [okS,okV,okC,okL,okH,okB,okE,Za,Ja,za,ja,wsA,ws,est]) ⟨ub (Xa _),qf (by rw [est]),trivial⟩
        .have j6:(6<(s:Int)-(i:Int))=False:=eq_false (by omega)
         have o2:((s:Int)-(i:Int)).toNat=s-i:=by omega
         have ho:i*21+(s-i)*3=3*(i*7+(s-i)):=by omega
         have hsi:(s-i<7)=True:=eq_true (by omega)
         have hsi2:((s:Int)-(i:Int)<7)=True:=eq_true (by omega)
         have hsi3:(0<=(s:Int)-(i:Int))=True:=eq_true (by omega)
         obtain ⟨p,hp⟩:∃p,gat a i (s-i)=p:=⟨_,rfl⟩
         have g1:List.take 3 (List.drop (i*21+(s-i)*3) (gC a))=[cb (rcan p),cn (rcan p),cd (rcan p)]:=by rw [ho,VJ (by omega)];unfold gat at hp;rw [hp];rfl
         have l1:(3<=(List.drop (i*21+(s-i)*3) (gC a)).length)=True:=eq_true (by rw [List.length_drop,jc,ha];omega)
         have zp:rz p<=4294967296:=by rw [<-hp];exact Nat.le_trans (qT a _ _) hz
         by_cases h0:p=0
         .have est:lsI a s (lsS a s) (i+1)=lsI a s (lsS a s) i:=if_pos (.inr (.inr (by rw [hp];exact h0)))
          have e0:decide (p=0)=true:=decide_eq_true h0
          by_cases hO:lsI a s (lsS a s) i=[]
          .rw [if_pos hO]
           simp only [go_sem,hlt',hlt2',hii,j0,j6,o2,hsi,hsi2,hsi3,g1,l1,hz',Wb,e0]
           repeat (first | (refine And.intro (by omega) ?_) | (refine And.intro (by assumption) ?_) | (refine And.intro rfl ?_) | (refine And.intro ⟨rfl,by omega⟩ ?_) | (refine And.intro ⟨rfl,by omega,by omega⟩ ?_) | (intro _))
           refine ⟨i+1,?_,by omega,by omega⟩
           rw [if_pos (by rw [est];exact hO)]
           exact Qa (by simp [okS,okV,okC,okL,okH,okB,okE,Za,Ja,za,ja,wsA,ws]) ⟨ub (Xa _),trivial⟩
          .rw [if_neg hO]
           simp only [go_sem,hlt',hlt2',hii,j0,j6,o2,hsi,hsi2,hsi3,g1,l1,hz',Wb,e0]
           repeat (first | (refine And.intro (by omega) ?_) | (refine And.intro (by assumption) ?_) | (refine And.intro rfl ?_) | (refine And.intro ⟨rfl,by omega⟩ ?_) | (refine And.intro ⟨rfl,by omega,by omega⟩ ?_) | (intro _))
           refine ⟨i+1,?_,by omega,by omega⟩
           rw [if_neg (by rw [est];exact hO)]
           exact Qa (by simp [okS,okV,okC,okL,okH,okB,okE,Za,Ja,za,ja,wsA,ws,est]) ⟨ub (Xa _),qf (by rw [est]),trivial⟩
         .have e0:decide (p=0)=false:=decide_eq_false h0
          have est:lsI a s (lsS a s) (i+1)=lsI a s (lsS a s) i++[lsT a s i]:=if_neg (by rw [hp];simp [hc1,hc2,h0])
          have hmt:mC (mcan (lsT a s i))=[.lit (.int .i64 (i:Int)),.lit (.int .i64 ((s:Int)-(i:Int))),cb (rcan p),cn (rcan p),cd (rcan p)]:=by unfold mcan lsT;rw [hp];rfl
          have hne:¬lsI a s (lsS a s) (i+1)=[]:=by rw [est];simp
          by_cases hO:lsI a s (lsS a s) i=[]
          .rw [if_pos hO]
           simp only [go_sem,hlt',hlt2',hii,j0,j6,o2,hsi,hsi2,hsi3,g1,l1,hz',Wb,e0]
           repeat (first | (refine And.intro (by omega) ?_) | (refine And.intro (by assumption) ?_) | (refine And.intro rfl ?_) | (refine And.intro ⟨rfl,by omega⟩ ?_) | (refine And.intro ⟨rfl,by omega,by omega⟩ ?_) | (intro _))
           refine ⟨λe he=>by rw [List.mem_singleton.1 he];rfl,by omega,i+1,?_,by omega,by omega⟩
           rw [if_neg hne]
           exact Qa (by simp [okS,okV,okC,okL,okH,okB,okE,Za,Ja,za,ja,wsA,ws,est,hO]) ⟨ub (Xa _),qf (by rw [est,hO];show _=[mC (mcan (lsT a s i))];rw [hmt]),trivial⟩
          .rw [if_neg hO]
           have hml:(mcs (lsI a s (lsS a s) i)).length=(lsI a s (lsS a s) i).length:=List.length_map _
           simp only [go_sem,hlt',hlt2',hii,j0,j6,o2,hsi,hsi2,hsi3,g1,l1,hz',Wb,e0,hml]
           repeat (first | (refine And.intro (by omega) ?_) | (refine And.intro (by assumption) ?_) | (refine And.intro rfl ?_) | (refine And.intro ⟨rfl,by omega⟩ ?_) | (refine And.intro ⟨rfl,by omega,by omega⟩ ?_) | (intro _))
           refine ⟨λe he=>by rw [List.mem_singleton.1 he];rfl,by omega,by omega,i+1,?_,by omega,by omega⟩
           rw [if_neg hne]
           exact Qa (by simp [okS,okV,okC,okL,okH,okB,okE,Za,Ja,za,ja,wsA,ws,est]) ⟨ub (Xa _),qf (by rw [est,QaW,List.map_append];show _=_++[mC (mcan (lsT a s i))];rw [hmt]),trivial⟩
      .have hi7:i=7:=by omega
       subst hi7
       have e77:(((7:Nat):Int)<7)=False:=eq_false (by decide)
       have hfin:lsI a s (lsS a s) 7=lsS a (s+1):=rfl
       by_cases hO:lsI a s (lsS a s) 7=[]
       .rw [if_pos hO]
        simp only [go_sem,e77]
        refine ⟨by omega,s+1,?_,by omega,by omega⟩
        rw [if_pos (show lsS a (s+1)=[] from hO)]
        exact Qa (by simp [okS,okV,okC,okL,okH,okB,okE,Za,Ja,za,ja,wsA,ws]) ⟨ub (Xa _),trivial⟩
       .rw [if_neg hO]
        simp only [go_sem,e77]
        refine ⟨by omega,s+1,?_,by omega,by omega⟩
        rw [if_neg (show ¬lsS a (s+1)=[] from hO)]
        exact Qa (by simp [okS,okV,okC,okL,okH,okB,okE,Za,Ja,za,ja,wsA,ws,hfin]) ⟨ub (Xa _),qf rfl,trivial⟩
   .have hs13:s=13:=by omega
    subst hs13
    have e13:(((13:Nat):Int)<13)=False:=eq_false (by decide)
    have hl:=jU a 13
    have hg:lsS a 13=lsG a:=rfl
    by_cases hS:lsS a 13=[]
    .rw [if_pos hS]
     simp only [go_sem,e13]
     rw [<-hg,hS]at hK
     exact hK
    .rw [if_neg hS]
     have hml:(mcs (lsS a 13)).length=(lsS a 13).length:=List.length_map _
     have htk:(mcs (lsS a 13)).take (lsS a 13).length=mcs (lsS a 13):=List.take_of_length_le (by omega)
     simp only [go_sem,e13,hml,htk]
     exact hK
end Go.Abs
end
section
namespace Go.Num
def vecG (o k:V2):Gr×Gr:=(linG (timesQ (subQ (0,0) o) k).1 k.1 (-k.2),linG (timesQ (subQ (0,0) o) k).2 k.2 k.1)
def sqG (o:V2) (n:Rat):Gr:=plusG (plusG (conG n) 1 (prodG (vecG o (1,0)).1 (vecG o (1,0)).1)) 1 (prodG (vecG o (1,0)).2 (vecG o (1,0)).2)
def paA (c:CpR):Gr×Gr:=vecG c.1 (barQ (cW c))
def paB (c:CpR):Gr×Gr:=vecG c.2.1 (barQ (reQ c))
def paE (c:CpR):Gr:=sqG c.1 (sqQ (cW c)*c.2.2.2.1-c.2.2.1)
def paF (c:CpR):Gr:=sqG c.2.1 (sqQ (reQ c)*c.2.2.2.1-c.2.2.2.2.1)
def paX (c:CpR):Gr:=plusG (prodG (paE c) (paB c).2) 1 (prodG (paF c) (paA c).2)
def paY (c:CpR):Gr:=plusG (prodG (plusG zG (-1) (paF c)) (paA c).1) (-1) (prodG (paE c) (paB c).1)
def paM (c:CpR):Gr:=plusG (prodG (paA c).1 (paB c).2) (-1) (prodG (paA c).2 (paB c).1)
def paC (c:CpR):Gr:=plusG (plusG (prodG (paX c) (paX c)) 1 (prodG (paY c) (paY c))) (-(4*c.2.2.2.1)) (prodG (paM c) (paM c))
theorem YF (o k:V2):(vecG o k).1.length=49/\(vecG o k).2.length=49:=⟨zI _ _ _,zI _ _ _⟩
theorem uh (o k:V2):DG 1 (vecG o k).1/\DG 1 (vecG o k).2:=⟨Vbd _ _ _,Vbd _ _ _⟩
theorem jO (o k p:V2):evG (vecG o k).1 p.1 p.2=(timesQ (subQ p o) k).1/\evG (vecG o k).2 p.1 p.2=(timesQ (subQ p o) k).2:=by
 unfold vecG
 simp only [zbm]
 unfold timesQ subQ
 simp only
 exact ⟨by grind,by grind⟩
theorem UaI (o:V2) (n:Rat):(sqG o n).length=49:=wd (wd (yA n) (Zb _ _) 1) (Zb _ _) 1
theorem JR (o:V2) (n:Rat):DG 2 (sqG o n):=
 yG (wd (yA n) (Zb _ _) 1) (Zb _ _) (yG (yA n) (Zb _ _) (xbk (zbG n) (by decide)) (uz (uh o _).1 (uh o _).1) 1) (uz (uh o _).2 (uh o _).2) 1
theorem kbD (o:V2) (n:Rat) (p:V2):evG (sqG o n) p.1 p.2=sqQ (subQ p o)+n:=by
 unfold sqG
 rw [Wu (wd (yA n) (Zb _ _) 1) (Zb _ _),Wu (yA n) (Zb _ _),Wbo,Xm (uh o _).1 (uh o _).1 (by decide),Xm (uh o _).2 (uh o _).2 (by decide),(jO o _ p).1,(jO o _ p).2]
 unfold timesQ sqQ
 simp only
 grind
theorem Yat (c:CpR) (p:V2):evG (paA c).1 p.1 p.2=(wAl c p).1/\evG (paA c).2 p.1 p.2=(wAl c p).2:=by
 unfold paA
 rw [(jO _ _ p).1,(jO _ _ p).2,qa9];exact ⟨rfl,rfl⟩
theorem Zan (c:CpR) (p:V2):evG (paB c).1 p.1 p.2=(wBe c p).1/\evG (paB c).2 p.1 p.2=(wBe c p).2:=by
 unfold paB
 rw [(jO _ _ p).1,(jO _ _ p).2,Ja6];exact ⟨rfl,rfl⟩
theorem xbg (c:CpR) (p:V2):evG (paE c) p.1 p.2=wE c p:=by
 unfold paE
 rw [kbD,<-e_at];grind
theorem Ubb (c:CpR) (p:V2):evG (paF c) p.1 p.2 = -wF c p:=by
 unfold paF
 rw [kbD,<-f_at];grind
theorem VX (c:CpR):DG 1 (paA c).1/\DG 1 (paA c).2:=uh _ _
theorem VU (c:CpR):DG 1 (paB c).1/\DG 1 (paB c).2:=uh _ _
theorem zaY (c:CpR):DG 2 (paE c):=JR _ _
theorem vbk (c:CpR):DG 2 (paF c):=JR _ _
theorem UJ (c:CpR):(paF c).length=49:=UaI _ _
theorem YK (c:CpR):(paX c).length=49:=wd (Zb _ _) (Zb _ _) _
theorem VI (c:CpR):(paY c).length=49:=wd (Zb _ _) (Zb _ _) _
theorem wI (c:CpR):(paM c).length=49:=wd (Zb _ _) (Zb _ _) _
theorem jaN (c:CpR):DG 3 (paX c):=yG (Zb _ _) (Zb _ _) (uz (JR _ _) (uh _ _).2) (uz (JR _ _) (uh _ _).2) _
theorem kaM (c:CpR):DG 2 (plusG zG (-1) (paF c)):=yG Uq (UaI _ _) (DG_z 2) (JR _ _) _
theorem XaT (c:CpR):DG 3 (paY c):=yG (Zb _ _) (Zb _ _) (uz (kaM c) (uh _ _).1) (uz (JR _ _) (uh _ _).1) _
theorem UaN (c:CpR):DG 2 (paM c):=yG (Zb _ _) (Zb _ _) (uz (uh _ _).1 (uh _ _).2) (uz (uh _ _).2 (uh _ _).1) _
theorem jbG (c:CpR) (p:V2):evG (paX c) p.1 p.2=(wN c p).1:=by
 unfold paX
 rw [Wu (Zb _ _) (Zb _ _),Xm (zaY c) (VU c).2 (by decide),Xm (vbk c) (VX c).2 (by decide),xbg,Ubb,(Yat c p).2,(Zan c p).2]
 unfold wN;simp only;grind
theorem XbE (c:CpR) (p:V2):evG (paY c) p.1 p.2=(wN c p).2:=by
 unfold paY
 rw [Wu (Zb _ _) (Zb _ _),Xm (kaM c) (VX c).1 (by decide),Xm (zaY c) (VU c).1 (by decide),Wu Uq (UJ c),xa6,xbg,Ubb,(Yat c p).1,(Zan c p).1]
 unfold wN;simp only;grind
theorem Vbh (c:CpR) (p:V2):evG (paM c) p.1 p.2=wM c p:=by
 unfold paM
 rw [Wu (Zb _ _) (Zb _ _),Xm (VX c).1 (VU c).2 (by decide),Xm (VX c).2 (VU c).1 (by decide),(Yat c p).1,(Yat c p).2,(Zan c p).1,(Zan c p).2]
 unfold wM;grind
theorem Jbp (c:CpR):(paC c).length=49:=wd (wd (Zb _ _) (Zb _ _) _) (Zb _ _) _
theorem vbH (c:CpR) (p:V2):evG (paC c) p.1 p.2=wV c p:=by
 unfold paC
 rw [Wu (wd (Zb _ _) (Zb _ _) _) (Zb _ _),Wu (Zb _ _) (Zb _ _),Xm (jaN c) (jaN c) (by decide),Xm (XaT c) (XaT c) (by decide),Xm (UaN c) (UaN c) (by decide),jbG,XbE,Vbh]
 unfold wV sqQ;grind
theorem wa7 {c:CpR} (h:CB c):lsG (paC c)=cCur c:=
 jbg (waP h).canon λx y=>by rw [vbH c (x,y)];exact zbc h (x,y)
theorem YaO {c:CpR} (h:CB c):lsG (paM c)=cM c:=
 jbg (pb_m h).canon λx y=>by rw [Vbh c (x,y)];exact ev_m h (x,y)
end Go.Num
end
section
namespace Go.Num
open Go.Abs
theorem gz_s (g:Gr) (m:Nat) (v:Rat):gz (g.set m v)<=gz g+rz v:=by have:=VaP g m v;omega
theorem jbj (a b c:Rat):gz (linG a b c)<=rz a+rz b+rz c:=by
 unfold linG
 have h1:=gz_s zG 0 a
 have h2:=gz_s (zG.set 0 a) 7 b
 have h3:=gz_s ((zG.set 0 a).set 7 b) 1 c
 rw [gz_z]at h1
 omega
theorem qbd (a:Rat):gz (conG a)<=rz a:=by
 unfold conG
 have h1:=gz_s zG 0 a
 rw [gz_z]at h1
 omega
theorem vbB:zq (0,0)=0:=by unfold zq;rw [rz_0];rfl
theorem kaN (o k:V2):gz (vecG o k).1<=2*zq o+4*zq k+10/\gz (vecG o k).2<=2*zq o+4*zq k+10:=by
 have h0:=YL (0,0) o
 rw [vbB]at h0
 have h1:=ka9 (subQ (0,0) o) k
 have h2:=zq_1 (timesQ (subQ (0,0) o) k)
 have h3:=zq_2 (timesQ (subQ (0,0) o) k)
 have h4:=zq_1 k
 have h5:=zq_2 k
 have h6:=uw k.2
 have g1:=jbj (timesQ (subQ (0,0) o) k).1 k.1 (-k.2)
 have g2:=jbj (timesQ (subQ (0,0) o) k).2 k.2 k.1
 exact ⟨by unfold vecG;simp only;omega,by unfold vecG;simp only;omega⟩
end Go.Num
namespace Go.Abs
open Go.Num
variable {P:Program} {Γ:Nat->Spec}
def JB (l:List AV) (K:AV->Prop):Prop:=
 match l with
 | [o,k]=>onA (λo=>onA (λk=>al o<=1000/\al k<=1000/\avld k=true/\K (.tup [gA (vecG (av o) (av k)).1,gA (vecG (av o) (av k)).2])) k) o
 | _=>False
theorem qa0 (o k:AV) (K:AV->Prop):JB [o,k] K=(onA (λo=>onA (λk=>al o<=1000/\al k<=1000/\avld k=true/\K (.tup [gA (vecG (av o) (av k)).1,gA (vecG (av o) (av k)).2])) k) o):=propext Iff.rfl
@[congr] theorem QbR {K:AV->Prop} {l l' : List AV} (h:l=l'):JB l K=JB l' K:=by subst h;rfl
attribute [go_sem] qa0
attribute [go_sem ↓] qa0
theorem uaO:Good JB:=ka λas=>by
 unfold JB
 split
 .exact (Ju λ_=>(Ju λ_=>(.and λ_=>(.and λ_=>(.and λ_=>(.ret _))))))
 .exact .of λK hk=>hk.elim
def vg (f0 f1 f2 f3:Nat):AC:=(.seq (.ops false [.u 2 (.box 6 (.t 0)),.u 3 (.box 6 (.t 1)),.u 4 (.alloc (zrs 49)),.u 5 (.alloc (zrs 49))])
 (.fg [2,3,4,5] (.seq (.ops true [.u 7 (.build [.z [(.lit (.bool false)),.emp,.emp,(.lit (.bool false)),.emp,.emp]]),.u 8 (.ld none 6 true (.t 2)),.u 9 (.call f0 [(.t 7),(.t 8)]),.u 10 (.ld none 6 true (.t 3)),.u 11 (.call f1 [(.t 9),(.t 10)]),.u 6 (.alloc [(.lit (.bool false)),.emp,.emp,(.lit (.bool false)),.emp,.emp]),.n (.st none 6 (.t 6) (.t 11))])
 (.fg [3,4,5,6] (.seq (.ops true [.u 12 (.fa 0 (.t 6)),.u 13 (.ld none 3 true (.t 12)),.u 14 (.fa 0 (.t 3)),.u 15 (.ld none 3 true (.t 14)),.u 16 (.fa 3 (.t 3)),.u 17 (.ld none 3 true (.t 16)),.u 18 (.call f2 [(.t 17)]),.u 19 (.call f3 [(.t 13),(.t 15),(.t 18)]),.u 20 (.fa 3 (.t 6)),.u 21 (.ld none 3 true (.t 20)),.u 22 (.fa 3 (.t 3)),.u 23 (.ld none 3 true (.t 22)),.u 24 (.fa 0 (.t 3)),.u 25 (.ld none 3 true (.t 24)),.u 26 (.call f3 [(.t 21),(.t 23),(.t 25)]),.n (.st none 147 (.t 4) (.t 19)),.n (.st none 147 (.t 5) (.t 26))])
 .ret)))))
theorem qaE (hΓ:Holds P Γ) {f fs ft fn fl:Nat} (hs:Γ fs=.dat false qn) (ht:Γ ft=.dat false Yr) (hn:Γ fn=.dat false Xp) (hl:Γ fl=.dat false wD) (hc:check P f=some (27,(vg fs ft fn fl).strip,[.cell 4 147 true,.cell 5 147 true])):Sound P f (.dat false JB):=by
 refine Va hc uaO hΓ (λargs K hcl hfi hG=>?_)
 match args,hG with
 | [u,w],hG=>
  obtain ⟨o,rfl,wo,k,rfl,wk,lo,lk,hv,hK⟩:=hG
  refine ⟨by simp,?_⟩
  have lo1:al o<=100000000:=Nat.le_trans lo (by decide)
  have lk1:al k<=100000000:=Nat.le_trans lk (by decide)
  have hv2:=hv
  unfold avld at hv2
  simp only [Bool.and_eq_true]at hv2
  obtain ⟨v1,v2⟩:=hv2
  have w1:=wk.1
  have w2:=wk.2
  have l1:=(Nat.max_le.1 lk).1
  have l2:=(Nat.max_le.1 lk).2
  have wz:WLA (rcan 0,rcan 0):=jG (0,0)
  have az:av (rcan 0,rcan 0)=(0,0):=UF (0,0)
  have lz:al (rcan 0,rcan 0)<=0:=by rw [zH,rz_0];decide
  have a1:=jH wo
  have a2:=jH wk
  have h0:=YL (0,0) (av o)
  rw [vbB]at h0
  have y1:al (rcan (subQ (0,0) (av o)).1,rcan (subQ (0,0) (av o)).2)<=10000:=by rw [zH];change zq _<=_;omega
  have h1:(vecG (av o) (av k)).1.length=49:=zI _ _ _
  have h2:(vecG (av o) (av k)).2.length=49:=zI _ _ _
  have c1:=jc (vecG (av o) (av k)).1
  have c2:=jc (vecG (av o) (av k)).2
  rw [h1]at c1
  rw [h2]at c2
  have t1:=Ud h1
  have t2:=Ud h2
  obtain ⟨T,hT⟩:∃T,timesQ (subQ (0,0) (av o)) (av k)=T:=⟨_,rfl⟩
  obtain ⟨G1,hG1⟩:∃G,linG T.1 (rv k.1) (-rv k.2)=G:=⟨_,rfl⟩
  obtain ⟨G2,hG2⟩:∃G,linG T.2 (rv k.2) (rv k.1)=G:=⟨_,rfl⟩
  have e1:(vecG (av o) (av k)).1=G1:=by rw [<-hG1,<-hT];rfl
  have e2:(vecG (av o) (av k)).2=G2:=by rw [<-hG2,<-hT];rfl
  rw [e1]at c1 t1 hK
  rw [e2]at c2 t2 hK
  have q1:3*49=147:=rfl
  rw [q1]at c1 c2
  simp only [go_sem,vg,hs,ht,hn,hl,kp,jd,az,UF,Wb,zd,hT,hG1,hG2,c1,c2,t1,t2]
  repeat (first | (refine And.intro (by with_reducible assumption) ?_) | (refine And.intro (Nat.le_trans (by with_reducible assumption) (by decide)) ?_) | (refine And.intro (by decide) ?_))
  exact hK
end Go.Abs
end
section
namespace Go.Num
open Go.Abs
theorem Zak:zq (1,0)=1:=by decide +kernel
theorem QaX (o:V2):gz (vecG o (1,0)).1<=2*zq o+14/\gz (vecG o (1,0)).2<=2*zq o+14:=by
 have h:=kaN o (1,0)
 rw [Zak]at h
 omega
theorem YbB (o:V2) (n:Rat):gz (sqG o n)<=400*zq o+rz n+30000:=by
 have h:=QaX o
 have l1:=(YF o (1,0)).1
 have l2:=(YF o (1,0)).2
 have p1:=Zo l1 l1
 have p2:=Zo l2 l2
 have c0:=qbd n
 have r1:rz (1:Rat)=1:=by decide +kernel
 have s1:=jv (conG n) (prodG (vecG o (1,0)).1 (vecG o (1,0)).1) 1
 have s2:=jv (plusG (conG n) 1 (prodG (vecG o (1,0)).1 (vecG o (1,0)).1)) (prodG (vecG o (1,0)).2 (vecG o (1,0)).2) 1
 rw [r1,Zb]at s1 s2
 unfold sqG
 omega
end Go.Num
namespace Go.Abs
open Go.Num
variable {P:Program} {Γ:Nat->Spec}
def XT (l:List AV) (K:AV->Prop):Prop:=
 match l with
 | [o,n]=>onA (λo=>onR (λn=>al o<=1000/\rl n<=1000000/\vldR n=true/\K (gA (sqG (av o) (rv n)))) n) o
 | _=>False
theorem vbf (o n:AV) (K:AV->Prop):XT [o,n] K=(onA (λo=>onR (λn=>al o<=1000/\rl n<=1000000/\vldR n=true/\K (gA (sqG (av o) (rv n)))) n) o):=propext Iff.rfl
@[congr] theorem UbU {K:AV->Prop} {l l' : List AV} (h:l=l'):XT l K=XT l' K:=by subst h;rfl
attribute [go_sem] vbf
attribute [go_sem ↓] vbf
theorem va8:Good XT:=ka λas=>by
 unfold XT
 split
 .exact (Ju λ_=>(Qf λ_=>(.and λ_=>(.and λ_=>(.and λ_=>(.ret _))))))
 .exact .of λK hk=>hk.elim
def Xf (f0 f1 f2 f3 f4:Nat):AC:=(.seq (.ops false [.u 2 (.box 6 (.t 0)),.u 3 (.box 3 (.t 1)),.u 4 (.alloc (zrs 49))])
 (.fg [2,3,4] (.seq (.ops true [.u 8 (.ld none 6 true (.t 2)),.u 9 (.call f0 [(.i 1)]),.u 10 (.build [.x 3 (.t 9),.z [(.lit (.bool false)),.emp,.emp]]),.u 11 (.call f1 [(.t 8),(.t 10)]),.m 7 (.t 11),.u 12 (.ext 0 (.t 7)),.u 13 (.ext 1 (.t 7)),.u 5 (.alloc (zrs 49)),.u 6 (.alloc (zrs 49)),.n (.st none 147 (.t 5) (.t 12)),.n (.st none 147 (.t 6) (.t 13))])
 (.fg [3,4,5,6] (.seq (.ops true [.u 14 (.ld none 3 true (.t 3)),.u 15 (.call f2 [(.t 14)]),.u 16 (.call f0 [(.i 1)]),.u 17 (.ld none 147 true (.t 5)),.u 18 (.ld none 147 true (.t 5)),.u 19 (.call f3 [(.t 17),(.t 18)]),.u 20 (.call f4 [(.t 15),(.t 16),(.t 19)]),.u 21 (.call f0 [(.i 1)]),.u 22 (.ld none 147 true (.t 6)),.u 23 (.ld none 147 true (.t 6)),.u 24 (.call f3 [(.t 22),(.t 23)]),.u 25 (.call f4 [(.t 20),(.t 21),(.t 24)]),.n (.st none 147 (.t 4) (.t 25))])
 .ret)))))
theorem xaV (hΓ:Holds P Γ) {f fo fv fc fm fp:Nat} (ho:Γ fo=.dat false ju) (hv:Γ fv=.dat false JB) (hcn:Γ fc=.dat false QF) (hm:Γ fm=.dat false Qu) (hp:Γ fp=.dat false kt) (hc:check P f=some (26,(Xf fo fv fc fm fp).strip,[.cell 4 147 true])):Sound P f (.dat false XT):=by
 refine Va hc va8 hΓ (λargs K hcl hfi hG=>?_)
 match args,hG with
 | [u,w],hG=>
  obtain ⟨o,rfl,wo,n,rfl,wn,lo,ln,hvn,hK⟩:=hG
  refine ⟨by simp,?_⟩
  have a1:=jH wo
  have hz1:=QaX (av o)
  have l1:=(YF (av o) (1,0)).1
  have l2:=(YF (av o) (1,0)).2
  obtain ⟨G1,hG1⟩:∃G,(vecG (av o) (1,0)).1=G:=⟨_,rfl⟩
  obtain ⟨G2,hG2⟩:∃G,(vecG (av o) (1,0)).2=G:=⟨_,rfl⟩
  have e1:sqG (av o) (rv n)=plusG (plusG (conG (rv n)) 1 (prodG G1 G1)) 1 (prodG G2 G2):=by rw [<-hG1,<-hG2];rfl
  rw [e1]at hK
  rw [hG1,hG2]at hz1
  have b1:gz G1<=4000:=by omega
  have b2:gz G2<=4000:=by omega
  rw [hG1]at l1
  rw [hG2]at l2
  have h10:av (rcan 1,rcan 0)=(1,0):=UF (1,0)
  have h1r:((1:Int):Rat)=1:=rfl
  have c1:(gC G1).length=147:=by rw [jc,l1]
  have c2:(gC G2).length=147:=by rw [jc,l2]
  have t1:=Ud l1
  have t2:=Ud l2
  have lp1:(prodG G1 G1).length=49:=Zb _ _
  have lp2:(prodG G2 G2).length=49:=Zb _ _
  have lcn:(conG (rv n)).length=49:=yA _
  have ls:=wd lcn lp1 1
  have q1:=Zo l1 l1
  have q2:=Zo l2 l2
  have q0:=qbd (rv n)
  have r1:rz (1:Rat)=1:=by decide +kernel
  have s1:=jv (conG (rv n)) (prodG G1 G1) 1
  rw [r1,lp1]at s1
  have y1:gz G1+gz G1<=20000000:=by omega
  have y2:gz G2+gz G2<=20000000:=by omega
  have wr:=Qd wn
  have y3:gz (conG (rv n))+gz (prodG G1 G1)<=2000000000:=by omega
  have y4:gz (plusG (conG (rv n)) 1 (prodG G1 G1))+gz (prodG G2 G2)<=2000000000:=by omega
  have y5:rz (1:Rat)<=1000000:=by omega
  obtain ⟨R,hR⟩:∃R,plusG (plusG (conG (rv n)) 1 (prodG G1 G1)) 1 (prodG G2 G2)=R:=⟨_,rfl⟩
  have lR:R.length=49:=by rw [<-hR];exact wd ls lp2 1
  have cR:(gC R).length=147:=by rw [jc,lR]
  have tR:=Ud lR
  have w10:WLA (rcan 1,rcan 0):=jG (1,0)
  have al10:al (rcan 1,rcan 0)<=1000:=by rw [zH];change zq (1,0)<=_;rw [Zak];decide
  have av10:avld (rcan 1,rcan 0)=true:=by unfold avld;rw [zd,zd];rfl
  rw [hR]at hK
  simp only [go_sem,Xf,hR,cR,tR,h10,h1r,c1,c2,t1,t2,l1,l2,lp1,lp2,lcn,ls,ho,hv,hcn,hm,hp,kp,jd,UF,Wb,zd,hG1,hG2]
  repeat (first | (refine And.intro (by with_reducible assumption) ?_) | (refine And.intro (Nat.le_trans (by with_reducible assumption) (by decide)) ?_) | (refine And.intro (by decide) ?_))
  exact hK
end Go.Abs
end
section
namespace Go.Num
open Go.Abs
structure C20 (c:CpR):Prop where
 o:zq c.1<=20
 q:zq c.2.1<=20
 a:rz c.2.2.1<=20
 b:rz c.2.2.2.1<=20
 d:rz c.2.2.2.2.1<=20
 w:zq (cW c)<=20
theorem Uak (c:CpR):(paE c).length=49:=UaI _ _
theorem QL (c:CpR):(paA c).1.length=49/\(paA c).2.length=49:=YF _ _
theorem JM (c:CpR):(paB c).1.length=49/\(paB c).2.length=49:=YF _ _
theorem vbl {c:CpR} (h:zq (cW c)<=20):zq (reQ c)<=24:=by
 have:=YL (1,0) (cW c)
 have e:zq (1,0)<=1:=Nat.le_of_eq Zak
 unfold reQ;omega
theorem WaA {c:CpR} (h:C20 c):gz (paA c).1<=130/\gz (paA c).2<=130:=by
 have h1:=kaN c.1 (barQ (cW c))
 rw [Zav]at h1
 have:=h.o;have:=h.w
 unfold paA;omega
theorem Zay {c:CpR} (h:C20 c):gz (paB c).1<=146/\gz (paB c).2<=146:=by
 have h1:=kaN c.2.1 (barQ (reQ c))
 rw [Zav]at h1
 have:=h.q;have:=vbl h.w
 unfold paB;omega
theorem jaQ {c:CpR} (h:C20 c):gz (paE c)<=40000:=by
 have h1:=YbB c.1 (sqQ (cW c)*c.2.2.2.1-c.2.2.1)
 have h2:=km (sqQ (cW c)*c.2.2.2.1) c.2.2.1
 have h3:=Vb (sqQ (cW c)) c.2.2.2.1
 have h4:=XF (cW c)
 have:=h.o;have:=h.w;have:=h.a;have:=h.b
 unfold paE;omega
theorem xa4 {c:CpR} (h:C20 c):gz (paF c)<=40000:=by
 have h1:=YbB c.2.1 (sqQ (reQ c)*c.2.2.2.1-c.2.2.2.2.1)
 have h2:=km (sqQ (reQ c)*c.2.2.2.1) c.2.2.2.2.1
 have h3:=Vb (sqQ (reQ c)) c.2.2.2.1
 have h4:=XF (reQ c)
 have:=h.q;have:=vbl h.w;have:=h.d;have:=h.b
 unfold paF;omega
theorem wa8:rz (-1:Rat)=1:=by decide +kernel
theorem Ya7:rz (1:Rat)=1:=by decide +kernel
theorem ybb {c:CpR} (h:C20 c):gz (plusG zG (-1) (paF c))<=41000:=by
 have h1:=jv zG (paF c) (-1)
 have:=xa4 h
 rw [gz_z,UJ,wa8]at h1
 omega
theorem zbd {c:CpR} (h:C20 c):gz (prodG (paE c) (paB c).2)<=2000000/\gz (prodG (paF c) (paA c).2)<=2000000:=by
 have h1:=Zo (Uak c) (JM c).2
 have h2:=Zo (UJ c) (QL c).2
 have:=jaQ h;have:=xa4 h;have:=WaA h;have:=Zay h
 omega
theorem xbf {c:CpR} (h:C20 c):gz (prodG (plusG zG (-1) (paF c)) (paA c).1)<=2100000/\gz (prodG (paE c) (paB c).1)<=2000000:=by
 have h1:=Zo (wd Uq (UJ c) (-1)) (QL c).1
 have h2:=Zo (Uak c) (JM c).1
 have:=jaQ h;have:=ybb h;have:=WaA h;have:=Zay h
 omega
theorem Zbb {c:CpR} (h:C20 c):gz (prodG (paA c).1 (paB c).2)<=24000/\gz (prodG (paA c).2 (paB c).1)<=24000:=by
 have h1:=Zo (QL c).1 (JM c).2
 have h2:=Zo (QL c).2 (JM c).1
 have:=WaA h;have:=Zay h
 omega
theorem Vbb {c:CpR} (h:C20 c):gz (paX c)<=4100000:=by
 have h1:=jv (prodG (paE c) (paB c).2) (prodG (paF c) (paA c).2) 1
 rw [Zb,Ya7]at h1
 have:=zbd h
 unfold paX;omega
theorem vbb {c:CpR} (h:C20 c):gz (paY c)<=4200000:=by
 have h1:=jv (prodG (plusG zG (-1) (paF c)) (paA c).1) (prodG (paE c) (paB c).1) (-1)
 rw [Zb,wa8]at h1
 have:=xbf h
 unfold paY;omega
theorem uaJ {c:CpR} (h:C20 c):gz (paM c)<=49000:=by
 have h1:=jv (prodG (paA c).1 (paB c).2) (prodG (paA c).2 (paB c).1) (-1)
 rw [Zb,wa8]at h1
 have:=Zbb h
 unfold paM;omega
theorem wbx {c:CpR} (h:C20 c):gz (prodG (paX c) (paX c))<=450000000/\gz (prodG (paY c) (paY c))<=450000000/\gz (prodG (paM c) (paM c))<=5000000/\gz (plusG (prodG (paX c) (paX c)) 1 (prodG (paY c) (paY c)))<=901000000/\gz (paC c)<=1000000000:=by
 have h1:=Zo (YK c) (YK c)
 have h2:=Zo (VI c) (VI c)
 have h3:=Zo (wI c) (wI c)
 have:=Vbb h;have:=vbb h;have:=uaJ h
 have s1:=jv (prodG (paX c) (paX c)) (prodG (paY c) (paY c)) 1
 have s2:=jv (plusG (prodG (paX c) (paX c)) 1 (prodG (paY c) (paY c))) (prodG (paM c) (paM c)) (-(4*c.2.2.2.1))
 rw [Zb,Ya7]at s1
 have b:=h.b
 have r4:rz (4:Rat)=1:=by decide +kernel
 have h4:=Vb 4 c.2.2.2.1
 have h5:=uw (4*c.2.2.2.1)
 rw [Zb]at s2
 refine ⟨by omega,by omega,by omega,by omega,?_⟩
 unfold paC
 omega
end Go.Num
end
section
namespace Go.Abs
open Go.Num
variable {P:Program} {Γ:Nat->Spec}
def qp (l:List AV) (K:AV->Prop):Prop:=
 match l with
 | [c]=>onCp (λc=>cl c<=20/\cchk c=0/\K (.tup [gA (paX (cpv c)),gA (paY (cpv c)),gA (paM (cpv c))])) c
 | _=>False
theorem Vad (c:AV) (K:AV->Prop):qp [c] K=(onCp (λc=>cl c<=20/\cchk c=0/\K (.tup [gA (paX (cpv c)),gA (paY (cpv c)),gA (paM (cpv c))])) c):=propext Iff.rfl
@[congr] theorem Qbv {K:AV->Prop} {l l' : List AV} (h:l=l'):qp l K=qp l' K:=by subst h;rfl
attribute [go_sem] Vad
attribute [go_sem ↓] Vad
theorem wai:Good qp:=ka λas=>by
 unfold qp
 split
 .exact (Up λ_=>(.and λ_=>(.and λ_=>(.ret _))))
 .exact .of λK hk=>hk.elim
theorem kaR:∀n,(zrs n).flatMap ownC=[]
 | 0=>rfl
 | n+1=>by
  show ownC _++(ownC _++(ownC _++(zrs n).flatMap ownC))=[]
  rw [kaR n];rfl
theorem rep49:List.replicate 49 (0:Rat)=zG:=rfl
theorem VaK {c:Cp} (hw:WLC c) (h:cl c<=20):C20 (cpv c):=by
 obtain ⟨wo,wQ,w1,w2,w3,w4,w5⟩:=hw
 unfold cl at h
 simp only [Nat.max_le]at h
 obtain ⟨l1,l2,l3,l4,l5,l6,l7⟩:=h
 refine ⟨Nat.le_trans (jH wo) l1,Nat.le_trans (jH wQ) l2,Nat.le_trans (Qd w1) l3,Nat.le_trans (Qd w2) l4,Nat.le_trans (Qd w3) l5,?_⟩
 exact Nat.max_le.2 ⟨Nat.le_trans (Qd w4) l6,Nat.le_trans (Qd w5) l7⟩
def xh (f0 f1 f2 f3 f4 f5 f6 f7 f8 f9 f10:Nat):AC:=(.seq (.ops false [.u 1 (.box 27 (.t 0)),.u 2 (.alloc (zrs 49)),.u 3 (.alloc (zrs 49)),.u 4 (.alloc (zrs 49))])
 (.fg [1,2,3,4] (.seq (.ops false [.u 16 (.call f0 [(.i 1)]),.u 17 (.call f0 [(.i (-1))]),.u 5 (.alloc [(.lit (.bool false)),.emp,.emp]),.u 6 (.alloc [(.lit (.bool false)),.emp,.emp]),.n (.st none 3 (.t 5) (.t 16)),.n (.st none 3 (.t 6) (.t 17))])
 (.fg [1,2,3,4,5,6] (.seq (.ops true [.u 19 (.fa 0 (.t 1)),.u 20 (.ld none 6 true (.t 19)),.u 21 (.ld none 27 true (.t 1)),.u 22 (.call f1 [(.t 21)]),.u 23 (.call f2 [(.t 22)]),.u 24 (.call f3 [(.t 20),(.t 23)]),.m 18 (.t 24),.u 25 (.ext 0 (.t 18)),.u 26 (.ext 1 (.t 18)),.u 7 (.alloc (zrs 49)),.u 8 (.alloc (zrs 49)),.n (.st none 147 (.t 7) (.t 25)),.n (.st none 147 (.t 8) (.t 26))])
 (.fg [1,2,3,4,5,6,7,8] (.seq (.ops true [.u 28 (.fa 6 (.t 1)),.u 29 (.ld none 6 true (.t 28)),.u 30 (.ld none 27 true (.t 1)),.u 31 (.call f4 [(.t 30)]),.u 32 (.call f2 [(.t 31)]),.u 33 (.call f3 [(.t 29),(.t 32)]),.m 27 (.t 33),.u 34 (.ext 0 (.t 27)),.u 35 (.ext 1 (.t 27)),.u 9 (.alloc (zrs 49)),.u 10 (.alloc (zrs 49)),.n (.st none 147 (.t 9) (.t 34)),.n (.st none 147 (.t 10) (.t 35))])
 (.fg [1,2,3,4,5,6,7,8,9,10] (.seq (.ops true [.u 36 (.fa 0 (.t 1)),.u 37 (.ld none 6 true (.t 36)),.u 38 (.ld none 27 true (.t 1)),.u 39 (.call f1 [(.t 38)]),.u 40 (.call f5 [(.t 39)]),.u 41 (.fa 15 (.t 1)),.u 42 (.ld none 3 true (.t 41)),.u 43 (.call f6 [(.t 40),(.t 42)]),.u 44 (.fa 12 (.t 1)),.u 45 (.ld none 3 true (.t 44)),.u 46 (.call f7 [(.t 43),(.t 45)]),.u 47 (.call f8 [(.t 37),(.t 46)]),.u 11 (.alloc (zrs 49)),.n (.st none 147 (.t 11) (.t 47))])
 (.fg [1,2,3,4,5,6,7,8,9,10,11] (.seq (.ops true [.u 48 (.fa 6 (.t 1)),.u 49 (.ld none 6 true (.t 48)),.u 50 (.ld none 27 true (.t 1)),.u 51 (.call f4 [(.t 50)]),.u 52 (.call f5 [(.t 51)]),.u 53 (.fa 15 (.t 1)),.u 54 (.ld none 3 true (.t 53)),.u 55 (.call f6 [(.t 52),(.t 54)]),.u 56 (.fa 18 (.t 1)),.u 57 (.ld none 3 true (.t 56)),.u 58 (.call f7 [(.t 55),(.t 57)]),.u 59 (.call f8 [(.t 49),(.t 58)]),.u 12 (.alloc (zrs 49)),.n (.st none 147 (.t 12) (.t 59))])
 (.fg [2,3,4,5,6,7,8,9,10,11,12] (.seq (.ops true [.u 60 (.ld none 147 true (.t 11)),.u 61 (.ld none 147 true (.t 10)),.u 62 (.call f9 [(.t 60),(.t 61)]),.u 63 (.ld none 3 true (.t 5)),.u 64 (.ld none 147 true (.t 12)),.u 65 (.ld none 147 true (.t 8)),.u 66 (.call f9 [(.t 64),(.t 65)]),.u 67 (.call f10 [(.t 62),(.t 63),(.t 66)]),.u 13 (.alloc (zrs 49)),.n (.st none 147 (.t 13) (.t 67))])
 (.fg [2,3,4,6,7,8,9,10,11,12,13] (.seq (.ops true [.u 68 (.build [.z (zrs 49)]),.u 69 (.ld none 3 true (.t 6)),.u 70 (.ld none 147 true (.t 12)),.u 71 (.call f10 [(.t 68),(.t 69),(.t 70)]),.u 72 (.ld none 147 true (.t 7)),.u 73 (.call f9 [(.t 71),(.t 72)]),.u 74 (.ld none 3 true (.t 6)),.u 75 (.ld none 147 true (.t 11)),.u 76 (.ld none 147 true (.t 9)),.u 77 (.call f9 [(.t 75),(.t 76)]),.u 78 (.call f10 [(.t 73),(.t 74),(.t 77)]),.u 14 (.alloc (zrs 49)),.n (.st none 147 (.t 14) (.t 78))])
 (.fg [2,3,4,6,7,8,9,10,13,14] (.seq (.ops true [.u 79 (.ld none 147 true (.t 7)),.u 80 (.ld none 147 true (.t 10)),.u 81 (.call f9 [(.t 79),(.t 80)]),.u 82 (.ld none 3 true (.t 6)),.u 83 (.ld none 147 true (.t 8)),.u 84 (.ld none 147 true (.t 9)),.u 85 (.call f9 [(.t 83),(.t 84)]),.u 86 (.call f10 [(.t 81),(.t 82),(.t 85)]),.u 15 (.alloc (zrs 49)),.n (.st none 147 (.t 15) (.t 86))])
 (.fg [2,3,4,13,14,15] (.seq (.ops true [.u 87 (.ld (some 13) 147 true (.t 13)),.u 88 (.ld (some 14) 147 true (.t 14)),.u 89 (.ld (some 15) 147 true (.t 15)),.n (.st (some 2) 147 (.t 2) (.t 87)),.n (.st (some 3) 147 (.t 3) (.t 88)),.n (.st (some 4) 147 (.t 4) (.t 89))])
 .ret)))))))))))))))))))
set_option maxHeartbeats 2000000 in
theorem Y6 (hΓ:Holds P Γ) {f fo fw fb fv fr fq fm fs fg fp fa:Nat} (ho:Γ fo=.dat false ju) (hw' : Γ fw=.dat false XN) (hb:Γ fb=.dat false zF) (hv:Γ fv=.dat false JB) (hr:Γ fr=.dat false qD) (hq' : Γ fq=.dat false zY) (hm:Γ fm=.dat false xg) (hs:Γ fs=.dat false xp) (hg:Γ fg=.dat false XT) (hp:Γ fp=.dat false Qu) (ha:Γ fa=.dat false kt) (hc:check P f=some (90,(xh fo fw fb fv fr fq fm fs fg fp fa).strip,[.cell 2 147 true,.cell 3 147 true,.cell 4 147 true])):Sound P f (.dat false qp):=by
 refine Va hc wai hΓ (λargs K hcl hfi hG=>?_)
 match args,hG with
 | [a],hG=>
  obtain ⟨c,rfl,hw,hl,h0,hK⟩:=hG
  refine ⟨by simp,?_⟩
  obtain ⟨wo,wQ,w1,w2,w3,w4,w5⟩:=id hw
  obtain ⟨v1,v2,v3,v4,v5⟩:=kbv h0
  have h20:=VaK hw hl
  have hl0:=hl
  unfold cl at hl0
  simp only [Nat.max_le]at hl0
  obtain ⟨l1,l2,l3,l4,l5,l6,l7⟩:=hl0
  have l1' : al c.1<=1000:=Nat.le_trans l1 (by decide)
  have l2' : al c.2.1<=1000:=Nat.le_trans l2 (by decide)
  have hl2:cl c<=100000000:=Nat.le_trans hl (by decide)
  have wW:WLA c.2.2.2.2.2:=⟨w4,w5⟩
  have aW:av c.2.2.2.2.2=cW (cpv c):=rfl
  have lW:al c.2.2.2.2.2<=100000000:=Nat.max_le.2 ⟨Nat.le_trans l6 (by decide),Nat.le_trans l7 (by decide)⟩
  obtain ⟨RE,hRE⟩:∃x,reQ (cpv c)=x:=⟨_,rfl⟩
  have zR:=vbl h20.w
  rw [hRE]at zR
  have i1:((1:Int):Rat)=1:=rfl
  have im1:((-1:Int):Rat) = -1:=rfl
  obtain ⟨A1,hA1⟩:∃G,(vecG (av c.1) (barQ (cW (cpv c)))).1=G:=⟨_,rfl⟩
  obtain ⟨A2,hA2⟩:∃G,(vecG (av c.1) (barQ (cW (cpv c)))).2=G:=⟨_,rfl⟩
  obtain ⟨B1,hB1⟩:∃G,(vecG (av c.2.1) (barQ RE)).1=G:=⟨_,rfl⟩
  obtain ⟨B2,hB2⟩:∃G,(vecG (av c.2.1) (barQ RE)).2=G:=⟨_,rfl⟩
  obtain ⟨E,hE⟩:∃G,sqG (av c.1) (sqQ (cW (cpv c))*rv c.2.2.2.1-rv c.2.2.1)=G:=⟨_,rfl⟩
  obtain ⟨F,hF⟩:∃G,sqG (av c.2.1) (sqQ RE*rv c.2.2.2.1-rv c.2.2.2.2.1)=G:=⟨_,rfl⟩
  have eA:paA (cpv c)=(A1,A2):=by rw [<-hA1,<-hA2];rfl
  have eB:paB (cpv c)=(B1,B2):=by rw [<-hB1,<-hB2,<-hRE];rfl
  have eE:paE (cpv c)=E:=hE
  have eF:paF (cpv c)=F:=by rw [<-hF,<-hRE];rfl
  have gA':=WaA h20
  have gB':=Zay h20
  have gE':=jaQ h20
  have gF':=xa4 h20
  have gN':=ybb h20
  have g1:=zbd h20
  have g2:=xbf h20
  have g3:=Zbb h20
  have lA:=QL (cpv c)
  have lB:=JM (cpv c)
  have lE:=Uak (cpv c)
  have lF:=UJ (cpv c)
  have lX:=YK (cpv c)
  have lY:=VI (cpv c)
  have lM:=wI (cpv c)
  have eX:paX (cpv c)=plusG (prodG E B2) 1 (prodG F A2):=by unfold paX;rw [eA,eB,eE,eF]
  have eY:paY (cpv c)=plusG (prodG (plusG zG (-1) F) A1) (-1) (prodG E B1):=by unfold paY;rw [eA,eB,eE,eF]
  have eM:paM (cpv c)=plusG (prodG A1 B2) (-1) (prodG A2 B1):=by unfold paM;rw [eA,eB]
  rw [eX]at lX hK
  rw [eY]at lY hK
  rw [eM]at lM hK
  rw [eA]at gA' g1 g2 g3 lA
  rw [eB]at gB' g1 g2 g3 lB
  rw [eE]at gE' g1 g2 lE
  rw [eF]at gF' gN' g1 g2 lF
  simp only at gA' gB' g1 g2 g3 lA lB
  clear eX eY eM eA eB eE eF
  obtain ⟨lA1,lA2⟩:=lA
  obtain ⟨lB1,lB2⟩:=lB
  have lN:=wd Uq lF (-1)
  obtain ⟨N,hN⟩:∃G,plusG zG (-1) F=G:=⟨_,rfl⟩
  obtain ⟨P1,hP1⟩:∃G,prodG E B2=G:=⟨_,rfl⟩
  obtain ⟨P2,hP2⟩:∃G,prodG F A2=G:=⟨_,rfl⟩
  rw [hN]at lN gN' g2 hK lY
  obtain ⟨P3,hP3⟩:∃G,prodG N A1=G:=⟨_,rfl⟩
  obtain ⟨P4,hP4⟩:∃G,prodG E B1=G:=⟨_,rfl⟩
  obtain ⟨P5,hP5⟩:∃G,prodG A1 B2=G:=⟨_,rfl⟩
  obtain ⟨P6,hP6⟩:∃G,prodG A2 B1=G:=⟨_,rfl⟩
  rw [hP1,hP2]at g1 hK lX
  rw [hP3,hP4]at g2 hK lY
  rw [hP5,hP6]at g3 hK lM
  obtain ⟨X,hX⟩:∃G,plusG P1 1 P2=G:=⟨_,rfl⟩
  obtain ⟨Y,hY⟩:∃G,plusG P3 (-1) P4=G:=⟨_,rfl⟩
  obtain ⟨M,hM⟩:∃G,plusG P5 (-1) P6=G:=⟨_,rfl⟩
  rw [hX]at lX hK
  rw [hY]at lY hK
  rw [hM]at lM hK
  have lP1:P1.length=49:=by rw [<-hP1];exact Zb _ _
  have lP2:P2.length=49:=by rw [<-hP2];exact Zb _ _
  have lP3:P3.length=49:=by rw [<-hP3];exact Zb _ _
  have lP4:P4.length=49:=by rw [<-hP4];exact Zb _ _
  have lP5:P5.length=49:=by rw [<-hP5];exact Zb _ _
  have lP6:P6.length=49:=by rw [<-hP6];exact Zb _ _
  have cA1:(gC A1).length=147:=by rw [jc,lA1]
  have tA1:=Ud lA1
  have cA2:(gC A2).length=147:=by rw [jc,lA2]
  have tA2:=Ud lA2
  have cB1:(gC B1).length=147:=by rw [jc,lB1]
  have tB1:=Ud lB1
  have cB2:(gC B2).length=147:=by rw [jc,lB2]
  have tB2:=Ud lB2
  have cE:(gC E).length=147:=by rw [jc,lE]
  have tE:=Ud lE
  have cF:(gC F).length=147:=by rw [jc,lF]
  have tF:=Ud lF
  have cX:(gC X).length=147:=by rw [jc,lX]
  have tX:=Ud lX
  have cY:(gC Y).length=147:=by rw [jc,lY]
  have tY:=Ud lY
  have cM:(gC M).length=147:=by rw [jc,lM]
  have tM:=Ud lM
  have zg:gz zG=0:=gz_z
  have u1:gz E+gz B2<=20000000:=by omega
  have u2:gz F+gz A2<=20000000:=by omega
  have u3:gz N+gz A1<=20000000:=by omega
  have u4:gz E+gz B1<=20000000:=by omega
  have u5:gz A1+gz B2<=20000000:=by omega
  have u6:gz A2+gz B1<=20000000:=by omega
  have y1:gz P1+gz P2<=2000000000:=by omega
  have y2:gz P3+gz P4<=2000000000:=by omega
  have y3:gz P5+gz P6<=2000000000:=by omega
  have y4:gz zG+gz F<=2000000000:=by omega
  have k1:rz (1:Rat)<=1000000:=by rw [Ya7];decide
  have k2:rz (-1:Rat)<=1000000:=by rw [wa8];decide
  have zB1:al (rcan (barQ (cW (cpv c))).1,rcan (barQ (cW (cpv c))).2)<=1000:=by rw [zH];change zq (barQ _)<=_;rw [Zav];have:=h20.w;omega
  have zB2:al (rcan (barQ RE).1,rcan (barQ RE).2)<=1000:=by rw [zH];change zq (barQ _)<=_;rw [Zav];omega
  have zRE:al (rcan RE.1,rcan RE.2)<=100000000:=by rw [zH];change zq RE<=_;omega
  have vB1:avld (rcan (barQ (cW (cpv c))).1,rcan (barQ (cW (cpv c))).2)=true:=by unfold avld;rw [zd,zd];rfl
  have vB2:avld (rcan (barQ RE).1,rcan (barQ RE).2)=true:=by unfold avld;rw [zd,zd];rfl
  have m0:zq (cW (cpv c))<=20:=h20.w
  have r2:=Qd w2
  have r1:=Qd w1
  have r3:=Qd w3
  have m1:=Nat.le_trans (XF (cW (cpv c))) (by omega:_<=1000)
  have m2:=Nat.le_trans (XF RE) (by omega:_<=1000)
  have m3:=Nat.le_trans (Vb (sqQ (cW (cpv c))) (rv c.2.2.2.1)) (by omega:_<=2000)
  have m4:=Nat.le_trans (Vb (sqQ RE) (rv c.2.2.2.1)) (by omega:_<=2000)
  have m5:=Nat.le_trans (km (sqQ (cW (cpv c))*rv c.2.2.2.1) (rv c.2.2.1)) (by omega:_<=4000)
  have m6:=Nat.le_trans (km (sqQ RE*rv c.2.2.2.1) (rv c.2.2.2.2.1)) (by omega:_<=4000)
  simp only [go_sem,xh,ho,hw',hb,hv,hr,hq',hm,hs,hg,hp,ha,cpA,cpC,jd,kp,UF,Wb,aW,i1,im1,hRE,hA1,hA2,hB1,hB2,hE,hF,hN,hX,hY,hM,hP1,hP2,hP3,hP4,hP5,hP6,cA1,tA1,lA1,cA2,tA2,lA2,cB1,tB1,lB1,cB2,tB2,lB2,cE,tE,lE,cF,tF,lF,cX,tX,lX,cY,tY,lY,cM,tM,lM,lN,Uq,lP1,lP2,lP3,lP4,lP5,lP6,qJ,kaR,rep49,zd,v4]
  repeat (first | (refine And.intro (by with_reducible assumption) ?_) | (refine And.intro (Nat.le_trans (by with_reducible assumption) (by decide)) ?_) | (refine And.intro (by decide) ?_))
  exact hK
end Go.Abs
end
section
namespace Go.Abs
open Go.Num
variable {P:Program} {Γ:Nat->Spec}
def Qs (l:List AV) (K:AV->Prop):Prop:=
 match l with
 | [c]=>onCp (λc=>cl c<=20/\cchk c=0/\K (.one (.slice ((mcs (cCur (cpv c))).map mC)))) c
 | _=>False
theorem Uac (c:AV) (K:AV->Prop):Qs [c] K=(onCp (λc=>cl c<=20/\cchk c=0/\K (.one (.slice ((mcs (cCur (cpv c))).map mC)))) c):=propext Iff.rfl
@[congr] theorem QbC {K:AV->Prop} {l l' : List AV} (h:l=l'):Qs l K=Qs l' K:=by subst h;rfl
attribute [go_sem] Uac
attribute [go_sem ↓] Uac
theorem qah:Good Qs:=ka λas=>by
 unfold Qs
 split
 .exact (Up λ_=>(.and λ_=>(.and λ_=>(.ret _))))
 .exact .of λK hk=>hk.elim
def zn (l:List AV) (K:AV->Prop):Prop:=
 match l with
 | [c]=>onCp (λc=>cl c<=20/\cchk c=0/\K (.one (.slice ((mcs (cM (cpv c))).map mC)))) c
 | _=>False
theorem wP (c:AV) (K:AV->Prop):zn [c] K=(onCp (λc=>cl c<=20/\cchk c=0/\K (.one (.slice ((mcs (cM (cpv c))).map mC)))) c):=propext Iff.rfl
@[congr] theorem Zbu {K:AV->Prop} {l l' : List AV} (h:l=l'):zn l K=zn l' K:=by subst h;rfl
attribute [go_sem] wP
attribute [go_sem ↓] wP
theorem Y4:Good zn:=ka λas=>by
 unfold zn
 split
 .exact (Up λ_=>(.and λ_=>(.and λ_=>(.ret _))))
 .exact .of λK hk=>hk.elim
def qh (f0 f1 f2 f3 f4 f5 f6:Nat):AC:=(.seq (.ops false [.u 1 (.box 27 (.t 0)),.m 2 (.c (.one .emp))])
 (.fg [1] (.seq (.ops false [.u 8 (.ld none 27 true (.t 1)),.u 9 (.call f0 [(.t 8)]),.m 7 (.t 9),.u 10 (.ext 0 (.t 7)),.u 11 (.ext 1 (.t 7)),.u 12 (.ext 2 (.t 7)),.u 3 (.alloc (zrs 49)),.u 4 (.alloc (zrs 49)),.u 5 (.alloc (zrs 49)),.n (.st none 147 (.t 3) (.t 10)),.n (.st none 147 (.t 4) (.t 11)),.n (.st none 147 (.t 5) (.t 12))])
 (.fg [1,3,4,5] (.seq (.ops true [.u 13 (.ld none 147 true (.t 3)),.u 14 (.ld none 147 true (.t 3)),.u 15 (.call f1 [(.t 13),(.t 14)]),.u 16 (.call f2 [(.i 1)]),.u 17 (.ld none 147 true (.t 4)),.u 18 (.ld none 147 true (.t 4)),.u 19 (.call f1 [(.t 17),(.t 18)]),.u 20 (.call f3 [(.t 15),(.t 16),(.t 19)]),.u 6 (.alloc (zrs 49)),.n (.st none 147 (.t 6) (.t 20))])
 (.fg [1,5,6] (.seq (.ops true [.u 21 (.ld none 147 true (.t 6)),.u 22 (.call f2 [(.i 4)]),.u 23 (.fa 15 (.t 1)),.u 24 (.ld none 3 true (.t 23)),.u 25 (.call f4 [(.t 22),(.t 24)]),.u 26 (.call f5 [(.t 25)]),.u 27 (.ld none 147 true (.t 5)),.u 28 (.ld none 147 true (.t 5)),.u 29 (.call f1 [(.t 27),(.t 28)]),.u 30 (.call f3 [(.t 21),(.t 26),(.t 29)]),.u 31 (.call f6 [(.t 30)]),.m 2 (.t 31)])
 .ret)))))))
def Uf (f0 f1:Nat):AC:=(.seq (.ops false [.u 1 (.box 27 (.t 0)),.m 2 (.c (.one .emp))])
 (.fg [1] (.seq (.ops false [.u 7 (.ld none 27 true (.t 1)),.u 8 (.call f0 [(.t 7)]),.m 6 (.t 8),.u 9 (.ext 0 (.t 6)),.u 10 (.ext 1 (.t 6)),.u 11 (.ext 2 (.t 6)),.u 3 (.alloc (zrs 49)),.u 4 (.alloc (zrs 49)),.u 5 (.alloc (zrs 49)),.n (.st none 147 (.t 3) (.t 9)),.n (.st none 147 (.t 4) (.t 10)),.n (.st none 147 (.t 5) (.t 11))])
 (.fg [5] (.seq (.ops false [.u 12 (.ld none 147 true (.t 5)),.u 13 (.call f1 [(.t 12)]),.m 2 (.t 13)])
 .ret)))))
theorem zV (hΓ:Holds P Γ) {f fp fl:Nat} (hp:Γ fp=.dat false qp) (hl' : Γ fl=.dat false qv) (hc:check P f=some (14,(Uf fp fl).strip,[.tmp 2])):Sound P f (.dat false zn):=by
 refine Va hc Y4 hΓ (λargs K hcl hfi hG=>?_)
 match args,hG with
 | [a],hG=>
  obtain ⟨c,rfl,hw,hl,h0,hK⟩:=hG
  refine ⟨by simp,?_⟩
  have h20:=VaK hw hl
  have e:=YaO (ZM hw (Nat.le_trans hl (by decide)))
  rw [<-e]at hK
  have lX:=YK (cpv c)
  have lY:=VI (cpv c)
  have lM:=wI (cpv c)
  have gM:=uaJ h20
  obtain ⟨X,hX⟩:∃G,paX (cpv c)=G:=⟨_,rfl⟩
  obtain ⟨Y,hY⟩:∃G,paY (cpv c)=G:=⟨_,rfl⟩
  obtain ⟨M,hM⟩:∃G,paM (cpv c)=G:=⟨_,rfl⟩
  rw [hX]at lX
  rw [hY]at lY
  rw [hM]at lM gM hK
  have gM2:gz M<=4294967296:=Nat.le_trans gM (by decide)
  have cX:(gC X).length=147:=by rw [jc,lX]
  have cY:(gC Y).length=147:=by rw [jc,lY]
  have cM:(gC M).length=147:=by rw [jc,lM]
  have tX:=Ud lX
  have tY:=Ud lY
  have tM:=Ud lM
  simp only [go_sem,Uf,hp,hl',cpA,cpC,hX,hY,hM,cX,cY,cM,tX,tY,tM,lX,lY,lM]
  repeat (first | (refine And.intro (by with_reducible assumption) ?_) | (refine And.intro (Nat.le_trans (by with_reducible assumption) (by decide)) ?_) | (refine And.intro (by decide) ?_))
  exact hK
theorem Zad (hΓ:Holds P Γ) {f fp fr fo fa fm fn fl:Nat} (hp:Γ fp=.dat false qp) (hr:Γ fr=.dat false Qu) (ho:Γ fo=.dat false ju) (ha:Γ fa=.dat false kt) (hm:Γ fm=.dat false xg) (hn:Γ fn=.dat false Xp) (hl' : Γ fl=.dat false qv) (hc:check P f=some (32,(qh fp fr fo fa fm fn fl).strip,[.tmp 2])):Sound P f (.dat false Qs):=by
 refine Va hc qah hΓ (λargs K hcl hfi hG=>?_)
 match args,hG with
 | [a],hG=>
  obtain ⟨c,rfl,hw,hl,h0,hK⟩:=hG
  refine ⟨by simp,?_⟩
  have h20:=VaK hw hl
  have e:=wa7 (ZM hw (Nat.le_trans hl (by decide)))
  rw [<-e]at hK
  have lX:=YK (cpv c)
  have lY:=VI (cpv c)
  have lM:=wI (cpv c)
  have lC:=Jbp (cpv c)
  have gX:=Vbb h20
  have gY:=vbb h20
  have gM:=uaJ h20
  obtain ⟨s1,s2,s3,s4,s5⟩:=wbx h20
  have w2:=hw.2.2.2.1
  have l2:rl c.2.2.2.1<=4294967296:=by unfold cl at hl;omega
  have b:=h20.b
  have r4:rz (4:Rat)<=1:=by decide +kernel
  have m4:=Nat.le_trans (Vb 4 (cpv c).2.2.2.1) (by omega:_<=1000)
  have m5:rz (-(4*(cpv c).2.2.2.1))<=1000000:=by rw [uw];omega
  have k1:rz (1:Rat)<=1000000:=by rw [Ya7];decide
  have i1:((1:Int):Rat)=1:=rfl
  have i4:((4:Int):Rat)=4:=rfl
  have eB:(cpv c).2.2.2.1=rv c.2.2.2.1:=rfl
  unfold paC at lC s5 hK
  obtain ⟨X,hX⟩:∃G,paX (cpv c)=G:=⟨_,rfl⟩
  obtain ⟨Y,hY⟩:∃G,paY (cpv c)=G:=⟨_,rfl⟩
  obtain ⟨M,hM⟩:∃G,paM (cpv c)=G:=⟨_,rfl⟩
  rw [hX]at lX gX s1 s4 s5 lC hK
  rw [hY]at lY gY s2 s4 s5 lC hK
  rw [hM]at lM gM s3 s5 lC hK
  rw [eB]at m4 m5 s5 lC hK
  have lPX:(prodG X X).length=49:=Zb _ _
  have lPY:(prodG Y Y).length=49:=Zb _ _
  have lPM:(prodG M M).length=49:=Zb _ _
  have lS:=wd lPX lPY 1
  have y1:gz X+gz X<=20000000:=by omega
  have y2:gz Y+gz Y<=20000000:=by omega
  have y3:gz M+gz M<=20000000:=by omega
  have y4:gz (prodG X X)+gz (prodG Y Y)<=2000000000:=by omega
  have y5:gz (plusG (prodG X X) 1 (prodG Y Y))+gz (prodG M M)<=2000000000:=by omega
  have s5':=Nat.le_trans s5 (by decide:_<=4294967296)
  obtain ⟨S,hS⟩:∃G,plusG (prodG X X) 1 (prodG Y Y)=G:=⟨_,rfl⟩
  rw [hS]at lS y5 s5' lC hK
  obtain ⟨T,hT⟩:∃G,plusG S (-(4*rv c.2.2.2.1)) (prodG M M)=G:=⟨_,rfl⟩
  rw [hT]at s5' lC hK
  have m6:rz (4*rv c.2.2.2.1)<=4294967296:=Nat.le_trans m4 (by decide)
  have cX:(gC X).length=147:=by rw [jc,lX]
  have cY:(gC Y).length=147:=by rw [jc,lY]
  have cM:(gC M).length=147:=by rw [jc,lM]
  have cS:(gC S).length=147:=by rw [jc,lS]
  have tX:=Ud lX
  have tY:=Ud lY
  have tM:=Ud lM
  have tS:=Ud lS
  have r41:rz (4:Rat)<=4294967296:=Nat.le_trans r4 (by decide)
  simp only [go_sem,qh,hp,hr,ho,ha,hm,hn,hl',cpA,cpC,jd,hX,hY,hM,hS,hT,i1,i4,Wb,cX,cY,cM,cS,tX,tY,tM,tS,lX,lY,lM,lS,lPX,lPY,lPM,lC]
  repeat (first | (refine And.intro (by with_reducible assumption) ?_) | (refine And.intro (Nat.le_trans (by with_reducible assumption) (by decide)) ?_) | (refine And.intro (by decide) ?_))
  exact hK
end Go.Abs
end
section
namespace Go.Abs
open Go.Num
variable {P:Program} {Γ:Nat->Spec}
def Ws (l:List AV) (K:AV->Prop):Prop:=
 match l with
 | [a,b]=>onMs (λl=>onMs (λl'=>l=l'/\l.length<=1000000/\(∀t∈l,rl t.2.2<=4294967296)/\K (.one (.lit (.bool true)))) b) a
 | _=>False
theorem zab (a b:AV) (K:AV->Prop):Ws [a,b] K=(onMs (λl=>onMs (λl'=>l=l'/\l.length<=1000000/\(∀t∈l,rl t.2.2<=4294967296)/\K (.one (.lit (.bool true)))) b) a):=propext Iff.rfl
@[congr] theorem ZbB {K:AV->Prop} {l l' : List AV} (h:l=l'):Ws l K=Ws l' K:=by subst h;rfl
attribute [go_sem] zab
attribute [go_sem ↓] zab
theorem xaj:Good Ws:=ka λas=>by
 unfold Ws
 split
 .repeat (first | exact .ret _ | exact .of (λK hk=>hk.elim) | (refine .and λ_=>?_) | (refine zf λ_=>?_) | (refine Zr λ_=>?_) | (refine Vd (λ_ _=>?_) _) | (refine Zy (λ_=>?_) _) | (refine uF ?_ ?_) | (intro _) | assumption)
 .exact .of λK hk=>hk.elim
def Wh (f0:Nat):AC:=(.seq (.ops false [.m 4 .fa])
 (.fg [0,1] (.seq (.seq (.ops false [.m 6 (.t 0),.u 7 (.len (.t 6)),.m 8 (.t 1),.u 9 (.len (.t 8)),.u 10 (.bin .neq (.t 7) (.t 9))])
 (.fg [0,1,10] (.cond (.t 10) (.seq (.ops false [.m 4 .fa])
 .ret) .skip)))
 (.fg [0,1] (.seq (.seq (.ops false [.m 11 (.t 0),.u 12 (.len (.t 11)),.m 13 (.i 0)])
 (.fg [0,1,12,13] (.block 0 (.loop (.seq (.ops false [.u 14 (.bin .lss (.t 13) (.t 12))])
 (.fg [0,1,12,13,14] (.seq (.cond (.t 14) .skip (.exit 0))
 (.fg [0,1,12,13] (.seq (.block 1 (.seq (.ops false [.m 15 (.t 13),.m 5 (.t 15)])
 (.fg [0,1,5,12,13] (.seq (.ops true [.m 16 (.t 0),.m 17 (.t 5),.u 18 (.idx 5 (.t 16) (.t 17)),.u 19 (.fa 0 (.t 18)),.u 20 (.ld none 1 false (.t 19)),.m 21 (.t 1),.m 22 (.t 5),.u 23 (.idx 5 (.t 21) (.t 22)),.u 24 (.fa 0 (.t 23)),.u 25 (.ld none 1 false (.t 24)),.u 26 (.bin .neq (.t 20) (.t 25)),.m 27 (.t 26),.w 28 27 false (.mv (.t 0)),.w 29 27 false (.mv (.t 5)),.w 30 27 false (.idx 5 (.t 28) (.t 29)),.w 31 27 false (.fa 1 (.t 30)),.w 32 27 false (.ld none 1 false (.t 31)),.w 33 27 false (.mv (.t 1)),.w 34 27 false (.mv (.t 5)),.w 35 27 false (.idx 5 (.t 33) (.t 34)),.w 36 27 false (.fa 1 (.t 35)),.w 37 27 false (.ld none 1 false (.t 36)),.w 38 27 false (.bin .neq (.t 32) (.t 37)),.u 39 (.pick (.t 27) .tr (.t 38)),.m 40 (.t 39),.w 41 40 false (.mv (.t 0)),.w 42 40 false (.mv (.t 5)),.w 43 40 false (.idx 5 (.t 41) (.t 42)),.w 44 40 false (.fa 2 (.t 43)),.w 45 40 false (.ld none 3 true (.t 44)),.w 46 40 false (.mv (.t 1)),.w 47 40 false (.mv (.t 5)),.w 48 40 false (.idx 5 (.t 46) (.t 47)),.w 49 40 false (.fa 2 (.t 48)),.w 50 40 false (.ld none 3 true (.t 49)),.w 51 40 false (.call f0 [(.t 45),(.t 50)]),.w 52 40 false (.un .not (.t 51)),.u 53 (.pick (.t 40) .tr (.t 52))])
 (.fg [0,1,12,13,53] (.cond (.t 53) (.seq (.ops false [.m 4 .fa])
 .ret) .skip))))))
 (.fg [0,1,12,13] (.ops false [.u 54 (.bin .add (.t 13) (.i 1)),.m 13 (.t 54)])))))))))))
 (.fg [] (.seq (.ops false [.m 4 .tr])
 .ret)))))))
theorem Y1 (hΓ:Holds P Γ) {f fr:Nat} (hr:Γ fr=.dat true xB) (hc:check P f=some (55,(Wh fr).strip,[.tmp 4])):Sound P f (.dat false Ws):=by
 refine Va hc xaj hΓ (λargs K hcl hfi hG=>?_)
 match args,hG with
 | [a,b],hG=>
  obtain ⟨l,rfl,hw,l',rfl,hw',rfl,hl,hrl,hK⟩:=hG
  refine ⟨by simp,?_⟩
  simp only [go_sem,Wh,hr]
  intro _ _ _
  refine Wa (λk:Nat=>⟨mkV [(0,.one (ms l)),(1,.one (ms l)),(12,.one (.lit (.int .i64 l.length))),(13,.one (.lit (.int .i64 k)))],mkH []⟩) (λk=>k<=l.length) (λk=>l.length-k) 0 ?_ ?_ ?_
  .exact Qa (by simp [okS,okV,okC,okL,okH,okB,okE,Za,Ja,za,ja,wsA,ws,ms]) trivial
  .exact Nat.zero_le _
  .intro k hk
   by_cases hlt:k<l.length
   .obtain ⟨y,hy⟩:∃y,l.getD k mo0=y:=⟨_,rfl⟩
    have hy0:=getDm hlt hy
    have hym:=List.mem_of_getElem? hy0
    have hwy:=hw y hym
    have hry:=hrl y hym
    simp only [go_sem,hlt,hy,hr,mC]
    exact ⟨hwy.2.2,hwy.2.2,hry,by omega,k+1,Qa (by simp [okS,okV,okC,okL,okH,okB,okE,Za,Ja,za,ja,wsA,ws,ms]) trivial,by omega,by omega⟩
   .simp only [go_sem,hlt]
    exact hK
end Go.Abs
end
section
namespace Go.Num
open Go.Abs
theorem ubm (p:BQ):(mcs p).length=p.length:=List.length_map _
end Go.Num
namespace Go.Abs
open Go.Num
variable {P:Program} {Γ:Nat->Spec}
def Qai (tE:Nat) (l:List AV) (K:AV->Prop):Prop:=
 match l with
 | [a]=>onMs (λl=>(∀t∈l,rl t.2.2<=4294967296)/\K (.tup [.one (.lit (.int .i64 (if chkB l=0 then degM l else 0))),errV tE (chkB l)])) a
 | _=>False
theorem JaA (tE:Nat) (a:AV) (K:AV->Prop):Qai tE [a] K=(onMs (λl=>(∀t∈l,rl t.2.2<=4294967296)/\K (.tup [.one (.lit (.int .i64 (if chkB l=0 then degM l else 0))),errV tE (chkB l)])) a):=propext Iff.rfl
@[congr] theorem kbK (tE:Nat) {K:AV->Prop} {l l' : List AV} (h:l=l'):Qai tE l K=Qai tE l' K:=by subst h;rfl
attribute [go_sem] JaA
attribute [go_sem ↓] JaA
def QG (l:List AV) (K:AV->Prop):Prop:=
 match l with
 | [c]=>onCp (λc=>cl c<=1048576/\K (.one (.lit (.bool true)))) c
 | _=>False
theorem zK (c:AV) (K:AV->Prop):QG [c] K=(onCp (λc=>cl c<=1048576/\K (.one (.lit (.bool true)))) c):=propext Iff.rfl
@[congr] theorem xbr {K:AV->Prop} {l l' : List AV} (h:l=l'):QG l K=QG l' K:=by subst h;rfl
attribute [go_sem] zK
attribute [go_sem ↓] zK
end Go.Abs
end
section
namespace Go.Abs
open Go.Num
variable {P:Program} {Γ:Nat->Spec}
def Yj (l:List AV) (K:AV->Prop):Prop:=
 match l with
 | [c]=>onCp (λc=>cl c<=1048576/\K (.one (.lit (.bool true)))) c
 | _=>False
theorem uM (c:AV) (K:AV->Prop):Yj [c] K=(onCp (λc=>cl c<=1048576/\K (.one (.lit (.bool true)))) c):=propext Iff.rfl
@[congr] theorem xbp {K:AV->Prop} {l l' : List AV} (h:l=l'):Yj l K=Yj l' K:=by subst h;rfl
attribute [go_sem] uM
attribute [go_sem ↓] uM
theorem UV:Good Yj:=ka λas=>by
 unfold Yj
 split
 .exact (Up λ_=>(.and λ_=>(.ret _)))
 .exact .of λK hk=>hk.elim
def Yb (f0 f1 f2 f3 f4 f5 f6 f7 f8 f9:Nat):AC:=(.seq (.ops false [.u 1 (.box 27 (.t 0)),.m 2 .fa])
 (.fg [1] (.seq (.seq (.ops false [.u 8 (.call f0 []),.u 9 (.un .not (.t 8)),.m 10 (.t 9),.w 11 10 false (.ld none 27 true (.t 1)),.w 12 10 false (.call f1 [(.t 11)]),.w 13 10 false (.un .not (.t 12)),.u 14 (.pick (.t 10) .tr (.t 13))])
 (.fg [1,14] (.cond (.t 14) (.seq (.ops false [.u 15 (.call f0 []),.m 2 (.t 15)])
 .ret) .skip)))
 (.fg [1] (.seq (.ops false [.u 17 (.ld none 27 true (.t 1)),.u 18 (.call f2 [(.t 17)]),.m 16 (.t 18),.u 19 (.ext 0 (.t 16)),.u 20 (.ext 1 (.t 16)),.m 3 (.t 19),.m 4 (.t 20)])
 (.fg [1,3,4] (.seq (.ops false [.u 22 (.ld none 27 true (.t 1)),.u 23 (.call f3 [(.t 22)]),.m 21 (.t 23),.u 24 (.ext 0 (.t 21)),.u 25 (.ext 1 (.t 21)),.m 5 (.t 24),.m 6 (.t 25)])
 (.fg [1,3,4,5,6] (.seq (.ops false [.u 26 (.ld none 27 true (.t 1)),.u 27 (.call f4 [(.t 26)]),.m 7 (.t 27)])
 (.fg [1,3,4,5,6,7] (.seq (.seq (.ops false [.u 28 (.ld none 27 true (.t 1)),.u 29 (.call f5 [(.t 28)]),.u 30 (.call f6 [(.t 29)]),.m 31 (.t 7),.u 32 (.bin .neq (.t 30) (.t 31)),.m 33 (.t 32),.w 34 33 false (.mv (.t 4)),.w 35 33 false (.call f6 [(.t 34)]),.w 36 33 false (.mv (.t 7)),.w 37 33 false (.bin .neq (.t 35) (.t 36)),.u 38 (.pick (.t 33) .tr (.t 37)),.m 39 (.t 38),.w 40 39 false (.mv (.t 6)),.w 41 39 false (.call f6 [(.t 40)]),.w 42 39 false (.mv (.t 7)),.w 43 39 false (.bin .neq (.t 41) (.t 42)),.u 44 (.pick (.t 39) .tr (.t 43))])
 (.fg [1,3,5,7,44] (.cond (.t 44) (.seq (.ops false [.m 2 .fa])
 .ret) .skip)))
 (.fg [1,3,5,7] (.seq (.seq (.ops false [.m 45 (.t 7),.u 46 (.bin .neq (.t 45) (.i 0))])
 (.fg [1,3,5,46] (.cond (.t 46) (.seq (.ops false [.m 47 (.t 3),.u 48 (.len (.t 47)),.u 49 (.bin .eql (.t 48) (.i 0)),.m 50 (.t 49),.w 51 50 true (.mv (.t 5)),.w 52 50 true (.len (.t 51)),.w 53 50 true (.bin .eql (.t 52) (.i 0)),.u 54 (.pick (.t 50) (.t 53) .fa),.m 2 (.t 54)])
 .ret) .skip)))
 (.fg [1,3,5] (.seq (.ops false [.m 55 (.t 3),.u 56 (.ld none 27 true (.t 1)),.u 57 (.call f7 [(.t 56)]),.u 58 (.call f8 [(.t 55),(.t 57)]),.m 59 (.t 58),.w 60 59 true (.mv (.t 5)),.w 61 59 true (.ld none 27 true (.t 1)),.w 62 59 true (.call f9 [(.t 61)]),.w 63 59 true (.call f8 [(.t 60),(.t 62)]),.u 64 (.pick (.t 59) (.t 63) .fa),.m 2 (.t 64)])
 .ret)))))))))))))))
set_option maxHeartbeats 2000000 in
theorem yN (hΓ:Holds P Γ) {f fw fs fv fi fk fc fn fu ft fr tE:Nat} (hw:Γ fw=.dat true ux) (hs:Γ fs=.dat true jE) (hv:Γ fv=.dat false (kB tE)) (hi:Γ fi=.dat false (WD tE)) (hk:Γ fk=.dat true xD) (hcc:Γ fc=.dat false (Xy tE)) (hn:Γ fn=.dat true (ZE tE)) (hu:Γ fu=.dat false Qs) (ht:Γ ft=.dat false Ws) (hr:Γ fr=.dat false zn) (hc:check P f=some (65,(Yb fw fs fv fi fk fc fn fu ft fr).strip,[.tmp 2])):Sound P f (.dat true Yj):=by
 refine Va hc UV hΓ (λargs K hcl hfi hG=>?_)
 match args,hG with
 | [a],hG=>
  obtain ⟨c,rfl,wc,hlc,hK⟩:=hG
  refine ⟨by simp,?_⟩
  have hlc1:cl c<=4294967296:=by omega
  have hlc2:cl c<=100000000:=by omega
  cases hsc:sC c with
  | false=>
   simp only [go_sem,Yb,hw,hs,hsc,cpA,cpC,jd]
   repeat (first | (refine And.intro (by with_reducible assumption) ?_) | (refine And.intro (Nat.le_trans (by with_reducible assumption) (by decide)) ?_) | (refine And.intro (by decide) ?_))
   exact hK
  | true=>
  have c2:=wbO hsc
  have lc1:cl c<=1000:=by omega
  have lc20:cl c<=20:=by omega
  by_cases h0:cchk c=0
  case neg=>
   obtain ⟨n,hn0⟩:∃n,cchk c=n:=⟨_,rfl⟩
   rw [hn0]at h0
   have e1:∀p,bres n p=[]:=Zz h0
   have z0:([]:List Mo).length=0:=rfl
   have i0:(((n:Nat):Int)=0)=False:=eq_false (by omega)
   simp only [go_sem,Yb,hw,hs,hv,hi,hk,hcc,hn,hsc,cpA,cpC,jd,hn0,i0,h0,e1]
   repeat (first | (refine And.intro (by with_reducible assumption) ?_) | (refine And.intro (Nat.le_trans (by with_reducible assumption) (by decide)) ?_) | (refine And.intro (by decide) ?_))
   exact hK
  have hB:=ZM wc lc1
  have pc:=waP hB
  have pm:=pb_m hB
  have i0:=Qv pc.canon.ins
  have i1:=VB (p:=cCur (cpv c)) (N:=4294967296) (Nat.le_trans pc.size (by decide))
  have j0:=Qv pm.canon.ins
  have j1:=VB (p:=cM (cpv c)) (N:=4294967296) (Nat.le_trans pm.size (by decide))
  have n1:=UE pc.canon
  have n2:=UE pm.canon
  rw [<-ubm]at n1 n2
  obtain ⟨L,hL⟩:∃L,mcs (cCur (cpv c))=L:=⟨_,rfl⟩
  obtain ⟨M,hM⟩:∃L,mcs (cM (cpv c))=L:=⟨_,rfl⟩
  rw [hL]at i0 i1 n1
  rw [hM]at j0 j1 n2
  have n1' : L.length<=1000000:=by omega
  have n2' : M.length<=1000000:=by omega
  simp only [go_sem,Yb,hw,hs,hv,hi,hk,hcc,hn,hu,ht,hr,hsc,cpA,cpC,jd,h0,qr,hL,hM]
  repeat (first | (refine And.intro (by with_reducible assumption) ?_) | (refine And.intro (Nat.le_trans (by with_reducible assumption) (by decide)) ?_) | (refine And.intro (by decide) ?_))
  exact hK
end Go.Abs
end
section
namespace Go.Abs
open Go.Num
variable {P:Program} {Γ:Nat->Spec}
def Zu:AC:=(.seq (.ops false [.m 2 (.c (.one .emp))])
 (.fg [0] (.seq (.ops false [.m 4 (.t 0),.u 5 (.len (.t 4)),.m 3 (.t 5)])
 (.fg [0,3] (.seq (.block 0 (.loop (.seq (.seq (.ops false [.m 6 (.t 3),.u 7 (.bin .gtr (.t 6) (.i 0)),.m 8 (.t 7),.w 9 8 true (.mv (.t 0)),.w 10 8 true (.mv (.t 3)),.w 11 8 true (.bin .sub (.t 10) (.i 1)),.w 12 8 true (.idx 1 (.t 9) (.t 11)),.w 13 8 true (.ld none 1 false (.t 12)),.w 14 8 true (.bin .eql (.t 13) (.c (.one (.lit (.int .u32 0))))),.u 15 (.pick (.t 8) (.t 14) .fa)])
 (.fg [0,3,15] (.cond (.t 15) .skip (.exit 0))))
 (.fg [0,3] (.block 1 (.ops false [.m 16 (.t 3),.u 17 (.bin .sub (.t 16) (.i 1)),.m 3 (.t 17)]))))))
 (.fg [0,3] (.seq (.seq (.ops false [.m 18 (.t 3),.u 19 (.bin .eql (.t 18) (.i 0))])
 (.fg [0,3,19] (.cond (.t 19) (.seq (.ops false [.m 2 (.c (.one .emp))])
 .ret) .skip)))
 (.fg [0,3] (.seq (.ops false [.m 20 (.c (.one .emp)),.m 21 (.t 0),.m 22 (.t 3),.u 23 (.sl 1 (.t 21) none (some (.t 22))),.u 24 (.app0 1 (.t 20) (.t 23)),.m 2 (.t 24)])
 .ret)))))))))
def vn:AC:=(.seq (.ops false [.m 4 (.c (.one (.lit (.int .u64 0))))])
 (.fg [0,1] (.seq (.seq (.ops false [.m 5 (.t 1),.m 6 (.t 0),.u 7 (.len (.t 6)),.u 8 (.bin .lss (.t 5) (.t 7))])
 (.fg [0,1,8] (.cond (.t 8) (.seq (.ops false [.m 9 (.t 0),.m 10 (.t 1),.u 11 (.idx 1 (.t 9) (.t 10)),.u 12 (.ld none 1 false (.t 11)),.u 13 (.conv .u64 (.t 12)),.m 4 (.t 13)])
 .ret) .skip)))
 (.fg [] (.seq (.ops false [.m 4 (.c (.one (.lit (.int .u64 0))))])
 .ret)))))
def Xt (f0 f1:Nat):AC:=(.seq (.ops false [.m 4 (.c (.one .emp))])
 (.fg [0,1] (.seq (.ops false [.m 8 (.t 0),.u 9 (.len (.t 8)),.m 10 (.t 1),.u 11 (.len (.t 10)),.u 12 (.max [(.t 9),(.t 11)]),.u 13 (.bin .add (.t 12) (.i 1)),.u 14 (.mk 1 [(.lit (.int .u32 0))] (.t 13) (.t 13)),.m 5 (.t 14)])
 (.fg [0,1,5] (.seq (.ops false [.m 6 (.c (.one (.lit (.int .u64 0))))])
 (.fg [0,1,5,6] (.seq (.seq (.ops false [.m 15 (.t 5),.u 16 (.len (.t 15)),.m 17 (.i 0)])
 (.fg [0,1,5,6,16,17] (.block 0 (.loop (.seq (.ops false [.u 18 (.bin .lss (.t 17) (.t 16))])
 (.fg [0,1,5,6,16,17,18] (.seq (.cond (.t 18) .skip (.exit 0))
 (.fg [0,1,5,6,16,17] (.seq (.block 1 (.seq (.ops false [.m 19 (.t 17),.m 7 (.t 19)])
 (.fg [0,1,5,6,7,16,17] (.seq (.ops false [.m 20 (.t 6),.m 21 (.t 0),.m 22 (.t 7),.u 23 (.call f0 [(.t 21),(.t 22)]),.m 24 (.t 1),.m 25 (.t 7),.u 26 (.call f0 [(.t 24),(.t 25)]),.u 27 (.bin .add (.t 23) (.t 26)),.u 28 (.bin .add (.t 20) (.t 27)),.m 6 (.t 28)])
 (.fg [0,1,5,6,7,16,17] (.seq (.ops false [.m 29 (.t 5),.m 30 (.t 7),.m 31 (.t 6),.u 32 (.conv .u32 (.t 31)),.u 33 (.idx 1 (.t 29) (.t 30)),.n (.st none 1 (.t 33) (.t 32))])
 (.fg [0,1,5,6,16,17] (.ops false [.m 34 (.t 6),.u 35 (.bin .shr (.t 34) (.c (.one (.lit (.int .u64 32))))),.m 6 (.t 35)]))))))))
 (.fg [0,1,5,6,16,17] (.ops false [.u 36 (.bin .add (.t 17) (.i 1)),.m 17 (.t 36)])))))))))))
 (.fg [5] (.seq (.ops false [.m 37 (.t 5),.u 38 (.call f1 [(.t 37)]),.m 4 (.t 38)])
 .ret)))))))))
theorem waD (hΓ:Holds P Γ) {f:Nat} (hc:check P f=some (25,Zu.strip,[.tmp 2])):Sound P f (.dat false yt):=by
 refine Va hc yaT hΓ (λargs K hcl hfi hG=>?_)
 match args,hG with
 | [a],hG=>
  obtain ⟨l,rfl,hl,hlen,hK⟩:=hG
  refine ⟨by simp,?_⟩
  simp only [go_sem,Zu]
  intro hmax
  refine Wa (λn:Nat=>⟨mkV [(0,wsA l),(3,.one (.lit (.int .i64 n)))],mkH []⟩) (λn=>n<=l.length/\val (l.take n)=val l) id l.length ?_ ?_ ?_
  .exact Qa (by simp [okS,okV,okC,okL,okH,okB,okE,Za,Ja,za,ja,wsA,ws]) trivial
  .simp
  .rintro n ⟨hn,ht⟩
   simp only [go_sem]
   refine ⟨λh=>⟨by omega,by omega,by omega,λh0=>⟨by omega,n-1,Qa (by simp [okS,okV,okC,okL,okH,okB,okE,Za,Ja,za,ja,wsA,ws];omega) trivial,⟨by omega,?_⟩,?_⟩,λh0=>⟨λh1=>by omega,λ_=>⟨by omega,by simp;omega,?_⟩⟩⟩,λh=>⟨λh1=>?_,λh1=>by omega⟩⟩
   .rw [show ((n:Int)-1).toNat=n-1 by omega]at h0
    have:=Ub l (n-1)
    rw [show n-1+1=n by omega,h0,Nat.mul_zero,Nat.add_zero]at this
    rw [<-this];exact ht
   .simp only [id];omega
   .rw [show ((n:Int)-1).toNat=n-1 by omega]at h0
    have:=ze (ky hl n) (VM h hn h0)
    rw [<-this,ht];exact hK
   .subst h1
    have:val l=0:=by rw [<-ht];simp [val]
    rw [this,Xb]at hK;exact hK
theorem wT (hΓ:Holds P Γ) {f:Nat} (hc:check P f=some (14,vn.strip,[.tmp 4])):Sound P f (.dat true wm):=by
 refine Va hc waL hΓ (λargs K hcl hfi hG=>?_)
 match args,hG with
 | [a,b],hG=>
  obtain ⟨l,rfl,hl,hG⟩:=hG
  obtain ⟨k,i,rfl,rfl,hi,hK⟩:=kb hG
  refine ⟨by simp,?_⟩
  simp only [go_sem,vn]
  intro hmax
  refine ⟨λh=>⟨hi,by omega,?_⟩,λh=>?_⟩
  .have:=yb hl i.toNat
   rw [Nat.mod_eq_of_lt (by omega)];exact hK
  .rw [List.getD_eq_getElem?_getD,List.getElem?_eq_none (by omega)]at hK;exact hK
theorem ZaB (hΓ:Holds P Γ) {f fw ft:Nat} (hw:Γ fw=.dat true wm) (ht:Γ ft=.dat false yt) (hc:check P f=some (39,(Xt fw ft).strip,[.tmp 4])):Sound P f (.dat false Qr):=by
 refine Va hc Uab hΓ (λargs K hcl hfi hG=>?_)
 match args,hG with
 | [a,b],hG=>
  obtain ⟨x,rfl,hx,y,rfl,hy,hxl,hyl,hK⟩:=hG
  refine ⟨by simp,?_⟩
  simp only [go_sem,Xt,hw,ht]
  intro h1 h2
  refine ⟨by omega,by omega,λhN=>?_⟩
  generalize hNN:max x.length y.length+1=N at hN
  refine Wa (λp:List Nat×Nat=>⟨mkV [(0,wsA x),(1,wsA y),(5,.one (.own 14 1 1 0 N)),(6,.one (.lit (.int .u64 p.2))),(16,.one (.lit (.int .i64 N))),(17,.one (.lit (.int .i64 p.1.length)))],mkH [(14,⟨1,some ⟨(p.1++List.replicate (N-p.1.length) 0).map wc,1,true⟩⟩)]⟩)
   (λp=>p.1.length<=N/\WL p.1/\p.2<=1/\val p.1+4294967296 ^ p.1.length*p.2=val (x.take p.1.length)+val (y.take p.1.length)) (λp=>N-p.1.length) ([],0) ?_ ?_ ?_
  .exact Qa (by simp [okS,okV,okC,okL,okH,okB,okE,Za,Ja,za,ja,wsA,ws]) (yg (by simp))
  .simp [Vc,val]
  .rintro ⟨o,c⟩ ⟨hoN,ho,hc1,hval⟩
   simp only at hoN ho hc1 hval
   have hlen:(o++List.replicate (N-o.length) 0).length=N:=by simp;omega
   simp only [go_sem,hw,ht,hlen]
   refine ⟨λhlt=>⟨hx,hy,hlt,hlt,by omega,by omega,?_⟩,λhge=>?_⟩
   .have g1:=yb hx o.length
    have g2:=yb hy o.length
    rw [Nat.mod_eq_of_lt (show x.getD o.length 0+y.getD o.length 0<18446744073709551616 by omega),Nat.mod_eq_of_lt (show c+(x.getD o.length 0+y.getD o.length 0)<18446744073709551616 by omega)]
    generalize hs:c+(x.getD o.length 0+y.getD o.length 0)=s
    refine ⟨(o++[s % 4294967296],s / 4294967296),Qa (by simp [okS,okV,okC,okL,okH,okB,okE,Za,Ja,za,ja,wsA,ws]) (yg ?_),⟨by simp;omega,ve.2 ⟨ho,Jc.2 ⟨Nat.mod_lt _ (by omega),Vc⟩⟩,by simp only;omega,?_⟩,by simp;omega⟩
    .rw [show N-o.length=N-(o.length+1)+1 by omega,Zal];simp
    .simp only [List.length_append,List.length_cons,List.length_nil,Nat.zero_add,Ub,Zc,Uj,Jo,Nat.mul_zero,Nat.add_zero,Nat.pow_succ]
     rw [Nat.mul_assoc,Nat.add_assoc,<-Nat.mul_add,Nat.mod_add_div,<-hs,Nat.mul_add,<-Nat.add_assoc,hval,Nat.mul_add]
     omega
   .have e:o.length=N:=by omega
    simp only [e,Nat.sub_self,List.replicate_zero,List.append_nil,Nat.le_refl,if_true,xG]
    have hv:val o=val x+val y:=by
     rw [e,uj (by omega),uj (by omega)]at hval
     exact kao hx hy (by omega) (by omega) (by omega) hval
    refine ⟨ho,by omega,?_⟩
    rw [hv];exact hK
end Go.Abs
end
section
namespace Go.Abs
open Go.Num
variable {P:Program} {Γ:Nat->Spec}
def Xs (f0 f1:Nat):AC:=(.seq (.ops false [.m 4 (.c (.one .emp))])
 (.fg [0,1] (.seq (.ops false [.m 9 (.t 0),.u 10 (.len (.t 9)),.u 11 (.mk 1 [(.lit (.int .u32 0))] (.t 10) (.t 10)),.m 5 (.t 11)])
 (.fg [0,1,5] (.seq (.ops false [.m 6 (.c (.one (.lit (.int .u64 0))))])
 (.fg [0,1,5,6] (.seq (.seq (.ops false [.m 12 (.t 5),.u 13 (.len (.t 12)),.m 14 (.i 0)])
 (.fg [0,1,5,6,13,14] (.block 0 (.loop (.seq (.ops false [.u 15 (.bin .lss (.t 14) (.t 13))])
 (.fg [0,1,5,6,13,14,15] (.seq (.cond (.t 15) .skip (.exit 0))
 (.fg [0,1,5,6,13,14] (.seq (.block 1 (.seq (.ops false [.m 16 (.t 14),.m 7 (.t 16)])
 (.fg [0,1,5,6,7,13,14] (.seq (.ops true [.m 17 (.t 0),.m 18 (.t 7),.u 19 (.idx 1 (.t 17) (.t 18)),.u 20 (.ld none 1 false (.t 19)),.u 21 (.conv .u64 (.t 20)),.m 22 (.t 1),.m 23 (.t 7),.u 24 (.call f0 [(.t 22),(.t 23)]),.u 25 (.bin .sub (.t 21) (.t 24)),.m 26 (.t 6),.u 27 (.bin .sub (.t 25) (.t 26)),.m 8 (.t 27)])
 (.fg [0,1,5,7,8,13,14] (.seq (.ops false [.m 28 (.t 5),.m 29 (.t 7),.m 30 (.t 8),.u 31 (.conv .u32 (.t 30)),.u 32 (.idx 1 (.t 28) (.t 29)),.n (.st none 1 (.t 32) (.t 31))])
 (.fg [0,1,5,8,13,14] (.ops false [.m 33 (.t 8),.u 34 (.bin .shr (.t 33) (.c (.one (.lit (.int .u64 63))))),.m 6 (.t 34)]))))))))
 (.fg [0,1,5,6,13,14] (.ops false [.u 35 (.bin .add (.t 14) (.i 1)),.m 14 (.t 35)])))))))))))
 (.fg [5] (.seq (.ops false [.m 36 (.t 5),.u 37 (.call f1 [(.t 36)]),.m 4 (.t 37)])
 .ret)))))))))
def xm:AC:=(.seq (.ops false [.m 4 (.i 0)])
 (.fg [0,1] (.seq (.seq (.ops false [.m 6 (.t 0),.u 7 (.len (.t 6)),.m 8 (.t 1),.u 9 (.len (.t 8)),.u 10 (.bin .neq (.t 7) (.t 9))])
 (.fg [0,1,10] (.cond (.t 10) (.seq (.seq (.ops false [.m 11 (.t 0),.u 12 (.len (.t 11)),.m 13 (.t 1),.u 14 (.len (.t 13)),.u 15 (.bin .lss (.t 12) (.t 14))])
 (.fg [15] (.cond (.t 15) (.seq (.ops false [.m 4 (.i (-1))])
 .ret) .skip)))
 (.fg [] (.seq (.ops false [.m 4 (.i 1)])
 .ret))) .skip)))
 (.fg [0,1] (.seq (.seq (.ops false [.m 16 (.t 0),.u 17 (.len (.t 16)),.u 18 (.bin .sub (.t 17) (.i 1)),.m 5 (.t 18)])
 (.fg [0,1,5] (.block 0 (.loop (.seq (.seq (.ops false [.m 19 (.t 5),.u 20 (.bin .geq (.t 19) (.i 0))])
 (.fg [0,1,5,20] (.cond (.t 20) .skip (.exit 0))))
 (.fg [0,1,5] (.seq (.block 1 (.seq (.ops true [.m 23 (.t 0),.m 24 (.t 5),.u 25 (.idx 1 (.t 23) (.t 24)),.u 26 (.ld none 1 false (.t 25)),.m 27 (.t 1),.m 28 (.t 5),.u 29 (.idx 1 (.t 27) (.t 28)),.u 30 (.ld none 1 false (.t 29)),.u 31 (.bin .neq (.t 26) (.t 30))])
 (.fg [0,1,5,31] (.cond (.t 31) (.seq (.seq (.ops true [.m 32 (.t 0),.m 33 (.t 5),.u 34 (.idx 1 (.t 32) (.t 33)),.u 35 (.ld none 1 false (.t 34)),.m 36 (.t 1),.m 37 (.t 5),.u 38 (.idx 1 (.t 36) (.t 37)),.u 39 (.ld none 1 false (.t 38)),.u 40 (.bin .lss (.t 35) (.t 39))])
 (.fg [40] (.cond (.t 40) (.seq (.ops false [.m 4 (.i (-1))])
 .ret) .skip)))
 (.fg [] (.seq (.ops false [.m 4 (.i 1)])
 .ret))) .skip))))
 (.fg [0,1,5] (.ops false [.m 21 (.t 5),.u 22 (.bin .sub (.t 21) (.i 1)),.m 5 (.t 22)])))))))))
 (.fg [] (.seq (.ops false [.m 4 (.i 0)])
 .ret)))))))
def uq (f0:Nat):AC:=(.seq (.ops false [.m 4 (.c (.one .emp)),.m 5 (.c (.one (.lit (.int .u32 0))))])
 (.fg [0,1] (.seq (.ops false [.m 9 (.t 0),.u 10 (.len (.t 9)),.u 11 (.mk 1 [(.lit (.int .u32 0))] (.t 10) (.t 10)),.m 6 (.t 11)])
 (.fg [0,1,6] (.seq (.ops false [.m 7 (.c (.one (.lit (.int .u64 0))))])
 (.fg [0,1,6,7] (.seq (.seq (.ops false [.m 12 (.t 0),.u 13 (.len (.t 12)),.u 14 (.bin .sub (.t 13) (.i 1)),.m 8 (.t 14)])
 (.fg [0,1,6,7,8] (.block 0 (.loop (.seq (.seq (.ops false [.m 15 (.t 8),.u 16 (.bin .geq (.t 15) (.i 0))])
 (.fg [0,1,6,7,8,16] (.cond (.t 16) .skip (.exit 0))))
 (.fg [0,1,6,7,8] (.seq (.block 1 (.seq (.ops false [.m 19 (.t 7),.u 20 (.bin .shl (.t 19) (.c (.one (.lit (.int .u64 32))))),.m 21 (.t 0),.m 22 (.t 8),.u 23 (.idx 1 (.t 21) (.t 22)),.u 24 (.ld none 1 false (.t 23)),.u 25 (.conv .u64 (.t 24)),.u 26 (.bin .or (.t 20) (.t 25)),.m 7 (.t 26)])
 (.fg [0,1,6,7,8] (.seq (.ops false [.m 27 (.t 6),.m 28 (.t 8),.m 29 (.t 7),.m 30 (.t 1),.u 31 (.conv .u64 (.t 30)),.u 32 (.bin .quo (.t 29) (.t 31)),.u 33 (.conv .u32 (.t 32)),.u 34 (.idx 1 (.t 27) (.t 28)),.n (.st none 1 (.t 34) (.t 33))])
 (.fg [0,1,6,7,8] (.ops false [.m 35 (.t 7),.m 36 (.t 1),.u 37 (.conv .u64 (.t 36)),.u 38 (.bin .rem (.t 35) (.t 37)),.m 7 (.t 38)]))))))
 (.fg [0,1,6,7,8] (.ops false [.m 17 (.t 8),.u 18 (.bin .sub (.t 17) (.i 1)),.m 8 (.t 18)])))))))))
 (.fg [6,7] (.seq (.ops false [.m 39 (.t 6),.u 40 (.call f0 [(.t 39)]),.m 41 (.t 7),.u 42 (.conv .u32 (.t 41)),.m 4 (.t 40),.m 5 (.t 42)])
 .ret)))))))))
theorem QaD (hΓ:Holds P Γ) {f fw ft:Nat} (hw:Γ fw=.dat true wm) (ht:Γ ft=.dat false yt) (hc:check P f=some (38,(Xs fw ft).strip,[.tmp 4])):Sound P f (.dat false vt):=by
 refine Va hc Y8 hΓ (λargs K hcl hfi hG=>?_)
 match args,hG with
 | [a,b],hG=>
  obtain ⟨x,rfl,hx,y,rfl,hy,hxl,hle,hK⟩:=hG
  refine ⟨by simp,?_⟩
  simp only [go_sem,Xs,hw,ht]
  intro h1
  refine ⟨by omega,λ_=>?_⟩
  generalize hN:x.length=N at h1 hxl
  refine Wa (λp:List Nat×Nat=>⟨mkV [(0,wsA x),(1,wsA y),(5,.one (.own 11 1 1 0 N)),(6,.one (.lit (.int .u64 p.2))),(13,.one (.lit (.int .i64 N))),(14,.one (.lit (.int .i64 p.1.length)))],mkH [(11,⟨1,some ⟨(p.1++List.replicate (N-p.1.length) 0).map wc,1,true⟩⟩)]⟩)
   (λp=>p.1.length<=N/\WL p.1/\p.2<=1/\val p.1+val (y.take p.1.length)=val (x.take p.1.length)+4294967296 ^ p.1.length*p.2) (λp=>N-p.1.length) ([],0) ?_ ?_ ?_
  .exact Qa (by simp [okS,okV,okC,okL,okH,okB,okE,Za,Ja,za,ja,wsA,ws]) (yg (by simp))
  .simp [Vc,val]
  .rintro ⟨o,c⟩ ⟨hoN,ho,hc1,hval⟩
   simp only at hoN ho hc1 hval
   have hlen:(o++List.replicate (N-o.length) 0).length=N:=by simp;omega
   simp only [go_sem,hw,ht,hlen]
   refine ⟨λhlt=>⟨by omega,hy,hlt,hlt,by omega,by omega,?_⟩,λhge=>?_⟩
   .have g1:=yb hx o.length
    have g2:=yb hy o.length
    rw [Nat.mod_eq_of_lt (show x.getD o.length 0<18446744073709551616 by omega)]
    obtain ⟨s1,s2⟩:=Wax g1 g2 hc1
    generalize sub64 (sub64 (x.getD o.length 0) (y.getD o.length 0)) c=s at s1 s2
    refine ⟨(o++[s % 4294967296],s / 9223372036854775808),Qa (by simp [okS,okV,okC,okL,okH,okB,okE,Za,Ja,za,ja,wsA,ws]) (yg ?_),⟨by simp;omega,ve.2 ⟨ho,Jc.2 ⟨Nat.mod_lt _ (by omega),Vc⟩⟩,s2,?_⟩,by simp;omega⟩
    .rw [show N-o.length=N-(o.length+1)+1 by omega,Zal];simp
    .simp only [List.length_append,List.length_cons,List.length_nil,Nat.zero_add,Ub,Zc,Uj,Jo,Nat.mul_zero,Nat.add_zero,Nat.pow_succ]
     exact ZI hval s1
   .have e:o.length=N:=by omega
    have hv:=jI ho hx (by omega) hle hval
    simp only [e,Nat.sub_self,List.replicate_zero,List.append_nil]
    refine ⟨ho,by omega,?_⟩
    rw [hv];exact hK
theorem ZX (hΓ:Holds P Γ) {f:Nat} (hc:check P f=some (41,xm.strip,[.tmp 4])):Sound P f (.dat false Zj):=by
 refine Va hc Vac hΓ (λargs K hcl hfi hG=>?_)
 match args,hG with
 | [a,b],hG=>
  obtain ⟨x,rfl,hx,y,rfl,hy,hzx,hzy,hK⟩:=hG
  refine ⟨by simp,?_⟩
  simp only [go_sem,xm]
  intro h1 h2
  refine ⟨λhl _=>⟨by omega,?_⟩,λhne _ _=>⟨λhlt=>?_,λhge=>?_⟩⟩
  rotate_left
  .rw [jX (xL hx hzy hlt)]at hK;exact hK
  .rw [wag (xL hy hzx (by omega))]at hK;exact hK
  refine Wa (λn:Nat=>⟨mkV [(0,wsA x),(1,wsA y),(5,.one (.lit (.int .i64 ((n:Int)-1))))],mkH []⟩) (λn=>n<=x.length/\x.drop n=y.drop n) id x.length ?_ ?_ ?_
  .exact Qa (by simp [okS,okV,okC,okL,okH,okB,okE,Za,Ja,za,ja,wsA,ws]) trivial
  .simp [hl]
  .rintro n ⟨hn,hd⟩
   simp only [go_sem]
   refine ⟨λh=>⟨by omega,by omega,by omega,by omega,λhe=>⟨by omega,n-1,Qa (by simp [okS,okV,okC,okL,okH,okB,okE,Za,Ja,za,ja,wsA,ws];omega) trivial,⟨by omega,?_⟩,by simp only [id];omega⟩,λhne=>?_⟩,λh=>?_⟩
   .rw [show ((n:Int)-1).toNat=n-1 by omega]at he
    rw [List.getD_eq_getElem?_getD,List.getD_eq_getElem?_getD,List.getElem?_eq_getElem (by omega),List.getElem?_eq_getElem (by omega)]at he
    have e1:=List.getElem_cons_drop (as:=x) (i:=n-1) (by omega)
    have e2:=List.getElem_cons_drop (as:=y) (i:=n-1) (by omega)
    rw [show n-1+1=n by omega]at e1 e2
    rw [<-e1,<-e2,hd]
    simp only [Option.getD_some]at he
    rw [he]
   .rw [show ((n:Int)-1).toNat=n-1 by omega]at hne ⊢
    refine ⟨by omega,by omega,by omega,by omega,λhlt=>?_,λhge=>?_⟩
    .rw [jX (Ybh (i:=n-1) hx hl (by omega) (by rw [show n-1+1=n by omega];exact hd) hlt)]at hK;exact hK
    .rw [wag (Ybh (i:=n-1) hy hl.symm (by omega) (by rw [show n-1+1=n by omega];exact hd.symm) (by omega))]at hK;exact hK
   .have:n=0:=by omega
    subst this
    simp only [List.drop_zero]at hd
    rw [hd,uaK]at hK;exact hK
theorem Yai (hΓ:Holds P Γ) {f ft:Nat} (ht:Γ ft=.dat false yt) (hc:check P f=some (43,(uq ft).strip,[.tmp 4,.tmp 5])):Sound P f (.dat false kx):=by
 refine Va hc kaF hΓ (λargs K hcl hfi hG=>?_)
 match args,hG with
 | [a,b],hG=>
  obtain ⟨x,rfl,hx,hG⟩:=hG
  obtain ⟨k,m,rfl,rfl,hm,hmB,hxl,hK⟩:=kb hG
  obtain ⟨m,rfl⟩:∃n:Nat,m=n:=⟨m.toNat,by omega⟩
  simp only [Int.toNat_natCast]at hK
  refine ⟨by simp,?_⟩
  simp only [go_sem,uq,ht]
  intro h1
  refine ⟨hxl,λ_=>⟨by omega,?_⟩⟩
  refine Wa (λp:List Nat×Nat=>⟨mkV [(0,wsA x),(1,.one (.lit (.int .u32 m))),(6,.one (.own 11 1 1 0 x.length)),(7,.one (.lit (.int .u64 p.2))),(8,.one (.lit (.int .i64 ((x.length:Int)-p.1.length-1))))],mkH [(11,⟨1,some ⟨(List.replicate (x.length-p.1.length) 0++p.1).map wc,1,true⟩⟩)]⟩)
   (λp=>p.1.length<=x.length/\WL p.1/\p.2<m/\val p.1*m+p.2=val (x.drop (x.length-p.1.length))) (λp=>x.length-p.1.length) ([],0) ?_ ?_ ?_
  .exact Qa (by simp [okS,okV,okC,okL,okH,okB,okE,Za,Ja,za,ja,wsA,ws]) (yg (by simp))
  .simp [Vc,val];omega
  .rintro ⟨q,r⟩ ⟨hq,hqw,hr,hval⟩
   simp only at hq hqw hr hval
   have hlen:(List.replicate (x.length-q.length) 0++q).length=x.length:=by simp;omega
   simp only [go_sem,ht,hlen]
   refine ⟨λh=>?_,λh=>?_⟩
   .obtain ⟨n,hn⟩:∃n,n=x.length-q.length:=⟨_,rfl⟩
    have hn0:0<n:=by omega
    have hi:((x.length:Int)-q.length-1).toNat=n-1:=by omega
    have g1:=yb hx (n-1)
    have hd:=zN x hn0 (by omega)
    obtain ⟨s1,s2⟩:=Ja7 (by omega) hr g1
    have s3:=JaH (B:=4294967296) (a:=x.getD (n-1) 0) (by omega) (hn▸hval)
    have e1:r*4294967296 % 18446744073709551616=r*4294967296:=by omega
    have e2:x.getD (n-1) 0 % 18446744073709551616=x.getD (n-1) 0:=by omega
    have e3:m % 18446744073709551616=m:=by omega
    rw [hi,<-hn,e1,e2,e3,or32 _ _ g1]
    generalize hs:r*4294967296+x.getD (n-1) 0=s at s1 s2 s3
    rw [Nat.mod_eq_of_lt (show s / m<18446744073709551616 by omega),Nat.mod_eq_of_lt s1]
    have hm0:s % m<m:=Nat.mod_lt _ (by omega)
    refine ⟨⟨rfl,by omega⟩,by omega,by omega,⟨rfl,by omega,by omega⟩,by omega,⟨by omega,by omega⟩,by omega,by omega,by omega,(s / m::q,s % m),Qa (by simp [okS,okV,okC,okL,okH,okB,okE,Za,Ja,za,ja,wsA,ws];omega) (yg ?_),⟨by simp;omega,Jc.2 ⟨s1,hqw⟩,hm0,?_⟩,by simp;omega⟩
    .simp only [List.length_cons]
     rw [zu q _ hn0,show x.length-(q.length+1)=n-1 by omega]
    .rw [Uj,List.length_cons,show x.length-(q.length+1)=n-1 by omega,hd];exact s3
   .have e:x.length-q.length=0:=by omega
    simp only [e,List.replicate_zero,List.nil_append,List.drop_zero]at hval ⊢
    have h1:=Nat.div_mod_unique (show 0<m by omega) (a:=val x) (c:=r) (d:=val q)
    obtain ⟨h2,h3⟩:=h1.2 ⟨by rw [<-hval,Nat.mul_comm m,Nat.add_comm],hr⟩
    rw [h2,h3]at hK
    refine ⟨hqw,by omega,?_⟩
    rw [Nat.mod_eq_of_lt (by omega)];exact hK
end Go.Abs
end
section
namespace Go.Abs
open Go.Num
variable {P:Program} {Γ:Nat->Spec}
def xy:AC:=(.seq (.ops false [.m 4 (.c (.one .emp))])
 (.fg [0,1] (.seq (.ops false [.m 9 (.t 0),.u 10 (.len (.t 9)),.u 11 (.bin .add (.t 10) (.i 1)),.u 12 (.mk 1 [(.lit (.int .u32 0))] (.t 11) (.t 11)),.m 5 (.t 12)])
 (.fg [0,1,5] (.seq (.seq (.ops false [.m 13 (.t 0),.u 14 (.len (.t 13)),.m 15 (.i 0)])
 (.fg [1,5,13,14,15] (.block 0 (.loop (.seq (.ops false [.u 16 (.bin .lss (.t 15) (.t 14))])
 (.fg [1,5,13,14,15,16] (.seq (.cond (.t 16) .skip (.exit 0))
 (.fg [1,5,13,14,15] (.seq (.block 1 (.seq (.ops false [.m 17 (.t 15),.u 18 (.idx 1 (.t 13) (.t 15)),.u 19 (.ld none 1 false (.t 18)),.m 6 (.t 17),.m 7 (.t 19)])
 (.fg [1,5,6,7,13,14,15] (.seq (.ops false [.m 20 (.t 7),.u 21 (.conv .u64 (.t 20)),.m 22 (.t 1),.u 23 (.bin .shl (.t 21) (.t 22)),.m 8 (.t 23)])
 (.fg [1,5,6,8,13,14,15] (.seq (.ops false [.m 24 (.t 5),.m 25 (.t 6),.u 26 (.idx 1 (.t 24) (.t 25)),.u 27 (.ld none 1 false (.t 26)),.m 28 (.t 8),.u 29 (.conv .u32 (.t 28)),.u 30 (.bin .or (.t 27) (.t 29)),.u 31 (.idx 1 (.t 24) (.t 25)),.n (.st none 1 (.t 31) (.t 30))])
 (.fg [1,5,6,8,13,14,15] (.ops false [.m 32 (.t 5),.m 33 (.t 6),.u 34 (.bin .add (.t 33) (.i 1)),.m 35 (.t 8),.u 36 (.bin .shr (.t 35) (.c (.one (.lit (.int .u64 32))))),.u 37 (.conv .u32 (.t 36)),.u 38 (.idx 1 (.t 32) (.t 34)),.n (.st none 1 (.t 38) (.t 37))]))))))))
 (.fg [1,5,13,14,15] (.ops false [.u 39 (.bin .add (.t 15) (.i 1)),.m 15 (.t 39)])))))))))))
 (.fg [5] (.seq (.ops false [.m 40 (.t 5),.m 4 (.t 40)])
 .ret)))))))
def Us (f0 f1:Nat):AC:=(.seq (.ops false [.m 4 (.c (.one .emp))])
 (.fg [0,1] (.seq (.ops false [.m 7 (.t 0),.u 8 (.len (.t 7)),.u 9 (.mk 1 [(.lit (.int .u32 0))] (.t 8) (.t 8)),.m 5 (.t 9)])
 (.fg [0,1,5] (.seq (.seq (.ops false [.m 10 (.t 0),.u 11 (.len (.t 10)),.m 12 (.i 0)])
 (.fg [0,1,5,11,12] (.block 0 (.loop (.seq (.ops false [.u 13 (.bin .lss (.t 12) (.t 11))])
 (.fg [0,1,5,11,12,13] (.seq (.cond (.t 13) .skip (.exit 0))
 (.fg [0,1,5,11,12] (.seq (.block 1 (.seq (.ops false [.m 14 (.t 12),.m 6 (.t 14)])
 (.fg [0,1,5,6,11,12] (.ops true [.m 15 (.t 5),.m 16 (.t 6),.m 17 (.t 0),.m 18 (.t 6),.u 19 (.idx 1 (.t 17) (.t 18)),.u 20 (.ld none 1 false (.t 19)),.u 21 (.conv .u64 (.t 20)),.m 22 (.t 0),.m 23 (.t 6),.u 24 (.bin .add (.t 23) (.i 1)),.u 25 (.call f0 [(.t 22),(.t 24)]),.u 26 (.bin .shl (.t 25) (.c (.one (.lit (.int .u64 32))))),.u 27 (.bin .or (.t 21) (.t 26)),.m 28 (.t 1),.u 29 (.bin .shr (.t 27) (.t 28)),.u 30 (.conv .u32 (.t 29)),.u 31 (.idx 1 (.t 15) (.t 16)),.n (.st none 1 (.t 31) (.t 30))]))))
 (.fg [0,1,5,11,12] (.ops false [.u 32 (.bin .add (.t 12) (.i 1)),.m 12 (.t 32)])))))))))))
 (.fg [5] (.seq (.ops false [.m 33 (.t 5),.u 34 (.call f1 [(.t 33)]),.m 4 (.t 34)])
 .ret)))))))
def Xq (f0:Nat):AC:=(.seq (.ops false [.m 4 (.c (.one .emp))])
 (.fg [0,1] (.seq (.ops false [.m 11 (.t 0),.u 12 (.len (.t 11)),.m 13 (.t 1),.u 14 (.len (.t 13)),.u 15 (.bin .add (.t 12) (.t 14)),.u 16 (.mk 1 [(.lit (.int .u32 0))] (.t 15) (.t 15)),.m 5 (.t 16)])
 (.fg [0,1,5] (.seq (.seq (.ops false [.m 17 (.t 0),.u 18 (.len (.t 17)),.m 19 (.i 0)])
 (.fg [1,5,17,18,19] (.block 0 (.loop (.seq (.ops false [.u 20 (.bin .lss (.t 19) (.t 18))])
 (.fg [1,5,17,18,19,20] (.seq (.cond (.t 20) .skip (.exit 0))
 (.fg [1,5,17,18,19] (.seq (.block 1 (.seq (.ops false [.m 21 (.t 19),.u 22 (.idx 1 (.t 17) (.t 19)),.u 23 (.ld none 1 false (.t 22)),.m 6 (.t 21),.m 7 (.t 23)])
 (.fg [1,5,6,7,17,18,19] (.seq (.ops false [.m 8 (.c (.one (.lit (.int .u64 0))))])
 (.fg [1,5,6,7,8,17,18,19] (.seq (.seq (.ops false [.m 24 (.t 1),.u 25 (.len (.t 24)),.m 26 (.i 0)])
 (.fg [1,5,6,7,8,17,18,19,24,25,26] (.block 2 (.loop (.seq (.ops false [.u 27 (.bin .lss (.t 26) (.t 25))])
 (.fg [1,5,6,7,8,17,18,19,24,25,26,27] (.seq (.cond (.t 27) .skip (.exit 2))
 (.fg [1,5,6,7,8,17,18,19,24,25,26] (.seq (.block 3 (.seq (.ops false [.m 28 (.t 26),.u 29 (.idx 1 (.t 24) (.t 26)),.u 30 (.ld none 1 false (.t 29)),.m 9 (.t 28),.m 10 (.t 30)])
 (.fg [1,5,6,7,8,9,10,17,18,19,24,25,26] (.seq (.ops false [.m 31 (.t 8),.m 32 (.t 7),.u 33 (.conv .u64 (.t 32)),.m 34 (.t 10),.u 35 (.conv .u64 (.t 34)),.u 36 (.bin .mul (.t 33) (.t 35)),.m 37 (.t 5),.m 38 (.t 6),.m 39 (.t 9),.u 40 (.bin .add (.t 38) (.t 39)),.u 41 (.idx 1 (.t 37) (.t 40)),.u 42 (.ld none 1 false (.t 41)),.u 43 (.conv .u64 (.t 42)),.u 44 (.bin .add (.t 36) (.t 43)),.u 45 (.bin .add (.t 31) (.t 44)),.m 8 (.t 45)])
 (.fg [1,5,6,7,8,9,17,18,19,24,25,26] (.seq (.ops false [.m 46 (.t 5),.m 47 (.t 6),.m 48 (.t 9),.u 49 (.bin .add (.t 47) (.t 48)),.m 50 (.t 8),.u 51 (.conv .u32 (.t 50)),.u 52 (.idx 1 (.t 46) (.t 49)),.n (.st none 1 (.t 52) (.t 51))])
 (.fg [1,5,6,7,8,17,18,19,24,25,26] (.ops false [.m 53 (.t 8),.u 54 (.bin .shr (.t 53) (.c (.one (.lit (.int .u64 32))))),.m 8 (.t 54)]))))))))
 (.fg [1,5,6,7,8,17,18,19,24,25,26] (.ops false [.u 55 (.bin .add (.t 26) (.i 1)),.m 26 (.t 55)])))))))))))
 (.fg [1,5,6,8,17,18,19] (.ops false [.m 56 (.t 5),.m 57 (.t 6),.m 58 (.t 1),.u 59 (.len (.t 58)),.u 60 (.bin .add (.t 57) (.t 59)),.m 61 (.t 8),.u 62 (.conv .u32 (.t 61)),.u 63 (.idx 1 (.t 56) (.t 60)),.n (.st none 1 (.t 63) (.t 62))]))))))))
 (.fg [1,5,17,18,19] (.ops false [.u 64 (.bin .add (.t 19) (.i 1)),.m 19 (.t 64)])))))))))))
 (.fg [5] (.seq (.ops false [.m 65 (.t 5),.u 66 (.call f0 [(.t 65)]),.m 4 (.t 66)])
 .ret)))))))
theorem Qa7 (hΓ:Holds P Γ) {f:Nat} (hc:check P f=some (41,xy.strip,[.tmp 4])):Sound P f (.fresh 1 up_G):=by
 refine Qt hc Xbq hΓ (λargs K hcl hfi hG=>?_)
 match args,hG with
 | [a,b],hG=>
  obtain ⟨x,rfl,hx,hG⟩:=hG
  obtain ⟨k,m,rfl,rfl,hm,hmB,hxl,hK⟩:=kb hG
  obtain ⟨m,rfl⟩:∃n:Nat,m=n:=⟨m.toNat,by omega⟩
  simp only [Int.toNat_natCast]at hK
  refine ⟨by simp,?_⟩
  simp only [go_sem,xy]
  intro h1
  refine ⟨by omega,by omega,λ_=>?_⟩
  refine Wa (λp:List Nat×Nat=>⟨mkV [(1,.one (.lit (.int .i64 m))),(5,.one (.own 12 1 1 0 (x.length+1))),(13,wsA x),(14,.one (.lit (.int .i64 x.length))),(15,.one (.lit (.int .i64 p.1.length)))],mkH [(12,⟨1,some ⟨(p.1++p.2::List.replicate (x.length-p.1.length) 0).map wc,1,true⟩⟩)]⟩)
   (λp=>p.1.length<=x.length/\WL p.1/\p.2<2 ^ m/\val p.1+4294967296 ^ p.1.length*p.2=val (x.take p.1.length)*2 ^ m) (λp=>x.length-p.1.length) ([],0) ?_ ?_ ?_
  .exact Qa (by simp [okS,okV,okC,okL,okH,okB,okE,Za,Ja,za,ja,wsA,ws]) (yg (by simp [List.replicate_succ]))
  .simp [Vc,val];exact Nat.pow_pos (by omega)
  .rintro ⟨o,c⟩ ⟨hoN,ho,hc1,hval⟩
   simp only at hoN ho hc1 hval
   have hlen:(o++c::List.replicate (x.length-o.length) 0).length=x.length+1:=by simp;omega
   simp only [go_sem,hlen,List.length_set]
   refine ⟨λhlt=>?_,λhge=>?_⟩
   .have g1:=yb hx o.length
    obtain ⟨s1,s2,s3,s4⟩:=jbp (by omega) hc1 g1
    have e1:x.getD o.length 0 % 18446744073709551616=x.getD o.length 0:=by omega
    have hp:=ZU (show m<32 by omega)
    rw [vbD,e1,Nat.mod_eq_of_lt s1,s2,wbH]
    generalize hy:x.getD o.length 0*2 ^ m=y at s1 s2 s3 s4
    rw [Nat.mod_eq_of_lt (show y / 4294967296<4294967296 by omega)]
    refine ⟨hlt,⟨rfl,by omega⟩,by omega,by omega,⟨rfl,by omega,by omega⟩,by omega,by omega,by omega,by omega,by omega,by omega,by omega,(o++[y % 4294967296+c],y / 4294967296),Qa (by simp [okS,okV,okC,okL,okH,okB,okE,Za,Ja,za,ja,wsA,ws]) (yg ?_),⟨by simp;omega,ve.2 ⟨ho,Jc.2 ⟨s3,Vc⟩⟩,s4,?_⟩,by simp;omega⟩
    .rw [show x.length-o.length=(x.length-(o.length+1))+1 by omega,List.replicate_succ,Zbt];simp
    .simp only [List.length_append,List.length_cons,List.length_nil,Nat.zero_add,Ub,Zc,Uj,Jo,Nat.mul_zero,Nat.add_zero,Nat.pow_succ]
     rw [vbG (B:=4294967296) (x:=y) hval rfl,Nat.add_mul,<-hy,Nat.mul_assoc]
   .have e:o.length=x.length:=by omega
    have hcB:c<4294967296:=by have:=ZU (show m<32 by omega);omega
    rw [e,uj (Nat.le_refl _)]at hval
    simp only [e,Nat.sub_self,List.replicate_zero]
    have hw:WL (o++[c]):=ve.2 ⟨ho,Jc.2 ⟨hcB,Vc⟩⟩
    have hv:val (o++[c])=val x*2 ^ m:=by rw [Zc,e];simpa [val] using hval
    have:=JC hw
    rw [hv,List.length_append,List.length_singleton,e]at this
    rw [<-this];exact hK
theorem uaD (hΓ:Holds P Γ) {f fw ft:Nat} (hw:Γ fw=.dat true wm) (ht:Γ ft=.dat false yt) (hc:check P f=some (35,(Us fw ft).strip,[.tmp 4])):Sound P f (.dat false ZD):=by
 refine Va hc wa4 hΓ (λargs K hcl hfi hG=>?_)
 match args,hG with
 | [a,b],hG=>
  obtain ⟨x,rfl,hx,hG⟩:=hG
  obtain ⟨k,m,rfl,rfl,hm,hmB,hxl,hK⟩:=kb hG
  obtain ⟨m,rfl⟩:∃n:Nat,m=n:=⟨m.toNat,by omega⟩
  simp only [Int.toNat_natCast]at hK
  refine ⟨by simp,?_⟩
  simp only [go_sem,Us,hw,ht]
  intro h1
  refine ⟨by omega,λ_=>?_⟩
  refine Wa (λo:List Nat=>⟨mkV [(0,wsA x),(1,.one (.lit (.int .i64 m))),(5,.one (.own 9 1 1 0 x.length)),(11,.one (.lit (.int .i64 x.length))),(12,.one (.lit (.int .i64 o.length)))],mkH [(9,⟨1,some ⟨(o++List.replicate (x.length-o.length) 0).map wc,1,true⟩⟩)]⟩)
   (λo=>o.length<=x.length/\WL o/\val o=val x / 2 ^ m % 4294967296 ^ o.length) (λo=>x.length-o.length) [] ?_ ?_ ?_
  .exact Qa (by simp [okS,okV,okC,okL,okH,okB,okE,Za,Ja,za,ja,wsA,ws]) (yg (by simp))
  .simp [Vc,val,Nat.mod_one]
  .rintro o ⟨hoN,ho,hval⟩
   have hlen:(o++List.replicate (x.length-o.length) 0).length=x.length:=by simp;omega
   simp only [go_sem,hw,ht,hlen]
   refine ⟨λhlt=>⟨hlt,by omega,hx,⟨rfl,by omega⟩,⟨rfl,by omega,by omega⟩,by omega,hlt,hlt,by omega,?_⟩,λhge=>?_⟩
   .have g1:=yb hx o.length
    have g2:=yb hx (o.length+1)
    have e1:x.getD o.length 0 % 18446744073709551616=x.getD o.length 0:=by omega
    have e2:x.getD (o.length+1) 0*4294967296 % 18446744073709551616=x.getD (o.length+1) 0*4294967296:=by omega
    rw [e1,e2,or32' _ _ g1,show x.getD (o.length+1) 0*4294967296+x.getD o.length 0=x.getD o.length 0+4294967296*x.getD (o.length+1) 0 by omega,Z5 hx (by omega)]
    generalize hv:val x / 2 ^ m / 4294967296 ^ o.length % 4294967296=v
    have hvB:v<4294967296:=by rw [<-hv];exact Nat.mod_lt _ (by omega)
    refine ⟨o++[v],Qa (by simp [okS,okV,okC,okL,okH,okB,okE,Za,Ja,za,ja,wsA,ws]) (yg ?_),⟨by simp;omega,ve.2 ⟨ho,Jc.2 ⟨hvB,Vc⟩⟩,?_⟩,by simp;omega⟩
    .rw [show x.length-o.length=x.length-(o.length+1)+1 by omega,Zal];simp
    .rw [Zc,List.length_append,List.length_singleton,XG,hv,<-hval];simp [val]
   .have e:o.length=x.length:=by omega
    have hlt:val x / 2 ^ m<4294967296 ^ x.length:=Nat.lt_of_le_of_lt (Nat.div_le_self _ _) (Wm hx)
    rw [e,Nat.mod_eq_of_lt hlt]at hval
    simp only [e,Nat.sub_self,List.replicate_zero,List.append_nil]
    refine ⟨ho,by omega,?_⟩
    rw [hval];exact hK
theorem qak (hΓ:Holds P Γ) {f ft:Nat} (ht:Γ ft=.dat false yt) (hc:check P f=some (67,(Xq ft).strip,[.tmp 4])):Sound P f (.dat false Qq):=by
 refine Va hc QO hΓ (λargs K hcl hfi hG=>?_)
 match args,hG with
 | [a,b],hG=>
  obtain ⟨x,rfl,hx,y,rfl,hy,hxl,hyl,hK⟩:=hG
  refine ⟨by simp,?_⟩
  simp only [go_sem,Xq,ht]
  intro h1 h2
  refine ⟨by omega,by omega,λ_=>?_⟩
  generalize hN:x.length+y.length=N
  refine Wa (λp:Nat×List Nat=>⟨mkV [(1,wsA y),(5,.one (.own 16 1 1 0 N)),(17,wsA x),(18,.one (.lit (.int .i64 x.length))),(19,.one (.lit (.int .i64 p.1)))],mkH [(16,⟨1,some ⟨p.2.map wc,1,true⟩⟩)]⟩)
   (λp=>p.1<=x.length/\WL p.2/\p.2.length=N/\val p.2=val (x.take p.1)*val y/\∀j,p.1+y.length<=j->p.2.getD j 0=0) (λp=>x.length-p.1) (0,List.replicate N 0) ?_ ?_ ?_
  .exact Qa (by simp [okS,okV,okC,okL,okH,okB,okE,Za,Ja,za,ja,wsA,ws]) (yg (by simp))
  .simp [Qa2,val,UW];intro j _;rw [List.getElem?_replicate];split <;> rfl
  .rintro ⟨i,o⟩ ⟨hi,ho,hoN,hval,hz⟩
   simp only at hi ho hoN hval hz
   simp only [go_sem,ht,hoN]
   refine ⟨λhlt=>⟨hlt,λ_=>?_⟩,λhge=>?_⟩
   .have g1:=yb hx i
    refine Wa (λp:Nat×Nat×List Nat=>⟨mkV [(1,wsA y),(5,.one (.own 16 1 1 0 N)),(6,.one (.lit (.int .i64 i))),(7,.one (.lit (.int .u32 (x.getD i 0:Nat)))),(8,.one (.lit (.int .u64 p.2.1))),(17,wsA x),(18,.one (.lit (.int .i64 x.length))),(19,.one (.lit (.int .i64 i))),(24,wsA y),(25,.one (.lit (.int .i64 y.length))),(26,.one (.lit (.int .i64 p.1)))],mkH [(16,⟨1,some ⟨p.2.2.map wc,1,true⟩⟩)]⟩)
     (λp=>p.1<=y.length/\p.2.1<4294967296/\WL p.2.2/\p.2.2.length=N/\val p.2.2+4294967296 ^ i*4294967296 ^ p.1*p.2.1=val (x.take i)*val y+4294967296 ^ i*x.getD i 0*val (y.take p.1)/\∀j,i+y.length<=j->p.2.2.getD j 0=0) (λp=>y.length-p.1) (0,0,o) ?_ ?_ ?_
    .exact Qa (by simp [okS,okV,okC,okL,okH,okB,okE,Za,Ja,za,ja,wsA,ws]) (yg rfl)
    .exact ⟨Nat.zero_le _,by simp,ho,hoN,by simp [val,hval],hz⟩
    .rintro ⟨k,c,o⟩ ⟨hk,hc,ho,hoN,hval,hz⟩
     simp only at hk hc ho hoN hval hz
     simp only [go_sem,ht,hoN]
     refine ⟨λhlt2=>?_,λhge2=>?_⟩
     .have g2:=yb hy k
      have g3:=yb ho (i+k)
      have s1:=xU g1 g2 hc g3
      have e1:x.getD i 0 % 18446744073709551616=x.getD i 0:=by omega
      have e2:y.getD k 0 % 18446744073709551616=y.getD k 0:=by omega
      have e3:o.getD (i+k) 0 % 18446744073709551616=o.getD (i+k) 0:=by omega
      have hstep:=uQ hval (by omega) rfl
      rw [e1,e2,e3,Nat.mod_eq_of_lt (show x.getD i 0*y.getD k 0<18446744073709551616 by omega),Nat.mod_eq_of_lt (show x.getD i 0*y.getD k 0+o.getD (i+k) 0<18446744073709551616 by omega),Nat.mod_eq_of_lt s1]
      generalize hs:c+(x.getD i 0*y.getD k 0+o.getD (i+k) 0)=s at s1 hstep
      refine ⟨hlt2,by omega,by omega,by omega,by omega,by omega,by omega,by omega,by omega,(k+1,s / 4294967296,o.set (i+k) (s % 4294967296)),Qa (by simp [okS,okV,okC,okL,okH,okB,okE,Za,Ja,za,ja,wsA,ws]) (yg rfl),⟨by simp only;omega,by simp only;omega,W4 ho _ (Nat.mod_lt _ (by omega)),by simp [hoN],hstep,?_⟩,by simp only;omega⟩
      intro j hj
      simp only
      rw [Num.getD_set_ne (by omega)];exact hz j hj
     .have e:k=y.length:=by omega
      subst e
      have hend:=Z9 hval (by omega) (hz _ (Nat.le_refl _))
      rw [Nat.mod_eq_of_lt hc]
      refine λ_=>⟨by omega,by omega,by omega,by omega,(i+1,o.set (i+y.length) c),Qa (by simp [okS,okV,okC,okL,okH,okB,okE,Za,Ja,za,ja,wsA,ws]) (yg rfl),⟨by simp only;omega,W4 ho _ hc,by simp [hoN],hend,?_⟩,by simp only;omega⟩
      intro j hj
      simp only at hj ⊢
      rw [Num.getD_set_ne (by omega)];exact hz j (by omega)
   .have e:i=x.length:=by omega
    subst e
    rw [uj (Nat.le_refl _)]at hval
    refine ⟨ho,by omega,?_⟩
    rw [hval];exact hK
end Go.Abs
end
